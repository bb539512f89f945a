import PyProof.Rows.All
import Wide.All
import OpenK.AllK
import Wide.FinOn
import KE.KOpsOwn
import HandS.Base
import HandS.Call
import HandS.List
import HandS.OwnEq
import KE.BytesMul
import HandS.DictComp
import HandS.MakeKwOnly
import HandS.ForMost
import HandS.Wide
import HandS.Flow
import HandS.Style
import HandS.IsInst
import HandS.Walk
import HandS.Zip
import HandS.TupAny
import HandS.TupLe
import HandS.SortInts
import HandS.Deep
import HandS.Defaults
import HandS.Property
import HandS.Exc
import HandS.TryOnly
import HandS.ExcOwn
import HandS.WordsExc
import HandS.FStr
import HandS.More
import HandS.Strs
import HandS.Codes
import HandS.ExcIs
import HandS.ExcInit
import HandS.Nested
import HandS.ExcField
import KE.KExcSuper
import KE.KExcIs
import HandS.ExcValue
import HandS.MakeKw
import HandS.Set
import HandS.SetFor
import HandS.TupSets
import PySem.Challenge.RW_onceopened_k50_openings_one_by_one
set_option exponentiation.threshold 1000
set_option Elab.async false
set_option linter.all false
set_option maxRecDepth 100000
set_option maxHeartbeats 4000000
namespace OO
open PySem PySem.Spec PyProof.Rows L2

/-- a method called in the model's own words -/
theorem run_fn {X : Cx} {CX : CXT} {n : Nat} {f : Addr} {fd : FuncData} {ps : List Str} {sp : Sp} {E : XK} (F : FnOk X.prog X.w X.K X.mg X.base CX n f fd ps sp)
    (hb : Binds X.K fd ps []) (hx : Passes CX X E) {A : Around} (sb : Sub X n A) {pins : List (Addr × Obj)} {s : Shared} {σ : L2.St} {H : Hp} {vs : List V} {us : List Value} {Q : VK}
    (I : Inv X pins σ H s) (r : Vals vs us) (hsp : sp vs H Q E) :
    wpAny (model X.prog X.w) A (call (.ref f) us) (EP X pins σ Q) X.xe s := by
  have e0 : Env0 X.prog X.w X.K X.mg X.base A X.stack s H := by
    have e := I.env0
    exact ⟨by rw [sb.fr]; exact e.frames, e.mod, e.bs, e.bsz, e.funs, e.frf, e.hok, e.bare⟩
  have hl := F.len _ _ _ _ hsp
  refine wpAny_call (codeAny_mono (F.run A X.stack s H ⟨us, []⟩ us vs _ E sb.room e0 (by
    have := hb s us I.kIn (by simpa [r.length] using hl)
    simpa using this) r hsp) fun r s' hq => ?_)
  cases r with
  | error e => exact hx pins σ H s e s' I hq
  | ok fl =>
    cases fl with
    | ret w =>
      obtain ⟨z, H', I', rz, q⟩ := I.after hq
      exact ⟨z, H', I', rz, q⟩
    | next => exact False.elim hq
    | brk => exact False.elim hq
    | cont => exact False.elim hq

/-- what the written part says of a class's own method under a name -/
structure Own (K : PySem.W.Frag) (C : Addr) (m : Str) (f : Addr) : Prop where
  at_ : PySem.W.findIn K (.ref C) m = some (some (.ref f))
  fn : PySem.W.isFn K (.ref f) = true

section
variable {X : Cx} {CX : CXT} {n : Nat} {C f : Addr} {fd : FuncData} {ps : List Str} {sp : Sp} {E : XK}

theorem back {pins : List (Addr × Obj)} {σ : L2.St} {Q : VK} {v : Value} {s : Shared} (h : EP X pins σ Q v s) : PySem.W.CmpBack (EP X pins σ Q) v s := by
  obtain ⟨z, H', I', rz, q⟩ := h
  cases v <;> first
    | exact ⟨z, H', I', rz, q⟩
    | (exfalso; cases z <;> simp [L2.RelV] at rz)

/-- a op b, both of the class C -/
def rBin (C : Addr) (sp : Sp) (E : XK) : R2 := fun x y H Q => ∃ a b dx dy fs gs, x = .ref a ∧ y = .ref b ∧ H a = some (.ins C dx fs) ∧ H b = some (.ins C dy gs) ∧ sp [.ref a, .ref b] H Q E
theorem op_own {op : Operator} (F : FnOk X.prog X.w X.K X.mg X.base CX n f fd ps sp) (hr : Room n X.A) (hb : Binds X.K fd ps []) (hx : Passes CX X E)
    (hc : PySem.W.selfFirst X.K C = true) (o : Own X.K C (PySem.dunder op.info.2) f) : OpR X (binaryOp op) (rBin C sp E) := by
  intro pins s σ H x y v u Q I rx ry hq
  obtain ⟨a, b, dx, dy, fs, gs, rfl, rfl, ha, hb', hsp⟩ := hq
  cases rx
  cases ry
  obtain ⟨mA, J, _⟩ := ins_get I.hok ha
  obtain ⟨mB, J', _⟩ := ins_get I.hok hb'
  obtain ⟨od, J, _⟩ := J.look
  obtain ⟨od', J', _⟩ := J'.look
  obtain ⟨m, hF⟩ := I.fr
  refine PySem.W.binop_K hF I.ok.mod.kin J J'.type hc o.at_ o.fn ?_
  exact wpAny_mono (run_fn (vs := [.ref a, .ref b]) F hb hx ⟨hr, rfl⟩ I (.cons rfl (.cons rfl .nil)) hsp) (fun _ _ h => back h) fun _ _ e => e

/-- a op n, n an int: its type's own methods are not asked -/
structure OwnT (K : PySem.W.Frag) (C : Addr) (nm : String) (T : String) (f : Addr) : Prop where
  own : Own K C (PySem.dunder nm) f
  hr : ∃ rc, PySem.W.findIn K (.ref C) (dunderR nm) = some rc ∧ (rc = none ∨ ∃ g : Addr, rc = some (.ref g))
  h1 : ∃ fo, PySem.W.findIn K (.type T) (PySem.dunder nm) = some fo
  h2 : ∃ ro, PySem.W.findIn K (.type T) (dunderR nm) = some ro
  sub : PySem.W.subIn K (.type T) (.ref C) = some false
def rBinI (C : Addr) (sp : Sp) (E : XK) : R2 := fun x y H Q => ∃ a i dx fs, x = .ref a ∧ y = .int i ∧ H a = some (.ins C dx fs) ∧ sp [.ref a, .int i] H Q E
theorem op_ownI {op : Operator} (F : FnOk X.prog X.w X.K X.mg X.base CX n f fd ps sp) (hr : Room n X.A) (hb : Binds X.K fd ps []) (hx : Passes CX X E)
    (hc : PySem.W.selfFirst X.K C = true) (o : OwnT X.K C op.info.2 "int" f) : OpR X (binaryOp op) (rBinI C sp E) := by
  intro pins s σ H x y v u Q I rx ry hq
  obtain ⟨a, i, dx, fs, rfl, rfl, ha, hsp⟩ := hq
  cases rx
  obtain ⟨t, rfl⟩ := ry
  obtain ⟨mA, J, _⟩ := ins_get I.hok ha
  obtain ⟨od, J, _⟩ := J.look
  obtain ⟨m, hF⟩ := I.fr
  obtain ⟨rc, hr1, hp⟩ := o.hr
  obtain ⟨fo, h1⟩ := o.h1
  obtain ⟨ro, h2⟩ := o.h2
  refine PySem.W.ksp_binT hF I.ok.mod.kin J rfl hc o.own.at_ o.own.fn hr1 hp h1 h2 o.sub ?_
  exact wpAny_mono (run_fn (vs := [.ref a, .int i]) F hb hx ⟨hr, rfl⟩ I (.cons rfl (.cons ⟨t, rfl⟩ .nil)) hsp) (fun _ _ h => back h) fun _ _ e => e

/-- x op= y, x of the class C with its own in-place method -/
def rIn1 (C : Addr) (sp : Sp) (E : XK) : TIp := fun x y H Q => ∃ a dx fs, x = .ref a ∧ H a = some (.ins C dx fs) ∧ sp [.ref a, y] H Q E
theorem ip_own {op : Operator} (F : FnOk X.prog X.w X.K X.mg X.base CX n f fd ps sp) (hr : Room n X.A) (hb : Binds X.K fd ps []) (hx : Passes CX X E)
    (hc : PySem.W.selfFirst X.K C = true) (o : Own X.K C (dunderI op.info.2) f) : PIp X op (rIn1 C sp E) := by
  intro pins s σ H x y v u Q I rx ry hq
  obtain ⟨a, dx, fs, rfl, ha, hsp⟩ := hq
  cases rx
  obtain ⟨mA, J, _⟩ := ins_get I.hok ha
  obtain ⟨od, J, _⟩ := J.look
  obtain ⟨m, hF⟩ := I.fr
  refine PySem.W.ksp_inplace hF I.ok.mod.kin J hc o.at_ o.fn ?_
  exact wpAny_mono (run_fn (vs := [.ref a, y]) F hb hx ⟨hr, rfl⟩ I (.cons rfl (.cons ry .nil)) hsp) (fun _ _ h => back h) fun _ _ e => e

/-- x == y, x < y ..: both of the class C -/
theorem op_cmp {op : CmpOp} (hop : compareOp op = richCompare op) (F : FnOk X.prog X.w X.K X.mg X.base CX n f fd ps sp) (hr : Room n X.A) (hb : Binds X.K fd ps []) (hx : Passes CX X E)
    (o : Own X.K C (cmpInfo op).2.1 f) : OpR X (compareOp op) (rBin C sp E) := by
  intro pins s σ H x y v u Q I rx ry hq
  obtain ⟨a, b, dx, dy, fs, gs, rfl, rfl, ha, hb', hsp⟩ := hq
  cases rx
  cases ry
  obtain ⟨mA, J, _⟩ := ins_get I.hok ha
  obtain ⟨mB, J', _⟩ := ins_get I.hok hb'
  obtain ⟨od, J, _⟩ := J.look
  obtain ⟨od', J', _⟩ := J'.look
  obtain ⟨m, hF⟩ := I.fr
  rw [hop]
  refine PySem.W.cmp_K (tb := .ref C) hr.units0 hF I.ok.mod.kin J J'.type (by simp [PySem.W.notFirst]) o.at_ o.fn ?_
  exact wpAny_mono (run_fn (vs := [.ref a, .ref b]) F hb hx ⟨hr, rfl⟩ I (.cons rfl (.cons rfl .nil)) hsp) (fun _ _ h => back h) fun _ _ e => e

/-- y in x, x of the class C: its answer a bool -/
def rInO (C : Addr) (neg : Bool) (sp : Sp) (E : XK) : R2 := fun y x H Q => ∃ a dx fs, x = .ref a ∧ H a = some (.ins C dx fs) ∧ sp [.ref a, y] H (fun v H' => ∃ b, v = .bl b ∧ Q (.bl (if neg then !b else b)) H') E
theorem op_inO (F : FnOk X.prog X.w X.K X.mg X.base CX n f fd ps sp) (hr : Room n X.A) (hb : Binds X.K fd ps []) (hx : Passes CX X E)
    (o : Own X.K C "__contains__" f) : OpR X (compareOp .In) (rInO C false sp E) := by
  intro pins s σ H y x u v Q I ry rx hq
  obtain ⟨a, dx, fs, rfl, ha, hsp⟩ := hq
  cases rx
  obtain ⟨mA, J, _⟩ := ins_get I.hok ha
  obtain ⟨od, J, _⟩ := J.look
  obtain ⟨m, hF⟩ := I.fr
  refine PySem.W.in_K hF I.ok.mod.kin J o.at_ o.fn ?_
  refine wpAny_mono (run_fn (vs := [.ref a, y]) F hb hx ⟨hr, rfl⟩ I (.cons rfl (.cons ry .nil)) hsp) (fun r s' h => ?_) fun _ _ e => e
  obtain ⟨z, H', I', rz, b, rfl, q⟩ := h
  cases rz
  exact wpAny_truthy_bool ⟨.bl b, H', I', rfl, q⟩
theorem op_notInO (F : FnOk X.prog X.w X.K X.mg X.base CX n f fd ps sp) (hr : Room n X.A) (hb : Binds X.K fd ps []) (hx : Passes CX X E)
    (o : Own X.K C "__contains__" f) : OpR X (compareOp .NotIn) (rInO C true sp E) := by
  intro pins s σ H y x u v Q I ry rx hq
  obtain ⟨a, dx, fs, rfl, ha, hsp⟩ := hq
  cases rx
  obtain ⟨mA, J, _⟩ := ins_get I.hok ha
  obtain ⟨od, J, _⟩ := J.look
  obtain ⟨m, hF⟩ := I.fr
  refine PySem.W.notIn_K hF I.ok.mod.kin J o.at_ o.fn ?_
  refine wpAny_mono (run_fn (vs := [.ref a, y]) F hb hx ⟨hr, rfl⟩ I (.cons rfl (.cons ry .nil)) hsp) (fun r s' h => ?_) fun _ _ e => e
  obtain ⟨z, H', I', rz, b, rfl, q⟩ := h
  cases rz
  exact wpAny_truthy_bool ⟨.bl (!b), H', I', rfl, q⟩

/-- x[y], x of the class C -/
def rIxO (C : Addr) (sp : Sp) (E : XK) : R2 := fun x y H Q => ∃ a dx fs, x = .ref a ∧ H a = some (.ins C dx fs) ∧ sp [.ref a, y] H Q E
theorem pe_ixO {a b : Expr} {ta tb : TE} {pos : Pos} (F : FnOk X.prog X.w X.K X.mg X.base CX n f fd ps sp) (hr : Room (n + 1) X.A) (hb : Binds X.K fd ps []) (hx : Passes CX X E)
    (o : Own X.K C "__getitem__" f) (hf : PySem.W.fnIn X.K f = true) (ha : PE X a ta) (hb' : PE X b tb)
    (hsl : ∀ v u, subscripted b true v u = runValue (.builtin "lifetime.subscript" ⟨[v, u], []⟩) := by intro _ _; with_unfolding_all rfl) :
    PE X (.Subscript a b pos) (tOp (rIxO C sp E) ta tb) := by
  refine ⟨fun pins s σ H Q I h => ?_⟩
  refine Subscript_ (binT ha hb' I h fun v u s2 x y H2 I2 rx ry q => ?_)
  obtain ⟨p, dx, fs, rfl, hp, hsp⟩ := q
  cases rx
  obtain ⟨mA, J, _⟩ := ins_get I2.hok hp
  obtain ⟨od, J, _⟩ := J.look
  obtain ⟨m, hF⟩ := I2.fr
  refine PySem.W.sub_K hF I2.ok.mod.kin J o.at_ hf o.fn ?_ (hsl _ _)
  exact run_fn (vs := [.ref p, y]) F hb hx ⟨hr.in1, rfl⟩ I2 (.cons rfl (.cons ry .nil)) hsp

/-- x[y] = z, x of the class C -/
def rSetO (C : Addr) (sp : Sp) (E : XK) : TSet := fun x y z H Q => ∃ a dx fs, x = .ref a ∧ H a = some (.ins C dx fs) ∧ sp [.ref a, y, z] H (fun _ H' => Q H') E
theorem set_own (F : FnOk X.prog X.w X.K X.mg X.base CX n f fd ps sp) (hr : Room n X.A) (hb : Binds X.K fd ps []) (hx : Passes CX X E)
    (o : Own X.K C "__setitem__" f) (hq : PySem.W.noSeq X.K C = true) : PSet X (rSetO C sp E) := by
  intro pins s σ H x y z v u w Q I rx ry rz h
  obtain ⟨a, dx, fs, rfl, ha, hsp⟩ := h
  cases rx
  obtain ⟨mA, J, _⟩ := ins_get I.hok ha
  obtain ⟨od, J, _⟩ := J.look
  obtain ⟨m, hF⟩ := I.fr
  refine PySem.W.ksp_setItem hF I.ok.mod.kin J hq o.at_ o.fn ?_
  refine wpAny_mono (run_fn (vs := [.ref a, y, z]) F hb hx ⟨hr, rfl⟩ I (.cons rfl (.cons ry (.cons rz .nil))) hsp) (fun r s' h => ?_) fun _ _ e => e
  obtain ⟨_, H', I', _, q⟩ := h
  exact ⟨H', I', q⟩

/-- len(x), x of the class C -/
def rLenO (C : Addr) (sp : Sp) (E : XK) : List V → Hp → VK → Prop := fun xs H Q => ∃ a dx fs, xs = [.ref a] ∧ H a = some (.ins C dx fs) ∧ sp [.ref a] H (fun v H' => ∃ k : Int, v = .int k ∧ 0 ≤ k ∧ k < 2 ^ 63 ∧ Q (.int k) H') E
theorem call_lenO (F : FnOk X.prog X.w X.K X.mg X.base CX n f fd ps sp) (hr : Room (n + 1) X.A) (hb : Binds X.K fd ps []) (hx : Passes CX X E)
    (o : Own X.K C "__len__" f) : CallR X (.builtin "len") (rLenO C sp E) := by
  intro pins s σ H xs us Q I r h
  obtain ⟨a, dx, fs, rfl, ha, hsp⟩ := h
  obtain ⟨u, rfl, rx⟩ := vals1 r
  cases rx
  obtain ⟨mA, J, _⟩ := ins_get I.hok ha
  obtain ⟨od, J, _⟩ := J.look
  obtain ⟨m, hF⟩ := I.fr
  refine PySem.W.len_K hF I.ok.mod.kin J o.at_ o.fn ?_
  refine wpAny_mono (run_fn (vs := [.ref a]) F hb hx ⟨hr.in1, rfl⟩ I (.cons rfl .nil) hsp) (fun r s' h => ?_) fun _ _ e => e
  obtain ⟨z, H', I', rz, k, rfl, h0, h1, q⟩ := h
  obtain ⟨t, rfl⟩ := rz
  exact ⟨⟨h0, h1⟩, .int k, H', I'.tok _, ⟨_, rfl⟩, q⟩

/-- abs(x), x of the class C -/
def rAbsO (C : Addr) (sp : Sp) (E : XK) : List V → Hp → VK → Prop := fun xs H Q => ∃ a dx fs, xs = [.ref a] ∧ H a = some (.ins C dx fs) ∧ sp [.ref a] H Q E
theorem call_absO (F : FnOk X.prog X.w X.K X.mg X.base CX n f fd ps sp) (hr : Room (n + 1) X.A) (hb : Binds X.K fd ps []) (hx : Passes CX X E)
    (o : Own X.K C "__abs__" f) : CallR X (.builtin "abs") (rAbsO C sp E) := by
  intro pins s σ H xs us Q I r h
  obtain ⟨a, dx, fs, rfl, ha, hsp⟩ := h
  obtain ⟨u, rfl, rx⟩ := vals1 r
  cases rx
  obtain ⟨mA, J, _⟩ := ins_get I.hok ha
  obtain ⟨od, J, _⟩ := J.look
  obtain ⟨m, hF⟩ := I.fr
  refine Calls.call_function_entry PyProof.Rows.kind_abs PyProof.Rows.plain_abs PyProof.Rows.entry_abs (PyProof.Rows.args_abs _) ?_
  unfold Builtin.«abs»
  refine wpAny_bind (m := oneArg "abs" _) (wpAny_pure ?_)
  refine wpAny_bind (m := callSpecial? (.ref a) (Str.ofString "__abs__")) (PySem.W.special_fn (I.ok.mod.kin.keeps hF.keep) J o.at_ (beq_iff_eq.mp o.fn) (wpAny_mono (run_fn (vs := [.ref a]) F hb hx ⟨hr.in1, rfl⟩ I (.cons rfl .nil) hsp) (fun r s' h => ?_) fun _ _ y => y))
  exact wpAny_pure ⟨_, rfl, h⟩
end
end OO

namespace OO
open PySem PySem.Spec PyProof.Rows L2
open AutoSeq1 (wpAny_loadPart')
theorem tuple_eq_declines (l b : Addr) (items : Array Value) (n : Nat) (dd : Option Addr) (sl : Array (Option Value)) (C dx : Addr) (P : Program) (w : World) (K : PySem.W.Frag) (hs : PySem.W.subIn K (.ref C) (.type "tuple") = some false) :
    MeetsIn P w (Builtin.«tuple.__eq__» ⟨[.ref l, .ref b], []⟩) (fun _ R s => K.In s.heap ∧ s.heap.get? l = some { cls := .type "tuple", dict := dd, data := .seq items n, slots := sl } ∧ s.heap.get? b = some (PySem.W.instObj C dx) ∧ R (.ok (.ret .notImplemented)) s) := by
  intro A R s h
  obtain ⟨KX, hl, hb, h⟩ := h
  have f1 : PySem.W.Looks (model P w) s.heap (isSubtype (.ref C) (.type "tuple")) false := PySem.W.looks_subIn KX hs
  obtain ⟨hp, g, d, tk, os⟩ := s
  wp_walk using wpAny_loadPart' hl, wpAny_loadPart' hb
  refine f1.here ?_
  simp only [Bool.not_false, if_true]
  exact wpAny_pure h
/-- a def that answers NotImplemented where its first test holds -/
theorem ni_of {P : Program} {w : World} {K : PySem.W.Frag} {mg : Str → Option Value} {base : Heap} {k : Nat} {f : Addr} {name qual : Str} {params : Arguments} {scope : Scope} {dV kV doc pm cdv ct oc : Value} {an od : Option Addr} {osl : Array (Option Value)}
    {N ps : List Str} {c : Expr} {p1 p2 p3 : Pos} {rest : List Stmt} {tc : TT}
    (lk : K.lookup f = some ⟨oc, od, .func (PySem.W.fnOf name qual params (.If c [.Return (some (.Name "NotImplemented" p1)) p2] [] p3 :: rest) scope dV kV doc pm an cdv ct), osl⟩) (hcd : PySem.W.codeIn K cdv qual = true) (S : FnScope N ps scope)
    {A : Around} {outer : List Env} {s : Shared} {H : Hp} {args : Args} {us : List Value} {vs : List V} (hl : vs.length = ps.length) (hr : Room (k + 1) A) (e0 : Env0 P w K mg base A outer s H)
    (hb : BindsTo s (PySem.W.fnOf name qual params (.If c [.Return (some (.Name "NotImplemented" p1)) p2] [] p3 :: rest) scope dV kV doc pm an cdv ct) args (ps.zip us)) (r : Vals vs us)
    (hg : (envOfC qual scope s.heap.objs.size f cdv).kindOf "NotImplemented" = some .globalImplicit) (hm : mg "NotImplemented" = none) (hv : bootBuiltins "NotImplemented" = some .notImplemented)
    (hc : Room k (A.deeper (envOfC qual scope s.heap.objs.size f cdv)) → PT (cxOf CX0 P w K mg base N qual scope f cdv A outer s H fun _ _ _ => False).nox c tc) (ht : tc (L2.start N vs) H fun b H' => b = true ∧ H' = H)
    {R : Result → Shared → Prop} (hR : ∀ s', s'.os = s.os → AllBare s'.gens → Un (frs outer) [] H H s.heap s'.heap → HOk P w H s'.heap → R (.ok (.ret .notImplemented)) s') :
    codeAny (model P w) A (.call (.ref f) args) R s := by
  have KX : K.In s.heap := e0.mod.kin.keeps fun b o e => (e0.bs b o e).1
  have nolim : s.heap.NoLimit := e0.mod.nolimit.keeps fun b o e => (e0.bs b o e).1
  have hkd : ∀ y ∈ ps.zip us, scope.names.lookup y.1 = some .local ∨ (scope.names.lookup y.1 = some .cell ∧ ((cellsFrom (s.heap.objs.size + 1) scope.names []).lookup y.1).isSome = true) := by
    rintro ⟨n, v⟩ hy
    rcases S.par n (List.of_mem_zip hy).1 with q | q
    · exact .inl q
    · exact .inr ⟨q, PySem.W.cellsFrom_some _ _ _ (.inl q)⟩
  refine codeAny_call_function hr.depth (KX _ _ lk) rfl S.co S.gen rfl (PySem.W.codeRec_of KX hcd) (hb _ _ _ _ (wpAny_newFunctionEnv_cells S.kind hkd fun env he s1 x => ?_))
  subst he
  refine ⟨nolim.keeps x.toInCall.keep, codeAny_func ?_⟩
  have I : Inv (cxOf CX0 P w K mg base N qual scope f cdv A outer s H fun _ _ _ => False).nox [] (L2.start N vs) H s1 := (inv_start (CX := CX0) (E := fun _ _ _ => False) S hr.hd e0 hl r x).wish _
  have ht2 := (hc (hr.deeper _)).run [] s1 (L2.start N vs) H _ I ht
  refine wpAny_execs_cons (wpAny_If (wpAny_mono ht2 (fun d s2 z => ?_) fun _ _ z => z.elim))
  obtain ⟨H1, I1, rfl, rfl⟩ := z
  refine wpAny_execs_cons (wpAny_Return_some (ld_blt I1 hg hm hv ?_))
  have J := I1.unwish
  exact hR _ J.os J.bare J.base J.hok
section
variable {X : Cx} {n : Nat} {C f : Addr}
/-- x == t, x of the class C, whose own __eq__ answers NotImplemented by its first test; t a tuple -/
def rEqT (C : Addr) (N : List Str) (tc : TT) : R2 := fun x y H Q => ∃ a t dx fs ys, x = .ref a ∧ y = .ref t ∧ H a = some (.ins C dx fs) ∧ H t = some (.tup ys) ∧ tc (L2.start N [.ref a, .ref t]) H (fun b H' => b = true ∧ H' = H) ∧ Q (.bl false) H
theorem op_eqT {N ps : List Str} {c : Expr} {p1 p2 p3 : Pos} {rest : List Stmt} {tc : TT} {name qual : Str} {params : Arguments} {scope : Scope} {dV kV doc pm cdv ct oc : Value} {an od : Option Addr} {osl : Array (Option Value)}
    (lk : X.K.lookup f = some ⟨oc, od, .func (PySem.W.fnOf name qual params (.If c [.Return (some (.Name "NotImplemented" p1)) p2] [] p3 :: rest) scope dV kV doc pm an cdv ct), osl⟩) (hcd : PySem.W.codeIn X.K cdv qual = true) (S : FnScope N ps scope) (hps : ps.length = 2)
    (hr : Room (n + 1) X.A) (hb : Binds X.K (PySem.W.fnOf name qual params (.If c [.Return (some (.Name "NotImplemented" p1)) p2] [] p3 :: rest) scope dV kV doc pm an cdv ct) ps []) (o : Own X.K C "__eq__" f)
    (hg : scope.names.lookup ("NotImplemented" : Str) = some .globalImplicit) (hm : X.mg "NotImplemented" = none) (hv : bootBuiltins "NotImplemented" = some .notImplemented)
    (hc : ∀ (A : Around) (outer : List Env) (s : Shared) (H : Hp), Room n (A.deeper (envOfC qual scope s.heap.objs.size f cdv)) → PT (cxOf CX0 X.prog X.w X.K X.mg X.base N qual scope f cdv A outer s H fun _ _ _ => False).nox c tc)
    (h1 : PySem.W.subIn X.K (.type "tuple") (.ref C) = some false) (h2 : PySem.W.subIn X.K (.ref C) (.type "tuple") = some false) : OpR X (compareOp .Eq) (rEqT C N tc) := by
  intro pins s σ H x y v u Q I rx ry hq
  obtain ⟨a, t, dx, fs, ys, rfl, rfl, ha, ht, htc, q⟩ := hq
  cases rx
  cases ry
  have own : wpAny (model X.prog X.w) X.A (call (.ref f) [.ref a, .ref t]) (fun r s' => r = .notImplemented ∧ Inv X pins σ H s') X.xe s := by
    have e0 : Env0 X.prog X.w X.K X.mg X.base X.A X.stack s H := I.env0
    refine wpAny_call (ni_of lk hcd S (vs := [.ref a, .ref t]) (us := [.ref a, .ref t]) (k := n) (by rw [hps]; rfl) hr e0 (by
      have := hb s [.ref a, .ref t] I.kIn (by rw [hps]; rfl)
      simpa using this) (.cons rfl (.cons rfl .nil)) hg hm hv (hc X.A X.stack s H) htc fun s' os ba un hk => ?_)
    obtain ⟨hh, g, d, tk, os'⟩ := s'
    obtain rfl : os' = s.os := os
    exact ⟨rfl, I.call (h' := hh) (g' := g) (d' := d) (t' := tk) (ch := []) un hk ba (fun b z => absurd z (by simp))⟩
  obtain ⟨mA, J, _⟩ := ins_get I.hok ha
  obtain ⟨od', J, _⟩ := J.look
  have KX := I.kIn
  obtain ⟨its, _, tt⟩ : ∃ its, _ ∧ s.heap.IsTuple t (its : List Value).toArray := by
    obtain ⟨its, r, at_, _⟩ := I.tuple (SqT.of ht)
    exact ⟨its, r, at_⟩
  have ty : s.TypeIs (.ref t) "tuple" := tt.typeIs
  show wpAny (model X.prog X.w) X.A (richCompare .Eq (.ref a) (.ref t)) (EP X pins σ Q) X.xe s
  unfold richCompare
  simp only [oneThing_ref]
  refine wpAny_holding (wpAny_bind (wpAny_cRoomFor hr.units0 ?_))
  refine wpAny_bind (J.type.here (wpAny_bind (wpAny_typeOf ty ?_)))
  have hne : (Value.ref C != Value.type "tuple") = true := by simp
  simp only [hne, if_true]
  refine wpAny_bind ((PySem.W.looks_subIn KX h1).here ?_)
  simp only [Bool.false_eq_true, if_false, Bool.not_false, if_true]
  have one : wpAny (model X.prog X.w) X.A (tryCompare (.ref a) (cmpInfo .Eq).2.1 (.ref t)) (fun r s' => r = none ∧ Inv X pins σ H s') X.xe s := by
    unfold tryCompare
    refine wpAny_bind (PySem.W.ifBound_K KX J o.at_ o.fn (wpAny_mono own (fun r s1 z => ?_) fun _ _ e => e))
    obtain ⟨rfl, I1⟩ := z
    exact wpAny_pure ⟨rfl, I1⟩
  have two : ∀ s1, Inv X pins σ H s1 → wpAny (model X.prog X.w) X.A (tryCompare (.ref t) (cmpInfo .Eq).2.2 (.ref a)) (fun r s' => r = none ∧ Inv X pins σ H s') X.xe s1 := by
    intro s1 I1
    obtain ⟨mB, J1, _⟩ := ins_get I1.hok ha
    obtain ⟨its1, _, at1, _⟩ := I1.tuple (SqT.of ht)
    have ty1 : s1.TypeIs (.ref t) "tuple" := (show s1.heap.IsTuple t its1.toArray from at1).typeIs
    obtain ⟨ob, hob, hcl, nn, hdt⟩ := at1
    refine wpAny_tryCompare_declines ty1 PySem.F.slot_tuple_eq_refl ?_
    obtain ⟨cl, dd, dat, sl⟩ := ob
    cases hcl
    cases hdt
    exact call_meetsIn PySem.F.slot_tuple_eq_refl ty1 PySem.F.entry_tuple_eq (PySem.F.args_tuple_eq_2 _ _) (tuple_eq_declines t a _ _ dd sl C dx X.prog X.w X.K h2) ⟨I1.kIn, hob, J1.obj, rfl, rfl, I1⟩
  refine wpAny_bind (wpAny_mono one (fun r s1 z => ?_) fun _ _ e => e)
  obtain ⟨rfl, I1⟩ := z
  refine wpAny_bind (wpAny_mono (two s1 I1) (fun r s2 z => ?_) fun _ _ e => e)
  obtain ⟨rfl, I2⟩ := z
  refine wpAny_bind (wpAny_rule ?_)
  obtain ⟨mB, J2, _⟩ := ins_get I2.hok ha
  obtain ⟨its2, _, at2, _⟩ := I2.tuple (SqT.of ht)
  obtain ⟨ob, hob, _⟩ := at2
  have hat : a ≠ t := by rintro rfl; rw [ha] at ht; cases ht
  exact wpAny_bind (wpAny_isSame_ref_other hat J2.obj hob (by intro z; cases z) (wpAny_pure ⟨.bl false, H, I2, rfl, q⟩))
end
end OO

namespace OO
open PySem PySem.Spec PyProof.Rows L2
open AutoSeq1 (wpAny_loadPart')
section
variable {X : Cx} {CX : CXT} {n : Nat} {C f : Addr} {fd : FuncData} {ps : List Str} {sp : Sp} {E : XK}
theorem int_mul_declines (i : Int) (t : Tok) (b : Addr) (ob : Obj) (hd : ∀ v, ob.data ≠ .prim v) : Meets (Builtin.«int.__mul__» ⟨[.int i t, .ref b], []⟩) (fun _ R s => s.heap.get? b = some ob ∧ R (.ok (.ret .notImplemented)) s) :=
  .of_wp fun prog w A R s h => by
    obtain ⟨hp, g, d, tk, os⟩ := s
    obtain ⟨hb, h⟩ := h
    wp_walk using wpAny_loadPart' hb
    cases e : ob.data <;> first | (exact absurd e (hd _)) | (wp_walk using wpAny_loadPart' hb; exact ⟨_, rfl, h⟩)
theorem int_mul_call {P : Program} {w : World} {A : Around} {E : Value → Shared → Prop} {s : Shared} {i : Int} {t : Tok} {a dx : Addr} {Q : Value → Shared → Prop} (hty : s.TypeIs (.int i t) "int") (ho : s.heap.get? a = some (PySem.W.instObj C dx)) (q : Q .notImplemented s) :
    wpAny (model P w) A (call (.builtin "int.__mul__") [.int i t, .ref a]) Q E s := by
  refine call_meets PySem.F.slot_int_mul hty PySem.F.entry_int_mul (PySem.F.args_int_mul_2 _ _) (int_mul_declines i t a (PySem.W.instObj C dx) ?_) ?_
  · intro v e; cases e
  · exact ⟨ho, q⟩
theorem int_try {P : Program} {w : World} {A : Around} {E : Value → Shared → Prop} {s : Shared} {i : Int} {t : Tok} {a dx : Addr} (hty : s.TypeIs (.int i t) "int") (ho : s.heap.get? a = some (PySem.W.instObj C dx)) :
    wpAny (model P w) A (tryMethod (.int i t) (PySem.dunder "mul") (.ref a)) (fun r s' => r = none ∧ s' = s) E s := by
  have c : wpAny (model P w) A (call (.builtin "int.__mul__") [.int i t, .ref a]) (fun v s' => v = .notImplemented ∧ (fun (r : Option Value) s' => r = none ∧ s' = s) none s') E s := int_mul_call (C := C) (dx := dx) hty ho ⟨rfl, rfl, rfl⟩
  exact wpAny_tryMethod_declines (M := model P w) (A := A) (E := E) (s := s) (self := .int i t) (other := .ref a) (name := PySem.dunder "mul") (T := "int") (id := "int.__mul__") (Q := fun r s' => r = none ∧ s' = s) hty PySem.F.slot_int_mul c
/-- i * x, x of the class C with its own __rmul__ and __mul__ -/
def rBinR (C : Addr) (sp : Sp) (E : XK) : R2 := fun x y H Q => ∃ a i dx fs, x = .int i ∧ y = .ref a ∧ H a = some (.ins C dx fs) ∧ sp [.ref a, .int i] H Q E
theorem op_rmul {g : Addr} (F : FnOk X.prog X.w X.K X.mg X.base CX n f fd ps sp) (hr : Room n X.A) (hb : Binds X.K fd ps []) (hx : Passes CX X E)
    (hc : PySem.W.selfFirst X.K C = true) (o : Own X.K C "__rmul__" f) (om : Own X.K C "__mul__" g) (hsub : PySem.W.subIn X.K (.ref C) (.type "int") = some false) : OpR X (binaryOp .Mult) (rBinR C sp E) := by
  intro pins s σ H x y v u Q I rx ry hq
  obtain ⟨a, i, dx, fs, rfl, rfl, ha, hsp⟩ := hq
  obtain ⟨t, rfl⟩ := rx
  cases ry
  obtain ⟨mA, J, _⟩ := ins_get I.hok ha
  obtain ⟨od, J, _⟩ := J.look
  have KX := I.kIn
  obtain ⟨cd, rest, hcd, hm⟩ := PySem.W.ksp_first hc
  have one := PySem.W.ksp_try (M := model X.prog X.w) (A := X.A) (E := X.xe) (Q := fun z s' => EP X pins σ Q z s') (b := .int i t) KX J o.at_ o.fn
    (wpAny_mono (run_fn (vs := [.ref a, .int i]) F hb hx ⟨hr, rfl⟩ I (.cons rfl (.cons ⟨t, rfl⟩ .nil)) hsp) (fun _ _ h => back h) fun _ _ e => e)
  have L1 : PySem.W.Looks (model X.prog X.w) s.heap (typeOf (.ref a)) (.ref C) := J.type
  have L3 : PySem.W.Looks (model X.prog X.w) s.heap (fillsNumberSlot (.ref C) "mul") true := PySem.W.fills_K KX hcd hm om.at_
  have L5 : PySem.W.Looks (model X.prog X.w) s.heap (isSubtype (.ref C) (.type "int")) false := PySem.W.looks_subIn KX hsub
  have hty : s.TypeIs (.int i t) "int" := typeIs_int s i t
  have hne : (Value.type "int" == Value.ref C) = false := Bool.eq_false_iff.mpr fun q => by cases beq_iff_eq.mp q
  have hpy : numberSlotInPython (.type "int") "mul" = pure false := rfl
  have hi : Operator.Mult.info = ("*", "mul") := rfl
  simp only [binaryOp, hi]
  refine wpAny_holding (wpAny_bind ?_)
  suffices hb1 : wpAny (model X.prog X.w) X.A (binaryOp1 "mul" (.int i t) (.ref a)) (fun r s' => ∃ v, r = some v ∧ EP X pins σ Q v s') X.xe s by
    refine wpAny_mono hb1 (fun r s' z => ?_) fun _ _ e => e
    obtain ⟨v, rfl, hq⟩ := z
    exact wpAny_pure hq
  clear hsp hb hx F
  unfold binaryOp1
  refine wpAny_bind (wpAny_typeOf hty (wpAny_bind (L1.here (wpAny_bind (wpAny_of_eq PySem.F.fills_int_mul ?_)))))
  simp only [hne, Bool.false_eq_true, if_false]
  refine wpAny_bind (L3.here ?_)
  simp only [Bool.and_self, if_true]
  refine wpAny_bind (L5.here ?_)
  simp only [Bool.false_eq_true, if_false, pure_bind, Bool.not_false, Bool.and_self, if_true]
  refine wpAny_bind (wpAny_of_eq hpy ?_)
  simp only [Bool.false_eq_true, if_false, pure_bind, Bool.not_false, Bool.and_self, if_true]
  have dec := int_try (E := X.xe) (P := X.prog) (w := X.w) (A := X.A) hty J.at_
  refine wpAny_bind (wpAny_mono dec (fun r s1 z => ?_) fun _ _ e => e)
  obtain ⟨rfl, rfl⟩ := z
  simp only [Bool.false_eq_true, if_false, pure_bind, Bool.not_false, Bool.and_self, if_true]
  refine wpAny_bind (wpAny_mono one (fun r s' z => ?_) fun _ _ e => e)
  obtain ⟨v, rfl, hq⟩ := z
  exact wpAny_bind (wpAny_rule (wpAny_pure ⟨v, rfl, hq⟩))
end
end OO

namespace OO
open PySem PySem.Spec PyProof.Rows L2
/-- xs == ys, two lists of unlike lengths -/
def rEqLen : R2 := fun x y H Q => ∃ a b xs ys, x = .ref a ∧ y = .ref b ∧ H a = some (.lst xs) ∧ H b = some (.lst ys) ∧ xs.length ≠ ys.length ∧ Q (.bl false) H
theorem op_eqLen {X : Cx} (hu : X.A.units < cLine) : OpR X (compareOp .Eq) rEqLen := by
  intro pins s σ H x y v u Q I rx ry h
  obtain ⟨a, b, xs, ys, rfl, rfl, ha, hb, hne, q⟩ := h
  cases rx
  cases ry
  obtain ⟨i1, r1, at1, _⟩ := I.list (SqL.of ha)
  obtain ⟨i2, r2, at2, _⟩ := I.list (SqL.of hb)
  have l1 := r1.length
  have l2 := r2.length
  have hsz : (i1.toArray.size != i2.toArray.size) = true := by
    rw [bne_iff_ne, List.size_toArray, List.size_toArray]; omega
  exact SeqAt.RcAt.lists_lengths at1.isList at2.isList hsz hu X.prog X.w X.xe _ ⟨.bl false, H, I, rfl, q⟩
end OO

namespace OO
open PySem PySem.Spec PyProof.Rows L2
def intV : V → Option Int
  | .int i => some i
  | _ => none
theorem of_intV {v : V} {i : Int} (h : intV v = some i) : v = .int i := by
  cases v <;> cases h; rfl
theorem dec_flip (i j : Int) : decide (some j = some i) = (i == j) := by
  by_cases z : i = j
  · subst z; simp
  · rw [beq_eq_false_iff_ne.mpr z]
    exact decide_eq_false fun h => z (Option.some.inj h).symm
/-- whether all pairs of ks stand in ls -/
def allIn {κ : Type} [DecidableEq κ] (ls : List (κ × V)) (ks : List (κ × V)) : Bool := ks.all fun p => decide ((valV ls p.1).bind intV = intV p.2)
theorem hits_int {κ : Type} [DecidableEq κ] {A : Around} {s : Shared} {ls : List (κ × V)} {vb : List (κ × Value)} (rb : KV ls vb) (hb : ∀ k v, valV ls k = some v → (intV v).isSome = true) {ks : List (κ × V)} {va : List (κ × Value)} (ra : KV ks va) :
    (∀ p ∈ ks, (intV p.2).isSome = true) → PySem.W.KeqHits A s vb va (allIn ls ks) := by
  unfold KV at ra
  induction ra with
  | nil => intro _; exact .nil
  | @cons p q ps qs h t ih =>
    intro hp
    obtain ⟨h1, h2⟩ := h
    have hi := ih fun p' hm => hp p' (List.mem_cons_of_mem _ hm)
    obtain ⟨i, ei⟩ := Option.isSome_iff_exists.mp (hp p List.mem_cons_self)
    have h1' : p.1 = q.1 := h1
    have rr := rb.val p.1
    obtain ⟨k, v⟩ := q
    show PySem.W.KeqHits A s vb ((k, v) :: qs) (decide ((valV ls p.1).bind intV = intV p.2) && allIn ls ps)
    cases e : valV ls p.1 with
    | none =>
      rw [e] at rr
      have hn := rr.none_of
      rw [show (decide (((none : Option V)).bind intV = intV p.2)) = false by rw [ei]; rfl, Bool.false_and]
      rw [h1'] at hn
      exact .miss hn
    | some w =>
      rw [e] at rr
      obtain ⟨y, hy, ry⟩ := rr.some_of
      obtain ⟨j, ej⟩ := Option.isSome_iff_exists.mp (hb _ _ e)
      have e1 := of_intV ei
      have e2 := of_intV ej
      rw [h1'] at hy
      rw [e1] at h2
      rw [e2] at ry
      obtain ⟨t1, rfl⟩ := (show ∃ t, v = Value.int i t from h2)
      obtain ⟨t2, rfl⟩ := (show ∃ t, y = Value.int j t from ry)
      have e3 : decide ((some w).bind intV = intV p.2) = (i == j) := by
        rw [ei, Option.bind_some, ej]
        exact dec_flip i j
      rw [e3]
      exact .hit hy (SeqAt.EqAt.int_int i t1 j t2) hi
def rEqDI : R2 := fun x y H Q => ∃ a b ks ls, x = .ref a ∧ y = .ref b ∧ H a = some (.dK ks) ∧ H b = some (.dK ls) ∧ (∀ p ∈ ks, (intV p.2).isSome = true) ∧ (∀ k v, valV ls k = some v → (intV v).isSome = true) ∧ Q (.bl (ks.length == ls.length && allIn ls ks)) H
theorem op_eqDI {X : Cx} (hu : X.A.units < cLine) : OpR X (compareOp .Eq) rEqDI := by
  intro pins s σ H x y v u Q I rx ry h
  obtain ⟨a, b, ks, ls, rfl, rfl, ea, eb, ha, hb, q⟩ := h
  obtain rfl : v = Value.ref a := rx
  obtain rfl : u = Value.ref b := ry
  obtain ⟨_, ya, va, ra, da⟩ := (show ObjOk X.prog X.w H s.heap a (.dK ks) from I.hok a _ ea)
  obtain ⟨_, yb, vb, rb, db⟩ := (show ObjOk X.prog X.w H s.heap b (.dK ls) from I.hok b _ eb)
  refine PySem.W.keq_eq (knd := mixKind X.prog X.w) (r := allIn ls ks) ya yb da db hu (fun _ => hits_int rb hb ra ha) ?_
  rw [← ra.length, ← rb.length]
  exact ⟨.bl _, H, I, rfl, q⟩
end OO

namespace OO
open PySem PySem.Spec PyProof.Rows L2
section
variable {X : Cx} {CX : CXT} {n k : Nat} {C f : Addr} {fd : FuncData} {ps ks : List Str} {sp : Sp} {E : XK} {m : Str} {o : Expr} {kws : List Keyword} {ta : TE} {tk : TA} {apos pos : Pos}
  {g : List Value → List Value → List Value} {gV : List V → List V → List V}
/-- o.m(k = v, ..): nothing by position -/
def tMethK (C : Addr) (m : Str) (n : Nat) (sp : Sp) (gV : List V → List V → List V) (E : XK) (ta : TE) (tk : TA) : TE := fun σ H Q => ta σ H fun x H1 => ∃ a dx fs, x = .ref a ∧ H1 a = some (.ins C dx fs) ∧ fs.lookup m = none ∧ tk σ H1 fun zs H2 => zs.length = n ∧ sp (gV [.ref a] zs) H2 Q E
theorem run_kbn {pins : List (Addr × Obj)} {σ : L2.St} {H : Hp} {s : Shared} {Q : VK} {us ws : List Value} {vs zs : List V} (F : FnOk X.prog X.w X.K X.mg X.base CX k f fd ps sp) (hr : Room k X.A) (b : KBn X.K fd ps n ks g gV) (hx : Passes CX X E)
    (I : Inv X pins σ H s) (r : Vals vs us) (rz : Vals zs ws) (l1 : us.length = n) (l2 : ws.length = ks.length) (q : sp (gV vs zs) H Q E) : wpAny (model X.prog X.w) X.A (call (.ref f) us (ks.zip ws)) (EP X pins σ Q) X.xe s := by
  refine wpAny_call (codeAny_mono (F.run X.A X.stack s H ⟨us, ks.zip ws⟩ _ (gV vs zs) Q E hr I.env0 (b.to s us ws I.kIn l1 l2) (b.rel r rz) q) fun rs s' z => ?_)
  rcases rs with e | fl
  · exact hx pins σ H s e s' I z
  · cases fl with
    | ret u => exact I.after z
    | next => exact z.elim
    | brk => exact z.elim
    | cont => exact z.elim
theorem pe_methK0 {pl : Sem Bool} (he : PE X o ta) (c : Cls X.K C) (hm : Meth X.K C m f) (F : FnOk X.prog X.w X.K X.mg X.base CX k f fd ps sp) (hr : Room k X.A) (b : KBn X.K fd ps 1 ks g gV) (hx : Passes CX X E) (hkw : PK X kws tk)
    (hall : (backToKw pos (keywordEach kws X.env)).all (·.1.isSome) = true := by rfl) (hks : (backToKw pos (keywordEach kws X.env)).filterMap (·.1) = ks := by rfl)
    (hpl : ((backTo pos (starEach [] X.env)).any (·.1) || (backToKw pos (keywordEach kws X.env)).any (·.1.isNone)) = false := by rfl)
    (ht : eval (.Call (.Attribute o m apos) [] kws pos) X.env = (do
      let w ← eval o X.env
      standAt apos.atName
      let (fn, fst) ← holding [w] (getMethod w m pl)
      callWith pos fn fst (backTo pos (starEach [] X.env)) (backToKw pos (keywordEach kws X.env))) := by rfl) :
    PE X (.Call (.Attribute o m apos) [] kws pos) (tMethK C m ks.length sp gV E ta tk) := by
  refine ⟨fun pins s σ H Q I h => PySem.W.methodCall_KW (pl := pl) (thn (he.run pins s σ H _ I h) ?_) ht⟩
  rintro u s1 ⟨x, H1, I1, rx, a, dx, fs, rfl, ea, l, q⟩
  cases rx
  refine getmeth_ok I1 ea c hm l (PySem.W.callWith_KW0 (first := [.ref a]) (h₀ := X.base) I.ok.mod.kin hm.kp hall ?_ hpl)
  refine thn (hkw.run pos pins s1 σ H1 _ I1 q) ?_
  rintro ws s2 ⟨zs, H2, I2, rz, l2, q2⟩
  refine ⟨I2.kIn, ?_⟩
  rw [hks]
  exact run_kbn (us := [.ref a]) (vs := [.ref a]) F hr b hx I2 (.cons rfl .nil) rz rfl (rz.length.symm.trans l2) q2
end
end OO

namespace Kt
open PySem L2

/-! ### two heaps: G what is told for good (a part), H what stands; only what M says may be changed -/
abbrev No : Addr → Prop := fun _ => False
abbrev On (p : Addr) : Addr → Prop := fun b => b = p
structure Ex (M : Addr → Prop) (G H G' H' : Hp) : Prop where
  g : Same G G'
  h : ∀ b o, ¬ M b → H b = some o → H' b = some o
  s : Same G' H'
  n : ∀ b o, G' b = some o → G b = some o ∨ H b = none
  f : ∀ b, H' b = none → H b = none

section
variable {M : Addr → Prop} {G H G' H' G1 H1 G2 H2 : Hp} {p q a b : Addr} {o u : HO}
theorem same_put (s : Same G H) (gd : G q = none) : Same G (upd H q o) := fun b u e => by
  rw [upd_ne (ne_of_none e gd)]; exact s b u e
theorem same_new (h : H q = none) : Same H (upd H q o) := same_put (Same.refl H) h
theorem Ex.refl (s : Same G H) : Ex M G H G H := ⟨Same.refl G, fun _ _ _ e => e, s, fun _ _ e => .inl e, fun _ e => e⟩
theorem Ex.trans (x : Ex M G H G1 H1) (y : Ex M G1 H1 G2 H2) : Ex M G H G2 H2 :=
  ⟨x.g.trans y.g, fun b o m e => y.h b o m (x.h b o m e), y.s, fun b o e => by
    rcases y.n b o e with h | h
    · exact x.n b o h
    · exact .inr (x.f b h), fun b e => x.f b (y.f b e)⟩
theorem Ex.mono {M' : Addr → Prop} (x : Ex M G H G' H') (hm : ∀ b, M b → M' b) : Ex M' G H G' H' :=
  ⟨x.g, fun b o m e => x.h b o (fun z => m (hm b z)) e, x.s, x.n, x.f⟩
theorem Ex.on (x : Ex No G H G' H') : Ex M G H G' H' := x.mono fun _ z => z.elim
theorem Ex.same (x : Ex No G H G' H') : Same H H' := fun b o e => x.h b o (fun z => z) e
/-- a new object, told for good -/
theorem Ex.new (s : Same G H) (hq : H q = none) : Ex M G H (upd G q o) (upd H q o) := by
  have gq : G q = none := s.free hq
  refine ⟨same_new gq, fun b u _ e => by rw [upd_ne (ne_of_none e hq)]; exact e, fun b u e => ?_, fun b u e => ?_, fun b e => ?_⟩
  · by_cases hb : b = q
    · subst hb; rw [upd_same] at e ⊢; exact e
    · rw [upd_ne hb] at e ⊢; exact s b u e
  · by_cases hb : b = q
    · subst hb; exact .inr hq
    · rw [upd_ne hb] at e; exact .inl e
  · by_cases hb : b = q
    · subst hb; exact hq
    · rw [upd_ne hb] at e; exact e
/-- a new object, not told -/
theorem Ex.hid (s : Same G H) (hq : H q = none) : Ex M G H G (upd H q o) := by
  have gq : G q = none := s.free hq
  refine ⟨Same.refl G, fun b u _ e => by rw [upd_ne (ne_of_none e hq)]; exact e, same_put s gq, fun b u e => .inl e, fun b e => ?_⟩
  by_cases hb : b = q
  · subst hb; exact hq
  · rw [upd_ne hb] at e; exact e
/-- an object that is not told of is changed: one that M allows, or one that is new since -/
theorem Ex.put (x : Ex M G H G' H') (gq : G' q = none) (hm : M q ∨ H q = none) (ht : H' q ≠ none) : Ex M G H G' (upd H' q o) := by
  refine ⟨x.g, fun b u m e => ?_, same_put x.s gq, x.n, fun b e => ?_⟩
  · have hb : b ≠ q := by
      rintro rfl
      rcases hm with h | h
      · exact m h
      · rw [h] at e; cases e
    rw [upd_ne hb]; exact x.h b u m e
  · by_cases hb : b = q
    · subst hb; rw [upd_same] at e; cases e
    · rw [upd_ne hb] at e; exact x.f b e
/-- what stands is told of from now on -/
theorem Ex.tell (x : Ex M G H G' H') (hq : H' q = some o) (gq : G q = none) (hn : H q = none) : Ex M G H (upd G' q o) H' := by
  refine ⟨fun b u e => ?_, x.h, fun b u e => ?_, fun b u e => ?_, x.f⟩
  · rw [upd_ne (ne_of_none e gq)]; exact x.g b u e
  · by_cases hb : b = q
    · subst hb; rw [upd_same] at e; rw [hq]; exact e
    · rw [upd_ne hb] at e; exact x.s b u e
  · by_cases hb : b = q
    · subst hb; exact .inr hn
    · rw [upd_ne hb] at e; exact x.n b u e
/-- what was there and not told of is not told of -/
theorem Ex.un (x : Ex M G H G' H') (gp : G p = none) (hp : H p ≠ none) : G' p = none := by
  cases e : G' p with
  | none => rfl
  | some o =>
    rcases x.n p o e with h | h
    · rw [gp] at h; cases h
    · exact absurd h hp
theorem Ex.hs (x : Ex M G H G' H') (s : Same G H) {a : Addr} {o : HO} (e : G a = some o) : H' a = some o := x.s _ _ (x.g _ _ e)
end

/-! ### the box of draws: a list of three ints; c counts -/
def Bx (H : Hp) (p : Addr) (c : Int) : Prop := ∃ a b : Int, 0 ≤ a ∧ 0 ≤ c ∧ H p = some (.lst [.int a, .int b, .int c])
theorem Bx.ne {H : Hp} {p : Addr} {c : Int} (b : Bx H p c) : H p ≠ none := by
  obtain ⟨_, _, _, _, e⟩ := b; rw [e]; simp
theorem Bx.is {H H' : Hp} {p : Addr} {c : Int} (b : Bx H p c) (h : ∀ o, H p = some o → H' p = some o) : Bx H' p c := by
  obtain ⟨x, y, h1, h2, e⟩ := b; exact ⟨x, y, h1, h2, h _ e⟩
/-- the state: what is told, what stands, the box -/
structure Sx (G H : Hp) (p : Addr) (c : Int) : Prop where
  s : Same G H
  b : Bx H p c
  n : G p = none
section
variable {M : Addr → Prop} {G H G' H' G1 H1 G2 H2 : Hp} {p q a b : Addr} {o u : HO} {c c' : Int}
theorem Sx.lt (x : Sx G H p c) : 0 ≤ c := by obtain ⟨_, _, _, h, _⟩ := x.b; exact h
/-- behind something that leaves the box alone -/
theorem Sx.go (x : Sx G H p c) (e : Ex No G H G' H') : Sx G' H' p c :=
  ⟨e.s, x.b.is fun o h => e.same _ _ h, e.un x.n x.b.ne⟩
/-- a new object -/
theorem Sx.new (x : Sx G H p c) (hq : H q = none) : Sx (upd G q o) (upd H q o) p c := x.go (Ex.new x.s hq)
theorem Sx.ne (x : Sx G H p c) (h : G a = some o) : a ≠ p := ne_of_none h x.n
theorem Sx.ne' (x : Sx G H p c) (h : H a = none) : a ≠ p := by
  rintro rfl; exact x.b.ne h
/-- another thing that is not told of is changed -/
theorem Sx.put (x : Sx G H p c) (gq : G q = none) (hne : q ≠ p) : Sx G (upd H q o) p c :=
  ⟨same_put x.s gq, x.b.is fun o h => by rw [upd_ne hne.symm]; exact h, x.n⟩
theorem Sx.tell (x : Sx G H p c) (hq : H q = some o) (gq : G q = none) (hne : q ≠ p) : Sx (upd G q o) H p c :=
  ⟨fun b u e => by
    by_cases hb : b = q
    · subst hb; rw [upd_same] at e; rw [hq]; exact e
    · rw [upd_ne hb] at e; exact x.s b u e, x.b, by rw [upd_ne hne.symm]; exact x.n⟩
end

/-! ### steps: a new heap by its equation -/
section
variable {M : Addr → Prop} {G H G' H' G1 H1 G2 H2 : Hp} {p q a b : Addr} {o u : HO} {c c' : Int}
/-- a new object, told of -/
theorem ex_new (s : Same G H) (hq : H q = none) (e : upd H q o = H1) : ∃ G1, Ex M G H G1 H1 ∧ G1 q = some o := ⟨_, e ▸ Ex.new s hq, upd_same⟩
theorem sx_new (x : Sx G H p c) (hq : H q = none) (e : upd H q o = H1) : ∃ G1, Ex (On p) G H G1 H1 ∧ Sx G1 H1 p c ∧ G1 q = some o := ⟨_, e ▸ Ex.new x.s hq, e ▸ x.new hq, upd_same⟩
/-- a new object, not told of: a local one that will change -/
theorem ex_hid (s : Same G H) (hq : H q = none) (e : upd H q o = H1) : Ex M G H G H1 ∧ G q = none ∧ H1 q = some o := ⟨e ▸ Ex.hid s hq, s.free hq, e ▸ upd_same⟩
theorem sx_hid (x : Sx G H p c) (hq : H q = none) (e : upd H q o = H1) : Ex (On p) G H G H1 ∧ Sx G H1 p c ∧ G q = none ∧ q ≠ p ∧ H1 q = some o :=
  ⟨e ▸ Ex.hid x.s hq, e ▸ x.put (x.s.free hq) (x.ne' hq), x.s.free hq, x.ne' hq, e ▸ upd_same⟩
/-- the box is written -/
theorem sx_box (x : Sx G H p c) {i j k : Int} (hi : 0 ≤ i) (hk : 0 ≤ k) (e : upd H p (.lst [.int i, .int j, .int k]) = H1) : Ex (On p) G H G H1 ∧ Sx G H1 p k ∧ H1 p = some (.lst [.int i, .int j, .int k]) := by
  subst e
  exact ⟨(Ex.refl x.s).put x.n (.inl rfl) x.b.ne, ⟨same_put x.s x.n, ⟨i, j, hi, hk, upd_same⟩, x.n⟩, upd_same⟩
end

/-! ### data: what a value tells in a heap, all of it told for good -/
mutual
inductive Rp (G : Hp) : V → PyData → Prop
  | non : Rp G .non .none
  | bl (b : Bool) : Rp G (.bl b) (.bool b)
  | int (i : Int) : Rp G (.int i) (.int i)
  | str (x : Str) : Rp G (.str x) (.str x)
  | lst {a : Addr} {xs : List V} {ds : List PyData} : G a = some (.lst xs) → RpA G xs ds → Rp G (.ref a) (.list ds)
  | tup {a : Addr} {xs : List V} {ds : List PyData} : G a = some (.tup xs) → RpA G xs ds → Rp G (.ref a) (.tuple ds)
inductive RpA (G : Hp) : List V → List PyData → Prop
  | nil : RpA G [] []
  | cons {v : V} {vs : List V} {d : PyData} {ds : List PyData} : Rp G v d → RpA G vs ds → RpA G (v :: vs) (d :: ds)
end
mutual
theorem Rp.mono {G G' : Hp} (s : Same G G') : ∀ {v : V} {d : PyData}, Rp G v d → Rp G' v d
  | _, _, .non => .non
  | _, _, .bl b => .bl b
  | _, _, .int i => .int i
  | _, _, .str x => .str x
  | _, _, .lst h r => .lst (s _ _ h) (RpA.mono s r)
  | _, _, .tup h r => .tup (s _ _ h) (RpA.mono s r)
theorem RpA.mono {G G' : Hp} (s : Same G G') : ∀ {vs : List V} {ds : List PyData}, RpA G vs ds → RpA G' vs ds
  | _, _, .nil => .nil
  | _, _, .cons h r => .cons (Rp.mono s h) (RpA.mono s r)
end
mutual
theorem Rp.dp {K : PySem.W.Frag} {G : Hp} : ∀ {v : V} {d : PyData}, Rp G v d → Dp K G v d
  | _, _, .non => .non
  | _, _, .bl b => .bl b
  | _, _, .int i => .int i
  | _, _, .str x => .str x
  | _, _, .lst h r => .lst (SqL.of h) (RpA.dp r)
  | _, _, .tup h r => .tup (SqT.of h) (RpA.dp r)
theorem RpA.dp {K : PySem.W.Frag} {G : Hp} : ∀ {vs : List V} {ds : List PyData}, RpA G vs ds → DpAll K G vs ds
  | _, _, .nil => .nil
  | _, _, .cons h r => .cons (Rp.dp h) (RpA.dp r)
end
theorem RpA.length {G : Hp} : ∀ {vs : List V} {ds : List PyData}, RpA G vs ds → vs.length = ds.length
  | _, _, .nil => rfl
  | _, _, .cons _ r => by rw [List.length_cons, List.length_cons, RpA.length r]
theorem RpA.get {G : Hp} : ∀ {vs : List V} {ds : List PyData} {i : Nat} {v : V}, RpA G vs ds → vs[i]? = some v → ∃ d, ds[i]? = some d ∧ Rp G v d
  | _, _, _, _, .nil, e => by simp at e
  | _, _, 0, _, .cons h _, e => by simp at e; subst e; exact ⟨_, rfl, h⟩
  | _, _, i + 1, v, .cons _ r, e => by
    obtain ⟨d, h1, h2⟩ := RpA.get (i := i) (v := v) r (by simpa using e)
    exact ⟨d, by simpa using h1, h2⟩
theorem RpA.get' {G : Hp} : ∀ {vs : List V} {ds : List PyData} {i : Nat} {d : PyData}, RpA G vs ds → ds[i]? = some d → ∃ v, vs[i]? = some v ∧ Rp G v d
  | _, _, _, _, .nil, e => by simp at e
  | _, _, 0, _, .cons h _, e => by simp at e; subst e; exact ⟨_, rfl, h⟩
  | _, _, i + 1, d, .cons _ r, e => by
    obtain ⟨v, h1, h2⟩ := RpA.get' (i := i) (d := d) r (by simpa using e)
    exact ⟨v, by simpa using h1, h2⟩
theorem RpA.app {G : Hp} : ∀ {vs ws : List V} {ds es : List PyData}, RpA G vs ds → RpA G ws es → RpA G (vs ++ ws) (ds ++ es)
  | _, _, _, _, .nil, s => s
  | _, _, _, _, .cons h r, s => .cons h (RpA.app r s)
theorem RpA.take {G : Hp} : ∀ {vs : List V} {ds : List PyData} (n : Nat), RpA G vs ds → RpA G (vs.take n) (ds.take n)
  | _, _, 0, _ => .nil
  | _, _, _ + 1, .nil => .nil
  | _, _, n + 1, .cons h r => .cons h (RpA.take n r)
theorem RpA.drop {G : Hp} : ∀ {vs : List V} {ds : List PyData} (n : Nat), RpA G vs ds → RpA G (vs.drop n) (ds.drop n)
  | _, _, 0, r => r
  | _, _, _ + 1, .nil => .nil
  | _, _, n + 1, .cons _ r => RpA.drop n r
theorem rpA_int {G : Hp} : ∀ ns : List Int, RpA G (ns.map V.int) (ns.map PyData.int)
  | [] => .nil
  | n :: r => .cons (.int n) (rpA_int r)
theorem rpA_str {G : Hp} : ∀ ns : List Str, RpA G (ns.map V.str) (ns.map PyData.str)
  | [] => .nil
  | n :: r => .cons (.str n) (rpA_str r)
theorem rpA_bl {G : Hp} : ∀ ns : List Bool, RpA G (ns.map V.bl) (ns.map PyData.bool)
  | [] => .nil
  | n :: r => .cons (.bl n) (rpA_bl r)
theorem of_int {G : Hp} {v : V} {i : Int} (h : Rp G v (.int i)) : v = .int i := by cases h; rfl
theorem of_str {G : Hp} {v : V} {i : Str} (h : Rp G v (.str i)) : v = .str i := by cases h; rfl
theorem of_bl {G : Hp} {v : V} {i : Bool} (h : Rp G v (.bool i)) : v = .bl i := by cases h; rfl
theorem of_ints {G : Hp} : ∀ {vs : List V} {ns : List Int}, RpA G vs (ns.map PyData.int) → vs = ns.map V.int
  | _, [], .nil => rfl
  | _, _ :: _, .cons h r => by rw [of_int h, of_ints r]; rfl
theorem of_strs {G : Hp} : ∀ {vs : List V} {ns : List Str}, RpA G vs (ns.map PyData.str) → vs = ns.map V.str
  | _, [], .nil => rfl
  | _, _ :: _, .cons h r => by rw [of_str h, of_strs r]; rfl
theorem of_tup2 {G : Hp} {v : V} {d e : PyData} (h : Rp G v (.tuple [d, e])) : ∃ a x y, v = .ref a ∧ G a = some (.tup [x, y]) ∧ Rp G x d ∧ Rp G y e := by
  cases h with
  | tup h r =>
    cases r with
    | cons h1 r =>
      cases r with
      | cons h2 r =>
        cases r
        exact ⟨_, _, _, rfl, h, h1, h2⟩
theorem of_lst {G : Hp} {v : V} {ds : List PyData} (h : Rp G v (.list ds)) : ∃ a xs, v = .ref a ∧ G a = some (.lst xs) ∧ RpA G xs ds := by
  cases h with
  | lst h r => exact ⟨_, _, rfl, h, r⟩
theorem of_tup {G : Hp} {v : V} {ds : List PyData} (h : Rp G v (.tuple ds)) : ∃ a xs, v = .ref a ∧ G a = some (.tup xs) ∧ RpA G xs ds := by
  cases h with
  | tup h r => exact ⟨_, _, rfl, h, r⟩
/-! ### walks: a list or a tuple; a dict comprehension over any walk -/
section
variable {X : Cx} {tg : Expr}
theorem SqL.mono {K : PySem.W.Frag} {G H : Hp} {a : Addr} {xs : List V} (s : Same G H) (h : SqL K G a xs) : SqL K H a xs := s.seq h
theorem SqT.mono {K : PySem.W.Frag} {G H : Hp} {a : Addr} {xs : List V} (s : Same G H) (h : SqT K G a xs) : SqT K H a xs :=
  h.elim (fun h => .inl (h.elim (fun h => .inl (s _ _ h)) fun ⟨o, h⟩ => .inr ⟨o, s _ _ h⟩)) fun h => .inr h
/-- a list or a tuple that a part G of the heap tells of -/
def iSeq (K : PySem.W.Frag) (tl : TE) : TI := fun σ H R => tl σ H fun x H1 => ∃ (a : Addr) (G : Hp) (xs : List V), x = .ref a ∧ Same G H1 ∧ (SqL K G a xs ∨ SqT K G a xs) ∧ ∀ J, Walk J xs.length (Same G) (YAt xs) → R J H1
/-- a new record, the only one of an iterator's -/
theorem lone {pins : List (Addr × Obj)} {σ : L2.St} {H : Hp} {s : Shared} (I : Inv X pins σ H s) : ∀ b ∈ [s.heap.objs.size], FpOk X pins H b := fun b hb => by
  rw [List.mem_singleton.mp hb]
  exact I.fpOk (Nat.le_refl _) (I.hok.fresh (Nat.le_refl _))
theorem pi_seq {l : Expr} {tl : TE} (hl : PE X l tl) : PI X tg l (iSeq X.K tl) where
  run pins s σ H R I h := by
    refine thn (hl.run pins s σ H _ I h) ?_
    rintro v st ⟨_, Hs, Is, rel, a, G, xs, rfl, sG, told, go⟩
    have hv : v = .ref a := rel
    subst hv
    rcases told with lst | tup
    · obtain ⟨its, _, at_, _⟩ := Is.list (Kt.SqL.mono sG lst)
      exact wpAny_pyIter_list at_.isList ⟨_, _, _, _, Hs, rfl, Is.kept (t' := st.toks) (fun _ _ z => Heap.get?_push_of_some _ z), turn_list a _, ⟨_, Heap.get?_push_size _ rfl, rfl, rfl⟩, lone Is, go _ (walk_list.mono (fun _ z => Kt.SqL.mono z lst) fun _ _ _ _ _ _ y => y)⟩
    · obtain ⟨its, _, at_, _⟩ := Is.tuple (Kt.SqT.mono sG tup)
      have at2 : st.heap.IsTuple a its.toArray := at_
      exact wpAny_pyIter_tuple at2 ⟨_, _, _, _, Hs, rfl, Is.kept (t' := st.toks) (fun _ _ z => Heap.get?_push_of_some _ z), turn_tuple a _, ⟨_, Heap.get?_push_size _ rfl, rfl, rfl⟩, lone Is, go _ (walk_tup.mono (fun _ z => Kt.SqT.mono z tup) fun _ _ _ _ _ _ y => y)⟩
end
theorem dc_it {J : It} {n : Nat} {G : Hp → Prop} {Y : Nat → Hp → V → Hp → Prop} (w : Walk J n G Y) {g : TG} {tt : TT} {tk tv : TE} {vs : List Nat} {σ : L2.St} {H1 : Hp} {D : Addr} {Qd : Hp → Prop} (Pv : Nat → Hp → Prop) (h0 : Pv 0 (upd H1 D (.dK []))) (hG : ∀ i H, i ≤ n → Pv i H → G H)
    (hs : ∀ i x H H', i < n → Pv i H → Y i H x H' → g x (wipe σ vs) H' fun σ2 H2 => wipe σ2 vs = wipe σ vs ∧ tt σ2 H2 fun b H3 =>
      if b = true then tk σ2 H3 fun y H4 => tv σ2 H4 fun z H5 => ∃ kvs k, y = kV k ∧ H5 D = some (.dK kvs) ∧ kvs.length < sizeLine ∧ Pv (i + 1) (upd H5 D (.dK (putK kvs k z))) else Pv (i + 1) H3) (hd : ∀ H, Pv n H → Qd H) :
    ∃ W : Nat → Nat → Hp → Prop, (∃ m, W 0 m (upd H1 D (.dK []))) ∧ ∀ i m H, W i m H →
      (J.stop i H ∧ Qd H) ∨ (J.go i H ∧ ∃ Nx : Hp → Prop, (∀ H', Nx H' → ∃ m', m' < m ∧ W (i + 1) m' H') ∧ ∀ x H', J.yld i H x H' → g x (wipe σ vs) H' fun σ2 H2 => wipe σ2 vs = wipe σ vs ∧ tt σ2 H2 fun b H3 =>
        if b = true then tk σ2 H3 fun y H4 => tv σ2 H4 fun z H5 => ∃ kvs k, y = kV k ∧ H5 D = some (.dK kvs) ∧ kvs.length < sizeLine ∧ Nx (upd H5 D (.dK (putK kvs k z))) else Nx H3) := by
  refine ⟨fun i left H => i + left = n ∧ Pv i H, ⟨n, Nat.zero_add n, h0⟩, fun i left H hP => ?_⟩
  obtain ⟨sum, pv⟩ := hP
  have there := hG i H (by omega) pv
  rcases left with _ | left
  · have done : i = n := by omega
    subst done
    exact .inl ⟨w.stops H there, hd H pv⟩
  · have some_left : i < n := by omega
    exact .inr ⟨w.goes i H some_left there, Pv (i + 1), fun H' pv' => ⟨left, Nat.lt_succ_self left, by omega, pv'⟩, fun x H' y => hs i x H H' some_left pv (w.yields i H x H' some_left there y)⟩
/-! ### rules with the written part named -/
section
variable {X : Cx} (K : PySem.W.Frag)
theorem pe_fldK {e : Expr} {f : Str} {pos : Pos} {ta : TE} (he : PE X e ta) (hb : attributeBase e f X.env (eval e X.env) = eval e X.env) (hK : X.K = K := by rfl) : PE X (.Attribute e f pos) (tFld K ta f) := hK ▸ pe_fld he hb
theorem ix_listK (hK : X.K = K := by rfl) : IxR X (rIxL K) := hK ▸ ix_list
theorem ix_tupK (hK : X.K = K := by rfl) : IxR X (rIxT K) := hK ▸ ix_tup
theorem sl_listK (hK : X.K = K := by rfl) : SlR X (rSlL K) := hK ▸ sl_list
theorem sl_tupK (hK : X.K = K := by rfl) : SlR X (rSlT K) := hK ▸ sl_tup
def rLenQ (K : PySem.W.Frag) : List V → Hp → VK → Prop := fun xs H Q => ∃ p ys, xs = [.ref p] ∧ (SqL K H p ys ∨ SqT K H p ys) ∧ Q (.int ys.length) H
theorem call_len_seqK (hK : X.K = K := by rfl) : CallR X (.builtin "len") (rLenQ K) := hK ▸ call_len_seq
def rListQ (K : PySem.W.Frag) : List V → Hp → VK → Prop := fun xs H Q => ∃ p ys, xs = [.ref p] ∧ (SqL K H p ys ∨ SqT K H p ys) ∧ ∀ l, H l = none → Q (.ref l) (upd H l (.lst ys))
theorem call_list_ofK (hK : X.K = K := by rfl) : CallR X (.type "list") (rListQ K) := hK ▸ call_list_of
def rTupQ (K : PySem.W.Frag) : List V → Hp → VK → Prop := fun xs H Q => ∃ p ys, xs = [.ref p] ∧ ((SqL K H p ys ∧ ∀ l, H l = none → Q (.ref l) (upd H l (.tup ys))) ∨ (SqT K H p ys ∧ Q (.ref p) H))
theorem call_tuple_ofK (hK : X.K = K := by rfl) : CallR X (.type "tuple") (rTupQ K) := hK ▸ call_tuple_of
theorem cr_sumK (hc : X.calm = true) (hK : X.K = K := by rfl) : CallR X (.builtin "sum") (rSum K) := hK ▸ cr_sum hc
theorem cr_allK (hc : X.calm = true) (hK : X.K = K := by rfl) : CallR X (.builtin "all") (rAll K) := hK ▸ cr_all hc
theorem cr_anyK (hc : X.calm = true) (hK : X.K = K := by rfl) : CallR X (.builtin "any") (rAny K) := hK ▸ cr_any hc
theorem cr_minK (hc : X.calm = true) (hK : X.K = K := by rfl) : CallR X (.builtin "min") (rMin K) := hK ▸ cr_min hc
theorem cr_maxK (hc : X.calm = true) (hK : X.K = K := by rfl) : CallR X (.builtin "max") (rMax K) := hK ▸ cr_max hc
theorem cr_sortedSK (hK : X.K = K := by rfl) : CallR X (.builtin "sorted") (rSortedS K) := hK ▸ cr_sortedS
theorem cr_sortedIK (hK : X.K = K := by rfl) : CallR X (.builtin "sorted") (rSortedI K) := hK ▸ cr_sortedI
theorem op_in_seqK (hK : X.K = K := by rfl) : OpR X (compareOp .In) (rIn K false) := hK ▸ op_in_seq
theorem op_notIn_seqK (hK : X.K = K := by rfl) : OpR X (compareOp .NotIn) (rIn K true) := hK ▸ op_notIn_seq
theorem op_eqDK (hu : X.A.units + 64 < cLine) (hK : X.K = K := by rfl) : OpR X (compareOp .Eq) (rEqD K) := hK ▸ op_eqD hu
theorem op_neDK (hu : X.A.units + 64 < cLine) (hK : X.K = K := by rfl) : OpR X (compareOp .NotEq) (rNeD K) := hK ▸ op_neD hu
theorem op_catAK (hK : X.K = K := by rfl) : OpR X (binaryOp .Add) (rCatA K) := hK ▸ op_catA
theorem pi_listK {tg l : Expr} {tl : TE} (hl : PE X l tl) (hK : X.K = K := by rfl) : PI X tg l (iList K tl) := hK ▸ pi_list hl
theorem pi_tupK {tg l : Expr} {tl : TE} (hl : PE X l tl) (hK : X.K = K := by rfl) : PI X tg l (iTup K tl) := hK ▸ pi_tup hl
theorem pi_seqK {tg l : Expr} {tl : TE} (hl : PE X l tl) (hK : X.K = K := by rfl) : PI X tg l (iSeq K tl) := hK ▸ pi_seq hl
theorem pi_enumK {e : Expr} {ta : TA} {p pos tpos : Pos} {elts : List Expr} {kk : Nat} (hg : Gl X "enumerate") (hm : X.mg "enumerate" = none) (ha : PA X [e] ta) (hs : starEach [e] X.env = [(false, eval e X.env)] := by rfl) (hK : X.K = K := by rfl) :
    PI X (.Tuple elts kk tpos) (.Call (.Name "enumerate" p) [e] [] pos) (iEnum K ta) := hK ▸ pi_enum hg hm ha hs
theorem pg_tupK {pos : Pos} {es : List Expr} {k : Nat} {t : TGs} (n : Nat) (hc : X.calm = true) (h : PGs X es t)
    (hn : (assignEach es X.env).length = n := by rfl) (hst : (assignEach es X.env).findIdx? (·.1) = none := by rfl) (hK : X.K = K := by rfl) : PG X (.Tuple es k pos) (gTup K n t) := hK ▸ pg_tup hc h hn hst
theorem pe_orTK {a b : Expr} {rest : List Expr} {pos : Pos} {ta tb : TE} (ha : PE X a ta) (hb : PE X (.BoolOp .Or (b :: rest) pos) tb) (hK : X.K = K := by rfl) : PE X (.BoolOp .Or (a :: b :: rest) pos) (tOrT K ta tb) := hK ▸ pe_orT ha hb
theorem pe_andTK {a b : Expr} {rest : List Expr} {pos : Pos} {ta tb : TE} (ha : PE X a ta) (hb : PE X (.BoolOp .And (b :: rest) pos) tb) (hK : X.K = K := by rfl) : PE X (.BoolOp .And (a :: b :: rest) pos) (tAndT K ta tb) := hK ▸ pe_andT ha hb
theorem pe_bm0K {T : String} {name : Str} {id : String} {r : V → List V → Hp → VK → Prop} {o : Expr} {to : TE} {apos cpos : Pos} (pa : PlainAttrs T) (slot : Slot T name id) (hty : typeOf (.builtin id) = pure (.type "method_descriptor")) (hm : MtR X id r) (ho : PE X o to)
    (hbase : attributeBase o name X.env (eval o X.env) = eval o X.env := by rfl) (hline : (apos.endLine == cpos.line) = true := by rfl) (hK : X.K = K := by rfl) : PE X (.Call (.Attribute o name apos) [] [] cpos) (tBM0 K T r to) := hK ▸ pe_bm0 pa slot hty hm ho hbase hline
theorem pe_bmK {T : String} {name : Str} {id : String} {r : V → List V → Hp → VK → Prop} {o e : Expr} {es : List Expr} {to : TE} {t : TA} {apos cpos : Pos} (pa : PlainAttrs T) (slot : Slot T name id) (hty : typeOf (.builtin id) = pure (.type "method_descriptor")) (hm : MtR X id r) (ho : PE X o to) (ha : PA X (e :: es) t)
    (hbase : attributeBase o name X.env (eval o X.env) = eval o X.env := by rfl)
    (hfew : ((backTo cpos (starEach (e :: es) X.env)).all (fun x => !x.1) && (backToKw cpos (keywordEach [] X.env)).all (fun x => x.1.isSome)
      && decide ((e :: es).length + ([] : List Keyword).length + (if ([] : List Keyword).isEmpty then 0 else 1) < 30)) = true := by rfl)
    (hline : (apos.endLine == cpos.line) = true := by rfl) (hs : starEach (e :: es) X.env = (false, eval e X.env) :: starEach es X.env := by rfl) (hplain : (backTo cpos (starEach es X.env)).any (·.1) = false := by rfl) (hK : X.K = K := by rfl) :
    PE X (.Call (.Attribute o name apos) (e :: es) [] cpos) (tBM K T r to t) := hK ▸ pe_bm pa slot hty hm ho ha hbase hfew hline hs hplain
end
theorem ifT {c : Bool} {A B : Prop} (h : c = true) (a : A) : if c = true then A else B := by rw [if_pos h]; exact a
theorem ifF {c : Bool} {A B : Prop} (h : c = false) (b : B) : if c = true then A else B := by rw [if_neg (by simp [h])]; exact b
theorem if2 {c : Bool} {A B : Prop} (a : c = true → A) (b : c = false → B) : if c = true then A else B := by
  cases c
  · exact ifF rfl (b rfl)
  · exact ifT rfl (a rfl)
end Kt

/-! Own exceptions: made without arguments; kept behind an except clause; asked by isinstance. -/
namespace Kt
open PySem PySem.Spec PyProof.Rows L2
section
variable {X : Cx} {C : Addr} {bmB : List Value} {B newId initId : String}
/-- X() -/
theorem pmk_own0 {x : Str} {p pos : Pos} (F : ExcBaseFacts B newId initId bmB) (q : PySem.W.excIn X.K C bmB newId = true) (gC : X.mg x = some (.ref C)) (kC : PySem.W.keepIn X.K (.ref C) = true) (r : Raises X (.ref C)) (hg : Gl X x)
    (hdb : (x == ("__debug__" : Str)) = false := by decide) : PMk X (.Call (.Name x p) [] [] pos) (fun _ H Q => Q (.ref C) none H) := by
  intro pins s σ H Q I h
  refine wpAny_Call_Name_kw (ld_glob I hg gC ?_ hdb)
  refine PySem.W.callWith_K0 I.kIn kC ?_
  show wpAny _ _ (call (.ref C) []) _ _ _
  obtain ⟨bm, N, nm, qn, bs, hdct, sn, sub, ab, col, dd, k0, k1, k2, k3, k5, mN, hC, hN, hni, T⟩ := exc_obj I.kIn q
  refine wpAny_call_exc_subT F T hC hN hni (fun h' e hm => ?_) (by show 0 ≤ sizeLine; rw [sizeLine_eq]; omega)
  exact mk_of I hm r h (I.hok.gone hm.new)
end

/-- an exception that is kept: its class, its own dict's address -/
def exT (a : Addr) (cls : Value) (d : Option Addr) : HO := .ext fun h => ∃ oe vs, h.get? a = some oe ∧ Zc cls d oe ∧ oe.data = .fields vs
theorem exT_ok {P : Program} {w : World} {H : Hp} {h : Heap} {a : Addr} {cls : Value} {d : Option Addr} {oe : Obj} {vs : Array Value} (e : h.get? a = some oe) (z : Zc cls d oe) (hd : oe.data = .fields vs) : ObjOk P w H h a (exT a cls d) :=
  ⟨⟨oe, vs, e, z, hd⟩, ⟨oe, e⟩, fun h1 h2 ⟨oe, vs, e, z, hd⟩ k => ⟨oe, vs, k _ e, z, hd⟩⟩
section
variable {X : Cx} {pins : List (Addr × Obj)} {σ : L2.St} {H : Hp} {s : Shared}
/-- a pinned object that is new since the entry is tracked from now on -/
theorem track {a : Addr} {oe : Obj} {vs : Array Value} {cls : Value} {d : Option Addr} (I : Inv X ((a, oe) :: pins) σ H s) (hex : X.ex = []) (z : Zc cls d oe) (hd : oe.data = .fields vs) (n0 : X.s_0.heap.get? a = none)
    (nC : ∀ x c, X.env.cells.lookup x = some c → c ≠ a) (np : ∀ p ∈ X.pn ++ pins, p.1 ≠ a) : Inv X pins σ (upd H a (exT a cls d)) s := by
  obtain ⟨he, ha, hL, hF, _⟩ := I.pin (a, oe) (by simp)
  refine ⟨I.ok, I.os, I.bare, ⟨I.base.keep, I.base.slot, fun b o e n hx => ?_, I.base.there, fun b xs e => ?_, fun b o u e => ?_, fun b ps e => ?_⟩, I.loc, I.cell, ?_, fun x c e => ?_, fun p hp => ?_, fun b o e => ?_, I.len⟩
  · have : b ≠ a := by rintro rfl; rw [n0] at e; cases e
    rw [upd_ne this]; exact I.base.free b o e n hx
  · have h1 := I.base.tups b xs e
    have : b ≠ a := by rintro rfl; rw [ha] at h1; cases h1
    rw [upd_ne this]; exact h1
  · have h1 := I.base.frzs b o u e
    have : b ≠ a := by rintro rfl; rw [ha] at h1; cases h1
    rw [upd_ne this]; exact h1
  · obtain ⟨more, h1⟩ := I.base.tbls b ps e
    have : b ≠ a := by rintro rfl; rw [ha] at h1; cases h1
    exact ⟨more, by rw [upd_ne this]; exact h1⟩
  · rw [upd_ne (Ne.symm hL)]; exact I.free
  · rw [upd_ne (nC x c e)]; exact I.freeC x c e
  · have hp' : p ∈ X.pn ++ ((a, oe) :: pins) := by
      rcases List.mem_append.mp hp with h | h
      · exact List.mem_append_left _ h
      · exact List.mem_append_right _ (List.mem_cons_of_mem _ h)
    obtain ⟨h1, h2, h3⟩ := I.pin p hp'
    exact ⟨h1, by rw [upd_ne (np p hp)]; exact h2, h3⟩
  · by_cases hb : b = a
    · subst hb
      rw [upd_same] at e
      cases e
      exact exT_ok he z hd
    · rw [upd_ne hb] at e
      refine (I.hok b o e).stay (fun c u _ h => h) (fun c hc => ?_) (fun c xs hc => ?_)
      · have : c ≠ a := by rintro rfl; rw [ha] at hc; cases hc
        rw [upd_ne this]; exact hc
      · have : c ≠ a := by rintro rfl; rw [ha] at hc; cases hc
        rw [upd_ne this]; exact hc
end

/-- what the clause 'except x as n' wishes of an exception of the body, the exception kept behind it -/
def wAsT (K : PySem.W.Frag) (c : Value) (i : Nat) (ts : Addr → Value → Option Addr → TS) (Wout : WX) (D : Ends) : WX := fun cls d σ H =>
  ∃ b, PySem.W.exmOne K cls c = some b ∧ (b = true → ∀ a, H a = none → ts a cls d { nx := fun σ' H' => D.nx (σ'.set i none) (upd H' a (exT a cls d)), rt := D.rt, bk := fun σ' H' => D.bk (σ'.set i none) H', ct := fun σ' H' => D.ct (σ'.set i none) H' } (σ.set i (some (.ref a))) H) ∧
    (b = false → Wout cls d σ H)
section
variable {X : Cx} {x n : Str} {c : Value} {i : Nat} {body suite : List Stmt} {b₀ : Stmt} {np pos pos' : Pos} {tb : WX → TS} {ts : Addr → Value → Option Addr → TS} {Wout : WX}
/-- what is known where an exception has come down at this frame -/
structure Come (X : Cx) (pins : List (Addr × Obj)) (τ : L2.St) (Hx : Hp) (a : Addr) (cls : Value) (d : Option Addr) (Bg hh : Heap) (s' : Shared) : Prop where
  inv : Inv X pins τ Hx { s' with heap := hh }
  fly : HandSPX.FlyingZ Bg (X.env :: X.outer) a (Zc cls d) hh
  out : Hx a = none
  loc : a ≠ X.env.locals
  fr : a ∉ X.fs
  new0 : X.ex = [] → X.s_0.heap.get? a = none
  cel : ∀ y c, X.env.cells.lookup y = some c → c ≠ a
  pns : ∀ p ∈ X.pn ++ pins, p.1 ≠ a
/-- .. and its flight is set down once more -/
theorem Come.again {pins : List (Addr × Obj)} {τ : L2.St} {Hx : Hp} {a : Addr} {cls : Value} {d : Option Addr} {Bg hh h2 : Heap} {s' : Shared} {sI : Shared} (k : Come X pins τ Hx a cls d Bg hh s') (I0 : Inv X pins τ Hx sI)
    (nb : ∀ b o, sI.heap.get? b = some o → b ∉ frs X.stack → Bg.get? b = some o) (up : sI.heap.UpToSlots h2) (os : s'.os = sI.os) (ag : AllBare s'.gens) (fl : HandSPX.FlyingZ Bg (X.env :: X.outer) a (Zc cls d) h2) : Come X pins τ Hx a cls d Bg h2 s' :=
  ⟨I0.landed (s' := { s' with heap := h2 }) nb fl.1 up os ag, fl, k.out, k.loc, k.fr, k.new0, k.cel, k.pns⟩
theorem come_of {pins : List (Addr × Obj)} {τ : L2.St} {Hx : Hp} {a : Addr} {cls : Value} {d : Option Addr} {Bg hh : Heap} {s' sI : Shared} (hs : X.stack = X.env :: X.outer) (hf : X.env.frame = some X.env.locals) (I0 : Inv X pins τ Hx sI)
    (nb : ∀ b o, sI.heap.get? b = some o → b ∉ frs X.stack → Bg.get? b = some o) (up : sI.heap.UpToSlots hh) (out : Hx a = none) (os : s'.os = sI.os) (ag : AllBare s'.gens) (fl : HandSPX.FlyingZ Bg (X.env :: X.outer) a (Zc cls d) hh) : Come X pins τ Hx a cls d Bg hh s' := by
  obtain ⟨ob, fv, gob, _, dob⟩ := fl.there
  have clear : a ∉ frs (X.env :: X.outer) := by
    intro mem
    obtain ⟨_, ob2, gob2, bad⟩ := fl.2.2.1.mem mem
    have same : ob = ob2 := Option.some.inj (gob.symm.trans gob2)
    exact bad fv (same ▸ dob)
  have gone : sI.heap.get? a = none := by
    rcases hz : sI.heap.get? a with _ | ob2
    · rfl
    · exact absurd ((nb a ob2 hz (hs ▸ clear)).symm.trans fl.2.1) (by simp)
  have lost : ∀ {o : Obj}, sI.heap.get? a ≠ some o := fun {o} z => by rw [gone] at z; cases z
  refine ⟨I0.landed (s' := { s' with heap := hh }) nb fl.1 up os ag, fl, out, fun z => clear ?_, fun z => clear ?_, fun hex => ?_, fun y c e z => ?_, fun p hp z => ?_⟩
  · exact List.mem_filterMap.mpr ⟨X.env, List.mem_cons_self .., z ▸ hf⟩
  · obtain ⟨ev, mev, qev⟩ := List.mem_filterMap.mp z
    exact List.mem_filterMap.mpr ⟨ev, List.mem_cons_of_mem _ mev, qev⟩
  · rcases hz : X.s_0.heap.get? a with _ | ob2
    · rfl
    · obtain ⟨ob3, there⟩ := I0.base.there a ob2 hz (by rw [hex]; exact List.not_mem_nil)
      exact absurd there lost
  · obtain ⟨val, o, go, _⟩ := I0.cell y c e
    exact lost (z ▸ go)
  · exact lost (z ▸ (I0.pin p hp).1)
/-- the suite is through: the name goes, the exception is tracked -/
theorem keep_end {M : Model} {A : Around} {E : Value → Shared → Prop} {pins : List (Addr × Obj)} {τ : L2.St} {Hx H6 : Hp} {σ6 : L2.St} {a : Addr} {cls : Value} {d : Option Addr} {Bg hh : Heap} {s' s6 : Shared} {oe : Obj} {fv : Array Value} {Q : Shared → Prop}
    (k : Come X pins τ Hx a cls d Bg hh s') (hex : X.ex = []) (hN : X.N.Nodup) (hi : X.N[i]? = some n) (hln : X.env.kindOf n = some .local) (z : Zc cls d oe) (dob : oe.data = .fields fv)
    (I6 : Inv (X.suite a ((a, oe) :: (X.pn ++ pins))) [] σ6 H6 s6) (q : ∀ s7, Inv X pins (σ6.set i none) (upd H6 a (exT a cls d)) s7 → Q s7) :
    wpAny M A (do bindName X.env n .none; unbindBehindTheSuite X.env n pos') (fun _ s7 => Q s7) E s6 := by
  have wide : ∀ p ∈ X.pn ++ (a, oe) :: pins, p ∈ ((a, oe) :: (X.pn ++ pins)) ++ [] := by
    intro p hp
    simp only [List.mem_append, List.mem_cons] at hp ⊢
    rcases hp with h | h | h
    · exact .inl (.inr (.inl h))
    · exact .inl (.inl h)
    · exact .inl (.inr (.inr h))
  have I6' : Inv X ((a, oe) :: pins) σ6 H6 s6 :=
    { ok := k.inv.ok, os := I6.os, bare := I6.bare, base := I6.base, loc := I6.loc, cell := I6.cell, free := I6.free, freeC := I6.freeC, pin := fun p hp => I6.pin p (wide p hp), hok := I6.hok, len := I6.len }
  exact gone_ok I6' hN hi hln fun s7 I7 => q s7 (track I7 hex z dob (k.new0 hex) k.cel k.pns)
/-- try: .. except x as n: suite, the exception kept (an object of its own) behind the suite's end -/
theorem ps_try_asT (hex : X.ex = []) (hs : X.stack = X.env :: X.outer) (hf : X.env.frame = some X.env.locals) (hN : X.N.Nodup) (hi : X.N[i]? = some n) (hln : X.env.kindOf n = some .local) (hc : Names X x c) (tk : Takes X Wout)
    (hb : ∀ (W : WX) (pn : List (Addr × Obj)) (xe : Value → Shared → Prop), Takes (X.tr pn xe) W → PassesOwn (model X.prog X.w) X.A X.env xe → PSs (X.tr pn xe) body (tb W))
    (hsu : ∀ (a : Addr) (oe : Obj) (cls : Value) (d : Option Addr) (pn : List (Addr × Obj)), Zc cls d oe → (∃ vs, oe.data = .fields vs) → PSs (X.suite a ((a, oe) :: pn)) (b₀ :: suite) (ts a cls d)) :
    PS X (.Try body [.ExceptHandler (some (.Name x np)) (some n) (b₀ :: suite) pos'] [] [] pos) (fun D σ H => tb (wAsT X.K c i ts Wout D) D σ H) where
  run pins s σ H D I h := by
    have okX := I.ok
    have frX : X.A.frames = some (X.env :: X.outer) := hs ▸ okX.frames
    refine wpAny_Try_except (wpAny_mono ((hb (wAsT X.K c i ts Wout D) (X.pn ++ pins) _ ?thrown PassesOwn.looking).run [] s σ H D (I.toTry _) h) ?through fun _ _ z => z)
    case through =>
      intro fl st hfl
      cases fl with
      | next => obtain ⟨σ1, H1, I1, q1⟩ := hfl; exact wpAny_execs_nil ⟨σ1, H1, I1.ofTry okX, q1⟩
      | brk => obtain ⟨σ1, H1, I1, q1⟩ := hfl; exact ⟨σ1, H1, I1.ofTry okX, q1⟩
      | cont => obtain ⟨σ1, H1, I1, q1⟩ := hfl; exact ⟨σ1, H1, I1.ofTry okX, q1⟩
      | ret u => obtain ⟨v1, σ1, H1, I1, r1, q1⟩ := hfl; exact ⟨v1, σ1, H1, I1.ofTry okX, r1, q1⟩
    case thrown =>
      rintro _ st ⟨a, Bg, sI, _, τ, Hx, cls, d, rfl, It, nb, up, sky, out, os, ag, b, fits, yes, no⟩
      have I0 : Inv X pins τ Hx sI := It.ofTry okX
      refine Sky.land Zc.steady frX hf (hs ▸ sky) fun hA flA upA => ?_
      have kA := come_of (s' := st) hs hf I0 nb (up.trans upA) out os ag flA
      obtain ⟨obA, fvA, gA, zA, dA⟩ := flA.there
      have IA := kA.inv.suite gA dA kA.out kA.loc kA.fr
      have asks : ∀ {R : Value → Shared → Prop} {F : Value → Shared → Prop}, R c { st with heap := hA } → wpAny (model X.prog X.w) (X.A.mark (some (.ref a))) (eval (.Name x np) X.env) R F { st with heap := hA } := by
        intro R F r
        rcases hc with ⟨glob, nodebug, here | ⟨notHere, builtin, notName⟩⟩
        · exact ld_glob (X := X.suite a ((a, obA) :: (X.pn ++ pins))) IA glob here r nodebug
        · exact ld_blt (X := X.suite a ((a, obA) :: (X.pn ++ pins))) IA glob notHere builtin r notName nodebug
      have kind : PySem.W.Looks (model X.prog X.w) hA (typeOf (.ref a)) cls := fun _ _ _ _ kp r => wpAny_typeOf_ref (kp _ _ gA) (zA.1 ▸ r)
      refine wpAny_handleBy_cons (codeAny_handlers_test (asks ((PySem.W.exm_one kA.inv.kIn kind fits).here ?_))) nofun
      cases b with
      | false =>
        refine wpAny_handleBy_nil ?_
        obtain ⟨_, _, _, ob, fv, Tr, _, _, go, _, dob, first, _⟩ := id flA
        have on : wpAny (model X.prog X.w) X.A (setFlight (.ref a) X.env.frame) (fun _ s4 => wpAny (model X.prog X.w) X.A (throw (.ref a) : Sem Flow) (SP X pins D) X.xe s4) X.xe { st with heap := hA } := by
          rw [hf]
          exact HandSPX.setFlight_upZ flA fun hB held upB => wpAny_throw (tk _ _ ⟨a, Bg, sI, pins, τ, Hx, cls, d, rfl, I0, nb, (up.trans upA).trans upB, .inr (.inr (hs.symm ▸ held)), out, os, ag, no rfl⟩)
        unfold PySem.passOn
        refine wpAny_bind (wpAny_field go dob first ?_)
        rw [if_neg (by simp : ¬ (Value.ref Tr == Value.none) = true)]
        first
          | exact wpAny_bind on
          | exact wpAny_bind (wpAny_pure (wpAny_bind on))
      | true =>
        refine codeAny_handlers_suite_as (HandSPX.lands_againZ flA fun hB flB upB => ?_)
        have kB := kA.again I0 nb ((up.trans upA).trans upB) os ag flB
        obtain ⟨obB, fvB, gB, zB, dB⟩ := flB.there
        refine store_ok (X := X.suite a ((a, obB) :: (X.pn ++ pins))) (v := .ref a) (kB.inv.suite gB dB kB.out kB.loc kB.fr) hN hi (.inl hln) rfl (fun s5 I5 => ?_) (.inr hln)
        refine wpAny_mono ((hsu a obB cls d (X.pn ++ pins) zB ⟨_, dB⟩).run [] s5 _ Hx _ I5 (yes rfl a out)) (fun fl s6 hfl => ?_) fun _ _ z => z.elim
        cases fl with
        | next => obtain ⟨σ6, H6, I6, q6⟩ := hfl; exact keep_end kB hex hN hi hln zB dB I6 fun s7 I7 => ⟨_, _, I7, q6⟩
        | brk => obtain ⟨σ6, H6, I6, q6⟩ := hfl; exact gone_ok (I6.unsuite okX) hN hi hln fun s7 I7 => ⟨_, _, I7, q6⟩
        | cont => obtain ⟨σ6, H6, I6, q6⟩ := hfl; exact gone_ok (I6.unsuite okX) hN hi hln fun s7 I7 => ⟨_, _, I7, q6⟩
        | ret u => obtain ⟨v6, σ6, H6, I6, r6, q6⟩ := hfl; exact gone_ok (I6.unsuite okX) hN hi hln fun s7 I7 => ⟨_, _, _, I7, r6, q6⟩
end

theorem takes_no {X : Cx} : Takes X (fun _ _ _ _ => False) := fun _ _ ⟨_, _, _, _, _, _, _, _, _, _, _, _, _, _, _, _, f⟩ => f.elim
/-- whatever the slots hold -/
theorem passes_len {X : Cx} {W : WX} (n : Nat) (tk : Takes X W) (hn : X.N.length = n := by rfl) : Passes (L2.CX X.prog X.w) X (fun cls d H => ∀ σ : L2.St, σ.length = n → W cls d σ H) := fun _ σ _ _ e s' I c => tk e s' (XE.of_call I (fun _ _ _ h => h σ (I.len.trans hn)) c)
/-- isinstance(e, c), e a kept exception of an own class without an own dict -/
def rIsT (K : PySem.W.Frag) : List V → Hp → VK → Prop := fun xs H Q => ∃ (a D : Addr) (c : V) (cv : Value) (b : Bool), xs = [.ref a, c] ∧ H a = some (exT a (.ref D) none) ∧ ExcC K D ∧ ClsV c cv ∧ PySem.W.kitOne K (.ref D) cv = some b ∧ Q (.bl b) H
theorem call_isT {X : Cx} (K : PySem.W.Frag) (hK : X.K = K := by rfl) : CallR X (.builtin "isinstance") (rIsT K) := by
  subst hK
  intro pins s σ H xs us Q I r h
  obtain ⟨a, D, c, cv, b, rfl, ha, C, hcv, e, q⟩ := h
  cases r with
  | cons rx rr =>
    cases rr with
    | cons rt rr =>
      cases rr
      cases rx
      have ec := hcv.eq rt
      subst ec
      obtain ⟨⟨oe, vs, hget, hz, hv⟩, _, _⟩ := I.hok a _ ha
      have J : PySem.W.InstAt s.heap a oe D none := by
        obtain ⟨oc, od, oda, osl⟩ := oe
        obtain ⟨h1, h2⟩ := hz
        dsimp only at h1 h2 hv
        subst h1 h2 hv
        exact ⟨hget, rfl, rfl, trivial⟩
      exact PySem.W.kia_one (PySem.W.handS_kitx_exc C.hg C.hk C.hs C.hd C.ha C.hn C.ht C.hm) I.kIn J e (fun z => nomatch z) fun tk => ⟨.bl b, H, I.kept (t' := tk) fun _ _ z => z, rfl, q⟩
end Kt

/-! Own exceptions over ValueError whose __init__ begins by super().__init__(..): the def by its rest. -/
namespace Kt
open PySem PySem.Spec PyProof.Rows L2 PySem.W
section
variable {X : Cx} {pins : List (Addr × Obj)} {σ : L2.St} {H : Hp} {s : Shared} {a C u : Addr} {Q : Value → Shared → Prop} {E : Value → Shared → Prop} {A : Around}
/-- the wrapper that super().__init__ gives, called -/
theorem mw_ok {us : List Value} (T : OexC X.K C) (I : Inv X pins σ H s) (e : H a = some (exo a C none)) (hu : s.heap.get? u = some (kxs_mw "ValueError.__init__" a)) (hl : us.length ≤ sizeLine) (h : ∀ s', Inv X pins σ H s' → Q .none s') :
    wpAny (model X.prog X.w) A (call (.ref u) us) Q E s := by
  obtain ⟨nm, q, N, bs, bm, sn, sub, ab, col, dd, k0, k1, k2, k3, k5, hC, hbm⟩ := T.cls
  obtain ⟨t1, ho⟩ := exo_at I.hok e
  have hCh := I.kIn _ _ hC
  obtain ⟨hp, g, d, t, os⟩ := s
  refine wpAny_call (codeAny_of_tree ?_)
  show wpAny _ A.in1 (callAny (.ref u) ⟨us, []⟩) _ _ _
  simp only [callAny]
  refine wpAny_bind (wpAny_load hu ?_)
  simp only [kxs_mw, show (Value.type "method-wrapper" == Value.type "method" || Value.type "method-wrapper" == Value.type "builtin_function_or_method" || Value.type "method-wrapper" == Value.type "method-wrapper") = true by decide, if_true]
  refine KFB.if_so (by decide) ?_
  refine wpAny_bind (check_bound_init F.excBase_ValueError.toExcCallFacts hCh ho rfl ?_)
  refine wpAny_bind (wpAny_pure (wpAny_pure ?_))
  refine ⟨plainId_quiet F.excBase_ValueError.init.plain _, codeAny_builtin F.excBase_ValueError.initEntry ?_⟩
  refine exc_init_tree (cls := .ref C) (t0 := t1) (dv := none) (c2 := .none) (c3 := .none) (b4 := .bool false) ho hl fun h' k hx ht => ?_
  have J := I.write (t' := t) (x := a) (e := a) (o := exo a C none) (by rw [e]; exact True.intro) (.inl rfl) k ⟨_, hx⟩ (exo_ok hx)
  have eu : upd H a (exo a C none) = H := by
    funext b
    by_cases hb : b = a
    · rw [hb, upd_same, e]
    · rw [upd_ne hb]
  rw [eu] at J
  exact h _ J
theorem Inv.less {p : Addr × Obj} (I : Inv X (p :: pins) σ H s) : Inv X pins σ H s :=
  { ok := I.ok, os := I.os, bare := I.bare, base := I.base, loc := I.loc, cell := I.cell, free := I.free, freeC := I.freeC, hok := I.hok, len := I.len,
    pin := fun q hq => I.pin q (by
      rcases List.mem_append.mp hq with h | h
      · exact List.mem_append_left _ h
      · exact List.mem_append_right _ (List.mem_cons_of_mem _ h)) }
theorem Inv.more {p : Addr × Obj} (I : Inv X pins σ H s) (h1 : s.heap.get? p.1 = some p.2) (h2 : H p.1 = none) (h3 : p.1 ≠ X.env.locals) (h4 : p.1 ∉ X.fs) (h5 : ∀ v, p.2.data ≠ .cell v) : Inv X (p :: pins) σ H s :=
  { ok := I.ok, os := I.os, bare := I.bare, base := I.base, loc := I.loc, cell := I.cell, free := I.free, freeC := I.freeC, hok := I.hok, len := I.len,
    pin := fun q hq => by
      rcases List.mem_append.mp hq with h | h
      · exact I.pin q (List.mem_append_left _ h)
      · rcases List.mem_cons.mp h with rfl | h
        · exact ⟨h1, h2, h3, h4, h5⟩
        · exact I.pin q (List.mem_append_right _ h) }
end
section
variable {X : Cx} {pins : List (Addr × Obj)} {σ : L2.St} {H : Hp} {s : Shared} {a C f cda cc : Addr} {fd : FuncData} {ar : Arg} {vs0 : Array Value} {file : Str} {tf : Tok} {oc ccl cl : Value} {od cdd cld : Option Addr} {osl ccs csl : Array (Option Value)}
  {e : Expr} {es : List Expr} {ta : TA} {p0 p1 p2 p3 : Pos} {body : List Stmt} {R : Hp → Prop}
/-- super().__init__(..) in the __init__ of an own exception over ValueError -/
theorem super_init {pl : Sem Bool} (hks : X.env.kindOf "super" = some .globalImplicit) (hkc : X.env.kindOf "__class__" = some .free) (hfu : X.env.func = some f) (hco : X.env.code = .ref cda) (hcl : X.env.cells.lookup ("__class__" : Str) = some cc)
    (lk : X.K.lookup f = some ⟨oc, od, .func fd, osl⟩) (hp : (fd.params.posonlyargs ++ fd.params.args).head? = some ar) (har : X.env.kindOf ar.arg = some .local) (h0 : X.N[0]? = some ar.arg)
    (hcode : X.K.lookup cda = some ⟨ccl, cdd, .fields vs0, ccs⟩) (hvs : vs0[2]? = some (.str file tf)) (hfile : ((X.prog.main.file : Str) == file) = true) (htop : (X.prog.main.scope.names.lookup ("super" : Str)).isSome = false)
    (hcell : X.K.lookup cc = some ⟨cl, cld, .cell (some (.ref C)), csl⟩) (hsup : X.mg "super" = none)
    (T : OexC X.K C) (hm1 : mroIn X.K C (.ref C) = some true) (hmv : mroIn X.K C (.type "ValueError") = some true) (hop : nsIn X.K cStatics "thirdparty.any" = some none) (hsi : ks_superIn X.K C C "__init__" = some (some (.builtin "ValueError.__init__")))
    (ha : PA X (e :: es) ta) (I : Inv X pins σ H s) (hs0 : σ[0]? = some (some (.ref a))) (hex : H a = some (exo a C none))
    (h : ta σ H fun ws H1 => ws.length ≤ 1000 ∧ H1 a = some (exo a C none) ∧ R H1)
    (hev : eval (.Call (.Attribute (.Call (.Name "super" p0) [] [] p1) "__init__" p2) (e :: es) [] p3) X.env = (do
      let ov ← attributeBase (.Call (.Name "super" p0) [] [] p1) "__init__" X.env (eval (.Call (.Name "super" p0) [] [] p1) X.env)
      standAt p2.atName
      let (f, first) ← holding [ov] (getMethod ov "__init__" pl)
      callWith p3 f first (backTo p3 (starEach (e :: es) X.env)) []) := by rfl)
    (he : starEach (e :: es) X.env = (false, eval e X.env) :: starEach es X.env := by rfl) (hpl : (backTo p3 (starEach es X.env)).any (·.1) = false := by rfl) :
    _root_.PySem.wpAt (model X.prog X.w) X.A (.func body X.env) (eval (.Call (.Attribute (.Call (.Name "super" p0) [] [] p1) "__init__" p2) (e :: es) [] p3) X.env) (fun _ s' => ∃ H1, Inv X pins σ H1 s' ∧ R H1) X.xe s := by
  refine ks_wpAt_MethodCall ?_ hev
  have hC : ∃ cd, clsIn X.K C = some cd := by
    cases hc : clsIn X.K C with
    | some cd => exact ⟨cd, rfl⟩
    | none => unfold mroIn at hm1; rw [hc] at hm1; cases hm1
  obtain ⟨cd, hcd⟩ := hC
  obtain ⟨oD, hD1, hD2⟩ : ∃ oD, X.K.lookup C = some oD ∧ oD.data = .cls cd := by
    unfold clsIn at hcd
    split at hcd
    · rename_i c d cd' sl ho
      cases hcd
      exact ⟨_, ho, rfl⟩
    · cases hcd
  obtain ⟨t1, hox⟩ := exo_at I.hok hex
  have inst : InstAt s.heap a ({ cls := .ref C, dict := none, data := .fields #[.ref t1, .none, .none, .none, .bool false, .none] } : Obj) C none := ⟨hox, rfl, rfl, trivial⟩
  have KX := I.kIn
  obtain ⟨mb, b1, b2⟩ := I.mod.blt
  refine ks_wpAt_super_base (env := X.env) hks hkc (by decide) hfu (KX _ _ lk) rfl hp hco (KX _ _ hcode) rfl hvs hfile htop ?_
  refine ks_loadName_global I.ok.kind hks (Calls.loadGlobal_builtin (by rw [I.ok.glob]; exact I.mod.glob.keeps I.bk) hsup (by rw [I.ok.blt]; exact b1.keeps I.bk) ((b2 "super" (by decide)).trans (by decide +kernel : bootBuiltins "super" = some (.type "super"))) ⟨rfl, ?_⟩)
  refine wpAny_loadName_free I.ok.kind hkc hcl ⟨_, KX _ _ hcell, rfl⟩ ?_
  obtain ⟨m, hns, hloc⟩ := I.loc
  obtain ⟨u0, ru, lk0⟩ := hloc 0 ar.arg (.ref a) h0 hs0 (.inl har)
  have eu0 : u0 = .ref a := ru
  subst eu0
  have hm0 : m ar.arg = some (.ref a) := by
    rcases lk0 with ⟨_, z⟩ | ⟨z, _⟩
    · exact z
    · rw [har] at z; rcases z with z | z <;> cases z
  refine wpAny_loadName_local I.ok.kind har hns hm0 ?_
  obtain ⟨hh, g, d, t, os⟩ := s
  refine ks_wpAny_isType_cls (KX _ _ hD1) hD2 ⟨rfl, ?_⟩
  refine ks_wpAny_call_super (KX _ _ hD1) hD2 hox rfl (fun c z => by cases z) (looks_mroIn KX hm1) (fun h' es' kp => ?_)
  have I1 : Inv X pins σ H ⟨h', g, d, t, os⟩ := I.kept (t' := t) kp
  have KX1 : X.K.In h' := I1.kIn
  obtain ⟨t2, hox1⟩ := exo_at I1.hok hex
  have inst1 : InstAt h' a ({ cls := .ref C, dict := none, data := .fields #[.ref t2, .none, .none, .none, .bool false, .none] } : Obj) C none := ⟨hox1, rfl, rfl, trivial⟩
  refine kxs_getMethod kxs_ValueError es' (looks_opaque KX1 hop) (l₀ := cd.mro) (fun A Q E s k q => wpAny_bind ((looks_clsIn KX1 hcd) A _ E s k (wpAny_pure q))) rfl KX1 (by
    unfold ks_superIn at hsi; rw [hcd] at hsi; exact hsi) (inst1.type.andThen (looks_mroIn KX1 hmv)) (ks_ne KX1 inst1 hcd) (by decide) ?_
  have kp2 : ∀ b u, h'.get? b = some u → (h'.push (kxs_mw "ValueError.__init__" a)).get? b = some u := fun b u z => Heap.get?_push_of_some _ z
  have I2 : Inv X pins σ H ⟨h'.push (kxs_mw "ValueError.__init__" a), g, d, t + 1, os⟩ := I1.kept (t' := t + 1) kp2
  have hu : (h'.push (kxs_mw "ValueError.__init__" a)).get? h'.objs.size = some (kxs_mw "ValueError.__init__" a) := Heap.get?_push_size _ rfl
  have I3 : Inv X ((h'.objs.size, kxs_mw "ValueError.__init__" a) :: pins) σ H ⟨h'.push (kxs_mw "ValueError.__init__" a), g, d, t + 1, os⟩ :=
    Inv.more I2 hu (I1.hok.fresh (Nat.le_refl _)) (Nat.ne_of_gt I1.lt) (I1.nofs (Nat.le_refl _)) (fun v z => by cases z)
  have run := ha.run p3 _ _ σ H _ I3 h
  rw [he] at run ⊢
  refine kxs_callWith (i := "ValueError.__init__") (x := a) (by show (false || (backTo p3 (starEach es X.env)).any (·.1)) = false; rw [hpl]; rfl) (PySem.Calls.evalArgs_plain ?_)
  refine thn run fun us s1 ⟨ws, H1, I4, r1, hl, ea, q⟩ => ?_
  have hu1 := (I4.pin (h'.objs.size, kxs_mw "ValueError.__init__" a) (List.mem_append_right _ (List.mem_cons_self ..))).1
  refine ⟨hu1, mw_ok T (Inv.less I4) ea hu1 (by show us.length ≤ sizeLine; rw [← Paired.length r1, sizeLine_eq]; omega) fun s' J => ⟨H1, J, q⟩⟩
end
/-- what the written part says of such an __init__ -/
structure IniF (P : Program) (K : PySem.W.Frag) (mg : Str → Option Value) (qual : Str) (st : Stmt) (C f : Addr) (fd : FuncData) : Prop where
  ex : ∃ (oc ccl cl dV kV doc pm ct : Value) (od cdd cld an : Option Addr) (osl ccs csl : Array (Option Value)) (cda cc : Addr) (vs0 : Array Value) (file : Str) (tf : Tok),
    fd = ksFn "__init__" qual (defArgs st) (defBody st) (defScope st) dV kV doc pm an (.ref cda) ct cc ∧ K.lookup f = some ⟨oc, od, .func fd, osl⟩ ∧ codeIn K (.ref cda) qual = true ∧
    K.lookup cda = some ⟨ccl, cdd, .fields vs0, ccs⟩ ∧ vs0[2]? = some (.str file tf) ∧ ((P.main.file : Str) == file) = true ∧ K.lookup cc = some ⟨cl, cld, .cell (some (.ref C)), csl⟩
  top : (P.main.scope.names.lookup ("super" : Str)).isSome = false
  sup : mg "super" = none
  T : OexC K C
  m1 : mroIn K C (.ref C) = some true
  mv : mroIn K C (.type "ValueError") = some true
  op : nsIn K cStatics "thirdparty.any" = some none
  si : ks_superIn K C C "__init__" = some (some (.builtin "ValueError.__init__"))
theorem cells_class {K : PySem.W.Frag} {mg : Str → Option Value} {P : Program} {w : World} {base : Heap} {A : Around} {outer : List Env} {s : Shared} {H : Hp} {C cc : Addr} {cl : Value} {cld : Option Addr} {csl : Array (Option Value)}
    (e0 : Env0 P w K mg base A outer s H) (hc : K.lookup cc = some ⟨cl, cld, .cell (some (.ref C)), csl⟩) : NdefX.CellsAt [("__class__", cc)] ["__class__"] [some (.ref C)] s.heap H := by
  have hb := e0.bs cc _ (e0.mod.kin _ _ hc)
  have look : ∀ (y : Str) (c : Addr), ([(("__class__" : Str), cc)] : List (Str × Addr)).lookup y = some c → y = "__class__" ∧ c = cc := fun y c z => by
    unfold List.lookup at z
    split at z
    · rename_i h
      exact ⟨beq_iff_eq.mp h, (Option.some.inj z).symm⟩
    · cases z
  refine ⟨rfl, fun y c z => ?_, fun x y c z1 z2 => ?_, fun i y z => ?_⟩
  · obtain ⟨_, rfl⟩ := look y c z
    exact ⟨hb.2, _, _, hb.1, rfl⟩
  · rw [(look x c z1).1, (look y c z2).1]
  · match i, z with
    | 0, z =>
      cases z
      refine ⟨cc, rfl, fun v hv => ?_⟩
      cases hv
      exact ⟨.ref C, rfl, _, hb.1, rfl⟩
/-- THE RULE: such an __init__ by the arguments of super().__init__ and by the rest -/
theorem IniF.ok {CX : CXT} {P : Program} {w : World} {K : PySem.W.Frag} {mg : Str → Option Value} {base : Heap} {k : Nat} {qual : Str} {st : Stmt} {C f : Addr} {fd : FuncData} {N ps : List Str} {sp : Sp} {pl : Sem Bool} {e : Expr} {es : List Expr} {p0 p1 p2 p3 p4 : Pos} {rest : List Stmt} {ar : Arg}
    (F : IniF P K mg qual st C f fd) (S : NdefX.NScope N ps ["__class__"] (defScope st)) (hks : (defScope st).names.lookup ("super" : Str) = some .globalImplicit)
    (hbody : defBody st = .Expr (.Call (.Attribute (.Call (.Name "super" p0) [] [] p1) "__init__" p2) (e :: es) [] p3) p4 :: rest)
    (hp : ((defArgs st).posonlyargs ++ (defArgs st).args).head? = some ar) (h0 : N[0]? = some ar.arg) (har : (defScope st).names.lookup ar.arg = some .local)
    (len : ∀ vs H Q E, sp vs H Q E → vs.length = ps.length)
    (hb : ∀ (cda cc : Addr) (A : Around) (outer : List Env) (s : Shared) (H : Hp) (vs : List V) (Q : VK) (E : XK), sp vs H Q E → ∃ (a : Addr) (ta : TA) (t : TS), vs[0]? = some (.ref a) ∧ H a = some (exo a C none) ∧
      PA (NdefX.ncx CX P w K mg base N ⟨"__init__", qual, defArgs st, defBody st, defScope st, [("__class__", cc)], cda⟩ f A outer s H E) (e :: es) ta ∧
      PSs (NdefX.ncx CX P w K mg base N ⟨"__init__", qual, defArgs st, defBody st, defScope st, [("__class__", cc)], cda⟩ f A outer s H E) rest t ∧
      ta (NdefX.startF N vs [some (.ref C)]) H fun ws H1 => ws.length ≤ 1000 ∧ H1 a = some (exo a C none) ∧ t { nx := fun _ H' => Q .non H', rt := Q } (NdefX.startF N vs [some (.ref C)]) H1)
    (hev : ∀ env : Env, eval (.Call (.Attribute (.Call (.Name "super" p0) [] [] p1) "__init__" p2) (e :: es) [] p3) env = (do
      let ov ← attributeBase (.Call (.Name "super" p0) [] [] p1) "__init__" env (eval (.Call (.Name "super" p0) [] [] p1) env)
      standAt p2.atName
      let (f, first) ← holding [ov] (getMethod ov "__init__" pl)
      callWith p3 f first (backTo p3 (starEach (e :: es) env)) []) := by intro _; rfl)
    (he : ∀ env : Env, starEach (e :: es) env = (false, eval e env) :: starEach es env := by intro _; rfl) (hpl : ∀ env : Env, (backTo p3 (starEach es env)).any (·.1) = false := by intro _; rfl) :
    FnOk P w K mg base CX (k + 1) f fd ps sp := by
  obtain ⟨oc, ccl, cl, dV, kV, doc, pm, ct, od, cdd, cld, an, osl, ccs, csl, cda, cc, vs0, file, tf, rfl, lk, hcd, hcode, hvs, hfile, hcell⟩ := F.ex
  refine ⟨len, fun A outer s H args us vs Q E hr e0 hbd r hsp => ?_⟩
  have hl := len _ _ _ _ hsp
  have KX : K.In s.heap := e0.mod.kin.keeps fun b o e => (e0.bs b o e).1
  have lim : s.heap.NoLimit := e0.mod.nolimit.keeps fun b o e => (e0.bs b o e).1
  obtain ⟨a, ta, t, ha0, hex, ha, ht, q⟩ := hb cda cc A outer s H vs Q E hsp
  refine ks_codeAny_call_defAt (fd := ksFn "__init__" qual (defArgs st) (defBody st) (defScope st) dV kV doc pm an (.ref cda) ct cc) (body := defBody st) (binds := ps.zip us) hr.depth (KX _ _ lk) rfl lim (codeRec_of KX hcd) rfl hbd S.nocell
    (fun ⟨n, _⟩ hy => S.par n (List.of_mem_zip hy).1) (fun h₁ hns kp => ?_) S.co S.gen S.kind
  have I := NdefX.inv_startN (CX := CX) (P := P) (w := w) (mg := mg) (f := f) (E := E) (F := ⟨"__init__", qual, defArgs st, defBody st, defScope st, [("__class__", cc)], cda⟩) (tk := s.toks + (ps.zip us).length) S hr.hd e0 hl r (cells_class e0 hcell) hns kp
  have hs0 : (NdefX.startF N vs [some (.ref C)])[0]? = some (some (.ref a)) := by
    unfold NdefX.startF
    rw [List.getElem?_append_left (by
      rw [List.length_map]
      exact (List.getElem?_eq_some_iff.mp ha0).1), List.getElem?_map, ha0]
    rfl
  have go := super_init (X := NdefX.ncx CX P w K mg base N ⟨"__init__", qual, defArgs st, defBody st, defScope st, [("__class__", cc)], cda⟩ f A outer s H E) (body := defBody st) (pl := pl) (p0 := p0) (p1 := p1) (p2 := p2) (p3 := p3)
    (R := fun H1 => t { nx := fun _ H' => Q .non H', rt := Q } (NdefX.startF N vs [some (.ref C)]) H1) hks (S.frk _ (List.mem_singleton.mpr rfl)) rfl rfl rfl lk hp har h0 hcode hvs hfile F.top hcell F.sup F.T F.m1 F.mv F.op F.si ha I hs0 hex q (hev _) (he _) (hpl _)
  show _root_.PySem.wpAt (model P w) (A.deeper _) (.func (defBody st) _) (execs (defBody st) _) _ _ _
  rw [hbody]
  rw [hbody] at go
  have hint : interactive (NdefX.envF ⟨"__init__", qual, defArgs st, .Expr (.Call (.Attribute (.Call (.Name "super" p0) [] [] p1) "__init__" p2) (e :: es) [] p3) p4 :: rest, defScope st, [("__class__", cc)], cda⟩ f s.heap.objs.size) = false := by
    unfold interactive
    show ((defScope st).kind == .module && _) = false
    rw [S.kind]
    rfl
  refine ks_wpAt_execs_cons (ks_wpAt_Expr_any (ks_wpAt_mono go (fun _ s' ⟨H1, J, q1⟩ => wpAt_of_wpAny ?_) fun _ _ z => z) hint)
  refine wpAny_mono (ht.run [] s' _ H1 _ J q1) (fun fl s2 hs => ?_) fun _ _ z => z
  have fin : ∀ {σ' : L2.St} {H' : Hp} {v : V} {u : Value}, L2.Inv (NdefX.ncx CX P w K mg base N ⟨"__init__", qual, defArgs st, defBody st, defScope st, [("__class__", cc)], cda⟩ f A outer s H E) [] σ' H' s2 → L2.RelV v u → Q v H' → CE outer P w H s Q u s2 :=
    fun {σ' H' v u} J rv q => ⟨v, H', J.os, J.bare, J.base, J.hok, rv, q⟩
  cases fl with
  | ret u =>
    obtain ⟨v, σ', H', J, rv, q⟩ := hs
    exact fin J rv q
  | next =>
    obtain ⟨σ', H', J, q⟩ := hs
    exact fin (v := V.non) (u := Value.none) J rfl q
  | brk =>
    obtain ⟨_, _, _, q⟩ := hs
    exact False.elim q
  | cont =>
    obtain ⟨_, _, _, q⟩ := hs
    exact False.elim q
/-! ### a kept exception that has fields -/
/-- e.f, e a kept exception -/
def tXfT (C : Addr) (f : Str) (te : TE) : TE := fun σ H Q => te σ H fun x H1 => ∃ (a dd : Addr) (fs : List (Str × V)) (v : V), x = .ref a ∧ H1 a = some (exT a (.ref C) (some dd)) ∧ H1 dd = some (.xd fs) ∧ fs.lookup f = some v ∧ Q v H1
theorem pe_xfT {X : Cx} {C : Addr} {e : Expr} {te : TE} {pos : Pos} {n : Str} (T : XfC X.K C) (hno : PySem.W.findIn X.K (.ref C) n = some none) (he : PE X e te) (hb : attributeBase e n X.env (eval e X.env) = eval e X.env := by rfl) :
    PE X (.Attribute e n pos) (tXfT C n te) := by
  refine ⟨fun pins s σ H Q I h => attr_of hb (thn (he.run pins s σ H _ I h) ?_)⟩
  rintro u s1 ⟨x, H1, I1, rx, a, dd, fs, v, rfl, ha, hdd, l, q⟩
  cases (show u = Value.ref a from rx)
  obtain ⟨⟨oe, vs, hget, hz, hv⟩, _, _⟩ := I1.hok a _ ha
  obtain ⟨mA, hns, hr⟩ := (show ObjOk X.prog X.w H1 s1.heap dd (.xd fs) from I1.hok dd _ hdd)
  obtain ⟨od, ho, hl⟩ := lookIn_ns hns
  obtain ⟨w, hw, rw'⟩ := RelO.some_of (v := v) (o := mA n) (by rw [← l]; exact hr n)
  have J : PySem.W.InstAt s1.heap a oe C (some od) := by
    refine ⟨hget, hz.1, ?_, ?_⟩
    · unfold PySem.W.notCls; rw [hv]
    · rw [hz.2]; exact ho
  exact HandSPX.exc_get I1.kIn J T.ga T.gg T.exC (PySem.W.findObj_own T.hdC hno rfl (by rw [hl, hw])) (handed_of rw') ⟨v, H1, I1.tok _, rw', q⟩
/-- isinstance(e, c), e a kept exception with or without an own dict -/
def rIsTD (K : PySem.W.Frag) : List V → Hp → VK → Prop := fun xs H Q => ∃ (a D dd : Addr) (fs : List (Str × V)) (c : V) (cv : Value) (b : Bool), xs = [.ref a, c] ∧ H a = some (exT a (.ref D) (some dd)) ∧ H dd = some (.xd fs) ∧ ExcC K D ∧ ClsV c cv ∧ PySem.W.kitOne K (.ref D) cv = some b ∧ Q (.bl b) H
theorem call_isTD {X : Cx} (K : PySem.W.Frag) (hK : X.K = K := by rfl) : CallR X (.builtin "isinstance") (rIsTD K) := by
  subst hK
  intro pins s σ H xs us Q I r h
  obtain ⟨a, D, dd, fs, c, cv, b, rfl, ha, hdd, C, hcv, e, q⟩ := h
  cases r with
  | cons rx rr =>
    cases rr with
    | cons rt rr =>
      cases rr
      cases rx
      have ec := hcv.eq rt
      subst ec
      obtain ⟨⟨oe, vs, hget, hz, hv⟩, _, _⟩ := I.hok a _ ha
      obtain ⟨mA, hns, hr⟩ := (show ObjOk X.prog X.w H s.heap dd (.xd fs) from I.hok dd _ hdd)
      obtain ⟨od, ho, hl⟩ := lookIn_ns hns
      have J : PySem.W.InstAt s.heap a oe D (some od) := by
        refine ⟨hget, hz.1, ?_, ?_⟩
        · unfold PySem.W.notCls; rw [hv]
        · rw [hz.2]; exact ho
      have hcl : (clsIn X.K D).isSome = true := by obtain ⟨cd, hc, _⟩ := any_some C.hd; rw [hc]; rfl
      exact PySem.W.kia_one (kitx_exc hcl C.hg C.hk C.hs C.ha C.hn C.ht C.hm) I.kIn J e (fun z => nomatch z) fun tk => ⟨.bl b, H, I.kept (t' := tk) fun _ _ z => z, rfl, q⟩
end Kt

namespace PySem
namespace XKw
open Builtin Builtin.ObjectAttr HandSPX
section
variable {M : Model} {prog : Program} {w : World} {A : Around} {E : Value → Shared → Prop} {R : Result → Shared → Prop} {h : Heap} {g : Array GenState} {d : Drawn} {t : Nat} {os : OsState}
variable {nm q : Str} {C N : Addr} {bs bm bmB : List Value} {hdct : Bool} {sn : List Str} {sub : List Value} {ab : Bool} {col : Option Bool} {dd : Option Addr} {k0 k1 k2 k3 k5 : Option Value} {B newId initId : String} {kw : List (Str × Value)}
theorem chk (F : ExcBaseFacts B newId initId bmB) (hT : ∀ X : String, bm.contains (.type X) = bmB.contains (.type X)) {Q : Unit → Shared → Prop}
    (hC : h.get? C = some (excClassObj nm q C N bs bm hdct sn sub ab col dd k0 k1 k2 k3 k5 newId)) (hq : Q () ⟨h, g, d, t, os⟩) : wpAny M A (checkBuiltinCall newId ⟨[.ref C], kw⟩) Q E ⟨h, g, d, t, os⟩ := by
  have c1 : (Value.ref C :: bm).contains (.type B) = true := by
    rw [List.contains_cons, hT, F.hasB, Bool.or_true]
  have st := F.noStar
  simp only [checkBuiltinCall, F.newKind, F.newSplit, F.newRow]
  repeat (first | refine wpAny_loadPart_at hC ?_ | (refine wpAny_isSubtype_exc hC ?_; rw [c1]) | refine wpAny_staticBase_exc hC ?_ | refine wpAny_madeBy_exc hC ?_ | simp only [bne_self_eq_false, Bool.false_eq_true, if_false] | wp_step)
  exact hq
theorem new (F : ExcBaseFacts B newId initId bmB) (hT : ∀ X : String, bm.contains (.type X) = bmB.contains (.type X))
    (hC : h.get? C = some (excClassObj nm q C N bs bm hdct sn sub ab col dd k0 k1 k2 k3 k5 newId))
    (hq : R (.ok (.ret (.ref (h.objs.size + 1)))) ⟨(h.push (W.kdv_tup [])).push (excO C h.objs.size), g, d, t, os⟩) :
    codeAny (model prog w) A (.builtin newId ⟨[.ref C], kw⟩) R ⟨h, g, d, t, os⟩ := by
  have en := F.ends
  have c1 : (Value.ref C :: bm).contains (.type B) = true := by
    rw [List.contains_cons, hT, F.hasB, Bool.or_true]
  have c2 : (Value.ref C :: bm).contains (.type "AttributeError") = false := by
    rw [List.contains_cons, hT, F.noAttr]; rfl
  have c3 : (Value.ref C :: bm).contains (.type "NameError") = false := by
    rw [List.contains_cons, hT, F.noName]; rfl
  refine codeAny_builtinAt F.entry ?_
  unfold Builtin.«BaseException.__new__»
  refine wpAt_bind ?_
  show wpAt _ _ _ (stack >>= _) _ _ _
  refine wpAt_bind (wpAt_stack fun p below => wpAt_of_wpAny ?_)
  wp_walk
  refine wpAt_of_wpAny ?_
  rw [F.owner]
  repeat (first | with_reducible refine wpAny_madeHere_exc F.canon hC ?_ | with_reducible refine wpAny_loadPart_at hC ?_ | (with_reducible refine wpAny_isSubtype_exc hC ?_; first | rw [c1] | rw [c2] | rw [c3]) | wp_step)
  show R _ _
  rw [Heap.size_push]
  exact hq
theorem tycall (F : ExcBaseFacts B newId initId bmB) (hT : ∀ X : String, bm.contains (.type X) = bmB.contains (.type X)) {fI : Addr} {Q : Fin → Shared → Prop}
    (hC : h.get? C = some (excClassObj nm q C N bs bm hdct sn sub ab col dd k0 k1 k2 k3 k5 newId))
    (hi : W.Looks (model prog w) h (typeLookup (.ref C) "__init__") (some (.ref fI))) (hb : ∀ self, W.Looks (model prog w) h (bindSpecial (.ref fI) self) (.ref fI, [self]))
    (hq : codeAny (model prog w) A (.call (.ref fI) ⟨[.ref (h.objs.size + 1)], kw⟩)
      (fun r s' => match r with | .ok (.ret v) => v = .none ∧ Q (.done (.ret (.ref (h.objs.size + 1)))) s' | .ok _ => False | .error e => E e s') ⟨(h.push (W.kdv_tup [])).push (excO C h.objs.size), g, d, t, os⟩) :
    wpAny (model prog w) A (Builtin.«type.__call__» ⟨[.ref C], kw⟩) Q E ⟨h, g, d, t, os⟩ := by
  repeat (first | with_reducible refine wpAny_loadPart_at hC ?_ | with_reducible refine wpAny_madeBy_exc hC ?_ | wp_step)
  refine codeAny_call_builtin_code (Code.quiet_builtin _ F.quiet) (chk F hT hC (new F hT hC ?_))
  show wpAny _ _ _ _ _ _
  have kp : ∀ b o, h.get? b = some o → ((h.push (W.kdv_tup [])).push (excO C h.objs.size)).get? b = some o := fun b o e => Heap.get?_push_of_some _ (Heap.get?_push_of_some _ e)
  have hC1 := kp _ _ hC
  have hg1 : ((h.push (W.kdv_tup [])).push (excO C h.objs.size)).get? (h.objs.size + 1) = some (excO C h.objs.size) := by heap_get
  have c4 : (Value.ref C :: bm).contains (.ref C) = true := by simp
  have i1 := hi.keeps kp
  have b1 := (hb (.ref (h.objs.size + 1))).keeps kp
  unfold isInstance
  repeat (first | with_reducible refine wpAny_loadPart_at hg1 ?_ | (with_reducible refine wpAny_isSubtype_exc hC1 ?_; rw [c4]) | wp_step)
  show wpAny _ _ (typeLookup (.ref C) _) _ _ _
  refine i1.at (wpAny_holding (wpAny_bind (b1.at (wpAny_bind (wpAny_call (codeAny_mono hq fun r s' z => ?_))))))
  rcases r with e | (v | _ | _ | _) <;> first | exact z | exact z.elim | skip
  obtain ⟨rfl, z⟩ := z
  first
    | exact wpAny_pure (wpAny_pure z)
    | (wp_walk; exact z)
theorem chkT {Q : Unit → Shared → Prop} (hC : h.get? C = some (excClassObj nm q C N bs bm hdct sn sub ab col dd k0 k1 k2 k3 k5 newId)) (hq : Q () ⟨h, g, d, t, os⟩) : wpAny M A (checkBuiltinCall "type.__call__" ⟨[.ref C], kw⟩) Q E ⟨h, g, d, t, os⟩ := by
  have f3 := tc_sub
  have ty : (⟨h, g, d, t, os⟩ : Shared).TypeIs (.ref C) "type" := ⟨_, hC, rfl⟩
  simp only [checkBuiltinCall, tc_kind, tc_split]
  repeat (any_goals (first | assumption | with_reducible refine wpAny_loadPart_at hC ?_ | with_reducible refine wpAny_onRaise ?_ | with_reducible refine wpAny_map ?_ | wp_step))
theorem callK (F : ExcBaseFacts B newId initId bmB) (hT : ∀ X : String, bm.contains (.type X) = bmB.contains (.type X)) {fI : Addr}
    (hC : h.get? C = some (excClassObj nm q C N bs bm hdct sn sub ab col dd k0 k1 k2 k3 k5 newId))
    (hi : W.Looks (model prog w) h (typeLookup (.ref C) "__init__") (some (.ref fI))) (hb : ∀ self, W.Looks (model prog w) h (bindSpecial (.ref fI) self) (.ref fI, [self]))
    (hq : codeAny (model prog w) (A.under (.builtin "type.__call__" ⟨[.ref C], kw⟩)) (.call (.ref fI) ⟨[.ref (h.objs.size + 1)], kw⟩) (W.InitBack (h.objs.size + 1) R) ⟨(h.push (W.kdv_tup [])).push (excO C h.objs.size), g, d, t, os⟩) :
    codeAny (model prog w) A (.call (.ref C) ⟨[], kw⟩) R ⟨h, g, d, t, os⟩ := by
  have f1 := tc_lookup
  have f2 := tc_bind (.ref C)
  have ty : (⟨h, g, d, t, os⟩ : Shared).TypeIs (.ref C) "type" := ⟨_, hC, rfl⟩
  refine codeAny_of_tree ?_
  show wpAny _ _ (callAny (.ref C) _) _ _ _
  repeat (any_goals (first | assumption | with_reducible refine wpAny_loadPart_at hC ?_ | wp_step))
  refine ⟨rfl, codeAny_call_builtin_at (Code.quiet_builtin _ (by decide +kernel)) entry_typeCall (chkT hC (tycall F hT hC hi hb ?_))⟩
  refine codeAny_mono hq fun r s' z => ?_
  rcases r with e | (v | _ | _ | _) <;> exact z
end
end XKw
end PySem

namespace Kt
open PySem L2
/-- a def of the text, with or without defaults -/
structure FunA (K : PySem.W.Frag) (x qual : Str) (st : Stmt) (f : Addr) (fd : FuncData) : Prop where
  ex : ∃ (oc : Value) (od : Option Addr) (dV kV doc pm : Value) (an : Option Addr) (cdv ct : Value) (osl : Array (Option Value)),
    fd = PySem.W.fnOf x qual (defArgs st) (defBody st) (defScope st) dV kV doc pm an cdv ct ∧ K.lookup f = some ⟨oc, od, .func fd, osl⟩ ∧ PySem.W.codeIn K cdv qual = true
  kp : PySem.W.keepIn K (.ref f) = true
section
variable {P : Program} {w : World} {K : PySem.W.Frag} {mg : Str → Option Value} {base : Heap}
theorem FunA.ok {x qual : Str} {st : Stmt} {f : Addr} {fd : FuncData} {N ps : List Str} {k : Nat} {sp : Sp} (F : FunA K x qual st f fd) (S : FnScope N ps (defScope st)) (len : ∀ vs H Q E, sp vs H Q E → vs.length = ps.length)
    (hbody : ∀ (cdv : Value) (A : Around) (outer : List Env) (s : Shared) (H : Hp) (vs : List V) (Q : VK) (E : XK), Room k (A.deeper (PyProof.Rows.envOfC qual (defScope st) s.heap.objs.size f cdv)) → sp vs H Q E →
      ∃ t, PSs (cxOf CX0 P w K mg base N qual (defScope st) f cdv A outer s H E).nox (defBody st) t ∧ t { nx := fun _ H' => Q .non H', rt := Q } (start N vs) H) : FnOk P w K mg base CX0 (k + 1) f fd ps sp := by
  obtain ⟨oc, od, dV, kV, doc, pm, an, cdv, ct, osl, rfl, lk, hcd⟩ := F.ex
  refine fn_of lk hcd S len fun A outer s H vs Q E hr hsp => ?_
  obtain ⟨t, h, q⟩ := hbody cdv A outer s H vs Q E hr hsp
  exact ⟨t, h.nox, q⟩
/-- .. that may raise -/
theorem FunA.okX {x qual : Str} {st : Stmt} {f : Addr} {fd : FuncData} {N ps : List Str} {k : Nat} {sp : Sp} (F : FunA K x qual st f fd) (S : FnScope N ps (defScope st)) (len : ∀ vs H Q E, sp vs H Q E → vs.length = ps.length)
    (hbody : ∀ (cdv : Value) (A : Around) (outer : List Env) (s : Shared) (H : Hp) (vs : List V) (Q : VK) (E : XK), Room k (A.deeper (PyProof.Rows.envOfC qual (defScope st) s.heap.objs.size f cdv)) → sp vs H Q E →
      ∃ t, PSs (cxOf (L2.CX P w) P w K mg base N qual (defScope st) f cdv A outer s H E) (defBody st) t ∧ t { nx := fun _ H' => Q .non H', rt := Q } (start N vs) H) : FnOk P w K mg base (L2.CX P w) (k + 1) f fd ps sp := by
  obtain ⟨oc, od, dV, kV, doc, pm, an, cdv, ct, osl, rfl, lk, hcd⟩ := F.ex
  exact fn_of lk hcd S len fun A outer s H vs Q E hr hsp => hbody cdv A outer s H vs Q E hr hsp
end
/-- what the written part says of a def of the top -/
structure DefF (K : PySem.W.Frag) (mg : Str → Option Value) (x : Str) (st : Stmt) (ps : List Str) (f : Addr) (fd : FuncData) : Prop where
  F : FunA K x x st f fd
  b : Binds K fd ps []
  g : mg x = some (.ref f)
/-- .. of a method -/
structure MetF (K : PySem.W.Frag) (C : Addr) (m qual : Str) (st : Stmt) (ps : List Str) (f : Addr) (fd : FuncData) : Prop where
  F : FunA K m qual st f fd
  b : Binds K fd ps []
  at_ : PySem.W.findIn K (.ref C) m = some (some (.ref f))
  fn : PySem.W.isFn K (.ref f) = true
  fin : PySem.W.fnIn K f = true
section
variable {K : PySem.W.Frag} {mg : Str → Option Value} {C f : Addr} {m qual x : Str} {st : Stmt} {ps : List Str} {fd : FuncData}
theorem MetF.own (h : MetF K C m qual st ps f fd) : OO.Own K C m f := ⟨h.at_, h.fn⟩
theorem MetF.me (h : MetF K C m qual st ps f fd) : Meth K C m f := ⟨h.at_, h.fn, h.F.kp⟩
theorem def_mk {h : Heap} (X : K.In h) (G : h.Ns mainGlobals mg) {oc : Value} {od an : Option Addr} {osl : Array (Option Value)} {dV kV doc pm cdv ct : Value}
    (a : PySem.W.nsIn K mainGlobals x = some (some (.ref f))) (l : K.lookup f = some ⟨oc, od, .func (PySem.W.fnOf x x (defArgs st) (defBody st) (defScope st) dV kV doc pm an cdv ct), osl⟩)
    (c : PySem.W.codeIn K cdv x = true) (k : PySem.W.keepIn K (.ref f) = true)
    (hb : ∀ (dV kV doc pm : Value) (an : Option Addr) (cdv ct : Value) (us : List Value), us.length = ps.length → bindArgs (PySem.W.fnOf x x (defArgs st) (defBody st) (defScope st) dV kV doc pm an cdv ct) ⟨us, []⟩ = pure (ps.zip us)) :
    ∃ f fd, DefF K mg x st ps f fd :=
  ⟨f, _, ⟨⟨oc, od, dV, kV, doc, pm, an, cdv, ct, osl, rfl, l, c⟩, k⟩, .all (hb dV kV doc pm an cdv ct), PySem.W.mg_of X G a⟩
theorem def_of {h : Heap} (X : K.In h) (G : h.Ns mainGlobals mg) {oc : Value} {od an : Option Addr} {osl : Array (Option Value)} {kV doc pm cdv ct : Value}
    (a : PySem.W.nsIn K mainGlobals x = some (some (.ref f))) (l : K.lookup f = some ⟨oc, od, .func (PySem.W.fnOf x x (defArgs st) (defBody st) (defScope st) .none kV doc pm an cdv ct), osl⟩)
    (c : PySem.W.codeIn K cdv x = true) (k : PySem.W.keepIn K (.ref f) = true)
    (hb : ∀ (kV doc pm : Value) (an : Option Addr) (cdv ct : Value) (us : List Value), us.length = ps.length → bindArgs (PySem.W.fnOf x x (defArgs st) (defBody st) (defScope st) .none kV doc pm an cdv ct) ⟨us, []⟩ = pure (ps.zip us)) :
    DefF K mg x st ps f (PySem.W.fnOf x x (defArgs st) (defBody st) (defScope st) .none kV doc pm an cdv ct) :=
  ⟨⟨⟨oc, od, .none, kV, doc, pm, an, cdv, ct, osl, rfl, l, c⟩, k⟩, .all (hb kV doc pm an cdv ct), PySem.W.mg_of X G a⟩
theorem met_of {oc : Value} {od an : Option Addr} {osl : Array (Option Value)} {kV doc pm cdv ct : Value}
    (a : PySem.W.findIn K (.ref C) m = some (some (.ref f))) (i : PySem.W.isFn K (.ref f) = true) (l : K.lookup f = some ⟨oc, od, .func (PySem.W.fnOf m qual (defArgs st) (defBody st) (defScope st) .none kV doc pm an cdv ct), osl⟩)
    (c : PySem.W.codeIn K cdv qual = true) (k : PySem.W.keepIn K (.ref f) = true) (n : PySem.W.fnIn K f = true)
    (hb : ∀ (kV doc pm : Value) (an : Option Addr) (cdv ct : Value) (us : List Value), us.length = ps.length → bindArgs (PySem.W.fnOf m qual (defArgs st) (defBody st) (defScope st) .none kV doc pm an cdv ct) ⟨us, []⟩ = pure (ps.zip us)) :
    MetF K C m qual st ps f (PySem.W.fnOf m qual (defArgs st) (defBody st) (defScope st) .none kV doc pm an cdv ct) :=
  ⟨⟨⟨oc, od, .none, kV, doc, pm, an, cdv, ct, osl, rfl, l, c⟩, k⟩, .all (hb kV doc pm an cdv ct), a, i, n⟩
/-- one default, every parameter given -/
theorem met_ofD {oc : Value} {od an : Option Addr} {osl : Array (Option Value)} {kV doc pm cdv ct u cT : Value} {T : Addr} {dT : Option Addr} {nT : Nat} {sT : Array (Option Value)}
    (a : PySem.W.findIn K (.ref C) m = some (some (.ref f))) (i : PySem.W.isFn K (.ref f) = true) (l : K.lookup f = some ⟨oc, od, .func (PySem.W.fnOf m qual (defArgs st) (defBody st) (defScope st) (.ref T) kV doc pm an cdv ct), osl⟩)
    (c : PySem.W.codeIn K cdv qual = true) (k : PySem.W.keepIn K (.ref f) = true) (n : PySem.W.fnIn K f = true) (lT : K.lookup T = some ⟨cT, dT, .seq #[u] nT, sT⟩)
    (hb : ∀ (T : Addr) (kV doc pm : Value) (an : Option Addr) (cdv ct u : Value) (us : List Value), us.length = ps.length →
      ∃ k, bindArgs (PySem.W.fnOf m qual (defArgs st) (defBody st) (defScope st) (.ref T) kV doc pm an cdv ct) ⟨us, []⟩ = seqItems? (.ref T) >>= k ∧ k (some #[u]) = pure (ps.zip us)) :
    MetF K C m qual st ps f (PySem.W.fnOf m qual (defArgs st) (defBody st) (defScope st) (.ref T) kV doc pm an cdv ct) :=
  ⟨⟨⟨oc, od, .ref T, kV, doc, pm, an, cdv, ct, osl, rfl, l, c⟩, k⟩, fun s us X hl => by
    rw [List.append_nil] at hl ⊢
    obtain ⟨k, e1, e2⟩ := hb T kV doc pm an cdv ct u us hl
    refine BindsTo.of_looks fun M => ?_
    rw [e1]
    exact looks_items X lT rfl (.of_pure e2), a, i, n⟩
theorem met_mk {oc : Value} {od an : Option Addr} {osl : Array (Option Value)} {dV kV doc pm cdv ct : Value}
    (a : PySem.W.findIn K (.ref C) m = some (some (.ref f))) (i : PySem.W.isFn K (.ref f) = true) (l : K.lookup f = some ⟨oc, od, .func (PySem.W.fnOf m qual (defArgs st) (defBody st) (defScope st) dV kV doc pm an cdv ct), osl⟩)
    (c : PySem.W.codeIn K cdv qual = true) (k : PySem.W.keepIn K (.ref f) = true) (n : PySem.W.fnIn K f = true)
    (hb : ∀ (dV kV doc pm : Value) (an : Option Addr) (cdv ct : Value) (us : List Value), us.length = ps.length → bindArgs (PySem.W.fnOf m qual (defArgs st) (defBody st) (defScope st) dV kV doc pm an cdv ct) ⟨us, []⟩ = pure (ps.zip us)) :
    ∃ f fd, MetF K C m qual st ps f fd :=
  ⟨f, _, ⟨⟨oc, od, dV, kV, doc, pm, an, cdv, ct, osl, rfl, l, c⟩, k⟩, .all (hb dV kV doc pm an cdv ct), a, i, n⟩
end
/-! ### isinstance and except, from what the written part tells of classes -/
section
variable {K : PySem.W.Frag} {D C : Addr} {T : String} {v : Bool}
theorem kitCls_ref (i : PySem.W.isClsIn K C = true) (t : PySem.W.typeIn K (.ref C) = some (.type "type")) (h : PySem.W.subIn K (.ref D) (.ref C) = some v) : PySem.W.kitCls K (.ref D) (.ref C) = some v := by
  have e : ((PySem.W.clsIn K C).isSome && PySem.W.typeIn K (.ref C) == some (.type "type")) = true := by
    have i' : (PySem.W.clsIn K C).isSome = true := i
    rw [i', t]; rfl
  show (if ((PySem.W.clsIn K C).isSome && PySem.W.typeIn K (.ref C) == some (.type "type")) = true then PySem.W.subIn K (.ref D) (.ref C) else none) = some v
  rw [if_pos e, h]
theorem kit_sub (hm : PySem.W.kitMeta T = true) (h : PySem.W.subIn K (.ref D) (.type T) = some v) : PySem.W.kitOne K (.ref D) (.type T) = some v := by
  show (if ((Value.ref D == Value.type T) = true) then some true else if PySem.W.kitMeta T = true then PySem.W.subIn K (.ref D) (.type T) else none) = some v
  have e : ¬ ((Value.ref D == Value.type T) = true) := by
    intro z; cases (beq_iff_eq.mp z)
  rw [if_neg e, if_pos hm, h]
theorem kit_self : PySem.W.kitOne K (.ref D) (.ref D) = some true := by
  unfold PySem.W.kitOne
  rw [if_pos (beq_self_eq_true _)]
theorem kit_ref (hne : (D == C) = false) (i : PySem.W.isClsIn K C = true) (t : PySem.W.typeIn K (.ref C) = some (.type "type")) (h : PySem.W.subIn K (.ref D) (.ref C) = some v) : PySem.W.kitOne K (.ref D) (.ref C) = some v := by
  unfold PySem.W.kitOne
  have e : ¬ ((Value.ref D == Value.ref C) = true) := by
    intro z
    have := beq_iff_eq.mp z
    injection this with z
    rw [z, beq_self_eq_true] at hne
    cases hne
  rw [if_neg e]
  exact kitCls_ref i t h
theorem exm_ref (b : PySem.W.subIn K (.ref C) (.type "BaseException") = some true) (i : PySem.W.isClsIn K C = true) (t : PySem.W.typeIn K (.ref C) = some (.type "type")) (h : PySem.W.subIn K (.ref D) (.ref C) = some v) : PySem.W.exmOne K (.ref D) (.ref C) = some v := by
  unfold PySem.W.exmOne
  rw [b, if_pos (by rfl : (some true == some true) = true)]
  exact kitCls_ref i t h
end
/-- .. of an own exception class without an own __init__ -/
structure ExcF (K : PySem.W.Frag) (mg : Str → Option Value) (x : Str) (C : Addr) (bm : List Value) (newId : String) : Prop where
  g : mg x = some (.ref C)
  xi : PySem.W.excIn K C bm newId = true
  k : PySem.W.keepIn K (.ref C) = true
  b : PySem.W.subIn K (.ref C) (.type "BaseException") = some true
  t : PySem.W.typeIn K (.ref C) = some (.type "type")
  c : ExcC K C
  em : PySem.W.exmOne K (.ref C) (.ref C) = some true
/-- .. of a class -/
structure ClsF (K : PySem.W.Frag) (mg : Str → Option Value) (x : Str) (C : Addr) : Prop where
  g : mg x = some (.ref C)
  cl : Cls K C
  sf : PySem.W.selfFirst K C = true
  ns : PySem.W.noSeq K C = true
  mi : PySem.W.makesIn K C = true
  kc : PySem.W.keepIn K (.ref C) = true
theorem MetF.mk_ {K : PySem.W.Frag} {mg : Str → Option Value} {C f : Addr} {qual x : Str} {st : Stmt} {ps : List Str} {fd : FuncData} (h : MetF K C "__init__" qual st ps f fd) (c : ClsF K mg x C) : Mk K C f := ⟨c.mi, h.at_, h.fn, c.kc⟩
end Kt

namespace Kt
open PySem L2 PySem.W
/-- what the written part says of an own exception class over ValueError with an own __init__ -/
structure ExdF (K : PySem.W.Frag) (mg : Str → Option Value) (x : Str) (C : Addr) : Prop where
  g : mg x = some (.ref C)
  T : OexC K C
  c : ExcC K C
  xf : XfC K C
  em : PySem.W.exmOne K (.ref C) (.ref C) = some true
  ic : PySem.W.isClsIn K C = true
/-- .. of that __init__ -/
structure ExiF (P : Program) (K : PySem.W.Frag) (mg : Str → Option Value) (qual : Str) (st : Stmt) (ps : List Str) (C f : Addr) (fd : FuncData) : Prop where
  F : IniF P K mg qual st C f fd
  b : Binds K fd ps []
  iC : PySem.W.findIn K (.ref C) "__init__" = some (some (.ref f))
  tI : PySem.W.typeIn K (.ref f) = some (.type "function")
/-- an exception is made with its fields -/
def spIni (C : Addr) (ns : List Str) : Sp := fun vs H Q _ => ∃ (a : Addr) (ys : List V), vs = .ref a :: ys ∧ ys.length = ns.length ∧ H a = some (exo a C none) ∧
  ∀ dx, H dx = none → dx ≠ a → Q .non (upd (upd H dx (exd dx (ns.zip ys).reverse)) a (exo a C (some dx)))
theorem upd_over {H : Hp} {a dx : Addr} {o u v : HO} (h : dx ≠ a) : upd (upd (upd H dx o) a u) dx v = upd (upd H dx v) a u := by
  funext b
  unfold upd
  by_cases h1 : b = dx
  · subst h1; simp [h]
  · simp [h1]
/-- C(..), its __init__ keeping the fields: what follows the arguments -/
theorem mk_ini {C : Addr} {ns : List Str} {ys : List V} {H1 : Hp} {Q : XK} (h1 : ys.length = ns.length) (h2 : ys.length ≤ 1000) (h3 : ∀ d, H1 d = none → Q (.ref C) (some d) (upd H1 d (.xd (ns.zip ys).reverse))) :
    ys.length ≤ 1000 ∧ ∀ a, H1 a = none → spIni C ns (.ref a :: (ys ++ [])) (upd H1 a (exo a C none))
      (fun v H2 => v = .non ∧ ∃ (d : Addr) (fs : List (Str × V)), H2 a = some (exo a C (some d)) ∧ H2 d = some (exd d fs) ∧ H1 d = none ∧ Q (.ref C) (some d) (upd (del H2 a) d (.xd fs))) (fun _ _ _ => False) := by
  refine ⟨h2, fun a ha => ⟨a, ys, by rw [List.append_nil], h1, upd_same, fun dx hd hne => ⟨rfl, dx, (ns.zip ys).reverse, upd_same, ?_, ?_, ?_⟩⟩⟩
  · rw [upd_ne hne, upd_same]
  · rw [upd_ne hne] at hd; exact hd
  · rw [upd_ne hne] at hd
    have e : upd (del (upd (upd (upd H1 a (exo a C none)) dx (exd dx (ns.zip ys).reverse)) a (exo a C (some dx))) a) dx (.xd (ns.zip ys).reverse) = upd H1 dx (.xd (ns.zip ys).reverse) := by
      funext b
      unfold upd del
      by_cases h1 : b = dx
      · subst h1; simp
      · by_cases h2 : b = a
        · subst h2; simp [h1, ha]
        · simp [h1, h2]
    rw [e]
    exact h3 dx hd
end Kt

namespace Kt
open PySem PySem.Spec PyProof.Rows L2
section
variable {X : Cx} {x : Str} {C fI : Addr} {k : Nat} {fd : FuncData} {ps ks : List Str} {sp : Sp} {g : List Value → List Value → List Value} {gV : List V → List V → List V} {kws : List Keyword} {tk : TA} {p pos : Pos} {CX : CXT}
/-- C(k = v, ..) -/
def tMkK (C : Addr) (m : Nat) (sp : Sp) (gV : List V → List V → List V) (tk : TA) : L2.St → Hp → XK → Prop := fun σ H Q => tk σ H fun zs H1 => zs.length = m ∧ ∀ a, H1 a = none → sp (gV [.ref a] zs) (upd H1 a (exo a C none))
  (fun v H2 => v = .non ∧ ∃ (d : Addr) (fs : List (Str × V)), H2 a = some (exo a C (some d)) ∧ H2 d = some (exd d fs) ∧ H1 d = none ∧ Q (.ref C) (some d) (upd (del H2 a) d (.xd fs))) (fun _ _ _ => False)
theorem pmk_oexK (T : OexC X.K C) (iC : PySem.W.findIn X.K (.ref C) "__init__" = some (some (.ref fI))) (tI : PySem.W.typeIn X.K (.ref fI) = some (.type "function"))
    (F1 : FnOk X.prog X.w X.K X.mg X.base CX k fI fd ps sp) (hr : Room (k + 1) X.A) (hb : KBn X.K fd ps 1 ks g gV) (hx : Passes CX X (fun _ _ _ => False)) (hg : Gl X x) (hm : X.mg x = some (.ref C)) (hkw : PK X kws tk)
    (hall : (backToKw pos (keywordEach kws X.env)).all (·.1.isSome) = true := by rfl) (hks : (backToKw pos (keywordEach kws X.env)).filterMap (·.1) = ks := by rfl) (hdb : (x == ("__debug__" : Str)) = false := by decide)
    (hpl : ((backTo pos (starEach [] X.env)).any (·.1) || (backToKw pos (keywordEach kws X.env)).any (·.1.isNone)) = false := by rfl) :
    PMk X (.Call (.Name x p) [] kws pos) (tMkK C ks.length sp gV tk) := by
  intro pins s σ H Q I h
  obtain ⟨nm, q, N, bs, bm, sn, sub, ab, col, dd, k0, k1, k2, k3, k5, hC, hbm⟩ := T.cls
  refine wpAny_Call_Name_kw (ld_glob I hg hm ?_ hdb)
  refine PySem.W.callWith_KW0 (h₀ := X.base) I.ok.mod.kin T.kC hall (thn (hkw.run pos pins s σ H _ I h) fun ws s1 ⟨zs, H1, I1, rz, hz, q1⟩ => ⟨I1.kIn, ?_⟩) hpl
  rw [hks]
  show wpAny _ _ (call (.ref C) [] (ks.zip ws)) _ _ _
  obtain ⟨hp, gn, dr, tk', os⟩ := s1
  have sz : hp.objs.size ≤ hp.objs.size + 1 := Nat.le_succ _
  have hq := q1 (hp.objs.size + 1) (I1.hok.fresh sz)
  have kk : ∀ b o, hp.get? b = some o → ((hp.push (PySem.W.kdv_tup [])).push (PySem.HandSPX.excO C hp.objs.size)).get? b = some o := fun b o e => Heap.get?_push_of_some _ (Heap.get?_push_of_some _ e)
  have at1 : ((hp.push (PySem.W.kdv_tup [])).push (PySem.HandSPX.excO C hp.objs.size)).get? (hp.objs.size + 1) = some (PySem.HandSPX.excO C hp.objs.size) := by heap_get
  have I2 : Inv X pins σ (upd H1 (hp.objs.size + 1) (exo (hp.objs.size + 1) C none)) ⟨(hp.push (PySem.W.kdv_tup [])).push (PySem.HandSPX.excO C hp.objs.size), gn, dr, tk', os⟩ := I1.laid (t' := tk') kk sz (exo_ok at1)
  have r1 : Vals [V.ref (hp.objs.size + 1)] [Value.ref (hp.objs.size + 1)] := .cons rfl .nil
  have r2 := hb.rel r1 rz
  refine wpAny_call (PySem.XKw.callK F.excBase_ValueError (fun Y => PySem.HandSPX.refsVE_contains Y bm hbm) (I1.kIn _ _ hC) (PySem.W.looks_findIn I1.kIn iC) (fun self => PySem.W.bind_fn I1.kIn self tI)
    (codeAny_mono (F1.run _ X.stack _ _ ⟨[Value.ref (hp.objs.size + 1)], ks.zip ws⟩ (g [Value.ref (hp.objs.size + 1)] ws) _ _ (fun _ _ _ => False) (hr.make C [] (ks.zip ws)) (I2.env0.make C [] (ks.zip ws)) (hb.to _ _ ws I2.kIn rfl (rz.length.symm.trans hz)) r2 hq) fun r s' hq' => ?_))
  cases r with
  | error er => exact hx pins σ _ _ er s' I2 hq'
  | ok fl =>
    cases fl with
    | ret u =>
      obtain ⟨v, H2, os2, bare2, un2, hok2, rv, ev, d, fs, ea, ed, hd1, q2⟩ := hq'
      subst ev
      obtain ⟨h2, g2, d2, t2, os'⟩ := s'
      exact ⟨rv, mk_end (raises_own T.exC T.tyC) I1 sz kk un2 hok2 os2 bare2 ea ed hd1 q2⟩
    | next => exact hq'.elim
    | brk => exact hq'.elim
    | cont => exact hq'.elim
/-- an exception is made and held as a value -/
def tExc (t : L2.St → Hp → XK → Prop) : TE := fun σ H Q => t σ H fun cls d H1 => ∀ a, H1 a = none → Q (.ref a) (upd H1 a (exT a cls d))
theorem pe_mk {e : Expr} {t : L2.St → Hp → XK → Prop} (h : PMk X e t) : PE X e (tExc t) := by
  refine ⟨fun pins s σ H Q I ht => wpAny_mono (h pins s σ H _ I ht) (fun u s' z => ?_) fun _ _ e => e⟩
  obtain ⟨a, oe, vs, sI, H', cls, d, rfl, J, kp, hne, ha, hz, hd, h1, na, os, ag, r, q⟩ := z
  obtain ⟨hh, gg, dr, tk', os'⟩ := s'
  obtain rfl : os' = sI.os := os
  exact ⟨.ref a, _, J.call (h' := hh) (g' := gg) (d' := dr) (t' := tk') (ch := []) (Un.laidN kp hne na) (J.hok.laidN kp na (exT_ok ha hz hd)) ag (fun b z => absurd z (by simp)), rfl, q a na⟩
end
end Kt

namespace Kt
open PySem L2
theorem div_ok {i j : Int} (h : 0 < j) (hb : j < 2 ^ 64) : CDivW i j := wide_div h (b := 64) (by omega) (by decide) (by decide)
theorem mod_in {i m : Int} (h : 0 < m) : 0 ≤ i % m ∧ i % m < m := ⟨Int.emod_nonneg _ (by omega), Int.emod_lt_of_pos _ h⟩
theorem p0 {m : Int} (h : decide (0 < m) = true) : 0 < m := of_decide_eq_true h
theorem sz {n : Nat} (h : Nat.ble n 1000 = true) : n ≤ sizeLine := Nat.le_trans (Nat.le_of_ble_eq_true h) (by decide)
theorem szL {n : Nat} (h : n ≤ 100000) : n ≤ sizeLine := Nat.le_trans h (by decide)
theorem szl {n : Nat} (h : n < 100000) : n < sizeLine := Nat.lt_of_lt_of_le h (by decide)
theorem b01 (c : Bool) : (-(2 ^ 64) < (if c = true then (1 : Int) else 0) ∧ (if c = true then (1 : Int) else 0) < 2 ^ 64) ∧ 0 ≤ (if c = true then (1 : Int) else 0) := by cases c <;> decide
theorem cut_to (xs : List V) (m : Nat) : cutV xs none (some (m : Int)) = xs.take m := by
  unfold cutV
  rw [HT.sIx_none, HT.sIx_nat, List.drop_zero, Nat.sub_zero]
  by_cases h : m ≤ xs.length
  · rw [Nat.min_eq_left h]
  · rw [Nat.min_eq_right (by omega), List.take_of_length_le (Nat.le_refl _), List.take_of_length_le (by omega)]
theorem cut_from (xs : List V) (m : Nat) : cutV xs (some (m : Int)) none = xs.drop m := by
  unfold cutV
  rw [HT.sIx_none, HT.sIx_nat]
  by_cases h : m ≤ xs.length
  · rw [Nat.min_eq_left h, List.take_of_length_le (by rw [List.length_drop]; omega)]
  · rw [Nat.min_eq_right (by omega), List.drop_of_length_le (Nat.le_refl _), List.drop_of_length_le (by omega)]; simp
theorem cut_mid (xs : List V) (m n : Nat) (h : m ≤ n) : cutV xs (some (m : Int)) (some (n : Int)) = (xs.drop m).take (n - m) := by
  unfold cutV
  rw [HT.sIx_nat, HT.sIx_nat]
  by_cases hm : m ≤ xs.length
  · rw [Nat.min_eq_left hm]
    by_cases hn : n ≤ xs.length
    · rw [Nat.min_eq_left hn]
    · rw [Nat.min_eq_right (by omega), List.take_of_length_le (by rw [List.length_drop]; omega), List.take_of_length_le (by rw [List.length_drop]; omega)]
  · rw [Nat.min_eq_right (show xs.length ≤ m by omega), List.drop_of_length_le (Nat.le_refl _), List.drop_of_length_le (show xs.length ≤ m by omega)]; simp
theorem map_at {α β : Type} {f : α → β} {l : List α} {i : Nat} {y : β} (h : (l.map f)[i]? = some y) : ∃ v, l[i]? = some v ∧ y = f v := by
  rw [List.getElem?_map] at h
  cases e : l[i]? with
  | none => rw [e] at h; cases h
  | some v => rw [e] at h; exact ⟨v, rfl, (Option.some.inj h).symm⟩
theorem ex_of_same {H H' : Hp} (s : Same H H') : Ex No H H H' H' := ⟨s, fun b o _ e => s _ _ e, Same.refl _, fun b o e => by
  cases eb : H b with
  | none => exact .inr rfl
  | some u =>
    have := s _ _ eb
    rw [this] at e
    exact .inl e, fun b e => s.free e⟩
/-- a draw below m -/
def spTake : Sp := fun vs H Q _ => ∃ (G : Hp) (p : Addr) (m c : Int), vs = [.ref p, .int m] ∧ Sx G H p c ∧ c < 2 ^ 60 ∧ 0 < m ∧ m < 2 ^ 64 ∧
  ∀ H' r c', Ex (On p) G H G H' → Sx G H' p c' → c' ≤ c + 1 → 0 ≤ r → r < m → Q (.int r) H'
/-- one of a list's items, drawn -/
def spOf : Sp := fun vs H Q _ => ∃ (G : Hp) (p l : Addr) (xs : List V) (c : Int), vs = [.ref p, .ref l] ∧ Sx G H p c ∧ c < 2 ^ 60 ∧ G l = some (.lst xs) ∧ 0 < xs.length ∧ xs.length < 1000 ∧
  ∀ H' v c', Ex (On p) G H G H' → Sx G H' p c' → c' ≤ c + 1 → v ∈ xs → Q v H'
/-- a box from a cell -/
def spBox : Sp := fun vs H Q _ => ∃ (G : Hp) (a : Addr) (ns : List Int) (k : Nat), vs = [.ref a, .int (k : Int)] ∧ Same G H ∧ G a = some (.lst (ns.map V.int)) ∧ k < ns.length ∧ ns.length ≤ 1000 ∧
  ∀ H' p, Ex No G H G H' → Sx G H' p 0 → H p = none → Q (.ref p) H'
/-- the cells of a script -/
def spCells (K : PySem.W.Frag) : Sp := fun vs H Q _ => ∃ (a : Addr) (ns : List Int) (m : Nat), vs = [.ref a, .int (m : Int)] ∧ SqL K H a (ns.map V.int) ∧ ns.length ≤ 63 ∧ 0 < m ∧ m ≤ 10 ∧
  ∀ H' l (cs : List Int), Ex No H H H' H' → H' l = some (.lst (cs.map V.int)) → cs.length ≤ 10 → Q (.ref l) H'
/-- the law's check of one box -/
def spRight : Sp := fun vs H Q _ => ∃ (G : Hp) (p : Addr) (c : Int), vs = [.ref p] ∧ Sx G H p c ∧ c < 2 ^ 50 ∧
  ∀ G' H' c', Ex (On p) G H G' H' → Sx G' H' p c' → Q (.bl true) H'
def spLaw (K : PySem.W.Frag) : Sp := fun vs H Q _ => ∃ (a : Addr) (ns : List Int), vs = [.ref a] ∧ SqL K H a (ns.map V.int) ∧ ns.length ≤ 63 ∧ ∀ H', Q (.bl true) H'
theorem atI_in {α : Type} {xs : List α} {r : Int} (h0 : 0 ≤ r) (h1 : r < xs.length) : ∃ v, atI xs r = some v ∧ v ∈ xs := by
  obtain ⟨n, rfl⟩ : ∃ n : Nat, r = n := ⟨r.toNat, by omega⟩
  have hn : n < xs.length := by omega
  exact ⟨xs[n], atI_nat (List.getElem?_eq_getElem hn), List.getElem_mem hn⟩
theorem atI_ix {α : Type} {xs : List α} {r : Int} (h0 : 0 ≤ r) (h1 : r < xs.length) : ∃ (n : Nat) (v : α), r = n ∧ atI xs r = some v ∧ xs[n]? = some v ∧ n < xs.length := by
  obtain ⟨n, rfl⟩ : ∃ n : Nat, r = n := ⟨r.toNat, by omega⟩
  have hn : n < xs.length := by omega
  exact ⟨n, xs[n], rfl, atI_nat (List.getElem?_eq_getElem hn), List.getElem?_eq_getElem hn, hn⟩
/-- t + u of two told tuples -/
theorem cat_rd {K : PySem.W.Frag} {G H : Hp} {v u : V} {ds es : List PyData} {Q : VK} (S : Same G H) (ha : Rp G v (.tuple ds)) (hb : Rp G u (.tuple es)) (hz : ds.length + es.length ≤ 100000)
    (k : ∀ G' H' w, Ex No G H G' H' → Rp G' w (.tuple (ds ++ es)) → Q w H') : rCatA K v u H Q := by
  obtain ⟨a, xs, rfl, g1, r1⟩ := of_tup ha
  obtain ⟨b, ys, rfl, g2, r2⟩ := of_tup hb
  have l1 := r1.length
  have l2 := r2.length
  refine ⟨a, b, xs, ys, rfl, rfl, SqT.of (S _ _ g1), SqT.of (S _ _ g2), szL (by omega), fun e => ?_, fun _ e => ?_, fun _ _ p hp => ?_⟩
  · subst e
    cases r1
    exact k G H _ (Ex.refl S) (.tup g2 r2)
  · subst e
    cases r2
    rw [List.append_nil] at k
    exact k G H _ (Ex.refl S) (.tup g1 r1)
  · generalize e1 : upd H p _ = H1
    obtain ⟨G1, x1, h1⟩ := ex_new (M := No) S hp e1
    exact k G1 H1 _ x1 (.tup h1 ((r1.mono x1.g).app (r2.mono x1.g)))
/-! ### kinds -/
/-- a kind: 1 to 8 letters -/
structure Kd (x : Str) : Prop where
  pos : 0 < x.cps.toList.length
  le : x.cps.toList.length ≤ 8
  let_ : ∀ c ∈ x.cps.toList, 97 ≤ c ∧ c ≤ 122
abbrev letters : Str := Str.ofString "abcdefghijklmnopqrstuvwxyz"
theorem letter_at {r : Int} (h0 : 0 ≤ r) (h1 : r < 26) : atI letters.cps.toList r = some (97 + r.toNat) := by
  obtain ⟨n, rfl⟩ : ∃ n : Nat, r = n := ⟨r.toNat, by omega⟩
  have h : ∀ n : Nat, n < 26 → letters.cps.toList[n]? = some (97 + n) := by decide +kernel
  exact atI_nat (h n (by omega))
theorem letters_len : letters.length ≤ sizeLine := by decide +kernel
abbrev sgn (c : Nat) : Str := ⟨#[c]⟩
theorem join_codes (cs : List Nat) : (Txt.join (Str.ofString "") (cs.map sgn)).cps.toList = cs := by
  rw [TL.join_eq]
  have h := TL.tl_join (Str.ofString "") (cs.map sgn)
  refine h.trans ?_
  have e : TL.tl (Str.ofString "") = [] := rfl
  rw [e, List.map_map]
  clear h
  induction cs with
  | nil => rfl
  | cons c r ih =>
    cases r with
    | nil => rfl
    | cons d r =>
      show [c] ++ ([] ++ TL.joinL [] (((d :: r).map (TL.tl ∘ sgn)))) = _
      rw [ih]; rfl
theorem strOk_of {x : Str} (h : ∀ c ∈ x.cps.toList, 97 ≤ c ∧ c ≤ 122) : PyData.strOk x = true := by
  unfold PyData.strOk
  rw [Array.all_eq_true]
  intro i hi
  have := h x.cps[i] (Array.getElem_mem_toList ..)
  simp
  omega
theorem Kd.ok {x : Str} (h : Kd x) : PyData.strOk x = true := strOk_of h.let_
theorem cutS_codes (z : Str) (n : Nat) : (cutS z none (some (n : Int))).cps.toList = z.cps.toList.take n ∧ (cutS z (some (n : Int)) none).cps.toList = z.cps.toList.drop n := by
  unfold cutS
  have hz : z.length = z.cps.toList.length := (Array.length_toList ..).symm
  constructor
  · rw [HT.sIx_none, HT.sIx_nat, List.drop_zero, Nat.sub_zero]
    show (z.cps.toList.take (min n z.length)) = _
    rw [hz]
    by_cases h : n ≤ z.cps.toList.length
    · rw [Nat.min_eq_left h]
    · rw [Nat.min_eq_right (by omega), List.take_of_length_le (Nat.le_refl _), List.take_of_length_le (by omega)]
  · rw [HT.sIx_none, HT.sIx_nat]
    show ((z.cps.toList.drop (min n z.length)).take (z.length - min n z.length)) = _
    rw [hz]
    by_cases h : n ≤ z.cps.toList.length
    · rw [Nat.min_eq_left h, List.take_of_length_le (by rw [List.length_drop]; omega)]
    · rw [Nat.min_eq_right (by omega), List.drop_of_length_le (Nat.le_refl _), List.drop_of_length_le (by omega)]; simp
/-- a word with its sign at the place that its length tells -/
def Wd (place first step : Int) (j : Nat) (x : Str) : Prop := Kd x ∧ x.cps.toList[(place % (x.cps.toList.length : Int)).toNat]? = some (97 + ((first + step * j) % 26).toNat)
def steps : List Int := [1, 3, 5, 7, 9, 11, 15, 17, 19, 21, 23, 25]
theorem step_ok : ∀ s ∈ steps, ∀ d : Nat, d < 26 → 0 < d → (s * d) % 26 ≠ 0 := by decide +kernel
theorem wd_ne {place first step : Int} (hs : step ∈ steps) {i j : Nat} (hij : i < j) (hj : j < 26) {x : Str} (h1 : Wd place first step i x) (h2 : Wd place first step j x) : False := by
  have e := h1.2.symm.trans h2.2
  injection e with e
  have a1 := mod_in (i := first + step * i) (m := 26) (by decide)
  have a2 := mod_in (i := first + step * j) (m := 26) (by decide)
  have e2 : (first + step * i) % 26 = (first + step * j) % 26 := by omega
  have h := step_ok step hs (j - i) (by omega) (by omega)
  apply h
  have e3 : (step * ((j - i : Nat) : Int)) = (first + step * j) - (first + step * i) := by
    rw [Int.ofNat_sub (by omega), Int.mul_sub]; omega
  rw [e3]
  omega
theorem wd_nodup {place first step : Int} (hs : step ∈ steps) {ns : List Str} (hl : ns.length ≤ 26) (h : ∀ j x, ns[j]? = some x → Wd place first step j x) : ns.Nodup := by
  rw [List.Nodup, List.pairwise_iff_getElem]
  intro i j hi hj hij e
  have w1 := h i _ (List.getElem?_eq_getElem hi)
  have w2 := h j _ (List.getElem?_eq_getElem hj)
  rw [← e] at w2
  exact wd_ne hs hij (by omega) w1 w2
/-- so many different kinds -/
def spNames : Sp := fun vs H Q _ => ∃ (G : Hp) (p : Addr) (c : Int) (n : Nat), vs = [.ref p, .int (n : Int)] ∧ Sx G H p c ∧ c < 2 ^ 58 ∧ n ≤ 26 ∧
  ∀ G' H' c' l (ns : List Str), Ex (On p) G H G' H' → Sx G' H' p c' → c' ≤ c + 1000 → G' l = some (.lst (ns.map V.str)) → ns.length = n → (∀ x ∈ ns, Kd x) → ns.Nodup → Q (.ref l) H'
end Kt

/-! Lots as sorted lists of a kind and a number above 0: plain Lean. -/
namespace LM
open PySem L2
def slt (x y : Str) : Bool := Spec.ltCps x.cps.toList y.cps.toList
theorem lt_irr : ∀ a : List Nat, Spec.ltCps a a = false
  | [] => rfl
  | a :: r => by simp [Spec.ltCps, lt_irr r]
theorem lt_tr : ∀ a b c : List Nat, Spec.ltCps a b = true → Spec.ltCps b c = true → Spec.ltCps a c = true
  | [], [], _, h, _ => by cases h
  | [], _ :: _, [], _, h => by cases h
  | [], _ :: _, _ :: _, _, _ => rfl
  | _ :: _, [], _, h, _ => by cases h
  | _ :: _, _ :: _, [], _, h => by cases h
  | x :: a, y :: b, z :: c, h1, h2 => by
    simp only [Spec.ltCps, Bool.or_eq_true, Bool.and_eq_true, decide_eq_true_eq, beq_iff_eq] at h1 h2 ⊢
    rcases h1 with h1 | ⟨rfl, h1⟩
    · rcases h2 with h2 | ⟨rfl, h2⟩
      · left; omega
      · left; exact h1
    · rcases h2 with h2 | ⟨rfl, h2⟩
      · left; exact h2
      · right; exact ⟨rfl, lt_tr a b c h1 h2⟩
theorem lt_tri : ∀ a b : List Nat, Spec.ltCps a b = false → Spec.ltCps b a = false → a = b
  | [], [], _, _ => rfl
  | [], _ :: _, h, _ => by cases h
  | _ :: _, [], _, h => by cases h
  | x :: a, y :: b, h1, h2 => by
    simp only [Spec.ltCps, Bool.or_eq_false_iff, Bool.and_eq_false_iff, decide_eq_false_iff_not, beq_eq_false_iff_ne] at h1 h2
    have e : x = y := by omega
    subst e
    rw [lt_tri a b (h1.2.resolve_left (fun h => h rfl)) (h2.2.resolve_left (fun h => h rfl))]
theorem slt_irr (x : Str) : slt x x = false := lt_irr _
theorem slt_tr {x y z : Str} (h : slt x y = true) (h' : slt y z = true) : slt x z = true := lt_tr _ _ _ h h'
theorem str_ext {x y : Str} (h : x.cps.toList = y.cps.toList) : x = y := by
  cases x with
  | mk a => cases y with
    | mk b => simp at h; rw [h]
theorem slt_tri {x y : Str} (h : slt x y = false) (h' : slt y x = false) : x = y := str_ext (lt_tri _ _ h h')
theorem slt_ne {x y : Str} (h : slt x y = true) : x ≠ y := by
  rintro rfl; rw [slt_irr] at h; cases h
theorem slt_asym {x y : Str} (h : slt x y = true) : slt y x = false := by
  cases e : slt y x with
  | false => rfl
  | true => have := slt_tr h e; rw [slt_irr] at this; cases this

abbrev Pr := List (Str × Int)
def lk : Pr → Str → Int
  | [], _ => 0
  | p :: r, k => if p.1 = k then p.2 else lk r k
structure Ok (m : Pr) : Prop where
  srt : m.Pairwise (fun a b => slt a.1 b.1 = true)
  pos : ∀ x ∈ m, 0 < x.2
theorem Ok.nil : Ok [] := ⟨List.Pairwise.nil, fun x h => by cases h⟩
theorem Ok.tail {p : Str × Int} {m : Pr} (h : Ok (p :: m)) : Ok m := ⟨(List.pairwise_cons.mp h.srt).2, fun x hx => h.pos x (List.mem_cons_of_mem _ hx)⟩
theorem Ok.head {p : Str × Int} {m : Pr} (h : Ok (p :: m)) : ∀ x ∈ m, slt p.1 x.1 = true := (List.pairwise_cons.mp h.srt).1
theorem lk_out {k : Str} : ∀ {m : Pr}, (∀ x ∈ m, x.1 ≠ k) → lk m k = 0
  | [], _ => rfl
  | p :: r, h => by
    rw [lk, if_neg (h p (List.mem_cons_self ..)), lk_out fun x hx => h x (List.mem_cons_of_mem _ hx)]
theorem Ok.lk_nn {m : Pr} (h : Ok m) (k : Str) : 0 ≤ lk m k := by
  induction m with
  | nil => exact Int.le_refl _
  | cons p r ih =>
    rw [lk]; split
    · exact Int.le_of_lt (h.pos p (List.mem_cons_self ..))
    · exact ih h.tail
theorem Ok.lk_head {p : Str × Int} {m : Pr} (h : Ok (p :: m)) : lk m p.1 = 0 := lk_out fun x hx => (slt_ne (h.head x hx)).symm
theorem Ok.lk_mem {m : Pr} (h : Ok m) {p : Str × Int} (hp : p ∈ m) : lk m p.1 = p.2 := by
  induction m with
  | nil => cases hp
  | cons q r ih =>
    rcases List.mem_cons.mp hp with rfl | hp
    · rw [lk, if_pos rfl]
    · rw [lk, if_neg (slt_ne (h.head p hp)), ih h.tail hp]
theorem lk_pos_mem {m : Pr} {k : Str} (h : lk m k ≠ 0) : (k, lk m k) ∈ m := by
  induction m with
  | nil => exact absurd rfl h
  | cons p r ih =>
    rw [lk] at h ⊢
    by_cases e : p.1 = k
    · rw [if_pos e] at h ⊢; subst e; exact List.mem_cons_self ..
    · rw [if_neg e] at h ⊢; exact List.mem_cons_of_mem _ (ih h)
theorem Ok.ext : ∀ {m m' : Pr}, Ok m → Ok m' → (∀ k, lk m k = lk m' k) → m = m'
  | [], [], _, _, _ => rfl
  | [], p :: r, _, h', e => by
    have := e p.1
    rw [h'.lk_mem (List.mem_cons_self ..)] at this
    have := h'.pos p (List.mem_cons_self ..)
    simp [lk] at *
    omega
  | p :: r, [], h, _, e => by
    have := e p.1
    rw [h.lk_mem (List.mem_cons_self ..)] at this
    have := h.pos p (List.mem_cons_self ..)
    simp [lk] at *
    omega
  | p :: r, q :: t, h, h', e => by
    have hp := h.pos p (List.mem_cons_self ..)
    have hq := h'.pos q (List.mem_cons_self ..)
    have a1 : slt p.1 q.1 = false := by
      cases z : slt p.1 q.1 with
      | false => rfl
      | true =>
        have := e p.1
        rw [h.lk_mem (List.mem_cons_self ..), lk_out (m := q :: t) (fun x hx => ?_)] at this
        · omega
        · rcases List.mem_cons.mp hx with rfl | hx
          · exact (slt_ne z).symm
          · exact (slt_ne (slt_tr z (h'.head x hx))).symm
    have a2 : slt q.1 p.1 = false := by
      cases z : slt q.1 p.1 with
      | false => rfl
      | true =>
        have := e q.1
        rw [h'.lk_mem (List.mem_cons_self ..), lk_out (m := p :: r) (fun x hx => ?_)] at this
        · omega
        · rcases List.mem_cons.mp hx with rfl | hx
          · exact (slt_ne z).symm
          · exact (slt_ne (slt_tr z (h.head x hx))).symm
    have ek := slt_tri a1 a2
    have ev : p.2 = q.2 := by
      have := e p.1
      rw [h.lk_mem (List.mem_cons_self ..), ek, h'.lk_mem (List.mem_cons_self ..)] at this
      exact this
    have epq : p = q := Prod.ext ek ev
    subst epq
    rw [Ok.ext h.tail h'.tail fun k => ?_]
    have := e k
    rw [lk, lk] at this
    by_cases z : p.1 = k
    · subst z
      rw [h.lk_head, h'.lk_head]
    · rw [if_neg z, if_neg z] at this; exact this
def addL : Pr → Str → Int → Pr
  | [], k, n => [(k, n)]
  | p :: r, k, n => if p.1 = k then (p.1, p.2 + n) :: r else if slt k p.1 = true then (k, n) :: p :: r else p :: addL r k n
theorem addL_mem {k : Str} {n : Int} : ∀ {m : Pr} {x : Str × Int}, x ∈ addL m k n → x.1 = k ∨ x ∈ m
  | [], x, h => by rw [addL] at h; left; rw [List.mem_singleton.mp h]
  | p :: r, x, h => by
    rw [addL] at h
    split at h
    · rename_i e
      rcases List.mem_cons.mp h with rfl | h
      · left; exact e
      · right; exact List.mem_cons_of_mem _ h
    · split at h
      · rcases List.mem_cons.mp h with rfl | h
        · left; rfl
        · right; exact h
      · rcases List.mem_cons.mp h with rfl | h
        · right; exact List.mem_cons_self ..
        · rcases addL_mem h with h | h
          · left; exact h
          · right; exact List.mem_cons_of_mem _ h
theorem Ok.addL {k : Str} {n : Int} (hn : 0 < n) : ∀ {m : Pr}, Ok m → Ok (addL m k n)
  | [], _ => ⟨List.pairwise_singleton .., fun x hx => by rw [LM.addL, List.mem_singleton] at hx; rw [hx]; exact hn⟩
  | p :: r, h => by
    rw [LM.addL]
    split
    · refine ⟨List.pairwise_cons.mpr ⟨h.head, h.tail.srt⟩, fun x hx => ?_⟩
      rcases List.mem_cons.mp hx with rfl | hx
      · have := h.pos p (List.mem_cons_self ..); show 0 < p.2 + n; omega
      · exact h.tail.pos x hx
    · rename_i e
      split
      · rename_i z
        refine ⟨List.pairwise_cons.mpr ⟨fun x hx => ?_, h.srt⟩, fun x hx => ?_⟩
        · rcases List.mem_cons.mp hx with rfl | hx
          · exact z
          · exact slt_tr z (h.head x hx)
        · rcases List.mem_cons.mp hx with rfl | hx
          · exact hn
          · exact h.pos x hx
      · rename_i z
        have z2 : slt p.1 k = true := by
          cases w : slt p.1 k with
          | true => rfl
          | false => exact absurd (slt_tri w (by simpa using z)) e
        have ih := Ok.addL (k := k) hn h.tail
        refine ⟨List.pairwise_cons.mpr ⟨fun x hx => ?_, ih.srt⟩, fun x hx => ?_⟩
        · rcases addL_mem hx with hx | hx
          · rw [hx]; exact z2
          · exact h.head x hx
        · rcases List.mem_cons.mp hx with rfl | hx
          · exact h.pos _ (List.mem_cons_self ..)
          · exact ih.pos x hx
theorem lk_addL {k j : Str} {n : Int} : ∀ {m : Pr}, Ok m → lk (addL m k n) j = lk m j + (if k = j then n else 0)
  | [], _ => by simp [addL, lk]
  | p :: r, h => by
    rw [addL]
    split
    · rename_i e
      rw [lk, lk]
      by_cases z : p.1 = j
      · simp only [z, if_true]; rw [if_pos (e ▸ z)]
      · rw [if_neg z, if_neg z, if_neg (e ▸ z)]; omega
    · rename_i e
      split
      · rename_i z
        rw [lk]
        by_cases w : k = j
        · subst w
          have : lk (p :: r) k = 0 := lk_out fun x hx => by
            rcases List.mem_cons.mp hx with rfl | hx
            · exact e
            · exact (slt_ne (slt_tr z (h.head x hx))).symm
          simp [this]
        · simp [w]
      · rw [lk, lk, lk_addL h.tail]
        by_cases w : p.1 = j
        · have : ¬ k = j := fun q => e (w.trans q.symm)
          simp [w, this]
        · simp [w]
def mkLot (ps : Pr) : Pr := ps.foldl (fun m p => if p.2 = 0 then m else addL m p.1 p.2) []
def sumK : Pr → Str → Int
  | [], _ => 0
  | p :: r, k => (if p.1 = k then p.2 else 0) + sumK r k
theorem sumK_app (a b : Pr) (k : Str) : sumK (a ++ b) k = sumK a k + sumK b k := by
  induction a with
  | nil => simp [sumK]
  | cons p r ih => rw [List.cons_append, sumK, sumK, ih]; omega
theorem sumK_perm {a b : Pr} (h : a.Perm b) (k : Str) : sumK a k = sumK b k := by
  induction h with
  | nil => rfl
  | cons x _ ih => rw [sumK, sumK, ih]
  | swap x y l => rw [sumK, sumK, sumK, sumK]; omega
  | trans _ _ ih1 ih2 => exact ih1.trans ih2
theorem sumK_out {m : Pr} {k : Str} (h : ∀ x ∈ m, x.1 ≠ k) : sumK m k = 0 := by
  induction m with
  | nil => rfl
  | cons p r ih => rw [sumK, if_neg (h p (List.mem_cons_self ..)), ih fun x hx => h x (List.mem_cons_of_mem _ hx)]; rfl
theorem Ok.sumK {m : Pr} (h : Ok m) (k : Str) : sumK m k = lk m k := by
  induction m with
  | nil => rfl
  | cons p r ih =>
    rw [LM.sumK, lk, ih h.tail]
    by_cases z : p.1 = k
    · subst z; simp [h.lk_head]
    · simp [z]
theorem sumK_nn {m : Pr} (h : ∀ x ∈ m, 0 ≤ x.2) (k : Str) : 0 ≤ sumK m k := by
  induction m with
  | nil => exact Int.le_refl _
  | cons p r ih =>
    rw [sumK]
    have h1 := ih fun x hx => h x (List.mem_cons_of_mem _ hx)
    have h2 := h p (List.mem_cons_self ..)
    split <;> omega
theorem mk_step {ps : Pr} {m : Pr} (hm : Ok m) (hp : ∀ x ∈ ps, 0 ≤ x.2) :
    Ok (ps.foldl (fun m p => if p.2 = 0 then m else addL m p.1 p.2) m) ∧ ∀ k, lk (ps.foldl (fun m p => if p.2 = 0 then m else addL m p.1 p.2) m) k = lk m k + sumK ps k := by
  induction ps generalizing m with
  | nil => exact ⟨hm, fun k => by rw [sumK]; simp⟩
  | cons p r ih =>
    have h0 := hp p (List.mem_cons_self ..)
    have hr : ∀ x ∈ r, 0 ≤ x.2 := fun x hx => hp x (List.mem_cons_of_mem _ hx)
    rw [List.foldl_cons]
    by_cases z : p.2 = 0
    · rw [if_pos z]
      obtain ⟨a, b⟩ := ih hm hr
      refine ⟨a, fun k => ?_⟩
      rw [b, sumK, z]; simp
    · rw [if_neg z]
      obtain ⟨a, b⟩ := ih (m := addL m p.1 p.2) (hm.addL (by omega)) hr
      refine ⟨a, fun k => ?_⟩
      rw [b, sumK, lk_addL hm]; omega
theorem mk_ok {ps : Pr} (hp : ∀ x ∈ ps, 0 ≤ x.2) : Ok (mkLot ps) := (mk_step Ok.nil hp).1
theorem lk_mk {ps : Pr} (hp : ∀ x ∈ ps, 0 ≤ x.2) (k : Str) : lk (mkLot ps) k = sumK ps k := by
  have := (mk_step Ok.nil hp).2 k
  rw [lk, Int.zero_add] at this
  exact this
theorem mk_eq {ps qs : Pr} (hp : ∀ x ∈ ps, 0 ≤ x.2) (hq : ∀ x ∈ qs, 0 ≤ x.2) (h : ∀ k, sumK ps k = sumK qs k) : mkLot ps = mkLot qs :=
  (mk_ok hp).ext (mk_ok hq) fun k => by rw [lk_mk hp, lk_mk hq, h]
theorem mk_self {m : Pr} (h : Ok m) : mkLot m = m := by
  have hp : ∀ x ∈ m, 0 ≤ x.2 := fun x hx => Int.le_of_lt (h.pos x hx)
  exact (mk_ok hp).ext h fun k => by rw [lk_mk hp, h.sumK]
theorem mk_perm {ps m : Pr} (h : Ok m) (p : ps.Perm m) : mkLot ps = m := by
  have hp : ∀ x ∈ m, 0 ≤ x.2 := fun x hx => Int.le_of_lt (h.pos x hx)
  rw [← mk_self h]
  exact mk_eq (fun x hx => hp x (p.mem_iff.mp hx)) hp fun k => sumK_perm p k
/-- numbers of a lot, each changed by its kind -/
theorem sumK_map {m : Pr} (h : Ok m) (f : Str → Int → Int) (k : Str) (hf : lk m k = 0 → f k 0 = 0) : sumK (m.map fun p => (p.1, f p.1 p.2)) k = f k (lk m k) := by
  induction m with
  | nil => rw [List.map_nil, LM.sumK, lk, hf rfl]
  | cons p r ih =>
    rw [List.map_cons, LM.sumK, lk]
    by_cases z : p.1 = k
    · subst z
      have : sumK (r.map fun p => (p.1, f p.1 p.2)) p.1 = 0 := sumK_out fun x hx => by
        obtain ⟨q, hq, rfl⟩ := List.mem_map.mp hx
        exact (slt_ne (h.head q hq)).symm
      simp [this]
    · simp only [z, if_false]
      rw [ih h.tail (fun e => hf (by rw [lk, if_neg z]; exact e))]; omega
theorem Ok.keys_nodup {m : Pr} (h : Ok m) : (m.map (·.1)).Nodup := by
  rw [List.Nodup, List.pairwise_map]
  exact h.srt.imp fun z => slt_ne z

/-! ### dicts of numbers by text keys -/
def encD (d : Pr) : List (Key × V) := d.map fun p => (Sum.inr p.1, V.int p.2)
def look : Pr → Str → Option Int
  | [], _ => none
  | p :: r, k => if p.1 = k then some p.2 else look r k
def putD (d : Pr) (k : Str) (n : Int) : Pr := if k ∈ d.map (·.1) then d.map (fun p => if p.1 = k then (p.1, n) else p) else d ++ [(k, n)]
theorem val_enc (d : Pr) (k : Str) : valV (encD d) (Sum.inr k) = (look d k).map V.int := by
  induction d with
  | nil => rfl
  | cons p r ih =>
    rw [encD, List.map_cons, look]
    by_cases z : p.1 = k
    · rw [valV_pos (by rw [z]), if_pos z]; rfl
    · rw [valV_neg (fun h => z (Sum.inr.inj h)), if_neg z]; exact ih
theorem look_none {d : Pr} {k : Str} (h : k ∉ d.map (·.1)) : look d k = none := by
  induction d with
  | nil => rfl
  | cons p r ih =>
    rw [List.map_cons, List.mem_cons, not_or] at h
    rw [look, if_neg (fun e => h.1 e.symm), ih h.2]
theorem look_some_mem {d : Pr} {k : Str} {n : Int} (h : look d k = some n) : (k, n) ∈ d := by
  induction d with
  | nil => cases h
  | cons p r ih =>
    rw [look] at h
    by_cases z : p.1 = k
    · rw [if_pos z] at h; cases h; subst z; exact List.mem_cons_self ..
    · rw [if_neg z] at h; exact List.mem_cons_of_mem _ (ih h)
theorem look_mem {d : Pr} (hn : (d.map (·.1)).Nodup) {p : Str × Int} (h : p ∈ d) : look d p.1 = some p.2 := by
  induction d with
  | nil => cases h
  | cons q r ih =>
    rw [List.map_cons, List.nodup_cons] at hn
    rcases List.mem_cons.mp h with rfl | h
    · rw [look, if_pos rfl]
    · rw [look, if_neg, ih hn.2 h]
      intro e
      exact hn.1 (e ▸ List.mem_map_of_mem h)
theorem look_iff {d : Pr} (hn : (d.map (·.1)).Nodup) (k : Str) (n : Int) : look d k = some n ↔ (k, n) ∈ d :=
  ⟨look_some_mem, fun h => look_mem hn h⟩
theorem putD_keys (d : Pr) (k : Str) (n : Int) : (putD d k n).map (·.1) = if k ∈ d.map (·.1) then d.map (·.1) else d.map (·.1) ++ [k] := by
  unfold putD
  split
  · rw [List.map_map]
    refine List.map_congr_left fun p _ => ?_
    show (if p.1 = k then (p.1, n) else p).1 = p.1
    split <;> rfl
  · rw [List.map_append]; rfl
theorem putD_nodup {d : Pr} (hn : (d.map (·.1)).Nodup) (k : Str) (n : Int) : ((putD d k n).map (·.1)).Nodup := by
  rw [putD_keys]
  split
  · exact hn
  · rename_i h
    rw [List.nodup_append]
    refine ⟨hn, by simp, fun a ha b hb => ?_⟩
    rw [List.mem_singleton] at hb
    subst hb
    rintro rfl
    exact h ha
theorem look_app (d e : Pr) (k : Str) : look (d ++ e) k = (look d k).or (look e k) := by
  induction d with
  | nil => rfl
  | cons p r ih =>
    rw [List.cons_append, look, look, ih]
    split <;> rfl
theorem look_set (d : Pr) (k j : Str) (n : Int) (h : k ∈ d.map (·.1)) : look (d.map (fun p => if p.1 = k then (p.1, n) else p)) j = if k = j then some n else look d j := by
  induction d with
  | nil => cases h
  | cons p r ih =>
    rw [List.map_cons, look, look]
    by_cases z : p.1 = k
    · rw [if_pos z]
      by_cases w : p.1 = j
      · rw [if_pos w, if_pos (z ▸ w)]
      · rw [if_neg w, if_neg (z ▸ w), if_neg w]
        by_cases v : k ∈ r.map (·.1)
        · rw [ih v, if_neg (z ▸ w)]
        · have : (r.map fun p => if p.1 = k then (p.1, n) else p) = r := by
            conv => rhs; rw [← List.map_id r]
            refine List.map_congr_left fun q hq => ?_
            have hne : ¬ q.1 = k := fun e => v (e ▸ List.mem_map_of_mem hq)
            rw [if_neg hne]; rfl
          rw [this]
    · rw [if_neg z]
      rw [List.map_cons, List.mem_cons] at h
      rw [ih (h.resolve_left fun e => z e.symm)]
      by_cases w : p.1 = j
      · rw [if_pos w, if_pos w, if_neg (fun e => z (w.trans e.symm))]
      · rw [if_neg w, if_neg w]
theorem look_putD (d : Pr) (k j : Str) (n : Int) : look (putD d k n) j = if k = j then some n else look d j := by
  unfold putD
  split
  · rename_i h
    exact look_set d k j n h
  · rename_i h
    rw [look_app]
    by_cases w : k = j
    · subst w
      rw [look_none h, if_pos rfl, look, if_pos rfl]; rfl
    · rw [if_neg w, look, if_neg w, look]; simp
theorem putD_length (d : Pr) (k : Str) (n : Int) : (putD d k n).length ≤ d.length + 1 := by
  have := congrArg List.length (putD_keys d k n)
  rw [List.length_map] at this
  rw [this]
  split <;> simp
theorem put_enc (d : Pr) (k : Str) (n : Int) : putK (encD d) (Sum.inr k) (V.int n) = encD (putD d k n) := by
  have hany : ((encD d).any fun kv => decide (kv.1 = Sum.inr k)) = decide (k ∈ d.map (·.1)) := by
    rw [Bool.eq_iff_iff, List.any_eq_true, decide_eq_true_eq]
    constructor
    · rintro ⟨x, hx, hk⟩
      obtain ⟨p, hp, rfl⟩ := List.mem_map.mp hx
      have : p.1 = k := Sum.inr.inj (of_decide_eq_true hk)
      exact this ▸ List.mem_map_of_mem hp
    · intro h
      obtain ⟨p, hp, rfl⟩ := List.mem_map.mp h
      exact ⟨(Sum.inr p.1, V.int p.2), List.mem_map_of_mem hp, by simp⟩
  unfold putK putD
  rw [hany]
  by_cases h : k ∈ d.map (·.1)
  · rw [if_pos (decide_eq_true h), if_pos h, encD, encD, List.map_map, List.map_map]
    refine List.map_congr_left fun p _ => ?_
    show (if (Sum.inr p.1 : Key) = Sum.inr k then ((Sum.inr p.1 : Key), V.int n) else (Sum.inr p.1, V.int p.2)) = (Sum.inr (if p.1 = k then (p.1, n) else p).1, V.int (if p.1 = k then (p.1, n) else p).2)
    by_cases z : p.1 = k
    · rw [if_pos (by rw [z]), if_pos z]
    · rw [if_neg (fun e => z (Sum.inr.inj e)), if_neg z]
  · rw [if_neg (by simpa using h), if_neg h, encD, encD, List.map_append]; rfl
theorem nodup_sub {α : Type} [BEq α] [LawfulBEq α] : ∀ {l m : List α}, l.Nodup → (∀ x ∈ l, x ∈ m) → l.length ≤ m.length
  | [], _, _, _ => Nat.zero_le _
  | a :: r, m, h, hs => by
    rw [List.nodup_cons] at h
    have ha := hs a (List.mem_cons_self ..)
    have := nodup_sub (m := m.erase a) h.2 fun x hx => by
      have hne : x ≠ a := fun e => h.1 (e ▸ hx)
      exact (List.mem_erase_of_ne hne).mpr (hs x (List.mem_cons_of_mem _ hx))
    rw [List.length_erase_of_mem ha] at this
    have := List.length_pos_of_mem ha
    rw [List.length_cons]
    omega
/-- pairs added up in a dict -/
def tallyFrom (d : Pr) (ps : Pr) : Pr := ps.foldl (fun d p => putD d p.1 ((look d p.1).getD 0 + p.2)) d
def tally (ps : Pr) : Pr := tallyFrom [] ps
theorem tally_snoc (ps : Pr) (p : Str × Int) : tally (ps ++ [p]) = putD (tally ps) p.1 ((look (tally ps) p.1).getD 0 + p.2) := by
  unfold tally tallyFrom
  rw [List.foldl_append]; rfl
theorem tally_take {ps : Pr} {i : Nat} {p : Str × Int} (h : ps[i]? = some p) : tally (ps.take (i + 1)) = putD (tally (ps.take i)) p.1 ((look (tally (ps.take i)) p.1).getD 0 + p.2) := by
  rw [List.take_add_one, h, Option.toList_some, tally_snoc]
theorem tally_nodup (ps : Pr) : ((tally ps).map (·.1)).Nodup := by
  suffices h : ∀ d : Pr, (d.map (·.1)).Nodup → ((tallyFrom d ps).map (·.1)).Nodup from h [] List.nodup_nil
  induction ps with
  | nil => exact fun d h => h
  | cons p r ih => exact fun d h => ih _ (putD_nodup h _ _)
theorem tally_look_from (ps : Pr) : ∀ (d : Pr) (k : Str), (look (tallyFrom d ps) k).getD 0 = (look d k).getD 0 + sumK ps k ∧ ((look (tallyFrom d ps) k).isSome = true ↔ (look d k).isSome = true ∨ k ∈ ps.map (·.1)) := by
  induction ps with
  | nil => intro d k; exact ⟨by rw [sumK]; show _ = _ + 0; rw [Int.add_zero]; rfl, by simp [tallyFrom]⟩
  | cons p r ih =>
    intro d k
    have h := ih (putD d p.1 ((look d p.1).getD 0 + p.2)) k
    rw [look_putD] at h
    refine ⟨?_, ?_⟩
    · show (look (tallyFrom (putD d p.1 ((look d p.1).getD 0 + p.2)) r) k).getD 0 = _
      rw [h.1, sumK]
      by_cases z : p.1 = k
      · subst z; simp; omega
      · simp [z]
    · show (look (tallyFrom (putD d p.1 ((look d p.1).getD 0 + p.2)) r) k).isSome = true ↔ _
      rw [h.2, List.map_cons, List.mem_cons]
      by_cases z : p.1 = k
      · subst z; simp
      · have : ¬ k = p.1 := fun e => z e.symm
        simp [z, this]
theorem tally_look (ps : Pr) (k : Str) : look (tally ps) k = if k ∈ ps.map (·.1) then some (sumK ps k) else none := by
  have h := tally_look_from ps [] k
  rw [look] at h
  simp only [Option.getD_none, Int.zero_add, Option.isSome_none, Bool.false_eq_true, false_or] at h
  change (look (tally ps) k).getD 0 = _ ∧ ((look (tally ps) k).isSome = true ↔ _) at h
  by_cases z : k ∈ ps.map (·.1)
  · rw [if_pos z]
    obtain ⟨n, hn⟩ := Option.isSome_iff_exists.mp (h.2.mpr z)
    rw [hn] at h ⊢
    rw [← h.1]; rfl
  · rw [if_neg z]
    cases e : look (tally ps) k with
    | none => rfl
    | some n => rw [e] at h; exact absurd (h.2.mp rfl) z
theorem tally_length (ps : Pr) : (tally ps).length ≤ ps.length := by
  suffices h : ∀ d : Pr, (tallyFrom d ps).length ≤ d.length + ps.length by simpa [tally] using h []
  induction ps with
  | nil => exact fun d => Nat.le_refl _
  | cons p r ih =>
    intro d
    have h1 := ih (putD d p.1 ((look d p.1).getD 0 + p.2))
    have h2 := putD_length d p.1 ((look d p.1).getD 0 + p.2)
    show (tallyFrom (putD d p.1 ((look d p.1).getD 0 + p.2)) r).length ≤ _
    rw [List.length_cons]
    omega
theorem sumK_pos_mem {ps : Pr} {k : Str} (h : sumK ps k ≠ 0) : k ∈ ps.map (·.1) := by
  by_cases z : k ∈ ps.map (·.1)
  · exact z
  · refine absurd (sumK_out (k := k) fun x hx e => z ?_) h
    subst e
    exact List.mem_map_of_mem hx
theorem tally_perm {ps : Pr} (hp : ∀ x ∈ ps, 0 ≤ x.2) : ((tally ps).filter fun p => decide (0 < p.2)).Perm (mkLot ps) := by
  have n1 : (tally ps).Nodup := by
    have := tally_nodup ps
    rw [List.Nodup, List.pairwise_map] at this
    exact this.imp fun {a b} (h : a.1 ≠ b.1) (e : a = b) => h (congrArg Prod.fst e)
  have n2 : (mkLot ps).Nodup := by
    have := (mk_ok hp).keys_nodup
    rw [List.Nodup, List.pairwise_map] at this
    exact this.imp fun {a b} (h : a.1 ≠ b.1) (e : a = b) => h (congrArg Prod.fst e)
  rw [List.perm_ext_iff_of_nodup (n1.filter _) n2]
  rintro ⟨k, n⟩
  rw [List.mem_filter, ← look_iff (tally_nodup ps), tally_look]
  constructor
  · rintro ⟨h, hn⟩
    have hn : 0 < n := of_decide_eq_true hn
    split at h
    · cases h
      have e := lk_mk hp k
      rw [← e] at hn ⊢
      exact lk_pos_mem (by omega)
    · cases h
  · intro h
    have h1 := (mk_ok hp).lk_mem h
    have h2 := (mk_ok hp).pos _ h
    rw [lk_mk hp] at h1
    simp only at h1 h2
    rw [if_pos (sumK_pos_mem (by omega)), h1]
    exact ⟨rfl, decide_eq_true h2⟩
theorem keys_mk {ps : Pr} (hp : ∀ x ∈ ps, 0 ≤ x.2) {q : Str × Int} (h : q ∈ mkLot ps) : q.1 ∈ ps.map (·.1) := by
  have := (tally_perm hp).mem_iff.mpr h
  rw [List.mem_filter, ← look_iff (tally_nodup ps) q.1 q.2, tally_look] at this
  have h1 := this.1
  split at h1
  · assumption
  · cases h1
theorem mk_len {ps : Pr} (hp : ∀ x ∈ ps, 0 ≤ x.2) {Ks : List Str} (hk : ∀ x ∈ ps, x.1 ∈ Ks) : (mkLot ps).length ≤ Ks.length := by
  have := nodup_sub (m := Ks) (mk_ok hp).keys_nodup fun k hk' => by
    obtain ⟨q, hq, rfl⟩ := List.mem_map.mp hk'
    obtain ⟨p, h1, h2⟩ := List.mem_map.mp (keys_mk hp hq)
    exact h2 ▸ hk p h1
  rwa [List.length_map] at this
theorem rising_all : ∀ (p : Str) (l : List Str), PyProof.Rows.risingS p l = true → (p :: l).Pairwise fun a b => slt b a = false
  | p, [], _ => List.pairwise_singleton ..
  | p, x :: r, h => by
    rw [PyProof.Rows.risingS, Bool.and_eq_true, Bool.not_eq_true'] at h
    have ih := rising_all x r h.2
    refine List.pairwise_cons.mpr ⟨fun y hy => ?_, ih⟩
    rcases List.mem_cons.mp hy with rfl | hy
    · exact h.1
    · cases e : slt y p with
      | false => rfl
      | true =>
        have h1 : slt x p = false := h.1
        have h2 : slt y x = false := (List.pairwise_cons.mp ih).1 y hy
        cases e3 : slt p x with
        | true => have := slt_tr e e3; rw [h2] at this; cases this
        | false => have := slt_tri e3 h1; subst this; rw [h2] at e; cases e
/-- a sorted arrangement of a lot's kinds is its own row of kinds -/
theorem sorted_keys {ys : List Str} {m : Pr} (h : Ok m) (p : ys.Perm (m.map (·.1))) (s : PyProof.Rows.sortedS ys = true) : ys = m.map (·.1) := by
  have hs : ys.Pairwise fun a b => slt b a = false := by
    cases ys with
    | nil => exact List.Pairwise.nil
    | cons y r => exact rising_all y r s
  have hnd : ys.Nodup := p.nodup_iff.mpr h.keys_nodup
  have h1 : ys.Pairwise fun a b => slt a b = true := by
    refine (hs.and hnd).imp fun {a b} z => ?_
    cases e : slt a b with
    | true => rfl
    | false => exact absurd (slt_tri e z.1) z.2
  have h2 : (m.map (·.1)).Pairwise fun a b => slt a b = true := by rw [List.pairwise_map]; exact h.srt
  have := List.Perm.eq_of_pairwise (le := fun a b => slt a b = true) (fun a b _ _ x y => by rw [slt_asym x] at y; cases y) h1 h2 p
  exact this
def encP (p : Str × Int) : PyData := .tuple [.str p.1, .int p.2]
end LM

/-! The order of data: ints, texts, tuples of such at any depth. -/
namespace DO
open PySem L2 LM
mutual
def ltD : PyData → PyData → Bool
  | .int i, .int j => decide (i < j)
  | .str x, .str y => slt x y
  | .tuple xs, .tuple ys => ltA xs ys
  | _, _ => false
def ltA : List PyData → List PyData → Bool
  | [], [] => false
  | [], _ :: _ => true
  | _ :: _, [] => false
  | x :: xs, y :: ys => if PyData.eqv x y = true then ltA xs ys else ltD x y
end
mutual
def leD : PyData → PyData → Bool
  | .int i, .int j => decide (i ≤ j)
  | .str x, .str y => !slt y x
  | .tuple xs, .tuple ys => leA xs ys
  | _, _ => false
def leA : List PyData → List PyData → Bool
  | [], _ => true
  | _ :: _, [] => false
  | x :: xs, y :: ys => if PyData.eqv x y = true then leA xs ys else leD x y
end
mutual
def cmpD : PyData → PyData → Bool
  | .int _, .int _ => true
  | .str _, .str _ => true
  | .tuple xs, .tuple ys => cmpA xs ys
  | _, _ => false
def cmpA : List PyData → List PyData → Bool
  | [], _ => true
  | _ :: _, [] => true
  | x :: xs, y :: ys => cmpD x y && cmpA xs ys
end
theorem slt_dec (x y : Str) : decide (x.cps.toList < y.cps.toList) = slt x y := PyProof.Rows.lt_meets x y
theorem lexAt_congr {e e' r r' : Nat → Bool} {z : Bool} : ∀ (k i : Nat), (∀ j, i ≤ j → j < i + k → e j = e' j ∧ r j = r' j) → Ob.lexAt e r z i k = Ob.lexAt e' r' z i k
  | 0, _, _ => rfl
  | k + 1, i, h => by
    rw [Ob.lexAt_succ, Ob.lexAt_succ, (h i (Nat.le_refl _) (by omega)).1, (h i (Nat.le_refl _) (by omega)).2, lexAt_congr k (i + 1) fun j h1 h2 => h j (by omega) (by omega)]
theorem lexAt_shift {e r : Nat → Bool} {z : Bool} : ∀ (k i : Nat), Ob.lexAt e r z (i + 1) k = Ob.lexAt (fun j => e (j + 1)) (fun j => r (j + 1)) z i k
  | 0, _ => rfl
  | k + 1, i => by rw [Ob.lexAt_succ, Ob.lexAt_succ, lexAt_shift k (i + 1)]
def eqJ (xs ys : List PyData) (j : Nat) : Bool := PyData.eqv (xs.getD j .none) (ys.getD j .none)
theorem lex_le : ∀ xs ys : List PyData, Ob.lexAt (eqJ xs ys) (fun j => leD (xs.getD j .none) (ys.getD j .none)) (decide (xs.length ≤ ys.length)) 0 (min xs.length ys.length) = leA xs ys
  | [], ys => by simp [Ob.lexAt, leA]
  | x :: xs, [] => by simp [Ob.lexAt, leA]
  | x :: xs, y :: ys => by
    have e : min (x :: xs).length (y :: ys).length = min xs.length ys.length + 1 := by simp only [List.length_cons]; omega
    rw [e, Ob.lexAt_succ, lexAt_shift, leA]
    have ih := lex_le xs ys
    have e2 : decide ((x :: xs).length ≤ (y :: ys).length) = decide (xs.length ≤ ys.length) := by simp
    rw [e2]
    show (if PyData.eqv x y = true then _ else leD x y) = _
    congr 1
theorem lex_lt : ∀ xs ys : List PyData, Ob.lexAt (eqJ xs ys) (fun j => ltD (xs.getD j .none) (ys.getD j .none)) (decide (xs.length < ys.length)) 0 (min xs.length ys.length) = ltA xs ys
  | [], [] => by simp [Ob.lexAt, ltA]
  | [], y :: ys => by simp [Ob.lexAt, ltA]
  | x :: xs, [] => by simp [Ob.lexAt, ltA]
  | x :: xs, y :: ys => by
    have e : min (x :: xs).length (y :: ys).length = min xs.length ys.length + 1 := by simp only [List.length_cons]; omega
    rw [e, Ob.lexAt_succ, lexAt_shift, ltA]
    have ih := lex_lt xs ys
    have e2 : decide ((x :: xs).length < (y :: ys).length) = decide (xs.length < ys.length) := by simp
    rw [e2]
    show (if PyData.eqv x y = true then _ else ltD x y) = _
    congr 1
theorem readsAll_at {h : Heap} : ∀ {vs : List Value} {ds : List PyData} {as : List Addr} {j : Nat} (hj : j < vs.length), ReadsAll h vs ds as → ∃ bs, Reads h vs[j] (ds.getD j .none) bs
  | _ :: _, _ :: _, _, 0, _, .cons r _ => ⟨_, r⟩
  | _ :: _, _ :: _, _, j + 1, hj, .cons _ r => readsAll_at (j := j) (Nat.lt_of_succ_lt_succ hj) r
theorem readsAll_len {h : Heap} : ∀ {vs : List Value} {ds : List PyData} {as : List Addr}, ReadsAll h vs ds as → vs.length = ds.length
  | _, _, _, .nil => rfl
  | _, _, _, .cons _ r => by rw [List.length_cons, List.length_cons, readsAll_len r]
theorem canAll_at : ∀ {ds : List PyData} {j : Nat}, PyData.canLayAll0 ds = true → (ds.getD j .none).canLay0 = true
  | [], _, _ => rfl
  | d :: ds, 0, h => by simp [PyData.canLayAll0] at h; exact h.1
  | d :: ds, j + 1, h => by simp [PyData.canLayAll0] at h; exact canAll_at (j := j) h.2
theorem depthAll_at : ∀ {ds : List PyData} {j : Nat}, (ds.getD j .none).depth ≤ PyData.depthAll ds
  | [], _ => Nat.le_refl _
  | d :: ds, 0 => by simp [PyData.depthAll]; omega
  | d :: ds, j + 1 => by
    have := depthAll_at (ds := ds) (j := j)
    simp [PyData.depthAll] at this ⊢
    omega
theorem cmpA_at : ∀ {xs ys : List PyData} {j : Nat}, cmpA xs ys = true → j < xs.length → j < ys.length → cmpD (xs.getD j .none) (ys.getD j .none) = true
  | x :: xs, y :: ys, 0, h, _, _ => by rw [cmpA, Bool.and_eq_true] at h; exact h.1
  | x :: xs, y :: ys, j + 1, h, h1, h2 => by
    rw [cmpA, Bool.and_eq_true] at h
    exact cmpA_at (j := j) h.2 (Nat.lt_of_succ_lt_succ h1) (Nat.lt_of_succ_lt_succ h2)
theorem isTup_of {h : Heap} {v : Value} {xs : List PyData} {as : List Addr} (r : Reads h v (.tuple xs) as) : ∃ (a : Addr) (vs : Array Value) (bs : List Addr), v = .ref a ∧ h.IsTuple a vs ∧ ReadsAll h vs.toList xs bs := by
  cases r with
  | tuple h1 h2 h3 r => exact ⟨_, _, _, rfl, ⟨_, h1, h2, _, h3⟩, r⟩
theorem in1_units (A : Around) : A.in1.units = A.units + 1 := rfl
/-- <= and < of data -/
theorem rc_data : ∀ (n : Nat) (d e : PyData) (A : Around) (s : Shared) (v u : Value) (as bs : List Addr), d.depth ≤ n → Reads s.heap v d as → Reads s.heap u e bs → d.canLay0 = true → e.canLay0 = true → cmpD d e = true → A.units + n + 1 < cLine →
    Ob.RcOp .LtE A s v u (leD d e) ∧ Ob.RcOp .Lt A s v u (ltD d e) := by
  intro n
  induction n with
  | zero =>
    intro d e A s v u as bs hn r1 r2 c1 c2 hc hu
    cases d <;> cases e <;> simp only [cmpD, Bool.false_eq_true] at hc
    · cases r1; cases r2
      exact ⟨Ob.RcOp.le_int _ _ _ _, Ob.RcOp.lt_int _ _ _ _⟩
    · cases r1; cases r2
      refine ⟨fun prog w E Q q => PySem.P.le_str ?_, fun prog w E Q q => PySem.P.lt_str ?_⟩
      · rw [leD, ← slt_dec] at q; exact q
      · rw [ltD, ← slt_dec] at q; exact q
    · simp [PyData.depth] at hn
  | succ n ih =>
    intro d e A s v u as bs hn r1 r2 c1 c2 hc hu
    cases d <;> cases e <;> simp only [cmpD, Bool.false_eq_true] at hc
    · cases r1; cases r2
      exact ⟨Ob.RcOp.le_int _ _ _ _, Ob.RcOp.lt_int _ _ _ _⟩
    · cases r1; cases r2
      refine ⟨fun prog w E Q q => PySem.P.le_str ?_, fun prog w E Q q => PySem.P.lt_str ?_⟩
      · rw [leD, ← slt_dec] at q; exact q
      · rw [ltD, ← slt_dec] at q; exact q
    · rename_i xs ys
      obtain ⟨a, vs, as', rfl, t1, ra1⟩ := isTup_of r1
      obtain ⟨b, ws, bs', rfl, t2, ra2⟩ := isTup_of r2
      have l1 := readsAll_len ra1
      have l2 := readsAll_len ra2
      rw [Array.length_toList] at l1 l2
      have dn : PyData.depthAll xs ≤ n := by simp [PyData.depth] at hn; omega
      have k1 : PyData.canLayAll0 xs = true := c1
      have k2 : PyData.canLayAll0 ys = true := c2
      have one : ∀ j (h1 : j < vs.size) (h2 : j < ws.size), SeqAt.EqAt A.in1 s vs[j] ws[j] (eqJ xs ys j) ∧ Ob.RcOp .LtE A.in1 s vs[j] ws[j] (leD (xs.getD j .none) (ys.getD j .none)) ∧ Ob.RcOp .Lt A.in1 s vs[j] ws[j] (ltD (xs.getD j .none) (ys.getD j .none)) := by
        intro j h1 h2
        obtain ⟨q1, s1⟩ := readsAll_at (j := j) (by rw [Array.length_toList]; exact h1) ra1
        obtain ⟨q2, s2⟩ := readsAll_at (j := j) (by rw [Array.length_toList]; exact h2) ra2
        rw [Array.getElem_toList] at s1 s2
        have dd := depthAll_at (ds := xs) (j := j)
        refine ⟨SeqAt.eqAt_reads _ _ _ _ _ _ _ _ s1 s2 (canAll_at k1) (canAll_at k2) ?_, ih _ _ _ _ _ _ _ _ (by omega) s1 s2 (canAll_at k1) (canAll_at k2) (cmpA_at hc (by omega) (by omega)) ?_⟩
        · rw [in1_units]; omega
        · rw [in1_units]; omega
      constructor
      · have := Ob.RcOp.tuples_le t1 t2 (by omega) (fun j h1 h2 => (one j h1 h2).1) (fun j h1 h2 _ => (one j h1 h2).2.1)
        rw [l1, l2, lex_le] at this
        exact this
      · have := Ob.RcOp.tuples_lt t1 t2 (by omega) (fun j h1 h2 => (one j h1 h2).1) (fun j h1 h2 _ => (one j h1 h2).2.2)
        rw [l1, l2, lex_lt] at this
        exact this
/-- x <= y, x < y of data -/
def rOrd (f : PyData → PyData → Bool) (K : PySem.W.Frag) : R2 := fun x y H Q => ∃ d e, Dp K H x d ∧ Dp K H y e ∧ SeqAt.shaped d = true ∧ SeqAt.shaped e = true ∧ cmpD d e = true ∧ Q (.bl (f d e)) H
theorem op_leP {X : Cx} (K : PySem.W.Frag) (hu : X.A.units + 66 < cLine) (hK : X.K = K := by rfl) : OpR X (compareOp .LtE) (rOrd leD K) := by
  subst hK
  intro pins s σ H x y v u Q I rx ry h
  obtain ⟨d, e, hd, he, sd, se, hc, q⟩ := h
  obtain ⟨as, r1⟩ := Dp.reads I d x v hd rx
  obtain ⟨bs, r2⟩ := Dp.reads I e y u he ry
  have s1 := Bool.and_eq_true_iff.mp sd
  have s2 := Bool.and_eq_true_iff.mp se
  exact (rc_data 64 d e X.A s v u as bs (of_decide_eq_true s1.2) r1 r2 s1.1 s2.1 hc (by omega)).1 X.prog X.w X.xe (EP X pins σ Q) ⟨.bl _, H, I, rfl, q⟩
theorem op_ltP {X : Cx} (K : PySem.W.Frag) (hu : X.A.units + 66 < cLine) (hK : X.K = K := by rfl) : OpR X (compareOp .Lt) (rOrd ltD K) := by
  subst hK
  intro pins s σ H x y v u Q I rx ry h
  obtain ⟨d, e, hd, he, sd, se, hc, q⟩ := h
  obtain ⟨as, r1⟩ := Dp.reads I d x v hd rx
  obtain ⟨bs, r2⟩ := Dp.reads I e y u he ry
  have s1 := Bool.and_eq_true_iff.mp sd
  have s2 := Bool.and_eq_true_iff.mp se
  exact (rc_data 64 d e X.A s v u as bs (of_decide_eq_true s1.2) r1 r2 s1.1 s2.1 hc (by omega)).2 X.prog X.w X.xe (EP X pins σ Q) ⟨.bl _, H, I, rfl, q⟩
theorem room66 {k : Nat} {A : Around} (r : Room k A) : A.units + 66 < cLine := by have := r.un; omega
/-! ### insertion -/
def insD (done : List PyData) (row : PyData) : List PyData := done.take (done.filter fun d => leD d row).length ++ [row] ++ done.drop (done.filter fun d => leD d row).length
def risD (ds : List PyData) : List PyData := ds.foldl insD []
theorem risD_snoc (ds : List PyData) (d : PyData) : risD (ds ++ [d]) = insD (risD ds) d := by unfold risD; rw [List.foldl_append]; rfl
theorem risD_take {ds : List PyData} {i : Nat} {d : PyData} (h : ds[i]? = some d) : risD (ds.take (i + 1)) = insD (risD (ds.take i)) d := by
  rw [List.take_add_one, h, Option.toList_some, risD_snoc]
theorem insD_perm (done : List PyData) (d : PyData) : (insD done d).Perm (d :: done) := by
  unfold insD
  have h := List.take_append_drop (done.filter fun e => leD e d).length done
  have p : (done.take (done.filter fun e => leD e d).length ++ [d] ++ done.drop (done.filter fun e => leD e d).length).Perm (d :: (done.take (done.filter fun e => leD e d).length ++ done.drop (done.filter fun e => leD e d).length)) := by
    rw [List.append_assoc]
    exact List.perm_middle
  rwa [h] at p
theorem risD_perm (ds : List PyData) : (risD ds).Perm ds := by
  suffices h : ∀ done : List PyData, (ds.foldl insD done).Perm (done ++ ds) from h []
  induction ds with
  | nil => exact fun done => by rw [List.append_nil]; exact List.Perm.refl _
  | cons d r ih =>
    intro done
    refine (ih _).trans ?_
    exact ((insD_perm done d).append_right r).trans (by rw [List.cons_append]; exact List.perm_middle.symm)
theorem le_encP (p q : Str × Int) : leD (encP p) (encP q) = if p.1 = q.1 then decide (p.2 ≤ q.2) else !slt q.1 p.1 := by
  have e1 : PyData.eqv (.str p.1) (.str q.1) = decide (p.1 = q.1) := by
    simp only [PyData.eqv]
    by_cases h : p.1 = q.1
    · rw [h]; simp
    · simp [h]
  simp only [encP, leD, leA, e1]
  by_cases h : p.1 = q.1
  · simp only [h, decide_true, if_true]
    by_cases h2 : p.2 = q.2
    · simp [PyData.eqv, h2]
    · simp [PyData.eqv, h2]
  · simp [h]
theorem cmp_encP (p q : Str × Int) : cmpD (encP p) (encP q) = true := by simp [encP, cmpD, cmpA]
/-- into a lot's row a new kind goes to its place -/
theorem ins_place {m : Pr} (h : Ok m) {k : Str} {n : Int} (hk : ∀ x ∈ m, x.1 ≠ k) :
    insD (m.map encP) (encP (k, n)) = (addL m k n).map encP := by
  have hc : ((m.map encP).filter fun d => leD d (encP (k, n))).length = (m.filter fun p => slt p.1 k).length := by
    rw [List.filter_map, List.length_map]
    congr 1
    refine List.filter_congr fun p hp => ?_
    show leD (encP p) (encP (k, n)) = _
    rw [le_encP, if_neg (hk p hp)]
    cases e : slt p.1 k with
    | true => rw [slt_asym e]; rfl
    | false =>
      cases e2 : slt k p.1 with
      | true => rfl
      | false => exact absurd (slt_tri e e2) (hk p hp)
  unfold insD
  rw [hc]
  clear hc
  induction m with
  | nil => rfl
  | cons p r ih =>
    have hp : p.1 ≠ k := hk p (List.mem_cons_self ..)
    rw [addL, if_neg hp]
    cases e : slt p.1 k with
    | true =>
      rw [slt_asym e, if_neg (by simp), List.filter_cons, if_pos e, List.length_cons, List.map_cons, List.map_cons, ← ih h.tail fun x hx => hk x (List.mem_cons_of_mem _ hx)]
      rfl
    | false =>
      have e2 : slt k p.1 = true := by
        cases e2 : slt k p.1 with
        | true => rfl
        | false => exact absurd (slt_tri e e2) hp
      have hf : (r.filter fun p => slt p.1 k) = [] := by
        rw [List.filter_eq_nil_iff]
        intro x hx
        have := slt_asym (slt_tr e2 (h.head x hx))
        rw [this]; simp
      rw [e2, if_pos rfl, List.filter_cons, if_neg (by rw [e]; simp), hf]
      rfl
theorem ris_pairs {ps : Pr} (hn : (ps.map (·.1)).Nodup) (hp : ∀ x ∈ ps, 0 < x.2) : risD (ps.map encP) = (mkLot ps).map encP := by
  suffices h : ∀ (qs : Pr) (m : Pr), Ok m → ((qs.map (·.1)).Nodup) → (∀ x ∈ qs, 0 < x.2) → (∀ x ∈ qs, ∀ y ∈ m, y.1 ≠ x.1) → (qs.map encP).foldl insD (m.map encP) = (qs.foldl (fun m p => if p.2 = 0 then m else addL m p.1 p.2) m).map encP from
    h ps [] Ok.nil hn hp (fun x _ y hy => by cases hy)
  intro qs
  induction qs with
  | nil => intro m _ _ _ _; rfl
  | cons q r ih =>
    intro m hm hn hp hd
    rw [List.map_cons, List.nodup_cons] at hn
    have q0 := hp q (List.mem_cons_self ..)
    rw [List.map_cons, List.foldl_cons, List.foldl_cons, if_neg (by omega), show encP q = encP (q.1, q.2) from rfl, ins_place hm (fun x hx => hd q (List.mem_cons_self ..) x hx)]
    refine ih _ (hm.addL q0) hn.2 (fun x hx => hp x (List.mem_cons_of_mem _ hx)) fun x hx y hy => ?_
    rcases addL_mem hy with h | h
    · rw [h]
      intro e
      exact hn.1 (e ▸ List.mem_map_of_mem hx)
    · exact hd x (List.mem_cons_of_mem _ hx) y h
end DO

namespace Kt
open PySem L2 LM DO
/-- at a: a lot of the numbers m -/
def LotAt (C : Addr) (G : Hp) (a : Addr) (m : Pr) : Prop := ∃ (dx dd : Addr) (d : Pr), G a = some (.ins C dx [("own_many", .ref dd)]) ∧ G dd = some (.dK (encD d)) ∧ d.Perm m ∧ Ok m ∧ m.length < 64
section
variable {C : Addr} {G G' H H' : Hp} {a : Addr} {m m' : Pr}
theorem LotAt.mono (h : LotAt C G a m) (s : Same G G') : LotAt C G' a m := by
  obtain ⟨dx, dd, d, h1, h2, h3⟩ := h
  exact ⟨dx, dd, d, s _ _ h1, s _ _ h2, h3⟩
theorem LotAt.ok (h : LotAt C G a m) : Ok m := by obtain ⟨_, _, _, _, _, _, h, _⟩ := h; exact h
theorem LotAt.len (h : LotAt C G a m) : m.length < 64 := by obtain ⟨_, _, _, _, _, _, _, h⟩ := h; exact h
theorem LotAt.ins (h : LotAt C G a m) : ∃ dx fs, G a = some (.ins C dx fs) := by obtain ⟨dx, _, _, h, _⟩ := h; exact ⟨_, _, h⟩
theorem LotAt.noat (h : LotAt C G a m) {dx : Addr} {fs : List (Str × V)} (e : G a = some (.ins C dx fs)) {x : Str} (hx : x ≠ "own_many") : fs.lookup x = none := by
  obtain ⟨dx', dd, d, h1, _⟩ := h
  rw [h1] at e
  cases e
  simp [List.lookup, beq_eq_false_iff_ne.mpr hx]
/-- a dict of numbers -/
def DicAt (G : Hp) (a : Addr) (d : Pr) : Prop := G a = some (.dK (encD d)) ∧ (d.map (·.1)).Nodup
theorem perm_look {d m : Pr} (p : d.Perm m) (h : Ok m) (k : Str) : look d k = if lk m k = 0 then none else some (lk m k) := by
  have hn : (d.map (·.1)).Nodup := (p.map _).nodup_iff.mpr h.keys_nodup
  by_cases z : lk m k = 0
  · rw [if_pos z]
    cases e : look d k with
    | none => rfl
    | some n =>
      have hm := p.mem_iff.mp (look_some_mem e)
      have h1 := h.lk_mem hm
      have h2 := h.pos _ hm
      simp at h1 h2
      omega
  · rw [if_neg z]
    exact look_mem hn (p.mem_iff.mpr (lk_pos_mem z))
theorem perm_lookD {d m : Pr} (p : d.Perm m) (h : Ok m) (k : Str) : (look d k).getD 0 = lk m k := by
  rw [perm_look p h]
  split
  · rename_i e; rw [e]; rfl
  · rfl
end
/-- a list of data, put in order -/
def spRising : Sp := fun vs H Q _ => ∃ (G : Hp) (v : V) (ds : List PyData), vs = [v] ∧ Same G H ∧ (Rp G v (.list ds) ∨ Rp G v (.tuple ds)) ∧ (∀ d ∈ ds, SeqAt.shaped d = true) ∧ (∀ d ∈ ds, ∀ e ∈ ds, cmpD d e = true) ∧ ds.length ≤ 1000 ∧
  ∀ G' H' v', Ex No G H G' H' → Rp G' v' (.list (risD ds)) → Q v' H'
/-- data mixed: some arrangement -/
def spMixed : Sp := fun vs H Q _ => ∃ (G : Hp) (p : Addr) (c : Int) (v : V) (ds : List PyData), vs = [.ref p, v] ∧ Sx G H p c ∧ c < 2 ^ 58 ∧ (Rp G v (.list ds) ∨ Rp G v (.tuple ds)) ∧ ds.length ≤ 1000 ∧
  ∀ G' H' v' es c', Ex (On p) G H G' H' → Sx G' H' p c' → c' ≤ c + 1000 → es.Perm ds → Rp G' v' (.list es) → Q v' H'
/-- the pairs of a dict of numbers, those above 0, ascending -/
def spPairs : Sp := fun vs H Q _ => ∃ (G : Hp) (a : Addr) (d : Pr), vs = [.ref a] ∧ Same G H ∧ G a = some (.dK (encD d)) ∧ (d.map (·.1)).Nodup ∧ d.length ≤ 1000 ∧ (∀ x ∈ d, SeqAt.shaped (encP x) = true) ∧
  ∀ G' H' v', Ex No G H G' H' → Rp G' v' (.tuple ((mkLot (d.filter fun p => decide (0 < p.2))).map encP)) → Q v' H'
/-- pairs added up: a new dict, not told of -/
def spCounted : Sp := fun vs H Q _ => ∃ (G : Hp) (v : V) (ps : Pr), vs = [v] ∧ Same G H ∧ (Rp G v (.list (ps.map encP)) ∨ Rp G v (.tuple (ps.map encP))) ∧ ps.length ≤ 1000 ∧
  ∀ H' a, Ex No G H G H' → H a = none → H' a = some (.dK (encD (tally ps))) → Q (.ref a) H'
/-- Lot.__init__: x is new since H0 -/
def spLotInit (K : PySem.W.Frag) (C : Addr) : Sp := fun vs H Q _ => ∃ (G H0 : Hp) (x dx q : Addr) (xs : List V) (ps : Pr) (Ks : List Str), vs = [.ref x, .ref q] ∧ Same G H0 ∧ Ex No G H0 G H ∧ H0 x = none ∧ H x = some (.ins C dx []) ∧
  (SqL K G q xs ∨ SqT K G q xs) ∧ RpA G xs (ps.map encP) ∧ (∀ p ∈ ps, 0 ≤ p.2) ∧ Ks.length < 64 ∧ (∀ p ∈ ps, p.1 ∈ Ks) ∧ ps.length ≤ 10000 ∧
  ∀ G' H', Ex No G H0 G' H' → LotAt C G' x (mkLot ps) → Q .non H'
/-- .. that refuses a number below 0 -/
def spLotInitX (K : PySem.W.Frag) (C CB : Addr) : Sp := fun vs H Q E => ∃ (G H0 : Hp) (x dx q : Addr) (xs : List V) (ps : Pr) (Ks : List Str), vs = [.ref x, .ref q] ∧ Same G H0 ∧ Ex No G H0 G H ∧ H0 x = none ∧ H x = some (.ins C dx []) ∧
  (SqL K G q xs ∨ SqT K G q xs) ∧ RpA G xs (ps.map encP) ∧ Ks.length < 64 ∧ (∀ p ∈ ps, p.1 ∈ Ks) ∧ ps.length ≤ 10000 ∧
  ((∀ p ∈ ps, 0 ≤ p.2) → ∀ G' H', Ex No G H0 G' H' → LotAt C G' x (mkLot ps) → Q .non H') ∧
  ∀ (i : Nat) (k : Str) (n : Int), ps[i]? = some (k, n) → n < 0 → (∀ p ∈ ps.take i, 0 ≤ p.2) → ∀ H' d, Ex No G H0 G H' → H0 d = none → H' d = some (.xd [("many", .int n), ("kind", .str k)]) → E (.ref CB) (some d) H'
def spLotPairs (C : Addr) : Sp := fun vs H Q _ => ∃ (G : Hp) (a : Addr) (m : Pr), vs = [.ref a] ∧ Same G H ∧ LotAt C G a m ∧
  ∀ G' H' v, Ex No G H G' H' → Rp G' v (.tuple (m.map encP)) → Q v H'
def spLotLen (C : Addr) : Sp := fun vs H Q _ => ∃ (G : Hp) (a : Addr) (m : Pr), vs = [.ref a] ∧ Same G H ∧ LotAt C G a m ∧ Q (.int m.length) H
def spLotGet (C : Addr) : Sp := fun vs H Q _ => ∃ (G : Hp) (a : Addr) (m : Pr) (k : Str), vs = [.ref a, .str k] ∧ Same G H ∧ LotAt C G a m ∧ Q (.int (lk m k)) H
/-- the kinds, a new list that is not told of -/
def spLotKinds (C : Addr) : Sp := fun vs H Q _ => ∃ (G : Hp) (a : Addr) (m : Pr), vs = [.ref a] ∧ Same G H ∧ LotAt C G a m ∧ ∀ H' l, Ex No G H G H' → H l = none → H' l = some (.lst ((m.map (·.1)).map V.str)) → Q (.ref l) H'
def spLotHas (C : Addr) : Sp := fun vs H Q _ => ∃ (G : Hp) (a : Addr) (m : Pr) (k : Str), vs = [.ref a, .str k] ∧ Same G H ∧ LotAt C G a m ∧ Q (.bl (decide (0 < lk m k))) H
def spLotWithin (C : Addr) : Sp := fun vs H Q _ => ∃ (G : Hp) (a b : Addr) (m n : Pr), vs = [.ref a, .ref b] ∧ Same G H ∧ LotAt C G a m ∧ LotAt C G b n ∧ ∀ G' H', Ex No G H G' H' → Q (.bl (m.all fun p => decide (p.2 ≤ lk n p.1))) H'
/-- how many in all -/
theorem sum_perm {a b : List Int} (h : a.Perm b) : a.sum = b.sum := by
  induction h with
  | nil => rfl
  | cons x _ ih => rw [List.sum_cons, List.sum_cons, ih]
  | swap x y l => rw [List.sum_cons, List.sum_cons, List.sum_cons, List.sum_cons]; omega
  | trans _ _ h1 h2 => exact h1.trans h2
def spLotAbs (C : Addr) : Sp := fun vs H Q _ => ∃ (G : Hp) (a : Addr) (m : Pr), vs = [.ref a] ∧ Same G H ∧ LotAt C G a m ∧ ∀ H', Ex No G H G H' → Q (.int (m.map (·.2)).sum) H'
/-- a new lot of these numbers -/
abbrev NewLot (C : Addr) (G H : Hp) (m : Pr) (Q : VK) : Prop := ∀ G' H' x, Ex No G H G' H' → H x = none → LotAt C G' x m → Q (.ref x) H'
def spLotAdd (C : Addr) : Sp := fun vs H Q _ => ∃ (G : Hp) (a b : Addr) (m n : Pr) (Ks : List Str), vs = [.ref a, .ref b] ∧ Same G H ∧ LotAt C G a m ∧ LotAt C G b n ∧ Ks.length < 64 ∧ (∀ p ∈ m, p.1 ∈ Ks) ∧ (∀ p ∈ n, p.1 ∈ Ks) ∧
  NewLot C G H (mkLot (m ++ n)) Q
def spLotSub (C : Addr) : Sp := fun vs H Q _ => ∃ (G : Hp) (a b : Addr) (m n : Pr), vs = [.ref a, .ref b] ∧ Same G H ∧ LotAt C G a m ∧ LotAt C G b n ∧ (∀ k, lk n k ≤ lk m k) ∧
  NewLot C G H (mkLot (m.map fun p => (p.1, p.2 - lk n p.1))) Q
/-- .. that refuses where it lacks -/
def spLotSubX (C CS : Addr) : Sp := fun vs H Q E => ∃ (G : Hp) (a b : Addr) (m n : Pr), vs = [.ref a, .ref b] ∧ Same G H ∧ LotAt C G a m ∧ LotAt C G b n ∧ ((∀ k, lk n k ≤ lk m k) → NewLot C G H (mkLot (m.map fun p => (p.1, p.2 - lk n p.1))) Q) ∧
  ∀ (i : Nat) (k : Str) (c : Int), n[i]? = some (k, c) → lk m k < c → (∀ p ∈ n.take i, p.2 ≤ lk m p.1) → ∀ G' H' d, Ex No G H G' H' → H d = none → H' d = some (.xd [("lacking", .int (c - lk m k)), ("kind", .str k)]) → E (.ref CS) (some d) H'
def spLotAnd (C : Addr) : Sp := fun vs H Q _ => ∃ (G : Hp) (a b : Addr) (m n : Pr), vs = [.ref a, .ref b] ∧ Same G H ∧ LotAt C G a m ∧ LotAt C G b n ∧ NewLot C G H (mkLot (m.map fun p => (p.1, min p.2 (lk n p.1)))) Q
def spLotMul (C : Addr) : Sp := fun vs H Q _ => ∃ (G : Hp) (a : Addr) (m : Pr) (t : Int), vs = [.ref a, .int t] ∧ Same G H ∧ LotAt C G a m ∧ 0 ≤ t ∧ (∀ p ∈ m, p.2.natAbs < 2 ^ 400) ∧ t.natAbs < 2 ^ 400 ∧
  NewLot C G H (mkLot (m.map fun p => (p.1, p.2 * t))) Q
/-- self // other; CN: the class Nothing -/
def spLotDiv (C CN : Addr) : Sp := fun vs H Q E => ∃ (G : Hp) (a b : Addr) (m n : Pr), vs = [.ref a, .ref b] ∧ Same G H ∧ LotAt C G a m ∧ LotAt C G b n ∧ (∀ p ∈ n, p.2.natAbs < 2 ^ 400) ∧
  (n = [] → E (.ref CN) none H) ∧ (n ≠ [] → ∀ G' H' (q : Int), Ex No G H G' H' → (∃ p ∈ n, q = lk m p.1 / p.2) → (∀ p ∈ n, q ≤ lk m p.1 / p.2) → Q (.int q) H')
/-- self % other -/
def spLotMod (C CN : Addr) : Sp := fun vs H Q E => ∃ (G : Hp) (a b : Addr) (m n : Pr), vs = [.ref a, .ref b] ∧ Same G H ∧ LotAt C G a m ∧ LotAt C G b n ∧ (∀ p ∈ n, p.2.natAbs < 2 ^ 400) ∧ (∀ p ∈ m, p.2.natAbs < 2 ^ 400) ∧
  (n = [] → E (.ref CN) none H) ∧ (n ≠ [] → ∀ (q : Int), (∃ p ∈ n, q = lk m p.1 / p.2) → (∀ p ∈ n, q ≤ lk m p.1 / p.2) → NewLot C G H (mkLot (m.map fun p => (p.1, p.2 - lk n p.1 * q))) Q)
/-- self += other: self is not told of -/
def spLotIadd (C : Addr) : Sp := fun vs H Q _ => ∃ (G : Hp) (a b : Addr) (m n : Pr) (Ks : List Str), vs = [.ref a, .ref b] ∧ Same G H ∧ G a = none ∧ LotAt C H a m ∧ LotAt C H b n ∧ Ks.length < 64 ∧ (∀ p ∈ m, p.1 ∈ Ks) ∧ (∀ p ∈ n, p.1 ∈ Ks) ∧
  ∀ H', Ex (On a) G H G H' → LotAt C H' a (mkLot (m ++ n)) → Q (.ref a) H'
/-- Lot(pairs) -/
theorem make_lot {K : PySem.W.Frag} {C : Addr} {G H : Hp} {q : Addr} {xs : List V} {ps : Pr} {Ks : List Str} {Q : VK} {E : XK} (S : Same G H) (hq : SqL K G q xs ∨ SqT K G q xs) (hxs : RpA G xs (ps.map encP)) (hnn : ∀ p ∈ ps, 0 ≤ p.2)
    (hK : Ks.length < 64) (hKs : ∀ p ∈ ps, p.1 ∈ Ks) (hlen : ps.length ≤ 10000) (k : NewLot C G H (mkLot ps) Q) :
    ∀ x dx, H x = none → H dx = none → dx ≠ x → spLotInit K C (.ref x :: ([.ref q] ++ [])) (upd (upd H dx (.own x)) x (.ins C dx [])) (fun v H' => v = .non ∧ Q (.ref x) H') E := by
  intro x dx hx hdx hne
  have y1 : Ex No G H G (upd H dx (.own x)) := Ex.hid S hdx
  have y2 : Ex No G (upd H dx (.own x)) G (upd (upd H dx (.own x)) x (.ins C dx [])) := Ex.hid y1.s (by rw [upd_ne hne.symm]; exact hx)
  exact ⟨G, H, x, dx, q, xs, ps, Ks, rfl, S, y1.trans y2, hx, upd_same, hq, hxs, hnn, hK, hKs, hlen, fun G' H' z l => ⟨rfl, k G' H' x z hx l⟩⟩
theorem make_lotR {K : PySem.W.Frag} {C : Addr} {G H : Hp} {v : V} {ps : Pr} {Ks : List Str} {Q : VK} {E : XK} (S : Same G H) (hv : Rp G v (.tuple (ps.map encP)) ∨ Rp G v (.list (ps.map encP))) (hnn : ∀ p ∈ ps, 0 ≤ p.2)
    (hK : Ks.length < 64) (hKs : ∀ p ∈ ps, p.1 ∈ Ks) (hlen : ps.length ≤ 10000) (k : NewLot C G H (mkLot ps) Q) :
    ∀ x dx, H x = none → H dx = none → dx ≠ x → spLotInit K C (.ref x :: ([v] ++ [])) (upd (upd H dx (.own x)) x (.ins C dx [])) (fun v H' => v = .non ∧ Q (.ref x) H') E := by
  rcases hv with h | h
  · obtain ⟨q, xs, rfl, g, r⟩ := of_tup h
    exact make_lot S (.inr (SqT.of g)) r hnn hK hKs hlen k
  · obtain ⟨q, xs, rfl, g, r⟩ := of_lst h
    exact make_lot S (.inl (SqL.of g)) r hnn hK hKs hlen k
end Kt

namespace Kt
open PySem L2 LM DO
theorem walk_zipT {K : PySem.W.Frag} {a b : Addr} {xs ys : List V} {n : Nat} (hn : n = min xs.length ys.length) : Walk (RZ.ItzT K a b) n (fun H => SqT K H a xs ∧ SqT K H b ys) (YPair (fun i => xs[i]?) (fun i => ys[i]?)) := by
  subst hn
  constructor
  · intro i _ hi q
    obtain ⟨h1, h2⟩ : i < xs.length ∧ i < ys.length := by omega
    exact ⟨xs, ys, xs[i], ys[i], q.1, q.2, List.getElem?_eq_getElem h1, List.getElem?_eq_getElem h2⟩
  · intro _ q
    exact ⟨xs, ys, q.1, q.2, by omega⟩
  · rintro i H v H' _ q ⟨T, x, z, rfl, h2, rfl, h4, h5⟩
    exact ⟨T, x, z, rfl, h2, rfl, h4 xs q.1, h5 ys q.2⟩
/-- the name of a datum's type -/
def tyN : PyData → String
  | .none => "NoneType"
  | .bool _ => "bool"
  | .int _ => "int"
  | .str _ => "str"
  | .list _ => "list"
  | .tuple _ => "tuple"
  | _ => ""
theorem ty_of {K : PySem.W.Frag} {G H : Hp} {v : V} {d : PyData} (h : Rp G v d) (s : Same G H) : TyX K H v (.type (tyN d)) := by
  cases h with
  | non => exact .base .non
  | bl b => exact .base (.bl b)
  | int i => exact .base (.int i)
  | str x => exact .base (.str x)
  | lst h r => exact .base (.lst (s _ _ h))
  | tup h r => exact .base (.tup (s _ _ h))
theorem kit2 {K : PySem.W.Frag} {a b c : String} {r1 r2 : Bool} (h1 : kitB a b = some r1) (h2 : kitB a c = some r2) : PySem.W.kitAny K (.type a) [.type b, .type c] = some (r1 || r2) := by
  refine kitAny_cons (kit_ty h1) (fun e => ?_) (fun e => by rw [e]; rfl)
  refine kitAny_cons (kit_ty h2) (fun e2 => ?_) (fun e2 => by rw [e2, Bool.or_true])
  rw [e, e2]
  exact kitAny_nil
def Flat (d : PyData) : Prop := d = .none ∨ (∃ b, d = .bool b) ∨ (∃ i, d = .int i) ∨ ∃ x, d = .str x
/-- data no deeper than n lists -/
def Fit : Nat → PyData → Prop
  | 0 => fun _ => False
  | n + 1 => fun d => Flat d ∨ ∃ ds, (d = .list ds ∨ d = .tuple ds) ∧ ds.length ≤ 10000 ∧ ∀ e ∈ ds, Fit n e
/-- both are the same data -/
def spSame (F : PyData → Prop) : Sp := fun vs H Q _ => ∃ (G : Hp) (x y : V) (d : PyData), vs = [x, y] ∧ Same G H ∧ Rp G x d ∧ Rp G y d ∧ F d ∧ ∀ H', Ex No G H G H' → Q (.bl true) H'
theorem fit_int {n : Nat} (i : Int) : Fit (n + 1) (.int i) := .inl (.inr (.inr (.inl ⟨i, rfl⟩)))
theorem fit_str {n : Nat} (i : Str) : Fit (n + 1) (.str i) := .inl (.inr (.inr (.inr ⟨i, rfl⟩)))
theorem fit_bl {n : Nat} (i : Bool) : Fit (n + 1) (.bool i) := .inl (.inr (.inl ⟨i, rfl⟩))
theorem fit_non {n : Nat} : Fit (n + 1) .none := .inl (.inl rfl)
theorem fit_list {n : Nat} {ds : List PyData} (h : ds.length ≤ 10000) (h2 : ∀ e ∈ ds, Fit n e) : Fit (n + 1) (.list ds) := .inr ⟨ds, .inl rfl, h, h2⟩
theorem fit_tup {n : Nat} {ds : List PyData} (h : ds.length ≤ 10000) (h2 : ∀ e ∈ ds, Fit n e) : Fit (n + 1) (.tuple ds) := .inr ⟨ds, .inr rfl, h, h2⟩
theorem fit_up {n : Nat} {d : PyData} (h : Fit n d) : Fit (n + 1) d := by
  induction n generalizing d with
  | zero => exact h.elim
  | succ n ih =>
    rcases h with h | ⟨ds, e, hl, h⟩
    · exact .inl h
    · exact .inr ⟨ds, e, hl, fun e he => ih (h e he)⟩
theorem fit_pair {n : Nat} (p : Str × Int) : Fit (n + 2) (encP p) := fit_tup (by simp) fun e he => by
  rcases List.mem_cons.mp he with rfl | he
  · exact fit_str _
  · rw [List.mem_singleton.mp he]; exact fit_int _
theorem fit_pairs {n : Nat} {ps : Pr} (h : ps.length ≤ 10000) : Fit (n + 3) (.tuple (ps.map encP)) := fit_tup (by rw [List.length_map]; exact h) fun e he => by
  obtain ⟨p, _, rfl⟩ := List.mem_map.mp he
  exact fit_pair p
end Kt

namespace LM
open PySem L2
section
variable {m n : Pr} {q : Int}
theorem div_nn (hm : Ok m) (hn : Ok n) (h1 : ∃ p ∈ n, q = lk m p.1 / p.2) : 0 ≤ q := by
  obtain ⟨p, hp, rfl⟩ := h1
  exact Int.ediv_nonneg (hm.lk_nn _) (Int.le_of_lt (hn.pos p hp))
theorem div_le (hm : Ok m) (hn : Ok n) (h2 : ∀ p ∈ n, q ≤ lk m p.1 / p.2) (k : Str) : lk n k * q ≤ lk m k := by
  by_cases z : lk n k = 0
  · rw [z, Int.zero_mul]; exact hm.lk_nn k
  · have hp := lk_pos_mem z
    have h5 : 0 < lk n k := hn.pos _ hp
    exact Int.le_trans (Int.mul_le_mul_of_nonneg_left (h2 _ hp) (Int.le_of_lt h5)) (Int.mul_ediv_self_le (by omega))
theorem mod_nn (hm : Ok m) (hn : Ok n) (h2 : ∀ p ∈ n, q ≤ lk m p.1 / p.2) : ∀ x ∈ m.map (fun p => (p.1, p.2 - lk n p.1 * q)), 0 ≤ x.2 := by
  intro x hx
  obtain ⟨p, hp, rfl⟩ := List.mem_map.mp hx
  have := div_le hm hn h2 p.1
  rw [hm.lk_mem hp] at this
  show 0 ≤ p.2 - lk n p.1 * q
  omega
theorem mod_lk (hm : Ok m) (hn : Ok n) (h1 : ∃ p ∈ n, q = lk m p.1 / p.2) (h2 : ∀ p ∈ n, q ≤ lk m p.1 / p.2) (k : Str) : lk (mkLot (m.map fun p => (p.1, p.2 - lk n p.1 * q))) k = lk m k - lk n k * q := by
  rw [lk_mk (mod_nn hm hn h2)]
  refine sumK_map hm (fun k x => x - lk n k * q) k fun z => ?_
  have h0 := div_nn hm hn h1
  have h3 := div_le hm hn h2 k
  have h4 := Int.mul_nonneg (hn.lk_nn k) h0
  show 0 - lk n k * q = 0
  omega
theorem mod_less (hm : Ok m) (hn : Ok n) (h1 : ∃ p ∈ n, q = lk m p.1 / p.2) : ∃ p ∈ n, lk m p.1 - lk n p.1 * q < lk n p.1 := by
  obtain ⟨p, hp, rfl⟩ := h1
  refine ⟨p, hp, ?_⟩
  rw [hn.lk_mem hp]
  have h := Int.emod_lt_of_pos (lk m p.1) (hn.pos p hp)
  have h2 := Int.mul_ediv_add_emod (lk m p.1) p.2
  omega
theorem mul_lk (hn : Ok n) {t : Int} (ht : 0 ≤ t) (k : Str) : lk (mkLot (n.map fun p => (p.1, p.2 * t))) k = lk n k * t := by
  rw [lk_mk (fun p hp => by
    obtain ⟨p', hp', rfl⟩ := List.mem_map.mp hp
    exact Int.mul_nonneg (Int.le_of_lt (hn.pos p' hp')) ht)]
  exact sumK_map hn (fun _ x => x * t) k (fun _ => Int.zero_mul t)
end
/-- a lot of one kind -/
theorem one_mem {k : Str} {i : Int} (hi : 0 < i) {p : Str × Int} (hp : p ∈ mkLot [(k, i)]) : p = (k, i) := by
  have hnn : ∀ x ∈ [(k, i)], 0 ≤ x.2 := fun x hx => by rw [List.mem_singleton.mp hx]; exact Int.le_of_lt hi
  have hk := mk_ok hnn
  have h1 := hk.lk_mem hp
  rw [lk_mk hnn] at h1
  have h2 := hk.pos p hp
  have h3 := keys_mk hnn hp
  have h4 : p.1 = k := by simpa using h3
  have h5 : sumK [(k, i)] p.1 = i := by simp [sumK, h4]
  obtain ⟨a, b⟩ := p
  simp at h4
  subst h4
  rw [h5] at h1
  simp at h1
  rw [h1]
end LM
namespace Kt
open PySem L2 LM DO
/-- Lot(pairs), whatever follows -/
theorem make_lotX {K : PySem.W.Frag} {C : Addr} {G H : Hp} {v : V} {ps : Pr} {Ks : List Str} {R : VK} {E : XK} (S : Same G H) (hv : Rp G v (.tuple (ps.map encP)) ∨ Rp G v (.list (ps.map encP))) (hnn : ∀ p ∈ ps, 0 ≤ p.2)
    (hK : Ks.length < 64) (hKs : ∀ p ∈ ps, p.1 ∈ Ks) (hlen : ps.length ≤ 10000) {x dx : Addr} (hx : H x = none) (hdx : H dx = none) (hne : dx ≠ x) (k : ∀ G' H', Ex No G H G' H' → LotAt C G' x (mkLot ps) → R .non H') :
    spLotInit K C (.ref x :: ([v] ++ [])) (upd (upd H dx (.own x)) x (.ins C dx [])) R E := by
  have h := make_lotR (K := K) (C := C) (Ks := Ks) (E := E) (Q := fun y H' => y = .ref x → R .non H') S hv hnn hK hKs hlen (fun G' H' y z _ l e => by cases e; exact k G' H' z l) x dx hx hdx hne
  obtain ⟨G, H0, x', dx', q, xs, ps', Ks', e, h1, h2, h3, h4, h5, h6, h7, h8, h9, h10, h11⟩ := h
  exact ⟨G, H0, x', dx', q, xs, ps', Ks', e, h1, h2, h3, h4, h5, h6, h7, h8, h9, h10, fun G' H' z l => (h11 G' H' z l).2 rfl⟩
end Kt
namespace LM
open PySem L2
theorem perm_map_inv {α β : Type} {f : α → β} {es fs : List β} (h : es.Perm fs) : ∀ l : List α, fs = l.map f → ∃ qs : List α, qs.Perm l ∧ es = qs.map f := by
  induction h with
  | nil => intro l e; exact ⟨l, .refl _, e⟩
  | cons x _ ih =>
    intro l e
    match l, e with
    | a :: l, e =>
      injection e with e1 e2
      obtain ⟨qs, p, r⟩ := ih l e2
      exact ⟨a :: qs, p.cons a, by rw [List.map_cons, e1, r]⟩
  | swap x y l0 =>
    intro l e
    match l, e with
    | a :: b :: l, e =>
      injection e with e1 e2
      injection e2 with e2 e3
      exact ⟨b :: a :: l, .swap _ _ _, by rw [List.map_cons, List.map_cons, e1, e2, e3]⟩
  | trans _ _ ih1 ih2 =>
    intro l e
    obtain ⟨qs, p, r⟩ := ih2 l e
    obtain ⟨rs, p2, r2⟩ := ih1 qs r
    exact ⟨rs, p2.trans p, r2⟩
/-- the lot of a dict's numbers -/
def lotD (d : Pr) : Pr := mkLot (d.filter fun p => decide (0 < p.2))
theorem lotD_nn (d : Pr) : ∀ x ∈ d.filter (fun p => decide (0 < p.2)), 0 ≤ x.2 := fun x hx => Int.le_of_lt (of_decide_eq_true (List.mem_filter.mp hx).2)
theorem lotD_ok (d : Pr) : Ok (lotD d) := mk_ok (lotD_nn d)
theorem lk_lotD {d : Pr} (hn : (d.map (·.1)).Nodup) (h0 : ∀ x ∈ d, 0 ≤ x.2) (k : Str) : lk (lotD d) k = (look d k).getD 0 := by
  rw [lotD, lk_mk (lotD_nn d)]
  induction d with
  | nil => rfl
  | cons p r ih =>
    have h1 := List.nodup_cons.mp hn
    have ih := ih h1.2 (fun x hx => h0 x (List.mem_cons_of_mem _ hx))
    have hp := h0 p (List.mem_cons_self ..)
    have e : look (p :: r) k = if p.1 = k then some p.2 else look r k := rfl
    rw [e]
    by_cases hk : p.1 = k
    · rw [if_pos hk]
      have hr : look r k = none := look_none (by rw [← hk]; exact h1.1)
      rw [hr] at ih
      rw [List.filter_cons]
      split
      · show (if p.1 = k then p.2 else 0) + sumK _ k = p.2
        rw [if_pos hk, ih]; simp
      · rename_i h; rw [ih]; simp at h ⊢; omega
    · rw [if_neg hk, ← ih, List.filter_cons]
      split
      · show (if p.1 = k then p.2 else 0) + sumK _ k = _
        rw [if_neg hk]; omega
      · rfl
theorem lotD_mem {d : Pr} (hn : (d.map (·.1)).Nodup) (h0 : ∀ x ∈ d, 0 ≤ x.2) {p : Str × Int} (h : p ∈ lotD d) : p ∈ d ∧ 0 < p.2 := by
  have h1 := (lotD_ok d).lk_mem h
  have h2 := (lotD_ok d).pos p h
  rw [lk_lotD hn h0] at h1
  cases e : look d p.1 with
  | none => rw [e] at h1; simp at h1; omega
  | some n =>
    rw [e] at h1
    have := look_some_mem e
    simp at h1
    subst h1
    exact ⟨this, h2⟩
theorem lotD_len {d : Pr} {Ks : List Str} (hk : ∀ x ∈ d, x.1 ∈ Ks) : (lotD d).length ≤ Ks.length := mk_len (lotD_nn d) fun x hx => hk x (List.mem_filter.mp hx).1
theorem lotD_keys {d : Pr} {Ks : List Str} (hk : ∀ x ∈ d, x.1 ∈ Ks) : ∀ p ∈ lotD d, p.1 ∈ Ks := fun p hp => by
  have := keys_mk (lotD_nn d) hp
  obtain ⟨x, hx, e⟩ := List.mem_map.mp this
  rw [← e]; exact hk x (List.mem_filter.mp hx).1
theorem sumK_le {B : Int} : ∀ {ps : Pr}, (∀ x ∈ ps, 0 ≤ x.2 ∧ x.2 ≤ B) → 0 ≤ B → ∀ k, sumK ps k ≤ B * ps.length := by
  intro ps
  induction ps with
  | nil => intro _ _ k; simp [sumK]
  | cons p r ih =>
    intro h hB k
    have h1 := ih (fun x hx => h x (List.mem_cons_of_mem _ hx)) hB k
    have h2 := h p (List.mem_cons_self ..)
    show (if p.1 = k then p.2 else 0) + sumK r k ≤ B * ((r.length + 1 : Nat) : Int)
    have e : B * ((r.length + 1 : Nat) : Int) = B * r.length + B := by rw [Int.natCast_add, Int.mul_add]; omega
    rw [e]
    split <;> omega
theorem tally_vals {ps : Pr} {x : Str × Int} (hx : x ∈ tally ps) : x.2 = sumK ps x.1 ∧ x.1 ∈ ps.map (·.1) := by
  have h := look_mem (tally_nodup ps) hx
  rw [tally_look] at h
  split at h
  · rename_i hk; exact ⟨(Option.some.inj h).symm, hk⟩
  · cases h
theorem nodup_take {l : List Str} {i : Nat} {k : Str} (hn : l.Nodup) (h : l[i]? = some k) : k ∉ l.take i := by
  intro hm
  obtain ⟨j, hj, e⟩ := List.getElem_of_mem hm
  rw [List.length_take] at hj
  rw [List.getElem_take] at e
  have hi : i < l.length := (List.getElem?_eq_some_iff.mp h).1
  have e2 : l[i] = k := (List.getElem?_eq_some_iff.mp h).2
  have := (List.nodup_iff_pairwise_ne.mp hn)
  rw [List.pairwise_iff_getElem] at this
  exact this j i (by omega) hi (by omega) (e.trans e2.symm)
theorem putD_new {d : Pr} {k : Str} {n : Int} (h : k ∉ d.map (·.1)) : putD d k n = d ++ [(k, n)] := by rw [putD, if_neg h]
end LM
namespace Kt
open PySem L2 LM DO
/-- shaped data: no deeper than n -/
def ShD (n : Nat) (d : PyData) : Prop := d.canLay0 = true ∧ d.depth ≤ n
theorem shd_all {n : Nat} : ∀ {ds : List PyData}, (∀ d ∈ ds, ShD n d) → PyData.canLayAll0 ds = true ∧ PyData.depthAll ds ≤ n
  | [], _ => ⟨rfl, by simp [PyData.depthAll]⟩
  | d :: r, h => by
    have h1 := h d (List.mem_cons_self ..)
    have h2 := shd_all fun e he => h e (List.mem_cons_of_mem _ he)
    have h3 := h1.1
    have h4 := h1.2
    constructor
    · simp only [PyData.canLayAll0, h3, h2.1, Bool.and_self]
    · simp only [PyData.depthAll]; omega
theorem shd_tup {n : Nat} {ds : List PyData} (h : ∀ d ∈ ds, ShD n d) : ShD (n + 1) (.tuple ds) := by
  have h2 := shd_all h
  exact ⟨by simp only [PyData.canLay0, h2.1], by simp only [PyData.depth]; omega⟩
theorem shd_list {n : Nat} {ds : List PyData} (h : ∀ d ∈ ds, ShD n d) : ShD (n + 1) (.list ds) := by
  have h2 := shd_all h
  exact ⟨by simp only [PyData.canLay0, h2.1], by simp only [PyData.depth]; omega⟩
theorem shd_str {n : Nat} {x : Str} (h : PyData.strOk x = true) : ShD n (.str x) := ⟨by simp only [PyData.canLay0, h], by simp [PyData.depth]⟩
theorem shd_int {n : Nat} (i : Int) : ShD n (.int i) := ⟨rfl, by simp [PyData.depth]⟩
theorem shd_bl {n : Nat} (i : Bool) : ShD n (.bool i) := ⟨rfl, by simp [PyData.depth]⟩
theorem shd_non {n : Nat} : ShD n .none := ⟨rfl, by simp [PyData.depth]⟩
theorem ShD.shaped {n : Nat} {d : PyData} (h : ShD n d) (hn : n ≤ 64) : SeqAt.shaped d = true := by
  unfold SeqAt.shaped
  rw [Bool.and_eq_true]
  exact ⟨h.1, decide_eq_true (Nat.le_trans h.2 hn)⟩
theorem shd_encP {x : Str × Int} (h : PyData.strOk x.1 = true) : ShD 1 (encP x) := shd_tup fun d hd => by
  rcases List.mem_cons.mp hd with rfl | hd
  · exact shd_str h
  · rw [List.mem_singleton.mp hd]; exact shd_int _
theorem shaped_encP {x : Str × Int} (h : PyData.strOk x.1 = true) : SeqAt.shaped (encP x) = true := (shd_encP h).shaped (by decide)
theorem ev_get (d : Pr) (k : Str) : (valV (encD d) (Sum.inr k)).getD (.int 0) = .int ((look d k).getD 0) := by
  rw [val_enc]; cases look d k <;> rfl
theorem Ex.onNew {M : Addr → Prop} {G H G' H' H'' : Hp} {q : Addr} (x : Ex M G H G' H') (y : Ex (On q) G' H' G' H'') (hq : H q = none) : Ex M G H G' H'' :=
  ⟨x.g, fun b o m e => y.h b o (ne_of_none e hq) (x.h b o m e), y.s, x.n, fun b e => x.f b (y.f b e)⟩
theorem Sx.onNew {G H H' : Hp} {p q : Addr} {c : Int} (S : Sx G H p c) (y : Ex (On q) G H G H') (hq : p ≠ q) : Sx G H' p c := ⟨y.s, S.b.is fun o h => y.h _ _ hq h, S.n⟩
theorem Ex.forget {M : Addr → Prop} {G H G' H' : Hp} (x : Ex M G H G' H') : Ex M G H G H' := ⟨Same.refl G, x.h, x.g.trans x.s, fun _ _ e => .inl e, x.f⟩
end Kt

/-! the value layer: what stands in the slots is told by plain values (U); heaps are hidden -/
namespace Va
open PySem L2 Kt LM DO
inductive U where
  | non | bl (b : Bool) | int (i : Int) | str (x : Str)
  | lst (xs : List U) | tup (xs : List U)
  | dic (kvs : List (Key × U))
  | ins (C : Addr) (fs : List (Str × U))
  | obj (φ : Hp → V → Prop)
mutual
inductive Rep (G : Hp) : V → U → Prop
  | non : Rep G .non .non
  | bl (b : Bool) : Rep G (.bl b) (.bl b)
  | int (i : Int) : Rep G (.int i) (.int i)
  | str (x : Str) : Rep G (.str x) (.str x)
  | lst {a : Addr} {xs : List V} {us : List U} : G a = some (.lst xs) → RepA G xs us → Rep G (.ref a) (.lst us)
  | tup {a : Addr} {xs : List V} {us : List U} : G a = some (.tup xs) → RepA G xs us → Rep G (.ref a) (.tup us)
  | dic {a : Addr} {kvs : List (Key × V)} {us : List (Key × U)} : G a = some (.dK kvs) → RepK G kvs us → Rep G (.ref a) (.dic us)
  | ins {a dx C : Addr} {vs : List (Str × V)} {fs : List (Str × U)} : G a = some (.ins C dx vs) → RepF G vs fs → Rep G (.ref a) (.ins C fs)
  | obj {φ : Hp → V → Prop} {v : V} : (∀ G1 G2 v, Same G1 G2 → φ G1 v → φ G2 v) → φ G v → Rep G v (.obj φ)
inductive RepA (G : Hp) : List V → List U → Prop
  | nil : RepA G [] []
  | cons {v : V} {vs : List V} {u : U} {us : List U} : Rep G v u → RepA G vs us → RepA G (v :: vs) (u :: us)
inductive RepK (G : Hp) : List (Key × V) → List (Key × U) → Prop
  | nil : RepK G [] []
  | cons {k : Key} {v : V} {vs : List (Key × V)} {u : U} {us : List (Key × U)} : Rep G v u → RepK G vs us → RepK G ((k, v) :: vs) ((k, u) :: us)
/-- fields by values -/
inductive RepF (G : Hp) : List (Str × V) → List (Str × U) → Prop
  | nil : RepF G [] []
  | cons {x : Str} {v : V} {u : U} {r : List (Str × V)} {s : List (Str × U)} : Rep G v u → RepF G r s → RepF G ((x, v) :: r) ((x, u) :: s)
end
mutual
theorem Rep.mono {G G' : Hp} (s : Same G G') : ∀ {v : V} {u : U}, Rep G v u → Rep G' v u
  | _, _, .non => .non
  | _, _, .bl b => .bl b
  | _, _, .int i => .int i
  | _, _, .str x => .str x
  | _, _, .lst h r => .lst (s _ _ h) (RepA.mono s r)
  | _, _, .tup h r => .tup (s _ _ h) (RepA.mono s r)
  | _, _, .dic h r => .dic (s _ _ h) (RepK.mono s r)
  | _, _, .ins h r => .ins (s _ _ h) (RepF.mono s r)
  | _, _, .obj m h => .obj m (m _ _ _ s h)
theorem RepA.mono {G G' : Hp} (s : Same G G') : ∀ {v : List V} {u : List U}, RepA G v u → RepA G' v u
  | _, _, .nil => .nil
  | _, _, .cons h r => .cons (Rep.mono s h) (RepA.mono s r)
theorem RepK.mono {G G' : Hp} (s : Same G G') : ∀ {v : List (Key × V)} {u : List (Key × U)}, RepK G v u → RepK G' v u
  | _, _, .nil => .nil
  | _, _, .cons h r => .cons (Rep.mono s h) (RepK.mono s r)
theorem RepF.mono {G G' : Hp} (s : Same G G') : ∀ {r : List (Str × V)} {t : List (Str × U)}, RepF G r t → RepF G' r t
  | _, _, .nil => .nil
  | _, _, .cons h r => .cons (Rep.mono s h) (RepF.mono s r)
end
/-- the content of an object that may change -/
inductive RepO (G : Hp) : HO → U → Prop
  | lst {xs : List V} {us : List U} : RepA G xs us → RepO G (.lst xs) (.lst us)
  | tup {xs : List V} {us : List U} : RepA G xs us → RepO G (.tup xs) (.tup us)
  | dic {kvs : List (Key × V)} {us : List (Key × U)} : RepK G kvs us → RepO G (.dK kvs) (.dic us)
  | ins {C dx : Addr} {vs : List (Str × V)} {fs : List (Str × U)} : RepF G vs fs → RepO G (.ins C dx vs) (.ins C fs)
  | obj {φ : Hp → V → Prop} {o : HO} : (∀ G1 G2 v, Same G1 G2 → φ G1 v → φ G2 v) → (∀ G' a, Same G G' → G' a = some o → φ G' (.ref a)) → RepO G o (.obj φ)
theorem RepO.mono {G G' : Hp} (s : Same G G') {o : HO} {u : U} : RepO G o u → RepO G' o u
  | .lst r => .lst (r.mono s)
  | .tup r => .tup (r.mono s)
  | .dic r => .dic (r.mono s)
  | .ins r => .ins (r.mono s)
  | .obj m h => .obj m fun G2 a s2 e => h G2 a (s.trans s2) e
theorem RepO.rep {G : Hp} {o : HO} {u : U} {a : Addr} (h : RepO G o u) (e : G a = some o) : Rep G (.ref a) u := by
  cases h with
  | lst r => exact .lst e r
  | tup r => exact .tup e r
  | dic r => exact .dic e r
  | ins r => exact .ins e r
  | obj m h => exact .obj m (h G a (Same.refl G) e)
section
variable {G : Hp}
theorem RepA.length : ∀ {vs : List V} {us : List U}, RepA G vs us → vs.length = us.length
  | _, _, .nil => rfl
  | _, _, .cons _ r => by rw [List.length_cons, List.length_cons, RepA.length r]
theorem RepK.length : ∀ {vs : List (Key × V)} {us : List (Key × U)}, RepK G vs us → vs.length = us.length
  | _, _, .nil => rfl
  | _, _, .cons _ r => by rw [List.length_cons, List.length_cons, RepK.length r]
theorem RepA.get : ∀ {vs : List V} {us : List U} {i : Nat} {v : V}, RepA G vs us → vs[i]? = some v → ∃ u, us[i]? = some u ∧ Rep G v u
  | _, _, _, _, .nil, e => by simp at e
  | _, _, 0, _, .cons h _, e => by simp at e; subst e; exact ⟨_, rfl, h⟩
  | _, _, i + 1, v, .cons _ r, e => by
    obtain ⟨d, h1, h2⟩ := RepA.get (i := i) (v := v) r (by simpa using e)
    exact ⟨d, by simpa using h1, h2⟩
theorem RepA.get' : ∀ {vs : List V} {us : List U} {i : Nat} {u : U}, RepA G vs us → us[i]? = some u → ∃ v, vs[i]? = some v ∧ Rep G v u
  | _, _, _, _, .nil, e => by simp at e
  | _, _, 0, _, .cons h _, e => by simp at e; subst e; exact ⟨_, rfl, h⟩
  | _, _, i + 1, v, .cons _ r, e => by
    obtain ⟨d, h1, h2⟩ := RepA.get' (i := i) (u := v) r (by simpa using e)
    exact ⟨d, by simpa using h1, h2⟩
theorem RepA.app : ∀ {vs ws : List V} {ds es : List U}, RepA G vs ds → RepA G ws es → RepA G (vs ++ ws) (ds ++ es)
  | _, _, _, _, .nil, s => s
  | _, _, _, _, .cons h r, s => .cons h (RepA.app r s)
theorem RepA.take : ∀ {vs : List V} {ds : List U} (n : Nat), RepA G vs ds → RepA G (vs.take n) (ds.take n)
  | _, _, 0, _ => .nil
  | _, _, _ + 1, .nil => .nil
  | _, _, n + 1, .cons h r => .cons h (RepA.take n r)
theorem RepA.drop : ∀ {vs : List V} {ds : List U} (n : Nat), RepA G vs ds → RepA G (vs.drop n) (ds.drop n)
  | _, _, 0, r => r
  | _, _, _ + 1, .nil => .nil
  | _, _, n + 1, .cons _ r => RepA.drop n r
theorem repA_int : ∀ ns : List Int, RepA G (ns.map V.int) (ns.map U.int)
  | [] => .nil
  | n :: r => .cons (.int n) (repA_int r)
theorem repA_str : ∀ ns : List Str, RepA G (ns.map V.str) (ns.map U.str)
  | [] => .nil
  | n :: r => .cons (.str n) (repA_str r)
theorem of_int {v : V} {i : Int} (h : Rep G v (.int i)) : v = .int i := by cases h; rfl
theorem of_str {v : V} {i : Str} (h : Rep G v (.str i)) : v = .str i := by cases h; rfl
theorem of_bl {v : V} {i : Bool} (h : Rep G v (.bl i)) : v = .bl i := by cases h; rfl
theorem of_non {v : V} (h : Rep G v .non) : v = .non := by cases h; rfl
theorem of_ints : ∀ {vs : List V} {ns : List Int}, RepA G vs (ns.map U.int) → vs = ns.map V.int
  | _, [], .nil => rfl
  | _, _ :: _, .cons h r => by rw [of_int h, of_ints r]; rfl
theorem of_strs : ∀ {vs : List V} {ns : List Str}, RepA G vs (ns.map U.str) → vs = ns.map V.str
  | _, [], .nil => rfl
  | _, _ :: _, .cons h r => by rw [of_str h, of_strs r]; rfl
theorem of_bls : ∀ {vs : List V} {ns : List Bool}, RepA G vs (ns.map U.bl) → vs = ns.map V.bl
  | _, [], .nil => rfl
  | _, _ :: _, .cons h r => by rw [of_bl h, of_bls r]; rfl
theorem of_lst {v : V} {us : List U} (h : Rep G v (.lst us)) : ∃ a xs, v = .ref a ∧ G a = some (.lst xs) ∧ RepA G xs us := by
  cases h with
  | lst h r => exact ⟨_, _, rfl, h, r⟩
theorem of_tup {v : V} {us : List U} (h : Rep G v (.tup us)) : ∃ a xs, v = .ref a ∧ G a = some (.tup xs) ∧ RepA G xs us := by
  cases h with
  | tup h r => exact ⟨_, _, rfl, h, r⟩
theorem of_dic {v : V} {us : List (Key × U)} (h : Rep G v (.dic us)) : ∃ a xs, v = .ref a ∧ G a = some (.dK xs) ∧ RepK G xs us := by
  cases h with
  | dic h r => exact ⟨_, _, rfl, h, r⟩
end
/-! ### frames -/
/-- M: what may be changed; lk: dicts that a loop has locked; bx: the box; G, H: the start -/
structure Fr where
  M : Addr → Prop
  lk : Addr → Prop
  bx : Option Addr
  G : Hp
  H : Hp
def Sm (lk : Addr → Prop) (G H : Hp) : Prop := ∀ b o, G b = some o → H b = some o ∨ (lk b ∧ ∃ od kvs, o = .dK kvs ∧ H b = some (.frz od o))
theorem Sm.free {lk : Addr → Prop} {G H : Hp} {b : Addr} (s : Sm lk G H) (h : H b = none) : G b = none := by
  cases e : G b with
  | none => rfl
  | some o =>
    rcases s b o e with z | ⟨_, _, _, _, z⟩ <;> rw [h] at z <;> cases z
theorem Sm.same {lk : Addr → Prop} {G H : Hp} (s : Sm lk G H) (h : ∀ b, ¬ lk b) : Same G H := fun b o e => by
  rcases s b o e with z | ⟨z, _⟩
  · exact z
  · exact absurd z (h b)
theorem Sm.of {lk : Addr → Prop} {G H : Hp} (s : Same G H) : Sm lk G H := fun b o e => .inl (s b o e)
/-- what is no dict stands as it is told -/
theorem Sm.get {lk : Addr → Prop} {G H : Hp} {b : Addr} {o : HO} (s : Sm lk G H) (h : G b = some o) (n : ∀ kvs, o ≠ .dK kvs) : H b = some o := by
  rcases s b o h with z | ⟨_, _, kvs, z, _⟩
  · exact z
  · exact absurd z (n kvs)
theorem Sm.rd {lk : Addr → Prop} {G H : Hp} {b : Addr} {o : HO} (s : Sm lk G H) (h : G b = some o) : Rd H b o := by
  rcases s b o h with z | ⟨_, od, _, _, z⟩
  · exact .inl z
  · exact .inr ⟨od, z⟩
structure Xt (M lk : Addr → Prop) (G H G' H' : Hp) : Prop where
  g : Same G G'
  h : ∀ b o, ¬ M b → H b = some o → H' b = some o
  s : Sm lk G' H'
  n : ∀ b o, G' b = some o → G b = some o ∨ H b = none
  f : ∀ b, H' b = none → H b = none
section
variable {M lk : Addr → Prop} {G H G' H' G1 H1 G2 H2 : Hp} {p q a b : Addr} {o u : HO}
theorem Xt.refl (s : Sm lk G H) : Xt M lk G H G H := ⟨Same.refl G, fun _ _ _ e => e, s, fun _ _ e => .inl e, fun _ e => e⟩
theorem Xt.trans (x : Xt M lk G H G1 H1) (y : Xt M lk G1 H1 G2 H2) : Xt M lk G H G2 H2 :=
  ⟨x.g.trans y.g, fun b o m e => y.h b o m (x.h b o m e), y.s, fun b o e => by
    rcases y.n b o e with h | h
    · exact x.n b o h
    · exact .inr (x.f b h), fun b e => x.f b (y.f b e)⟩
theorem Xt.mono {M' : Addr → Prop} (x : Xt M lk G H G' H') (hm : ∀ b, M b → M' b) : Xt M' lk G H G' H' :=
  ⟨x.g, fun b o m e => x.h b o (fun z => m (hm b z)) e, x.s, x.n, x.f⟩
theorem Xt.on (x : Xt No lk G H G' H') : Xt M lk G H G' H' := x.mono fun _ z => z.elim
theorem Xt.un (x : Xt M lk G H G' H') (gp : G p = none) (hp : H p ≠ none) : G' p = none := by
  cases e : G' p with
  | none => rfl
  | some o =>
    rcases x.n p o e with h | h
    · rw [gp] at h; cases h
    · exact absurd h hp
theorem sm_put (s : Sm lk G H) (gd : G q = none) : Sm lk G (upd H q o) := fun b u e => by
  rw [upd_ne (ne_of_none e gd)]; exact s b u e
theorem Xt.hid (s : Sm lk G H) (hq : H q = none) : Xt M lk G H G (upd H q o) := by
  refine ⟨Same.refl G, fun b u _ e => by rw [upd_ne (ne_of_none e hq)]; exact e, sm_put s (s.free hq), fun b u e => .inl e, fun b e => ?_⟩
  by_cases hb : b = q
  · subst hb; exact hq
  · rw [upd_ne hb] at e; exact e
theorem Xt.new (s : Sm lk G H) (hq : H q = none) : Xt M lk G H (upd G q o) (upd H q o) := by
  have gq : G q = none := s.free hq
  refine ⟨same_new gq, fun b u _ e => by rw [upd_ne (ne_of_none e hq)]; exact e, fun b u e => ?_, fun b u e => ?_, fun b e => ?_⟩
  · by_cases hb : b = q
    · subst hb; rw [upd_same] at e ⊢; exact .inl e
    · rw [upd_ne hb] at e ⊢; exact s b u e
  · by_cases hb : b = q
    · subst hb; exact .inr hq
    · rw [upd_ne hb] at e; exact .inl e
  · by_cases hb : b = q
    · subst hb; exact hq
    · rw [upd_ne hb] at e; exact e
theorem Xt.put (x : Xt M lk G H G' H') (gq : G' q = none) (hm : M q ∨ H q = none) (ht : H' q ≠ none) : Xt M lk G H G' (upd H' q o) := by
  refine ⟨x.g, fun b u m e => ?_, sm_put x.s gq, x.n, fun b e => ?_⟩
  · have hb : b ≠ q := by
      rintro rfl
      rcases hm with h | h
      · exact m h
      · rw [h] at e; cases e
    rw [upd_ne hb]; exact x.h b u m e
  · by_cases hb : b = q
    · subst hb; rw [upd_same] at e; cases e
    · rw [upd_ne hb] at e; exact x.f b e
theorem Xt.tell (x : Xt M lk G H G' H') (hq : H' q = some o) (gq : G q = none) (hn : H q = none) : Xt M lk G H (upd G' q o) H' := by
  refine ⟨fun b u e => ?_, x.h, fun b u e => ?_, fun b u e => ?_, x.f⟩
  · rw [upd_ne (ne_of_none e gq)]; exact x.g b u e
  · by_cases hb : b = q
    · subst hb; rw [upd_same] at e; rw [hq]; exact .inl e
    · rw [upd_ne hb] at e; exact x.s b u e
  · by_cases hb : b = q
    · subst hb; exact .inr hn
    · rw [upd_ne hb] at e; exact x.n b u e
/-- from a promise over a part G0 of what is told, exactly as it stands -/
theorem Xt.of_ex {G0 G1 : Hp} (s : Sm lk G H) (s0 : Same G0 G) (x : Ex M G0 H G1 H') (gm : ∀ b, M b → G b = none) : Xt M lk G H (fun b => (G b).or (G1 b)) H' ∧ Same G1 (fun b => (G b).or (G1 b)) := by
  have hn : ∀ b o, G1 b = some o → G b = some o ∨ H b = none := fun b o e => by
    rcases x.n b o e with h | h
    · exact .inl (s0 _ _ h)
    · exact .inr h
  have hg : ∀ b o, G b = some o → (fun b => (G b).or (G1 b)) b = some o := fun b o e => by simp [e]
  refine ⟨⟨hg, x.h, fun b o e => ?_, fun b o e => ?_, x.f⟩, fun b o e => ?_⟩
  · cases eb : G b with
    | some o' =>
      have e2 : o' = o := by simpa [eb] using e
      subst e2
      have nm : ¬ M b := fun m => by rw [gm b m] at eb; cases eb
      rcases s b _ eb with z | ⟨l, od, kvs, z, z2⟩
      · exact .inl (x.h _ _ nm z)
      · exact .inr ⟨l, od, kvs, z, x.h _ _ nm z2⟩
    | none =>
      have e2 : G1 b = some o := by simpa [eb] using e
      exact .inl (x.s _ _ e2)
  · cases eb : G b with
    | some o' => left; simpa [eb] using e
    | none =>
      have e2 : G1 b = some o := by simpa [eb] using e
      rcases hn b o e2 with h | h
      · rw [eb] at h; cases h
      · exact .inr h
  · rcases hn b o e with h | h
    · exact hg b o h
    · show ((G b).or (G1 b)) = some o
      rw [s.free h, e]; rfl
end
end Va

namespace Va
open PySem L2 Kt LM DO
inductive Md | junk | fz | own | box
deriving DecidableEq
def SlOk (F : Fr) (G H : Hp) : Md → Option V → U → Prop
  | .junk, _, _ => True
  | .fz, v, u => ∃ x, v = some x ∧ Rep G x u
  | .own, v, u => ∃ a o, v = some (.ref a) ∧ G a = none ∧ H a = some o ∧ RepO G o u ∧ F.H a = none
  | .box, v, _ => ∃ p, v = some (.ref p) ∧ F.bx = some p
def lim : Nat := 2 ^ 50
structure Sta (F : Fr) (L : Bool) (B : Nat) (ms : List Md) (env : List U) (σ : L2.St) (G H : Hp) : Prop where
  ex : Xt F.M F.lk F.G F.H G H
  nl : L = false → ∀ b, ¬ F.lk b
  mn : ∀ b, F.M b → F.H b ≠ none ∧ F.G b = none
  bx : ∀ p, F.bx = some p → F.M p ∧ ∃ c : Int, Bx H p c ∧ c + B ≤ lim
  l1 : σ.length = ms.length
  l2 : env.length = ms.length
  sl : ∀ (i : Nat) (m : Md), ms[i]? = some m → ∃ v u, σ[i]? = some v ∧ env[i]? = some u ∧ SlOk F G H m v u
  ne : ∀ (i j : Nat) (a : Addr), ms[i]? = some .own → ms[j]? = some .own → σ[i]? = some (some (.ref a)) → σ[j]? = some (some (.ref a)) → i = j
section
variable {F : Fr} {L : Bool} {B : Nat} {ms : List Md} {env : List U} {σ : L2.St} {G H G' H' : Hp}
theorem Sta.le (S : Sta F L B ms env σ G H) {B' : Nat} (h : B' ≤ B) : Sta F L B' ms env σ G H :=
  ⟨S.ex, S.nl, S.mn, fun p e => let ⟨m, c, b, l⟩ := S.bx p e; ⟨m, c, b, by omega⟩, S.l1, S.l2, S.sl, S.ne⟩
theorem Sta.sm (S : Sta F L B ms env σ G H) : Sm F.lk G H := S.ex.s
theorem Sta.mg (S : Sta F L B ms env σ G H) : ∀ b, F.M b → G b = none := fun b m => S.ex.un (S.mn b m).2 (S.mn b m).1
theorem Sta.mh (S : Sta F L B ms env σ G H) : ∀ b, F.M b → H b ≠ none := fun b m e => (S.mn b m).1 (S.ex.f b e)
theorem SlOk.go {m : Md} {v : Option V} {u : U} (x : Xt No F.lk G H G' H') (h : SlOk F G H m v u) : SlOk F G' H' m v u := by
  cases m with
  | junk => trivial
  | fz => obtain ⟨y, e, r⟩ := h; exact ⟨y, e, r.mono x.g⟩
  | own =>
    obtain ⟨a, o, e, g, ho, r, n⟩ := h
    exact ⟨a, o, e, x.un g (by rw [ho]; simp), x.h _ _ (fun z => z) ho, r.mono x.g, n⟩
  | box => exact h
theorem Sta.go (S : Sta F L B ms env σ G H) (x : Xt No F.lk G H G' H') : Sta F L B ms env σ G' H' :=
  ⟨S.ex.trans x.on, S.nl, S.mn, fun p e => let ⟨m, c, b, l⟩ := S.bx p e; ⟨m, c, b.is fun o h => x.h _ _ (fun z => z) h, l⟩, S.l1, S.l2, fun i m e => let ⟨v, u, h1, h2, h3⟩ := S.sl i m e; ⟨v, u, h1, h2, h3.go x⟩, S.ne⟩
/-- the box is drawn from, by a promise -/
theorem SlOk.goB {m : Md} {v : Option V} {u : U} {p : Addr} (x : Xt (On p) F.lk G H G' H') (hp : F.H p ≠ none) (h : SlOk F G H m v u) : SlOk F G' H' m v u := by
  cases m with
  | junk => trivial
  | fz => obtain ⟨y, e, r⟩ := h; exact ⟨y, e, r.mono x.g⟩
  | own =>
    obtain ⟨a, o, e, g, ho, r, n⟩ := h
    exact ⟨a, o, e, x.un g (by rw [ho]; simp), x.h _ _ (fun z => hp (by rw [← z]; exact n)) ho, r.mono x.g, n⟩
  | box => exact h
theorem Sta.goB (S : Sta F L B ms env σ G H) {p : Addr} {B' : Nat} {c : Int} (e : F.bx = some p) (x : Xt (On p) F.lk G H G' H') (b : Bx H' p c) (hc : c + B' ≤ lim) : Sta F L B' ms env σ G' H' := by
  have hm := (S.bx p e).1
  refine ⟨S.ex.trans (x.mono fun b z => by rw [z]; exact hm), S.nl, S.mn, fun p' e' => ?_, S.l1, S.l2, fun i m e => let ⟨v, u, h1, h2, h3⟩ := S.sl i m e; ⟨v, u, h1, h2, h3.goB x (S.mn p hm).1⟩, S.ne⟩
  rw [e] at e'; cases e'
  exact ⟨hm, c, b, hc⟩
theorem Sta.fz (S : Sta F L B ms env σ G H) {i : Nat} {v : V} {u : U} (r : Rep G v u) : Sta F L B (ms.set i .fz) (env.set i u) (σ.set i (some v)) G H := by
  refine ⟨S.ex, S.nl, S.mn, S.bx, by simp [S.l1], by simp [S.l2], fun j m e => ?_, fun j k a e1 e2 h1 h2 => ?_⟩
  · by_cases h : i = j
    · subst h
      have hi : i < ms.length := by
        have := (List.getElem?_eq_some_iff.mp e).1; simpa using this
      rw [List.getElem?_set_self hi] at e
      cases e
      exact ⟨some v, u, by rw [List.getElem?_set_self (by rw [S.l1]; exact hi)], by rw [List.getElem?_set_self (by rw [S.l2]; exact hi)], v, rfl, r⟩
    · rw [List.getElem?_set_ne h] at e
      rw [List.getElem?_set_ne h, List.getElem?_set_ne h]
      exact S.sl j m e
  · have n1 : i ≠ j := by
      rintro rfl
      have hi : i < ms.length := by
        have := (List.getElem?_eq_some_iff.mp e1).1; simpa using this
      rw [List.getElem?_set_self hi] at e1; cases e1
    have n2 : i ≠ k := by
      rintro rfl
      have hi : i < ms.length := by
        have := (List.getElem?_eq_some_iff.mp e2).1; simpa using this
      rw [List.getElem?_set_self hi] at e2; cases e2
    rw [List.getElem?_set_ne n1] at e1 h1
    rw [List.getElem?_set_ne n2] at e2 h2
    exact S.ne j k a e1 e2 h1 h2
theorem Sta.own (S : Sta F L B ms env σ G H) {i : Nat} {a : Addr} {o : HO} {u : U} (g : G a = none) (ho : H a = some o) (r : RepO G o u) (n : F.H a = none) (d : ∀ j : Nat, ms[j]? = some .own → σ[j]? ≠ some (some (.ref a))) : Sta F L B (ms.set i .own) (env.set i u) (σ.set i (some (.ref a))) G H := by
  have hlen : ∀ {m : Md} {j : Nat}, (ms.set i .own)[j]? = some m → j < ms.length := fun e => by
    have := (List.getElem?_eq_some_iff.mp e).1; simpa using this
  refine ⟨S.ex, S.nl, S.mn, S.bx, by simp [S.l1], by simp [S.l2], fun j m e => ?_, fun j k b e1 e2 h1 h2 => ?_⟩
  · by_cases h : i = j
    · subst h
      have hi := hlen e
      rw [List.getElem?_set_self hi] at e
      cases e
      exact ⟨_, u, by rw [List.getElem?_set_self (by rw [S.l1]; exact hi)], by rw [List.getElem?_set_self (by rw [S.l2]; exact hi)], a, o, rfl, g, ho, r, n⟩
    · rw [List.getElem?_set_ne h] at e
      rw [List.getElem?_set_ne h, List.getElem?_set_ne h]
      exact S.sl j m e
  · have hj := hlen e1
    have hk := hlen e2
    by_cases n1 : i = j
    · subst n1
      by_cases n2 : i = k
      · exact n2
      · rw [List.getElem?_set_self (by rw [S.l1]; exact hj)] at h1
        cases h1
        rw [List.getElem?_set_ne n2] at e2 h2
        exact absurd h2 (d k e2)
    · by_cases n2 : i = k
      · subst n2
        rw [List.getElem?_set_self (by rw [S.l1]; exact hk)] at h2
        cases h2
        rw [List.getElem?_set_ne n1] at e1 h1
        exact absurd h1 (d j e1)
      · rw [List.getElem?_set_ne n1] at e1 h1
        rw [List.getElem?_set_ne n2] at e2 h2
        exact S.ne j k b e1 e2 h1 h2
/-- a new address is no slot's own -/
theorem Sta.new_ne (S : Sta F L B ms env σ G H) {a : Addr} (h : H a = none) : ∀ j : Nat, ms[j]? = some .own → σ[j]? ≠ some (some (.ref a)) := fun j e z => by
  obtain ⟨v, u, h1, h2, b, o, e2, _, ho, _⟩ := S.sl j _ e
  rw [z] at h1; cases h1; cases e2
  rw [h] at ho; cases ho
/-- what is new and stands is told of -/
theorem Sta.tell (S : Sta F L B ms env σ G H) {a : Addr} {o : HO} (ho : H a = some o) (g : G a = none) (n : F.H a = none) (d : ∀ j : Nat, ms[j]? = some .own → σ[j]? ≠ some (some (.ref a))) : Sta F L B ms env σ (upd G a o) H := by
  have sg : Same G (upd G a o) := same_new g
  refine ⟨S.ex.tell ho (by
    cases e : F.G a with
    | none => rfl
    | some o' => have := S.ex.g _ _ e; rw [g] at this; cases this) n, S.nl, S.mn, S.bx, S.l1, S.l2, fun i m e => ?_, S.ne⟩
  obtain ⟨v, u, h1, h2, h3⟩ := S.sl i m e
  refine ⟨v, u, h1, h2, ?_⟩
  cases m with
  | junk => trivial
  | fz => obtain ⟨y, e, r⟩ := h3; exact ⟨y, e, r.mono sg⟩
  | own =>
    obtain ⟨b, o', e', g', ho', r, n'⟩ := h3
    subst e'
    have hb : b ≠ a := by rintro rfl; exact d i e h1
    exact ⟨b, o', rfl, by rw [upd_ne hb]; exact g', ho', r.mono sg, n'⟩
  | box => exact h3
/-- less is known -/
def Md.le : Md → Md → Bool
  | _, .junk => true
  | a, b => decide (a = b)
def lesM : List Md → List Md → Bool
  | [], [] => true
  | a :: r, b :: s => a.le b && lesM r s
  | _, _ => false
theorem lesM_at : ∀ {ms ms' : List Md}, lesM ms ms' = true → ms.length = ms'.length ∧ ∀ (i : Nat) (m : Md), ms'[i]? = some m → ∃ m0, ms[i]? = some m0 ∧ m0.le m = true
  | [], [], _ => ⟨rfl, fun i m e => by simp at e⟩
  | a :: r, b :: s, h => by
    simp only [lesM, Bool.and_eq_true] at h
    obtain ⟨h1, h2⟩ := lesM_at h.2
    refine ⟨by simp [h1], fun i m e => ?_⟩
    cases i with
    | zero => simp at e; subst e; exact ⟨a, rfl, h.1⟩
    | succ i => simpa using h2 i m (by simpa using e)
theorem Sta.weak (S : Sta F L B ms env σ G H) {ms' : List Md} (h : lesM ms ms' = true) : Sta F L B ms' env σ G H := by
  obtain ⟨h1, h2⟩ := lesM_at h
  have hle : ∀ {a b : Md}, a.le b = true → b = .junk ∨ a = b := fun {a b} h => by
    cases a <;> cases b <;> simp [Md.le] at h ⊢
  refine ⟨S.ex, S.nl, S.mn, S.bx, by rw [S.l1, h1], by rw [S.l2, h1], fun i m e => ?_, fun i j a e1 e2 => ?_⟩
  · obtain ⟨m0, e0, l⟩ := h2 i m e
    obtain ⟨v, u, z1, z2, z3⟩ := S.sl i m0 e0
    refine ⟨v, u, z1, z2, ?_⟩
    rcases hle l with rfl | rfl
    · trivial
    · exact z3
  · obtain ⟨m0, e0, l⟩ := h2 i _ e1
    obtain ⟨m1, e1', l1⟩ := h2 j _ e2
    rcases hle l with z | rfl
    · cases z
    · rcases hle l1 with z | rfl
      · cases z
      · exact S.ne i j a e0 e1'
end
/-! ### judgements -/
abbrev UE := List U → (U → Prop) → Prop
abbrev UT := List U → (Bool → Prop) → Prop
abbrev UA := List U → (List U → Prop) → Prop
def RE (L : Bool) (ms : List Md) (T : Nat) (te : TE) (ue : UE) : Prop :=
  ∀ F B env σ G H, Sta F L (T + B) ms env σ G H → ∀ (q : U → Prop) (Q : VK), ue env q →
    (∀ u v G' H', q u → Xt F.M F.lk G H G' H' → Sta F L B ms env σ G' H' → Rep G' v u → Q v H') → te σ H Q
/-- a new object, not told of yet -/
def RN (L : Bool) (ms : List Md) (T : Nat) (te : TE) (ue : UE) : Prop :=
  ∀ F B env σ G H, Sta F L (T + B) ms env σ G H → ∀ (q : U → Prop) (Q : VK), ue env q →
    (∀ u a o G' H', q u → Xt F.M F.lk G H G' H' → Sta F L B ms env σ G' H' → H a = none → G' a = none → H' a = some o → RepO G' o u → Q (.ref a) H') → te σ H Q
def RT (L : Bool) (ms : List Md) (T : Nat) (tt : TT) (ut : UT) : Prop :=
  ∀ F B env σ G H, Sta F L (T + B) ms env σ G H → ∀ (q : Bool → Prop) (Q : Bool → Hp → Prop), ut env q →
    (∀ b G' H', q b → Xt F.M F.lk G H G' H' → Sta F L B ms env σ G' H' → Q b H') → tt σ H Q
def RA (L : Bool) (ms : List Md) (T : Nat) (ta : TA) (ua : UA) : Prop :=
  ∀ F B env σ G H, Sta F L (T + B) ms env σ G H → ∀ (q : List U → Prop) (Q : List V → Hp → Prop), ua env q →
    (∀ us vs G' H', q us → Xt F.M F.lk G H G' H' → Sta F L B ms env σ G' H' → RepA G' vs us → Q vs H') → ta σ H Q
/-- what may be read: told of, or a slot's own -/
def Vw (F : Fr) (G H : Hp) (v : V) (u : U) : Prop := Rep G v u ∨ ∃ a o, v = .ref a ∧ H a = some o ∧ RepO G o u ∧ F.H a = none
inductive VwA (F : Fr) (G H : Hp) : List V → List U → Prop
  | nil : VwA F G H [] []
  | cons {v : V} {vs : List V} {u : U} {us : List U} : Vw F G H v u → VwA F G H vs us → VwA F G H (v :: vs) (u :: us)
theorem Vw.go {F : Fr} {L : Bool} {B : Nat} {ms : List Md} {env : List U} {σ : L2.St} {G H G' H' : Hp} {v : V} {u : U} (S : Sta F L B ms env σ G H) (x : Xt F.M F.lk G H G' H') (h : Vw F G H v u) : Vw F G' H' v u := by
  rcases h with h | ⟨a, o, rfl, ho, r, n⟩
  · exact .inl (h.mono x.g)
  · exact .inr ⟨a, o, rfl, x.h _ _ (fun m => (S.mn a m).1 n) ho, r.mono x.g, n⟩
def RV (L : Bool) (ms : List Md) (T : Nat) (te : TE) (ue : UE) : Prop :=
  ∀ F B env σ G H, Sta F L (T + B) ms env σ G H → ∀ (q : U → Prop) (Q : VK), ue env q →
    (∀ u v G' H', q u → Xt F.M F.lk G H G' H' → Sta F L B ms env σ G' H' → Vw F G' H' v u → Q v H') → te σ H Q
def RVA (L : Bool) (ms : List Md) (T : Nat) (ta : TA) (ua : UA) : Prop :=
  ∀ F B env σ G H, Sta F L (T + B) ms env σ G H → ∀ (q : List U → Prop) (Q : List V → Hp → Prop), ua env q →
    (∀ us vs G' H', q us → Xt F.M F.lk G H G' H' → Sta F L B ms env σ G' H' → VwA F G' H' vs us → Q vs H') → ta σ H Q
/-- an operator of values -/
def RO (L : Bool) (r : R2) (uo : U → U → (U → Prop) → Prop) : Prop :=
  ∀ (F : Fr) G H x y u w, Sm F.lk G H → (L = false → ∀ b, ¬ F.lk b) → Vw F G H x u → Vw F G H y w → ∀ (q : U → Prop) (Q : VK), uo u w q →
    (∀ z v G' H', q z → Xt No F.lk G H G' H' → Rep G' v z → Q v H') → r x y H Q
def RON (L : Bool) (r : R2) (uo : U → U → (U → Prop) → Prop) : Prop :=
  ∀ (F : Fr) G H x y u w, Sm F.lk G H → (L = false → ∀ b, ¬ F.lk b) → Vw F G H x u → Vw F G H y w → ∀ (q : U → Prop) (Q : VK), uo u w q →
    (∀ z a o G' H', q z → Xt No F.lk G H G' H' → H a = none → G' a = none → H' a = some o → RepO G' o z → Q (.ref a) H') → r x y H Q
def RC (L : Bool) (r : List V → Hp → VK → Prop) (uc : List U → (U → Prop) → Prop) : Prop :=
  ∀ (F : Fr) G H xs us, Sm F.lk G H → (L = false → ∀ b, ¬ F.lk b) → VwA F G H xs us → ∀ (q : U → Prop) (Q : VK), uc us q →
    (∀ z v G' H', q z → Xt No F.lk G H G' H' → Rep G' v z → Q v H') → r xs H Q
/-- .. that makes a new object -/
def RCN (L : Bool) (r : List V → Hp → VK → Prop) (uc : List U → (U → Prop) → Prop) : Prop :=
  ∀ (F : Fr) G H xs us, Sm F.lk G H → (L = false → ∀ b, ¬ F.lk b) → VwA F G H xs us → ∀ (q : U → Prop) (Q : VK), uc us q →
    (∀ z a o G' H', q z → Xt No F.lk G H G' H' → H a = none → G' a = none → H' a = some o → RepO G' o z → Q (.ref a) H') → r xs H Q
section
variable {L : Bool} {ms : List Md} {Ta Tb Tc T : Nat} {ta tb tc te : TE} {ua ub uc ue : UE} {tA : TA} {uA : UA}
theorem RN.re (h : RN L ms T te ue) : RE L ms T te ue := fun F B env σ G H S q Q hu k =>
  h F B env σ G H S q Q hu fun u a o G' H' hq x S' hn gn ho r => by
    have hF : F.H a = none := S.ex.f _ hn
    have d := S.new_ne hn
    exact k u (.ref a) (upd G' a o) H' hq (x.tell ho (S.sm.free hn) hn) (S'.tell ho gn hF d) ((r.mono (same_new gn)).rep upd_same)
theorem re_c {v : V} {u : U} (h : ∀ G, Rep G v u) : RE L ms 0 (tC v) (fun _ q => q u) := fun F B env σ G H S q Q hu k => k u v G H hu (Xt.refl S.sm) (S.le (by omega)) (h G)
theorem re_int {i : Int} : RE L ms 0 (tC (.int i)) (fun _ q => q (.int i)) := re_c fun _ => .int i
theorem re_str {i : Str} : RE L ms 0 (tC (.str i)) (fun _ q => q (.str i)) := re_c fun _ => .str i
theorem re_bl {i : Bool} : RE L ms 0 (tC (.bl i)) (fun _ q => q (.bl i)) := re_c fun _ => .bl i
theorem re_non : RE L ms 0 (tC .non) (fun _ q => q .non) := re_c fun _ => .non
def gt : List U → Nat → U
  | [], _ => .non
  | x :: _, 0 => x
  | _ :: r, n + 1 => gt r n
theorem gt_at : ∀ {l : List U} {i : Nat} {u : U}, l[i]? = some u → gt l i = u
  | [], _, _, e => by simp at e
  | x :: _, 0, _, e => by simpa [gt] using e
  | _ :: r, n + 1, _, e => gt_at (l := r) (i := n) (by simpa using e)
theorem re_v (i : Nat) (hm : ms[i]? = some .fz := by rfl) : RE L ms 0 (tVar i) (fun env q => q (gt env i)) := fun F B env σ G H S q Q hu k => by
  obtain ⟨v, u, h1, h2, x, rfl, r⟩ := S.sl i _ hm
  have hu : q (gt env i) := hu
  rw [gt_at h2] at hu
  exact ⟨x, h1, k u x G H hu (Xt.refl S.sm) (S.le (by omega)) r⟩
theorem ra_nil : RA L ms 0 tNil (fun _ q => q []) := fun F B env σ G H S q Q hu k => k [] [] G H hu (Xt.refl S.sm) (S.le (by omega)) .nil
theorem ra_cons (ha : RE L ms Ta ta ua) (hb : RA L ms T tA uA) : RA L ms (Ta + T) (tCons ta tA) (fun env q => ua env fun x => uA env fun r => q (x :: r)) := fun F B env σ G H S q Q hu k =>
  ha F (T + B) env σ G H (S.le (by omega)) _ _ hu fun u v G1 H1 hq x1 S1 r1 => hb F B env σ G1 H1 S1 _ _ hq fun us vs G2 H2 hq2 x2 S2 r2 =>
    k (u :: us) (v :: vs) G2 H2 hq2 (x1.trans x2) S2 (.cons (r1.mono x2.g) r2)
theorem RE.rv (h : RE L ms T te ue) : RV L ms T te ue := fun F B env σ G H S q Q hu k => h F B env σ G H S q Q hu fun u v G' H' hq x S' r => k u v G' H' hq x S' (.inl r)
theorem rv_own (i : Nat) (hm : ms[i]? = some .own := by rfl) : RV L ms 0 (tVar i) (fun env q => q (gt env i)) := fun F B env σ G H S q Q hu k => by
  obtain ⟨v, u, h1, h2, a, o, rfl, g, ho, r, n⟩ := S.sl i _ hm
  have hu : q (gt env i) := hu
  rw [gt_at h2] at hu
  exact ⟨.ref a, h1, k u _ G H hu (Xt.refl S.sm) (S.le (by omega)) (.inr ⟨a, o, rfl, ho, r, n⟩)⟩
theorem va_nil : RVA L ms 0 tNil (fun _ q => q []) := fun F B env σ G H S q Q hu k => k [] [] G H hu (Xt.refl S.sm) (S.le (by omega)) .nil
theorem VwA.go {F : Fr} {L : Bool} {B : Nat} {ms : List Md} {env : List U} {σ : L2.St} {G H G' H' : Hp} (S : Sta F L B ms env σ G H) (x : Xt F.M F.lk G H G' H') : ∀ {v : List V} {u : List U}, VwA F G H v u → VwA F G' H' v u
  | _, _, .nil => .nil
  | _, _, .cons h r => .cons (h.go S x) (VwA.go S x r)
theorem va_cons (ha : RV L ms Ta ta ua) (hb : RVA L ms T tA uA) : RVA L ms (Ta + T) (tCons ta tA) (fun env q => ua env fun x => uA env fun r => q (x :: r)) := fun F B env σ G H S q Q hu k =>
  ha F (T + B) env σ G H (S.le (by omega)) _ _ hu fun u v G1 H1 hq x1 S1 r1 => hb F B env σ G1 H1 S1 _ _ hq fun us vs G2 H2 hq2 x2 S2 r2 =>
    k (u :: us) (v :: vs) G2 H2 hq2 (x1.trans x2) S2 (.cons (r1.go S1 x2) r2)
theorem re_op {r : R2} {uo : U → U → (U → Prop) → Prop} (o : RO L r uo) (ha : RV L ms Ta ta ua) (hb : RV L ms Tb tb ub) : RE L ms (Ta + Tb) (tOp r ta tb) (fun env q => ua env fun x => ub env fun y => uo x y q) := fun F B env σ G H S q Q hu k =>
  ha F (Tb + B) env σ G H (S.le (by omega)) _ _ hu fun u v G1 H1 hq x1 S1 r1 => hb F B env σ G1 H1 S1 _ _ hq fun w y G2 H2 hq2 x2 S2 r2 =>
    o F G2 H2 v y u w S2.sm S2.nl (r1.go S1 x2) r2 q Q hq2 fun z v' G3 H3 hz x3 r3 => k z v' G3 H3 hz ((x1.trans x2).trans x3.on) (S2.go x3) r3
theorem rn_op {r : R2} {uo : U → U → (U → Prop) → Prop} (o : RON L r uo) (ha : RV L ms Ta ta ua) (hb : RV L ms Tb tb ub) : RN L ms (Ta + Tb) (tOp r ta tb) (fun env q => ua env fun x => ub env fun y => uo x y q) := fun F B env σ G H S q Q hu k =>
  ha F (Tb + B) env σ G H (S.le (by omega)) _ _ hu fun u v G1 H1 hq x1 S1 r1 => hb F B env σ G1 H1 S1 _ _ hq fun w y G2 H2 hq2 x2 S2 r2 =>
    o F G2 H2 v y u w S2.sm S2.nl (r1.go S1 x2) r2 q Q hq2 fun z a o G3 H3 hz x3 hn gn ho r3 => k z a o G3 H3 hz ((x1.trans x2).trans x3.on) (S2.go x3) ((x1.trans x2).f _ hn) gn ho r3
theorem re_cb {r : List V → Hp → VK → Prop} {uc : List U → (U → Prop) → Prop} (o : RC L r uc) (ha : RVA L ms T tA uA) : RE L ms T (tCB r tA) (fun env q => uA env fun us => uc us q) := fun F B env σ G H S q Q hu k =>
  ha F B env σ G H S _ _ hu fun us vs G1 H1 hq x1 S1 r1 => o F G1 H1 vs us S1.sm S1.nl r1 q Q hq fun z v' G3 H3 hz x3 r3 => k z v' G3 H3 hz (x1.trans x3.on) (S1.go x3) r3
theorem rn_cb {r : List V → Hp → VK → Prop} {uc : List U → (U → Prop) → Prop} (o : RCN L r uc) (ha : RVA L ms T tA uA) : RN L ms T (tCB r tA) (fun env q => uA env fun us => uc us q) := fun F B env σ G H S q Q hu k =>
  ha F B env σ G H S _ _ hu fun us vs G1 H1 hq x1 S1 r1 => o F G1 H1 vs us S1.sm S1.nl r1 q Q hq fun z a o G3 H3 hz x3 hn gn ho r3 => k z a o G3 H3 hz (x1.trans x3.on) (S1.go x3) (x1.f _ hn) gn ho r3
theorem rn_lst (ha : RA L ms T tA uA) : RN L ms T (tLst tA) (fun env q => uA env fun us => us.length ≤ 100000 ∧ q (.lst us)) := fun F B env σ G H S q Q hu k =>
  ha F B env σ G H S _ _ hu fun us vs G1 H1 hq x1 S1 r1 => ⟨szL (by rw [r1.length]; exact hq.1), fun p hp => by
    have x2 : Xt No F.lk G1 H1 G1 (upd H1 p (.lst vs)) := Xt.hid S1.sm hp
    exact k _ p _ G1 _ hq.2 (x1.trans x2.on) (S1.go x2) (x1.f _ hp) (S1.sm.free hp) upd_same (.lst r1)⟩
theorem rn_tup (ha : RA L ms T tA uA) : RN L ms T (tTup tA) (fun env q => uA env fun us => us.length ≤ 100000 ∧ q (.tup us)) := fun F B env σ G H S q Q hu k =>
  ha F B env σ G H S _ _ hu fun us vs G1 H1 hq x1 S1 r1 => ⟨szL (by rw [r1.length]; exact hq.1), fun p hp => by
    have x2 : Xt No F.lk G1 H1 G1 (upd H1 p (.tup vs)) := Xt.hid S1.sm hp
    exact k _ p _ G1 _ hq.2 (x1.trans x2.on) (S1.go x2) (x1.f _ hp) (S1.sm.free hp) upd_same (.tup r1)⟩
end
end Va

namespace Va
open PySem L2 Kt LM DO PyProof.Rows
mutual
def toD : U → PyData
  | .non => .none
  | .bl b => .bool b
  | .int i => .int i
  | .str x => .str x
  | .lst xs => .list (toDs xs)
  | .tup xs => .tuple (toDs xs)
  | .dic _ => .none
  | .ins _ _ => .none
  | .obj _ => .none
def toDs : List U → List PyData
  | [] => []
  | x :: r => toD x :: toDs r
end
mutual
def isD : U → Bool
  | .non => true
  | .bl _ => true
  | .int _ => true
  | .str _ => true
  | .lst xs => isDs xs
  | .tup xs => isDs xs
  | .dic _ => false
  | .ins _ _ => false
  | .obj _ => false
def isDs : List U → Bool
  | [] => true
  | x :: r => isD x && isDs r
end
mutual
def emb : PyData → U
  | .none => .non
  | .bool b => .bl b
  | .int i => .int i
  | .str x => .str x
  | .list xs => .lst (embs xs)
  | .tuple xs => .tup (embs xs)
  | _ => .non
def embs : List PyData → List U
  | [] => []
  | x :: r => emb x :: embs r
end
def pU (p : Str × Int) : U := .tup [.str p.1, .int p.2]
theorem toDs_eq : ∀ us : List U, toDs us = us.map toD
  | [] => rfl
  | u :: r => by rw [toDs, toDs_eq r]; rfl
theorem embs_eq : ∀ us : List PyData, embs us = us.map emb
  | [] => rfl
  | u :: r => by rw [embs, embs_eq r]; rfl
theorem isDs_eq : ∀ us : List U, isDs us = us.all isD
  | [] => rfl
  | u :: r => by rw [isDs, isDs_eq r]; rfl
theorem toD_pU (p : Str × Int) : toD (pU p) = encP p := rfl
theorem emb_encP (p : Str × Int) : emb (encP p) = pU p := rfl
theorem isD_pU (p : Str × Int) : isD (pU p) = true := rfl
mutual
theorem rep_emb {G : Hp} : ∀ {v : V} {d : PyData}, Rp G v d → Rep G v (emb d)
  | _, _, .non => .non
  | _, _, .bl b => .bl b
  | _, _, .int i => .int i
  | _, _, .str x => .str x
  | _, _, .lst h r => .lst h (repA_emb r)
  | _, _, .tup h r => .tup h (repA_emb r)
theorem repA_emb {G : Hp} : ∀ {v : List V} {d : List PyData}, RpA G v d → RepA G v (embs d)
  | _, _, .nil => .nil
  | _, _, .cons h r => .cons (rep_emb h) (repA_emb r)
end
mutual
theorem Rep.rp {G : Hp} : ∀ {v : V} {u : U}, Rep G v u → isD u = true → Rp G v (toD u)
  | _, _, .non, _ => .non
  | _, _, .bl b, _ => .bl b
  | _, _, .int i, _ => .int i
  | _, _, .str x, _ => .str x
  | _, _, .lst h r, e => .lst h (RepA.rp r e)
  | _, _, .tup h r, e => .tup h (RepA.rp r e)
  | _, _, .dic _ _, e => by cases e
  | _, _, .ins _ _, e => by cases e
  | _, _, .obj _ _, e => by cases e
theorem RepA.rp {G : Hp} : ∀ {v : List V} {u : List U}, RepA G v u → isDs u = true → RpA G v (toDs u)
  | _, _, .nil, _ => .nil
  | _, _, .cons h r, e => by
    simp only [isDs, Bool.and_eq_true] at e
    exact .cons (Rep.rp h e.1) (RepA.rp r e.2)
end
mutual
theorem Rp.dpS {K : PySem.W.Frag} {lk : Addr → Prop} {G H : Hp} (s : Sm lk G H) : ∀ {v : V} {d : PyData}, Rp G v d → Dp K H v d
  | _, _, .non => .non
  | _, _, .bl b => .bl b
  | _, _, .int i => .int i
  | _, _, .str x => .str x
  | _, _, .lst h r => .lst (SqL.of (s.get h (by intro _ z; cases z))) (RpA.dpS s r)
  | _, _, .tup h r => .tup (SqT.of (s.get h (by intro _ z; cases z))) (RpA.dpS s r)
theorem RpA.dpS {K : PySem.W.Frag} {lk : Addr → Prop} {G H : Hp} (s : Sm lk G H) : ∀ {v : List V} {d : List PyData}, RpA G v d → DpAll K H v d
  | _, _, .nil => .nil
  | _, _, .cons h r => .cons (Rp.dpS s h) (RpA.dpS s r)
end
section
variable {F : Fr} {G H : Hp} {v : V} {L : Bool}
theorem Vw.dp {K : PySem.W.Frag} {u : U} (h : Vw F G H v u) (s : Sm F.lk G H) (e : isD u = true) : Dp K H v (toD u) := by
  rcases h with h | ⟨a, o, rfl, ho, r, _⟩
  · exact Rp.dpS s (h.rp e)
  · cases r with
    | lst r => exact .lst (SqL.of ho) (RpA.dpS s (r.rp e))
    | tup r => exact .tup (SqT.of ho) (RpA.dpS s (r.rp e))
    | dic r => cases e
    | ins r => cases e
    | obj _ _ => cases e
theorem Vw.int {i : Int} (h : Vw F G H v (.int i)) : v = .int i := by
  rcases h with h | ⟨a, o, rfl, ho, r, _⟩
  · exact of_int h
  · cases r
theorem Vw.str {i : Str} (h : Vw F G H v (.str i)) : v = .str i := by
  rcases h with h | ⟨a, o, rfl, ho, r, _⟩
  · exact of_str h
  · cases r
theorem Vw.bl {i : Bool} (h : Vw F G H v (.bl i)) : v = .bl i := by
  rcases h with h | ⟨a, o, rfl, ho, r, _⟩
  · exact of_bl h
  · cases r
theorem Vw.non (h : Vw F G H v .non) : v = .non := by
  rcases h with h | ⟨a, o, rfl, ho, r, _⟩
  · exact of_non h
  · cases r
theorem Vw.lst {us : List U} (h : Vw F G H v (.lst us)) (s : Sm F.lk G H) : ∃ a xs, v = .ref a ∧ H a = some (.lst xs) ∧ RepA G xs us := by
  rcases h with h | ⟨a, o, rfl, ho, r, _⟩
  · obtain ⟨a, xs, rfl, g, r⟩ := of_lst h
    exact ⟨a, xs, rfl, s.get g (by intro _ z; cases z), r⟩
  · cases r with
    | lst r => exact ⟨a, _, rfl, ho, r⟩
theorem Vw.tup {us : List U} (h : Vw F G H v (.tup us)) (s : Sm F.lk G H) : ∃ a xs, v = .ref a ∧ H a = some (.tup xs) ∧ RepA G xs us := by
  rcases h with h | ⟨a, o, rfl, ho, r, _⟩
  · obtain ⟨a, xs, rfl, g, r⟩ := of_tup h
    exact ⟨a, xs, rfl, s.get g (by intro _ z; cases z), r⟩
  · cases r with
    | tup r => exact ⟨a, _, rfl, ho, r⟩
theorem Vw.dic {us : List (Key × U)} (h : Vw F G H v (.dic us)) (s : Sm F.lk G H) : ∃ a kvs, v = .ref a ∧ Rd H a (.dK kvs) ∧ RepK G kvs us := by
  rcases h with h | ⟨a, o, rfl, ho, r, _⟩
  · obtain ⟨a, xs, rfl, g, r⟩ := of_dic h
    exact ⟨a, xs, rfl, s.rd g, r⟩
  · cases r with
    | dic r => exact ⟨a, _, rfl, .inl ho, r⟩
/-- either a list or a tuple -/
def seqU : U → Option (List U)
  | .lst us => some us
  | .tup us => some us
  | _ => none
theorem Vw.seq {K : PySem.W.Frag} {u : U} {us : List U} (h : Vw F G H v u) (s : Sm F.lk G H) (e : seqU u = some us) : ∃ a xs, v = .ref a ∧ (SqL K H a xs ∨ SqT K H a xs) ∧ RepA G xs us := by
  cases u <;> simp [seqU] at e
  · subst e; obtain ⟨a, xs, rfl, ho, r⟩ := h.lst s; exact ⟨a, xs, rfl, .inl (SqL.of ho), r⟩
  · subst e; obtain ⟨a, xs, rfl, ho, r⟩ := h.tup s; exact ⟨a, xs, rfl, .inr (SqT.of ho), r⟩
/-! ### operators -/
abbrev uI (C : Int → Int → Prop) (f : Int → Int → U) : U → U → (U → Prop) → Prop := fun x y q => ∃ i j, x = .int i ∧ y = .int j ∧ C i j ∧ q (f i j)
abbrev uI0 (f : Int → Int → U) : U → U → (U → Prop) → Prop := fun x y q => ∃ i j, x = .int i ∧ y = .int j ∧ q (f i j)
abbrev uC2 (f : Int → Int → Int) : List U → (U → Prop) → Prop := fun us q => ∃ i j, us = [.int i, .int j] ∧ q (.int (f i j))
def isN : U → Option Bool
  | .non => some true
  | .obj _ => none
  | _ => some false
theorem ro_I {C : Int → Int → Prop} {g : Int → Int → V} {g' : Int → Int → U} (h : ∀ G i j, Rep G (g i j) (g' i j)) : RO L (rI C g) (fun x y q => ∃ i j, x = .int i ∧ y = .int j ∧ C i j ∧ q (g' i j)) := by
  intro F G H x y u w s _ r1 r2 q Q hu k
  obtain ⟨i, j, rfl, rfl, hc, hq⟩ := hu
  exact ⟨i, j, r1.int, r2.int, hc, k _ _ G H hq (Xt.refl s) (h G i j)⟩
theorem ro_I0 {g : Int → Int → V} {g' : Int → Int → U} (h : ∀ G i j, Rep G (g i j) (g' i j)) : RO L (rI0 g) (fun x y q => ∃ i j, x = .int i ∧ y = .int j ∧ q (g' i j)) := by
  intro F G H x y u w s _ r1 r2 q Q hu k
  obtain ⟨i, j, rfl, rfl, hq⟩ := hu
  exact ⟨i, j, r1.int, r2.int, k _ _ G H hq (Xt.refl s) (h G i j)⟩
theorem ro_add : RO L (rI0 fun i j => .int (i + j)) (uI0 (fun i j => .int (i + j))) := ro_I0 (g' := fun i j => .int (i + j)) fun _ _ _ => .int _
theorem ro_sub : RO L (rI0 fun i j => .int (i - j)) (uI0 (fun i j => .int (i - j))) := ro_I0 (g' := fun i j => .int (i - j)) fun _ _ _ => .int _
theorem ro_lt : RO L (rI0 fun i j => .bl (decide (i < j))) (uI0 (fun i j => .bl (decide (i < j)))) := ro_I0 (g' := fun i j => .bl (decide (i < j))) fun _ _ _ => .bl _
theorem ro_le : RO L (rI0 fun i j => .bl (decide (i ≤ j))) (uI0 (fun i j => .bl (decide (i ≤ j)))) := ro_I0 (g' := fun i j => .bl (decide (i ≤ j))) fun _ _ _ => .bl _
theorem ro_gt : RO L (rI0 fun i j => .bl (decide (j < i))) (uI0 (fun i j => .bl (decide (j < i)))) := ro_I0 (g' := fun i j => .bl (decide (j < i))) fun _ _ _ => .bl _
theorem ro_ge : RO L (rI0 fun i j => .bl (decide (j ≤ i))) (uI0 (fun i j => .bl (decide (j ≤ i)))) := ro_I0 (g' := fun i j => .bl (decide (j ≤ i))) fun _ _ _ => .bl _
theorem ro_mul : RO L (rI CMul fun i j => .int (i * j)) (uI CMul (fun i j => .int (i * j))) := ro_I (g' := fun i j => .int (i * j)) fun _ _ _ => .int _
theorem ro_mulW : RO L (rI CMulW fun i j => .int (i * j)) (uI CMulW (fun i j => .int (i * j))) := ro_I (g' := fun i j => .int (i * j)) fun _ _ _ => .int _
theorem ro_div : RO L (rI CDivW fun i j => .int (i / j)) (uI CDivW (fun i j => .int (i / j))) := ro_I (g' := fun i j => .int (i / j)) fun _ _ _ => .int _
theorem ro_mod : RO L (rI (fun _ j => 0 < j) fun i j => .int (i % j)) (uI (fun _ j => 0 < j) (fun i j => .int (i % j))) := ro_I (g' := fun i j => .int (i % j)) fun _ _ _ => .int _
theorem ro_pow : RO L (rI CPow fun i j => .int (i ^ j.toNat)) (uI CPow (fun i j => .int (i ^ j.toNat))) := ro_I (g' := fun i j => .int (i ^ j.toNat)) fun _ _ _ => .int _
/-- flat values -/
def fl : U → Option V
  | .non => some .non
  | .bl b => some (.bl b)
  | .int i => some (.int i)
  | .str x => some (.str x)
  | _ => none
theorem Vw.fl {u : U} {x : V} (h : Vw F G H v u) (e : fl u = some x) : v = x := by
  cases u <;> simp [Va.fl] at e <;> subst e
  · exact h.non
  · exact h.bl
  · exact h.int
  · exact h.str
def scalU (u w : U) : Option Bool := match fl u, fl w with
  | some x, some y => if scal x y = true then some (decide (x = y)) else none
  | _, _ => none
theorem scalU_of {u w : U} {b : Bool} (e : scalU u w = some b) {x y : V} (h1 : Vw F G H x u) (h2 : Vw F G H y w) : scal x y = true ∧ decide (x = y) = b := by
  unfold scalU at e
  cases eu : fl u with
  | none => simp [eu] at e
  | some x' =>
    cases ew : fl w with
    | none => simp [eu, ew] at e
    | some y' =>
      simp only [eu, ew] at e
      have := h1.fl eu
      have := h2.fl ew
      subst x' y'
      by_cases hs : scal x y = true
      · rw [if_pos hs] at e; exact ⟨hs, Option.some.inj e⟩
      · rw [if_neg hs] at e; cases e
theorem ro_eq : RO L rEq (fun x y q => ∃ b, scalU x y = some b ∧ q (.bl b)) := by
  intro F G H x y u w s _ r1 r2 q Q hu k
  obtain ⟨b, e, hq⟩ := hu
  obtain ⟨h1, h2⟩ := scalU_of e r1 r2
  subst h2
  exact ⟨h1, k _ _ G H hq (Xt.refl s) (.bl _)⟩
theorem ro_ne : RO L rNe (fun x y q => ∃ b, scalU x y = some b ∧ q (.bl (!b))) := by
  intro F G H x y u w s _ r1 r2 q Q hu k
  obtain ⟨b, e, hq⟩ := hu
  obtain ⟨h1, h2⟩ := scalU_of e r1 r2
  subst h2
  exact ⟨h1, k _ _ G H hq (Xt.refl s) (.bl _)⟩
theorem Vw.isN {u : U} {x : V} (h : Vw F G H x u) {b : Bool} (e : Va.isN u = some b) : decide (x = .non) = b := by
  rcases h with h | ⟨a, o, rfl, ho, r, _⟩
  · cases h <;> simp [Va.isN] at e <;> subst e <;> simp
  · cases r <;> simp [Va.isN] at e <;> subst e <;> simp
theorem ro_isN : RO L (fun x y H Q => y = .non ∧ Q (.bl (decide (x = .non))) H) (fun x y q => y = .non ∧ ∃ b, Va.isN x = some b ∧ q (.bl b)) := by
  intro F G H x y u w s _ r1 r2 q Q hu k
  obtain ⟨rfl, b, e, hq⟩ := hu
  refine ⟨r2.non, ?_⟩
  rw [r1.isN e]
  exact k _ _ G H hq (Xt.refl s) (.bl _)
theorem ro_notN : RO L (fun x y H Q => y = .non ∧ Q (.bl (!decide (x = .non))) H) (fun x y q => y = .non ∧ ∃ b, Va.isN x = some b ∧ q (.bl (!b))) := by
  intro F G H x y u w s _ r1 r2 q Q hu k
  obtain ⟨rfl, b, e, hq⟩ := hu
  refine ⟨r2.non, ?_⟩
  rw [r1.isN e]
  exact k _ _ G H hq (Xt.refl s) (.bl _)
theorem ro_addS : RO L (fun x y H Q => ∃ i j, x = .str i ∧ y = .str j ∧ i.length + j.length ≤ sizeLine ∧ Q (.str (i ++ j)) H) (fun x y q => ∃ i j, x = .str i ∧ y = .str j ∧ i.length + j.length ≤ sizeLine ∧ q (.str (i ++ j))) := by
  intro F G H x y u w s _ r1 r2 q Q hu k
  obtain ⟨i, j, rfl, rfl, hz, hq⟩ := hu
  exact ⟨i, j, r1.str, r2.str, hz, k _ _ G H hq (Xt.refl s) (.str _)⟩
theorem ro_eqD {K : PySem.W.Frag} : RO L (rEqD K) (fun x y q => isD x = true ∧ isD y = true ∧ SeqAt.shaped (toD x) = true ∧ SeqAt.shaped (toD y) = true ∧ q (.bl (PyData.eqv (toD x) (toD y)))) := by
  intro F G H x y u w s _ r1 r2 q Q hu k
  obtain ⟨d1, d2, s1, s2, hq⟩ := hu
  exact ⟨_, _, r1.dp s d1, r2.dp s d2, s1, s2, k _ _ G H hq (Xt.refl s) (.bl _)⟩
theorem ro_neD {K : PySem.W.Frag} : RO L (rNeD K) (fun x y q => isD x = true ∧ isD y = true ∧ SeqAt.shaped (toD x) = true ∧ SeqAt.shaped (toD y) = true ∧ q (.bl (!PyData.eqv (toD x) (toD y)))) := by
  intro F G H x y u w s _ r1 r2 q Q hu k
  obtain ⟨d1, d2, s1, s2, hq⟩ := hu
  exact ⟨_, _, r1.dp s d1, r2.dp s d2, s1, s2, k _ _ G H hq (Xt.refl s) (.bl _)⟩
theorem ro_ord {f : PyData → PyData → Bool} {K : PySem.W.Frag} : RO L (rOrd f K) (fun x y q => isD x = true ∧ isD y = true ∧ SeqAt.shaped (toD x) = true ∧ SeqAt.shaped (toD y) = true ∧ cmpD (toD x) (toD y) = true ∧ q (.bl (f (toD x) (toD y)))) := by
  intro F G H x y u w s _ r1 r2 q Q hu k
  obtain ⟨d1, d2, s1, s2, c, hq⟩ := hu
  exact ⟨_, _, r1.dp s d1, r2.dp s d2, s1, s2, c, k _ _ G H hq (Xt.refl s) (.bl _)⟩
theorem atI_rep {xs : List V} {us : List U} (r : RepA G xs us) {i : Int} {u : U} (h : atI us i = some u) : ∃ v, atI xs i = some v ∧ Rep G v u := by
  unfold atI at h ⊢
  rw [r.length]
  cases e : ixN us.length i with
  | none => rw [e] at h; cases h
  | some j => rw [e] at h; exact r.get' h
theorem ro_ixL {K : PySem.W.Frag} : RO L (rIxL K) (fun x y q => ∃ us i u, x = .lst us ∧ y = .int i ∧ atI us i = some u ∧ q u) := by
  intro F G H x y u w s _ r1 r2 q Q hu k
  obtain ⟨us, i, z, rfl, rfl, e, hq⟩ := hu
  obtain ⟨a, xs, rfl, ho, r⟩ := r1.lst s
  obtain ⟨v, e2, r3⟩ := atI_rep r e
  exact ⟨a, xs, i, v, rfl, r2.int, SqL.of ho, e2, k z v G H hq (Xt.refl s) r3⟩
theorem ro_ixT {K : PySem.W.Frag} : RO L (rIxT K) (fun x y q => ∃ us i u, x = .tup us ∧ y = .int i ∧ atI us i = some u ∧ q u) := by
  intro F G H x y u w s _ r1 r2 q Q hu k
  obtain ⟨us, i, z, rfl, rfl, e, hq⟩ := hu
  obtain ⟨a, xs, rfl, ho, r⟩ := r1.tup s
  obtain ⟨v, e2, r3⟩ := atI_rep r e
  exact ⟨a, xs, i, v, rfl, r2.int, SqT.of ho, e2, k z v G H hq (Xt.refl s) r3⟩
theorem ro_cat : RON L rCat (fun x y q => ∃ us ws, x = .lst us ∧ y = .lst ws ∧ us.length + ws.length ≤ 100000 ∧ q (.lst (us ++ ws))) := by
  intro F G H x y u w s _ r1 r2 q Q hu k
  obtain ⟨us, ws, rfl, rfl, hz, hq⟩ := hu
  obtain ⟨a, xs, rfl, ho, ra⟩ := r1.lst s
  obtain ⟨b, ys, rfl, hp, rb⟩ := r2.lst s
  exact ⟨a, b, xs, ys, rfl, rfl, ho, hp, szL (by rw [ra.length, rb.length]; exact hz), fun p hn => k _ p _ G _ hq (Xt.hid s hn) hn (s.free hn) upd_same (.lst (ra.app rb))⟩
/-- t + u of told tuples: one of them may be given back -/
theorem re_catA {K : PySem.W.Frag} {ms : List Md} {Ta Tb : Nat} {ta tb : TE} {ua ub : UE} (ha : RE L ms Ta ta ua) (hb : RE L ms Tb tb ub) : RE L ms (Ta + Tb) (tOp (rCatA K) ta tb) (fun env q => ua env fun x => ub env fun y => ∃ us ws, x = .tup us ∧ y = .tup ws ∧ us.length + ws.length ≤ 100000 ∧ q (.tup (us ++ ws))) := fun F B env σ G H S q Q hu k =>
  ha F (Tb + B) env σ G H (S.le (by omega)) _ _ hu fun u v G1 H1 hq x1 S1 r1 => hb F B env σ G1 H1 S1 _ _ hq fun w y G2 H2 hq2 x2 S2 r2 => by
    obtain ⟨us, ws, rfl, rfl, hz, hq⟩ := hq2
    obtain ⟨a, xs, rfl, g1, ra⟩ := of_tup (r1.mono x2.g)
    obtain ⟨b, ys, rfl, g2, rb⟩ := of_tup r2
    have l1 := ra.length
    have l2 := rb.length
    refine ⟨a, b, xs, ys, rfl, rfl, SqT.of (S2.sm.get g1 (by intro _ z; cases z)), SqT.of (S2.sm.get g2 (by intro _ z; cases z)), szL (by omega), fun e => ?_, fun _ e => ?_, fun _ _ p hp => ?_⟩
    · subst e
      cases ra
      exact k _ _ G2 H2 hq (x1.trans x2) S2 (.tup g2 rb)
    · subst e
      cases rb
      rw [List.append_nil] at hq
      exact k _ _ G2 H2 hq (x1.trans x2) S2 (.tup g1 ra)
    · have x3 : Xt No F.lk G2 H2 (upd G2 p (.tup (xs ++ ys))) (upd H2 p (.tup (xs ++ ys))) := Xt.new S2.sm hp
      exact k _ _ _ _ hq ((x1.trans x2).trans x3.on) (S2.go x3) (.tup upd_same ((ra.app rb).mono x3.g))
theorem flatV_of {x : V} {u : U} (h : Vw F G H x u) (e : (fl u).isSome = true) : flatV x = true ∧ fl u = some x := by
  cases hu : fl u with
  | none => rw [hu] at e; cases e
  | some y =>
    have := h.fl hu
    subst this
    refine ⟨?_, rfl⟩
    cases u <;> simp [fl] at hu <;> subst hu <;> rfl
theorem flats_of : ∀ {xs : List V} {us : List U}, RepA G xs us → (us.all fun u => (fl u).isSome) = true → xs.all flatV = true ∧ us.filterMap fl = xs
  | _, _, .nil, _ => ⟨rfl, rfl⟩
  | _, _, .cons h r, e => by
    simp only [List.all_cons, Bool.and_eq_true] at e
    obtain ⟨h1, h2⟩ := flats_of r e.2
    obtain ⟨h3, h4⟩ := flatV_of (F := ⟨No, No, none, fun _ => none, fun _ => none⟩) (H := G) (.inl h) e.1
    exact ⟨by simp [h1, h3], by rw [List.filterMap_cons, h4, h2]⟩
theorem ro_in {K : PySem.W.Frag} {neg : Bool} : RO L (rIn K neg) (fun x y q => ∃ v us, fl x = some v ∧ seqU y = some us ∧ (us.all fun u => (fl u).isSome) = true ∧ q (.bl (if neg then !inV v (us.filterMap fl) else inV v (us.filterMap fl)))) := by
  intro F G H x y u w s _ r1 r2 q Q hu k
  obtain ⟨v, us, e1, e2, e3, hq⟩ := hu
  have := r1.fl e1
  subst this
  obtain ⟨a, xs, rfl, hs, r⟩ := r2.seq (K := K) s e2
  obtain ⟨h3, h4⟩ := flats_of r e3
  rw [h4] at hq
  exact ⟨a, xs, rfl, hs, (flatV_of r1 (by rw [e1]; rfl)).1, h3, k _ _ G H hq (Xt.refl s) (.bl _)⟩
/-! ### built-in functions -/
theorem rc_len {K : PySem.W.Frag} : RC L (rLenQ K) (fun us q => ∃ u xs, us = [u] ∧ seqU u = some xs ∧ q (.int xs.length)) := by
  intro F G H xs us s _ r q Q hu k
  obtain ⟨u, ys, rfl, e, hq⟩ := hu
  cases r with
  | cons h r =>
    cases r
    obtain ⟨a, zs, rfl, hs, ra⟩ := h.seq (K := K) s e
    refine ⟨a, zs, rfl, hs, ?_⟩
    rw [ra.length]
    exact k _ _ G H hq (Xt.refl s) (.int _)
theorem rc_lenS : RC L (fun xs H Q => ∃ z, xs = [V.str z] ∧ z.length ≤ sizeLine ∧ Q (.int z.length) H) (fun us q => ∃ z, us = [.str z] ∧ z.length ≤ sizeLine ∧ q (.int z.length)) := by
  intro F G H xs us s _ r q Q hu k
  obtain ⟨z, rfl, hz, hq⟩ := hu
  cases r with
  | cons h r =>
    cases r
    exact ⟨z, by rw [h.str], hz, k _ _ G H hq (Xt.refl s) (.int _)⟩
theorem rc_abs : RC L (fun xs H Q => ∃ i, xs = [V.int i] ∧ Q (.int (if i < 0 then -i else i)) H) (fun us q => ∃ i, us = [.int i] ∧ q (.int (if i < 0 then -i else i))) := by
  intro F G H xs us s _ r q Q hu k
  obtain ⟨i, rfl, hq⟩ := hu
  cases r with
  | cons h r =>
    cases r
    exact ⟨i, by rw [h.int], k _ _ G H hq (Xt.refl s) (.int _)⟩
theorem rc_i2 {f : Int → Int → Int} : RC L (fun xs H Q => ∃ i j, xs = [V.int i, .int j] ∧ Q (.int (f i j)) H) (fun us q => ∃ i j, us = [.int i, .int j] ∧ q (.int (f i j))) := by
  intro F G H xs us s _ r q Q hu k
  obtain ⟨i, j, rfl, hq⟩ := hu
  cases r with
  | cons h r =>
    cases r with
    | cons h2 r =>
      cases r
      exact ⟨i, j, by rw [h.int, h2.int], k _ _ G H hq (Xt.refl s) (.int _)⟩
theorem rc_min2 : RC L (fun xs H Q => ∃ i j, xs = [V.int i, .int j] ∧ Q (.int (if j < i then j else i)) H) (uC2 (fun i j => if j < i then j else i)) := rc_i2 (f := fun i j => if j < i then j else i)
theorem rc_max2 : RC L (fun xs H Q => ∃ i j, xs = [V.int i, .int j] ∧ Q (.int (if j > i then j else i)) H) (uC2 (fun i j => if j > i then j else i)) := rc_i2 (f := fun i j => if j > i then j else i)
theorem rc_int1 : RC L (fun xs H Q => (∃ i, xs = [V.int i] ∧ Q (.int i) H) ∨ ∃ k, xs = [.bl k] ∧ Q (.int (if k then 1 else 0)) H) (fun us q => (∃ i, us = [.int i] ∧ q (.int i)) ∨ ∃ k, us = [.bl k] ∧ q (.int (if k then 1 else 0))) := by
  intro F G H xs us s _ r q Q hu k
  rcases hu with ⟨i, rfl, hq⟩ | ⟨i, rfl, hq⟩
  · cases r with
    | cons h r =>
      cases r
      exact .inl ⟨i, by rw [h.int], k _ _ G H hq (Xt.refl s) (.int _)⟩
  · cases r with
    | cons h r =>
      cases r
      exact .inr ⟨i, by rw [h.bl], k _ _ G H hq (Xt.refl s) (.int _)⟩
theorem VwA.one {xs : List V} {u : U} (r : VwA F G H xs [u]) : ∃ v, xs = [v] ∧ Vw F G H v u := by
  cases r with
  | cons h r => cases r; exact ⟨_, rfl, h⟩
theorem rc_sum {K : PySem.W.Frag} : RC L (rSum K) (fun us q => ∃ ns : List Int, us = [.lst (ns.map U.int)] ∧ q (.int ns.sum)) := by
  intro F G H xs us s _ r q Q hu k
  obtain ⟨ns, rfl, hq⟩ := hu
  obtain ⟨v, rfl, h⟩ := r.one
  obtain ⟨a, zs, rfl, ho, ra⟩ := h.lst s
  exact ⟨a, ns, rfl, by rw [← of_ints ra]; exact SqL.of ho, k _ _ G H hq (Xt.refl s) (.int _)⟩
theorem rc_all {K : PySem.W.Frag} : RC L (rAll K) (fun us q => ∃ bs : List Bool, us = [.lst (bs.map U.bl)] ∧ q (.bl (bs.all id))) := by
  intro F G H xs us s _ r q Q hu k
  obtain ⟨ns, rfl, hq⟩ := hu
  obtain ⟨v, rfl, h⟩ := r.one
  obtain ⟨a, zs, rfl, ho, ra⟩ := h.lst s
  exact ⟨a, ns, rfl, by rw [← of_bls ra]; exact SqL.of ho, k _ _ G H hq (Xt.refl s) (.bl _)⟩
theorem rc_any {K : PySem.W.Frag} : RC L (rAny K) (fun us q => ∃ bs : List Bool, us = [.lst (bs.map U.bl)] ∧ q (.bl (bs.any id))) := by
  intro F G H xs us s _ r q Q hu k
  obtain ⟨ns, rfl, hq⟩ := hu
  obtain ⟨v, rfl, h⟩ := r.one
  obtain ⟨a, zs, rfl, ho, ra⟩ := h.lst s
  exact ⟨a, ns, rfl, by rw [← of_bls ra]; exact SqL.of ho, k _ _ G H hq (Xt.refl s) (.bl _)⟩
theorem rc_min {K : PySem.W.Frag} : RC L (rMin K) (fun us q => ∃ ns : List Int, us = [.lst (ns.map U.int)] ∧ 0 < ns.length ∧ ∀ m, m ∈ ns → (∀ y, y ∈ ns → m ≤ y) → q (.int m)) := by
  intro F G H xs us s _ r q Q hu k
  obtain ⟨ns, rfl, hl, hq⟩ := hu
  obtain ⟨v, rfl, h⟩ := r.one
  obtain ⟨a, zs, rfl, ho, ra⟩ := h.lst s
  exact ⟨a, ns, rfl, by rw [← of_ints ra]; exact SqL.of ho, hl, fun m h1 h2 => k _ _ G H (hq m h1 h2) (Xt.refl s) (.int _)⟩
theorem rc_max {K : PySem.W.Frag} : RC L (rMax K) (fun us q => ∃ ns : List Int, us = [.lst (ns.map U.int)] ∧ 0 < ns.length ∧ ∀ m, m ∈ ns → (∀ y, y ∈ ns → y ≤ m) → q (.int m)) := by
  intro F G H xs us s _ r q Q hu k
  obtain ⟨ns, rfl, hl, hq⟩ := hu
  obtain ⟨v, rfl, h⟩ := r.one
  obtain ⟨a, zs, rfl, ho, ra⟩ := h.lst s
  exact ⟨a, ns, rfl, by rw [← of_ints ra]; exact SqL.of ho, hl, fun m h1 h2 => k _ _ G H (hq m h1 h2) (Xt.refl s) (.int _)⟩
theorem rc_list {K : PySem.W.Frag} : RCN L (rListQ K) (fun us q => ∃ u xs, us = [u] ∧ seqU u = some xs ∧ q (.lst xs)) := by
  intro F G H xs us s _ r q Q hu k
  obtain ⟨u, ys, rfl, e, hq⟩ := hu
  obtain ⟨v, rfl, h⟩ := r.one
  obtain ⟨a, zs, rfl, hs, ra⟩ := h.seq (K := K) s e
  exact ⟨a, zs, rfl, hs, fun l hl => k _ l _ G _ hq (Xt.hid s hl) hl (s.free hl) upd_same (.lst ra)⟩
/-- tuple(list) -/
theorem rc_tuple {K : PySem.W.Frag} : RCN L (rTupQ K) (fun us q => ∃ xs, us = [.lst xs] ∧ q (.tup xs)) := by
  intro F G H xs us s _ r q Q hu k
  obtain ⟨ys, rfl, hq⟩ := hu
  obtain ⟨v, rfl, h⟩ := r.one
  obtain ⟨a, zs, rfl, ho, ra⟩ := h.lst s
  exact ⟨a, zs, rfl, .inl ⟨SqL.of ho, fun l hl => k _ l _ G _ hq (Xt.hid s hl) hl (s.free hl) upd_same (.tup ra)⟩⟩
theorem rc_sortedS {K : PySem.W.Frag} : RCN L (rSortedS K) (fun us q => ∃ xs : List Str, us = [.lst (xs.map U.str)] ∧ xs.length < 64 ∧ ∀ ys : List Str, ys.Perm xs → sortedS ys = true → q (.lst (ys.map U.str))) := by
  intro F G H xs us s _ r q Q hu k
  obtain ⟨ns, rfl, hl, hq⟩ := hu
  obtain ⟨v, rfl, h⟩ := r.one
  obtain ⟨a, zs, rfl, ho, ra⟩ := h.lst s
  exact ⟨a, ns, rfl, by rw [← of_strs ra]; exact SqL.of ho, hl, fun ys p hp hs hn => k _ p _ G _ (hq ys hp hs) (Xt.hid s hn) hn (s.free hn) upd_same (.lst (repA_str ys))⟩
end
end Va

namespace Va
open PySem L2 Kt LM DO PyProof.Rows
section
variable {L : Bool} {ms ms' ms1 ms2 : List Md} {Ta Tb Tc T : Nat} {ta tb tc te : TE} {ua ub uc ue : UE} {tA : TA} {uA : UA} {tt tt' : TT} {ut ut' : UT}
/-! ### tests -/
theorem rt_B (h : RE L ms T te ue) : RT L ms T (tB te) (fun env q => ue env fun x => ∃ b, x = .bl b ∧ q b) := fun F B env σ G H S q Q hu k =>
  h F B env σ G H S _ _ hu fun u v G' H' hq x S' r => by
    obtain ⟨b, rfl, hq⟩ := hq
    exact ⟨b, of_bl r, k b G' H' hq x S'⟩
theorem rt_test (h : RE L ms T te ue) : RT L ms T (tTest te) (fun env q => ue env fun x => ∃ b, x = .bl b ∧ q b) := rt_B h
theorem rt_not (h : RT L ms T tt ut) : RT L ms T (tNot tt) (fun env q => ut env fun b => q (!b)) := fun F B env σ G H S q Q hu k => h F B env σ G H S _ _ hu fun b G' H' hq x S' => k (!b) G' H' hq x S'
theorem rt_and (h : RT L ms Ta tt ut) (h2 : RT L ms Tb tt' ut') : RT L ms (Ta + Tb) (tAnd tt tt') (fun env q => ut env fun b => if b = true then ut' env q else q false) := fun F B env σ G H S q Q hu k =>
  h F (Tb + B) env σ G H (S.le (by omega)) _ _ hu fun b G' H' hq x S' => by
    cases b with
    | false => exact ifF rfl (k false G' H' (by simpa using hq) x (S'.le (by omega)))
    | true => exact ifT rfl (h2 F B env σ G' H' S' q Q (by simpa using hq) fun b G2 H2 hq x2 S2 => k b G2 H2 hq (x.trans x2) S2)
theorem rt_or (h : RT L ms Ta tt ut) (h2 : RT L ms Tb tt' ut') : RT L ms (Ta + Tb) (tOr tt tt') (fun env q => ut env fun b => if b = true then q true else ut' env q) := fun F B env σ G H S q Q hu k =>
  h F (Tb + B) env σ G H (S.le (by omega)) _ _ hu fun b G' H' hq x S' => by
    cases b with
    | true => exact ifT rfl (k true G' H' (by simpa using hq) x (S'.le (by omega)))
    | false => exact ifF rfl (h2 F B env σ G' H' S' q Q (by simpa using hq) fun b G2 H2 hq x2 S2 => k b G2 H2 hq (x.trans x2) S2)
theorem rt_yes : RT L ms 0 tYes (fun _ q => q true) := fun F B env σ G H S q Q hu k => k true G H hu (Xt.refl S.sm) (S.le (by omega))
/-- truth: a list or a tuple, a text, an int -/
theorem re_notV (h : RE L ms T te ue) : RE L ms T (tNotV te) (fun env q => ue env fun x => ∃ b, x = .bl b ∧ q (.bl (!b))) := fun F B env σ G H S q Q hu k =>
  h F B env σ G H S _ _ hu fun u v G' H' hq x S' r => by
    obtain ⟨b, rfl, hq⟩ := hq
    exact ⟨b, of_bl r, k _ _ G' H' hq x S' (.bl _)⟩
theorem re_andV (ha : RE L ms Ta ta ua) (hb : RE L ms Tb tb ub) : RE L ms (Ta + Tb) (tAndV ta tb) (fun env q => ua env fun x => ∃ b, x = .bl b ∧ if b = true then ub env q else q (.bl false)) := fun F B env σ G H S q Q hu k =>
  ha F (Tb + B) env σ G H (S.le (by omega)) _ _ hu fun u v G' H' hq x S' r => by
    obtain ⟨b, rfl, hq⟩ := hq
    refine ⟨b, of_bl r, ?_⟩
    cases b with
    | false => exact ifF rfl (k _ _ G' H' (by simpa using hq) x (S'.le (by omega)) (.bl _))
    | true => exact ifT rfl (hb F B env σ G' H' S' q Q (by simpa using hq) fun u v G2 H2 hq x2 S2 r2 => k u v G2 H2 hq (x.trans x2) S2 r2)
theorem re_orV (ha : RE L ms Ta ta ua) (hb : RE L ms Tb tb ub) : RE L ms (Ta + Tb) (tOrV ta tb) (fun env q => ua env fun x => ∃ b, x = .bl b ∧ if b = true then q (.bl true) else ub env q) := fun F B env σ G H S q Q hu k =>
  ha F (Tb + B) env σ G H (S.le (by omega)) _ _ hu fun u v G' H' hq x S' r => by
    obtain ⟨b, rfl, hq⟩ := hq
    refine ⟨b, of_bl r, ?_⟩
    cases b with
    | true => exact ifT rfl (k _ _ G' H' (by simpa using hq) x (S'.le (by omega)) (.bl _))
    | false => exact ifF rfl (hb F B env σ G' H' S' q Q (by simpa using hq) fun u v G2 H2 hq x2 S2 r2 => k u v G2 H2 hq (x.trans x2) S2 r2)
theorem re_if (h : RT L ms Tc tt ut) (ha : RE L ms Ta ta ua) (hb : RE L ms Tb tb ub) : RE L ms (Tc + (Ta + Tb)) (tIf tt ta tb) (fun env q => ut env fun b => if b = true then ua env q else ub env q) := fun F B env σ G H S q Q hu k =>
  h F (Ta + Tb + B) env σ G H (S.le (by omega)) _ _ hu fun b G' H' hq x S' => by
    cases b with
    | true => exact ifT rfl (ha F B env σ G' H' (S'.le (by omega)) q Q (by simpa using hq) fun u v G2 H2 hq x2 S2 r2 => k u v G2 H2 hq (x.trans x2) S2 r2)
    | false => exact ifF rfl (hb F B env σ G' H' (S'.le (by omega)) q Q (by simpa using hq) fun u v G2 H2 hq x2 S2 r2 => k u v G2 H2 hq (x.trans x2) S2 r2)
theorem re_neg (ha : RE L ms Ta ta ua) : RE L ms Ta (tUn (rU fun i => .int (-i)) ta) (fun env q => ua env fun x => ∃ i, x = .int i ∧ q (.int (-i))) := fun F B env σ G H S q Q hu k =>
  ha F B env σ G H S _ _ hu fun u v G' H' hq x S' r => by
    obtain ⟨i, rfl, hq⟩ := hq
    exact ⟨i, of_int r, k _ _ G' H' hq x S' (.int _)⟩
theorem re_chain {r r' : R2} {uo uo' : U → U → (U → Prop) → Prop} (o : RO L r uo) (o' : RO L r' uo') (ha : RV L ms Ta ta ua) (hb : RV L ms Tb tb ub) (hc : RV L ms Tc tc uc) :
    RE L ms (Ta + (Tb + Tc)) (tChain r r' ta tb tc) (fun env q => ua env fun x => ub env fun y => uo x y fun z => ∃ k, z = .bl k ∧ if k = true then uc env fun w => uo' y w q else q (.bl false)) := fun F B env σ G H S q Q hu k =>
  ha F (Tb + Tc + B) env σ G H (S.le (by omega)) _ _ hu fun u v G1 H1 hq x1 S1 r1 => hb F (Tc + B) env σ G1 H1 (S1.le (by omega)) _ _ hq fun w y G2 H2 hq2 x2 S2 r2 =>
    o F G2 H2 v y u w S2.sm S2.nl (r1.go S1 x2) r2 _ _ hq2 fun z v' G3 H3 hz x3 r3 => by
      obtain ⟨b, rfl, hz⟩ := hz
      refine ⟨b, of_bl r3, ?_⟩
      have S3 := S2.go x3
      cases b with
      | false => exact ifF rfl (k _ _ G3 H3 (by simpa using hz) ((x1.trans x2).trans x3.on) (S3.le (by omega)) (.bl _))
      | true => exact ifT rfl (hc F B env σ G3 H3 S3 _ _ (by simpa using hz) fun w3 y3 G4 H4 hq4 x4 S4 r4 =>
          o' F G4 H4 y y3 w w3 S4.sm S4.nl ((r2.go S2 x3.on).go S3 x4) r4 q Q hq4 fun z5 v5 G5 H5 hz5 x5 r5 => k z5 v5 G5 H5 hz5 (((x1.trans x2).trans x3.on).trans (x4.trans x5.on)) (S4.go x5) r5)
/-! ### slices -/
def RP (L : Bool) (ms : List Md) (T : Nat) (to : TO) (up : List U → (Option Int → Prop) → Prop) : Prop :=
  ∀ F B env σ G H, Sta F L (T + B) ms env σ G H → ∀ (q : Option Int → Prop) (Q : Option Int → Hp → Prop), up env q →
    (∀ i G' H', q i → Xt F.M F.lk G H G' H' → Sta F L B ms env σ G' H' → Q i H') → to σ H Q
theorem rp_none : RP L ms 0 tNoPart (fun _ q => q none) := fun F B env σ G H S q Q hu k => k none G H hu (Xt.refl S.sm) (S.le (by omega))
theorem rp_some (h : RE L ms T te ue) : RP L ms T (tPart te) (fun env q => ue env fun x => ∃ i, x = .int i ∧ q (some i)) := fun F B env σ G H S q Q hu k =>
  h F B env σ G H S _ _ hu fun u v G' H' hq x S' r => by
    obtain ⟨i, rfl, hq⟩ := hq
    exact ⟨i, of_int r, k _ G' H' hq x S'⟩
def cutU (xs : List U) (lo hi : Option Int) : List U := (xs.drop (HT.sIx xs.length 0 lo)).take (HT.sIx xs.length xs.length hi - HT.sIx xs.length 0 lo)
theorem cut_rep {G : Hp} {xs : List V} {us : List U} (r : RepA G xs us) (lo hi : Option Int) : RepA G (cutV xs lo hi) (cutU us lo hi) := by
  unfold cutV cutU
  rw [r.length]
  exact (r.drop _).take _
theorem rn_slL {K : PySem.W.Frag} {tl th : TO} {ul uh : List U → (Option Int → Prop) → Prop} (ha : RV L ms Ta ta ua) (hl : RP L ms Tb tl ul) (hh : RP L ms Tc th uh) :
    RN L ms (Ta + (Tb + Tc)) (tSl (rSlL K) ta tl th) (fun env q => ua env fun x => ul env fun lo => uh env fun hi => ∃ us, x = .lst us ∧ q (.lst (cutU us lo hi))) := fun F B env σ G H S q Q hu k =>
  ha F (Tb + Tc + B) env σ G H (S.le (by omega)) _ _ hu fun u v G1 H1 hq x1 S1 r1 => hl F (Tc + B) env σ G1 H1 (S1.le (by omega)) _ _ hq fun lo G2 H2 hq2 x2 S2 =>
    hh F B env σ G2 H2 S2 _ _ hq2 fun hi G3 H3 hq3 x3 S3 => by
      obtain ⟨us, rfl, hq9⟩ := hq3
      obtain ⟨a, xs, rfl, ho, ra⟩ := ((r1.go S1 x2).go S2 x3).lst S3.sm
      refine ⟨a, xs, rfl, SqL.of ho, fun p hp => ?_⟩
      have x4 : Xt No F.lk G3 H3 G3 (upd H3 p (.lst (cutV xs lo hi))) := Xt.hid S3.sm hp
      exact k _ p _ G3 _ hq9 ((x1.trans x2).trans (x3.trans x4.on)) (S3.go x4) ((x1.trans x2).f _ (x3.f _ hp)) (S3.sm.free hp) upd_same (.lst (cut_rep ra lo hi))
/-! ### dicts -/
theorem Kval {G : Hp} {k : Key} : ∀ {kvs : List (Key × V)} {us : List (Key × U)}, RepK G kvs us → (valV kvs k = none ∧ (us.find? fun p => decide (p.1 = k)) = none) ∨ ∃ v u, valV kvs k = some v ∧ (us.find? fun p => decide (p.1 = k)).map (·.2) = some u ∧ Rep G v u
  | _, _, .nil => .inl ⟨rfl, rfl⟩
  | _, _, .cons (k := k') (v := v) (u := u) h r => by
    by_cases e : k' = k
    · subst e
      right
      exact ⟨v, u, by simp [valV], by simp, h⟩
    · rcases Kval (k := k) r with ⟨h1, h2⟩ | ⟨v', u', h1, h2, h3⟩
      · left
        constructor
        · simpa [valV, List.find?_cons, e] using h1
        · simpa [List.find?_cons, e] using h2
      · right
        exact ⟨v', u', by simpa [valV, List.find?_cons, e] using h1, by simpa [List.find?_cons, e] using h2, h3⟩
def valU (us : List (Key × U)) (k : Key) : Option U := (us.find? fun p => decide (p.1 = k)).map (·.2)
def keyU : U → Option Key
  | .int i => some (.inl i)
  | .str x => some (.inr x)
  | _ => none
theorem Vw.key {F : Fr} {G H : Hp} {v : V} {u : U} {k : Key} (h : Vw F G H v u) (e : keyU u = some k) : v = kV k := by
  cases u <;> simp [keyU] at e <;> subst e
  · rw [h.int]; rfl
  · rw [h.str]; rfl
theorem re_dget (ha : RV L ms Ta ta ua) (hb : RV L ms Tb tb ub) : RE L ms (Ta + Tb) (tDGet ta tb) (fun env q => ua env fun x => ub env fun y => ∃ us k u, x = .dic us ∧ keyU y = some k ∧ valU us k = some u ∧ q u) := fun F B env σ G H S q Q hu k =>
  ha F (Tb + B) env σ G H (S.le (by omega)) _ _ hu fun u v G1 H1 hq x1 S1 r1 => hb F B env σ G1 H1 S1 _ _ hq fun w y G2 H2 hq2 x2 S2 r2 => by
    obtain ⟨us, kk, z, rfl, ek, ez, hq⟩ := hq2
    obtain ⟨a, kvs, rfl, rd, rk⟩ := (r1.go S1 x2).dic S2.sm
    have := r2.key ek
    subst this
    rcases Kval (k := kk) rk with ⟨h1, h2⟩ | ⟨v', u', h1, h2, h3⟩
    · rw [valU, h2] at ez; cases ez
    · have ez : (us.find? fun p => decide (p.1 = kk)).map (·.2) = some z := ez
      rw [h2] at ez; cases ez
      exact ⟨a, v', rfl, .inl ⟨kvs, kk, rd, rfl, h1.symm⟩, k _ _ G2 H2 hq (x1.trans x2) S2 h3⟩
theorem re_dget2 (ha : RV L ms Ta ta ua) (hb : RV L ms Tb tb ub) (hc : RE L ms Tc tc uc) : RE L ms (Ta + (Tb + Tc)) (tDGet2 ta tb tc) (fun env q => ua env fun x => ∃ us, x = .dic us ∧ ub env fun y => uc env fun z => ∃ k, keyU y = some k ∧ q ((valU us k).getD z)) := fun F B env σ G H S q Q hu k =>
  ha F (Tb + Tc + B) env σ G H (S.le (by omega)) _ _ hu fun u v G1 H1 hq x1 S1 r1 => by
    obtain ⟨us, rfl, hq⟩ := hq
    obtain ⟨a, kvs, rfl, rd, rk⟩ := r1.dic S1.sm
    refine ⟨a, rfl, .inl ⟨kvs, rd⟩, hb F (Tc + B) env σ G1 H1 (S1.le (by omega)) _ _ hq fun w y G2 H2 hq2 x2 S2 r2 => hc F B env σ G2 H2 S2 _ _ hq2 fun w3 y3 G3 H3 hq3 x3 S3 r3 => ?_⟩
    obtain ⟨kk, ek, hq⟩ := hq3
    have := r2.key ek
    subst this
    obtain ⟨a', kvs', ea, rd', rk'⟩ := ((r1.go S1 x2).go S2 x3).dic S3.sm
    cases ea
    refine ⟨valV kvs' kk, .inl ⟨kvs', kk, rd', rfl, rfl⟩, ?_⟩
    rcases Kval (k := kk) rk' with ⟨h1, h2⟩ | ⟨v', u', h1, h2, h3⟩
    · rw [valU, h2] at hq
      rw [h1]
      exact k _ _ G3 H3 hq (x1.trans (x2.trans x3)) S3 r3
    · rw [show valU us kk = some u' from h2] at hq
      rw [h1]
      exact k _ _ G3 H3 hq (x1.trans (x2.trans x3)) S3 h3
theorem re_din (ha : RV L ms Ta ta ua) (hb : RV L ms Tb tb ub) : RE L ms (Ta + Tb) (tDIn ta tb) (fun env q => ua env fun y => ub env fun x => ∃ us k, x = .dic us ∧ keyU y = some k ∧ q (.bl (valU us k).isSome)) := fun F B env σ G H S q Q hu k =>
  ha F (Tb + B) env σ G H (S.le (by omega)) _ _ hu fun w y G1 H1 hq x1 S1 r1 => hb F B env σ G1 H1 S1 _ _ hq fun u v G2 H2 hq2 x2 S2 r2 => by
    obtain ⟨us, kk, rfl, ek, hq⟩ := hq2
    obtain ⟨a, kvs, rfl, rd, rk⟩ := r2.dic S2.sm
    have := r1.key ek
    subst this
    refine ⟨a, _, rfl, .inl ⟨kvs, kk, rd, rfl, rfl⟩, ?_⟩
    rcases Kval (k := kk) rk with ⟨h1, h2⟩ | ⟨v', u', h1, h2, h3⟩
    · rw [valU, h2] at hq
      rw [h1]
      exact k _ _ G2 H2 hq (x1.trans x2) S2 (.bl _)
    · rw [show valU us kk = some u' from h2] at hq
      rw [h1]
      exact k _ _ G2 H2 hq (x1.trans x2) S2 (.bl _)
theorem re_dnotin (ha : RV L ms Ta ta ua) (hb : RV L ms Tb tb ub) : RE L ms (Ta + Tb) (tDNotIn ta tb) (fun env q => ua env fun y => ub env fun x => ∃ us k, x = .dic us ∧ keyU y = some k ∧ q (.bl (!(valU us k).isSome))) := fun F B env σ G H S q Q hu k =>
  ha F (Tb + B) env σ G H (S.le (by omega)) _ _ hu fun w y G1 H1 hq x1 S1 r1 => hb F B env σ G1 H1 S1 _ _ hq fun u v G2 H2 hq2 x2 S2 r2 => by
    obtain ⟨us, kk, rfl, ek, hq⟩ := hq2
    obtain ⟨a, kvs, rfl, rd, rk⟩ := r2.dic S2.sm
    have := r1.key ek
    subst this
    refine ⟨a, _, rfl, .inl ⟨kvs, kk, rd, rfl, rfl⟩, ?_⟩
    rcases Kval (k := kk) rk with ⟨h1, h2⟩ | ⟨v', u', h1, h2, h3⟩
    · rw [valU, h2] at hq
      rw [h1]
      exact k _ _ G2 H2 hq (x1.trans x2) S2 (.bl _)
    · rw [show valU us kk = some u' from h2] at hq
      rw [h1]
      exact k _ _ G2 H2 hq (x1.trans x2) S2 (.bl _)
theorem rn_dnew : RN L ms 0 tDNewK (fun _ q => q (.dic [])) := fun F B env σ G H S q Q hu k p hp => by
  have x4 : Xt No F.lk G H G (upd H p (.dK [])) := Xt.hid S.sm hp
  exact k _ p _ G _ hu x4.on ((S.le (by omega)).go x4) hp (S.sm.free hp) upd_same (.dic .nil)
theorem rn_sortedD : RCN L (fun xs H Q => ∃ (a : Addr) (kvs : List (Key × V)) (ks : List Str), xs = [.ref a] ∧ Rd H a (.dK kvs) ∧ kvs.map (·.1) = ks.map Sum.inr ∧ ks.length < 64 ∧
    ∀ ys p, ys.Perm ks → sortedS ys = true → H p = none → Q (.ref p) (upd H p (.lst (ys.map V.str)))) (fun us q => ∃ (d : List (Key × U)) (ks : List Str), us = [.dic d] ∧ d.map (·.1) = ks.map Sum.inr ∧ ks.length < 64 ∧ ∀ ys : List Str, ys.Perm ks → sortedS ys = true → q (.lst (ys.map U.str))) := by
  intro F G H xs us s _ r q Q hu k
  obtain ⟨d, ks, rfl, hk, hl, hq⟩ := hu
  obtain ⟨v, rfl, h⟩ := r.one
  obtain ⟨a, kvs, rfl, rd, rk⟩ := h.dic s
  have hkk : ∀ {kvs : List (Key × V)} {us : List (Key × U)}, RepK G kvs us → kvs.map (·.1) = us.map (·.1) := by
    intro kvs us h
    induction kvs generalizing us with
    | nil => cases h; rfl
    | cons p r ih => cases h with | cons h r => simp [ih r]
  exact ⟨a, kvs, ks, rfl, rd, by rw [hkk rk, hk], hl, fun ys p hp hs hn => k _ p _ G _ (hq ys hp hs) (Xt.hid s hn) hn (s.free hn) upd_same (.lst (repA_str ys))⟩
end
end Va

namespace Va
open PySem L2 Kt LM DO PyProof.Rows
/-! ### targets -/
theorem wipe_set {σ : L2.St} {i : Nat} {x : Option V} : ∀ {vs : List Nat}, i ∈ vs → wipe (σ.set i x) vs = wipe σ vs
  | [], h => by simp at h
  | v :: vs, h => by
    unfold wipe
    by_cases e : i ∈ vs
    · rw [wipe_set e]
    · have ei : i = v := by simpa [e] using h
      subst ei
      have : ∀ (ws : List Nat) (τ : L2.St), i ∉ ws → wipe (τ.set i x) ws = (wipe τ ws).set i x := by
        intro ws
        induction ws with
        | nil => intro τ _; rfl
        | cons w ws ih =>
          intro τ hn
          simp at hn
          unfold wipe
          rw [ih τ (by simpa using hn.2), List.set_comm _ _ (Ne.symm hn.1)]
      rw [this vs σ e, List.set_set]
theorem wipe_wipe {σ : L2.St} {vs : List Nat} : wipe (wipe σ vs) vs = wipe σ vs := by
  have : ∀ ws : List Nat, (∀ w ∈ ws, w ∈ vs) → wipe (wipe σ ws) vs = wipe σ vs := by
    intro ws
    induction ws with
    | nil => intro _; rfl
    | cons w ws ih =>
      intro h
      rw [show wipe σ (w :: ws) = (wipe σ ws).set w none from rfl, wipe_set (h w (by simp)), ih fun x hx => h x (by simp [hx])]
  exact this vs fun _ h => h
abbrev UG := U → List U → (List U → Prop) → Prop
abbrev UGs := List U → List U → (List U → Prop) → Prop
def RG (L : Bool) (ms ms' : List Md) (is : List Nat) (g : TG) (ug : UG) : Prop :=
  ∀ F B env σ G H v u, Sta F L B ms env σ G H → Rep G v u → ∀ (q : List U → Prop) (Q : L2.St → Hp → Prop), ug u env q →
    (∀ env' σ', q env' → Sta F L B ms' env' σ' G H → (∀ vs : List Nat, (∀ i ∈ is, i ∈ vs) → wipe σ' vs = wipe σ vs) → Q σ' H) → g v σ H Q
def RGs (L : Bool) (ms ms' : List Md) (is : List Nat) (g : TGs) (ug : UGs) : Prop :=
  ∀ F B env σ G H v u, Sta F L B ms env σ G H → RepA G v u → ∀ (q : List U → Prop) (Q : L2.St → Hp → Prop), ug u env q →
    (∀ env' σ', q env' → Sta F L B ms' env' σ' G H → (∀ vs : List Nat, (∀ i ∈ is, i ∈ vs) → wipe σ' vs = wipe σ vs) → Q σ' H) → g v σ H Q
section
variable {L : Bool} {ms ms' ms1 ms2 : List Md} {Ta Tb Tc T : Nat} {ta tb tc te : TE} {ua ub uc ue : UE} {tA : TA} {uA : UA} {tt tt' : TT} {ut ut' : UT}
theorem rg_name {i : Nat} : RG L ms (ms.set i .fz) [i] (gName i) (fun u env q => q (env.set i u)) := fun F B env σ G H v u S r q Q hu k =>
  k _ _ hu (S.fz r) fun vs h => wipe_set (h i (by simp))
theorem rgs_nil : RGs L ms ms [] gNil (fun us env q => us = [] ∧ q env) := fun F B env σ G H v u S r q Q hu k => by
  obtain ⟨rfl, hq⟩ := hu
  cases r
  exact ⟨rfl, k _ _ hq S fun _ _ => rfl⟩
theorem rgs_cons {g : TG} {gs : TGs} {ug : UG} {ugs : UGs} {is js : List Nat} (h : RG L ms ms1 is g ug) (hs : RGs L ms1 ms2 js gs ugs) : RGs L ms ms2 (is ++ js) (gCons g gs) (fun us env q => ∃ u r, us = u :: r ∧ ug u env fun env1 => ugs r env1 q) := fun F B env σ G H v u S r q Q hu k => by
  obtain ⟨u0, ur, rfl, hq⟩ := hu
  cases r with
  | cons r0 rr =>
    refine ⟨_, _, rfl, h F B env σ G H _ _ S r0 _ _ hq fun env1 σ1 hq1 S1 w1 => hs F B env1 σ1 G H _ _ S1 rr _ _ hq1 fun env2 σ2 hq2 S2 w2 => k env2 σ2 hq2 S2 fun vs hv => ?_⟩
    rw [w2 vs fun i hi => hv i (by simp [hi]), w1 vs fun i hi => hv i (by simp [hi])]
theorem rg_tup {K : PySem.W.Frag} {n : Nat} {gs : TGs} {ugs : UGs} {is : List Nat} (hs : RGs L ms ms1 is gs ugs) : RG L ms ms1 is (gTup K n gs) (fun u env q => ∃ us, u = .tup us ∧ us.length = n ∧ ugs us env q) := fun F B env σ G H v u S r q Q hu k => by
  obtain ⟨us, rfl, hn, hq⟩ := hu
  obtain ⟨a, xs, rfl, g, ra⟩ := of_tup r
  exact ⟨a, xs, rfl, SqT.of (S.sm.get g (by intro _ z; cases z)), by rw [ra.length, hn], hs F B env σ G H _ _ S ra q Q hq k⟩
end
/-! ### walks -/
def Kp (F : Fr) (H : Hp) : Prop := ∀ b o, ¬ F.M b → F.H b = some o → H b = some o
structure WkU (F : Fr) (G : Hp) (J : It) (us : List U) : Prop where
  goes : ∀ i H G1, i < us.length → Same G G1 → Sm F.lk G1 H → Kp F H → J.go i H
  stops : ∀ H G1, Same G G1 → Sm F.lk G1 H → Kp F H → J.stop us.length H
  yields : ∀ i H G1 x H', i < us.length → Same G G1 → Sm F.lk G1 H → Kp F H → J.yld i H x H' → ∃ u G2, us[i]? = some u ∧ Xt No F.lk G1 H G2 H' ∧ Rep G2 x u
abbrev UI := List U → (List U → Prop) → Prop
def RI (L : Bool) (ms : List Md) (T : Nat) (wi : TI) (ui : UI) : Prop :=
  ∀ F B env σ G H, Sta F L (T + B) ms env σ G H → ∀ (q : List U → Prop) (R : It → Hp → Prop), ui env q →
    (∀ us J G' H', q us → Xt F.M F.lk G H G' H' → Sta F L B ms env σ G' H' → WkU F G' J us → R J H') → wi σ H R
section
variable {L : Bool} {ms ms' ms1 ms2 : List Md} {Ta Tb Tc T : Nat} {ta tb tc te : TE} {ua ub uc ue : UE} {tA : TA} {uA : UA} {tt tt' : TT} {ut ut' : UT}
theorem wk_at {F : Fr} {G : Hp} {J : It} {us : List U} {xs : List V} {GG : Hp → Prop} (w : Walk J xs.length GG (YAt xs)) (hG : ∀ G1 H, Same G G1 → Sm F.lk G1 H → GG H) (r : RepA G xs us) : WkU F G J us := by
  have hl := r.length
  refine ⟨fun i H G1 hi sG s _ => w.goes i H (by omega) (hG G1 H sG s), fun H G1 sG s _ => by rw [← hl]; exact w.stops H (hG G1 H sG s), fun i H G1 x H' hi sG s _ y => ?_⟩
  obtain ⟨rfl, hx⟩ := w.yields i H x H' (by omega) (hG G1 H sG s) y
  obtain ⟨u, hu, ru⟩ := r.get hx
  exact ⟨u, G1, hu, Xt.refl s, ru.mono sG⟩
theorem ri_list {K : PySem.W.Frag} (h : RE L ms T te ue) : RI L ms T (iList K te) (fun env q => ue env fun x => ∃ us, x = .lst us ∧ q us) := fun F B env σ G H S q R hu k =>
  h F B env σ G H S _ _ hu fun u v G' H' hq x S' r => by
    obtain ⟨us, rfl, hq⟩ := hq
    obtain ⟨a, xs, rfl, g, ra⟩ := of_lst r
    exact ⟨a, rfl, ⟨xs, SqL.of (S'.sm.get g (by intro _ z; cases z))⟩, k us _ G' H' hq x S' (wk_at walk_list (fun G1 H sG s => SqL.of (s.get (sG _ _ g) (by intro _ z; cases z))) ra)⟩
theorem ri_tup {K : PySem.W.Frag} (h : RE L ms T te ue) : RI L ms T (iTup K te) (fun env q => ue env fun x => ∃ us, x = .tup us ∧ q us) := fun F B env σ G H S q R hu k =>
  h F B env σ G H S _ _ hu fun u v G' H' hq x S' r => by
    obtain ⟨us, rfl, hq⟩ := hq
    obtain ⟨a, xs, rfl, g, ra⟩ := of_tup r
    exact ⟨a, rfl, ⟨xs, SqT.of (S'.sm.get g (by intro _ z; cases z))⟩, k us _ G' H' hq x S' (wk_at walk_tup (fun G1 H sG s => SqT.of (s.get (sG _ _ g) (by intro _ z; cases z))) ra)⟩
def intsU (lo : Int) (n : Nat) : List U := (List.range n).map fun i : Nat => .int (lo + (i : Int))
theorem wk_range {F : Fr} {G : Hp} {lo : Int} {n : Nat} : WkU F G (Itr lo n) (intsU lo n) := by
  have hl : (intsU lo n).length = n := by simp [intsU]
  refine ⟨fun i H G1 hi sG s _ => walk_range.goes i H (by omega) trivial, fun H G1 sG s _ => by rw [hl]; exact walk_range.stops H trivial, fun i H G1 x H' hi sG s _ y => ?_⟩
  obtain ⟨rfl, rfl⟩ := walk_range.yields i H x H' (by omega) trivial y
  refine ⟨_, G1, ?_, Xt.refl s, .int _⟩
  rw [intsU, List.getElem?_map, List.getElem?_range (by omega)]; rfl
theorem ri_rng1 (h : RE L ms T te ue) : RI L ms T (iRng1 (tCons te tNil)) (fun env q => ue env fun x => ∃ j : Int, x = .int j ∧ -(2 ^ 62) ≤ j ∧ j < 2 ^ 62 ∧ q (intsU 0 j.toNat)) := fun F B env σ G H S q R hu k =>
  h F B env σ G H S _ _ hu fun u v G' H' hq x S' r => by
    obtain ⟨j, rfl, h1, h2, hq⟩ := hq
    exact ⟨j, by rw [of_int r], h1, h2, k _ _ G' H' hq x S' wk_range⟩
theorem ri_rng2 (ha : RE L ms Ta ta ua) (hb : RE L ms Tb tb ub) : RI L ms (Ta + Tb) (iRng2 (tCons ta (tCons tb tNil))) (fun env q => ua env fun x => ub env fun y => ∃ i j : Int, x = .int i ∧ y = .int j ∧ (-(2 ^ 62) ≤ i ∧ i < 2 ^ 62 ∧ -(2 ^ 62) ≤ j ∧ j < 2 ^ 62) ∧ q (intsU i (j - i).toNat)) := fun F B env σ G H S q R hu k =>
  ha F (Tb + B) env σ G H (S.le (by omega)) _ _ hu fun u v G1 H1 hq x1 S1 r1 => hb F B env σ G1 H1 S1 _ _ hq fun w y G2 H2 hq2 x2 S2 r2 => by
    obtain ⟨i, j, rfl, rfl, hb, hq⟩ := hq2
    exact ⟨i, j, by rw [of_int r1, of_int r2], hb, k _ _ G2 H2 hq (x1.trans x2) S2 wk_range⟩
def pairsU (us ws : List U) : List U := (us.zip ws).map fun p => .tup [p.1, p.2]
def enumU (us : List U) : List U := pairsU (intsU 0 us.length) us
theorem wk_pair {F : Fr} {G : Hp} {J : It} {us ws : List U} {n : Nat} {xs ys : Nat → Option V} {GG : Hp → Prop} (hn : n = min us.length ws.length) (w : Walk J n GG (YPair xs ys)) (hG : ∀ G1 H, Same G G1 → Sm F.lk G1 H → GG H)
    (r1 : ∀ i v, xs i = some v → ∃ u, us[i]? = some u ∧ Rep G v u) (r2 : ∀ i v, ys i = some v → ∃ u, ws[i]? = some u ∧ Rep G v u) : WkU F G J (pairsU us ws) := by
  have hl : (pairsU us ws).length = n := by simp [pairsU, hn]
  refine ⟨fun i H G1 hi sG s _ => w.goes i H (by omega) (hG G1 H sG s), fun H G1 sG s _ => by rw [hl]; exact w.stops H (hG G1 H sG s), fun i H G1 x H' hi sG s _ y => ?_⟩
  obtain ⟨t, a, b, rfl, ht, rfl, h1, h2⟩ := w.yields i H x H' (by omega) (hG G1 H sG s) y
  obtain ⟨u1, e1, q1⟩ := r1 i a h1
  obtain ⟨u2, e2, q2⟩ := r2 i b h2
  have x : Xt No F.lk G1 H (upd G1 t (.tup [a, b])) (upd H t (.tup [a, b])) := Xt.new s ht
  refine ⟨.tup [u1, u2], _, ?_, x, .tup upd_same (.cons (q1.mono (sG.trans x.g)) (.cons (q2.mono (sG.trans x.g)) .nil))⟩
  have : (us.zip ws)[i]? = some (u1, u2) := by rw [List.getElem?_zip_eq_some]; exact ⟨e1, e2⟩
  rw [pairsU, List.getElem?_map, this]; rfl
theorem ri_zip {K : PySem.W.Frag} (ha : RE L ms Ta ta ua) (hb : RE L ms Tb tb ub) : RI L ms (Ta + Tb) (iZip K (tCons ta (tCons tb tNil))) (fun env q => ua env fun x => ub env fun y => ∃ us ws, x = .lst us ∧ y = .lst ws ∧ q (pairsU us ws)) := fun F B env σ G H S q R hu k =>
  ha F (Tb + B) env σ G H (S.le (by omega)) _ _ hu fun u v G1 H1 hq x1 S1 r1 => hb F B env σ G1 H1 S1 _ _ hq fun w y G2 H2 hq2 x2 S2 r2 => by
    obtain ⟨us, ws, rfl, rfl, hq⟩ := hq2
    obtain ⟨a, xs, rfl, g1, ra⟩ := of_lst (r1.mono x2.g)
    obtain ⟨b, ys, rfl, g2, rb⟩ := of_lst r2
    refine ⟨a, b, xs, ys, rfl, SqL.of (S2.sm.get g1 (by intro _ z; cases z)), SqL.of (S2.sm.get g2 (by intro _ z; cases z)), k _ _ G2 H2 hq (x1.trans x2) S2 ?_⟩
    exact wk_pair (n := min us.length ws.length) rfl (walk_zip (by rw [ra.length, rb.length])) (fun G1 H sG s => ⟨SqL.of (s.get (sG _ _ g1) (by intro _ z; cases z)), SqL.of (s.get (sG _ _ g2) (by intro _ z; cases z))⟩) (fun i v e => ra.get e) (fun i v e => rb.get e)
theorem ri_enum {K : PySem.W.Frag} (h : RE L ms T te ue) : RI L ms T (iEnum K (tCons te tNil)) (fun env q => ue env fun x => ∃ us, x = .lst us ∧ q (enumU us)) := fun F B env σ G H S q R hu k =>
  h F B env σ G H S _ _ hu fun u v G' H' hq x S' r => by
    obtain ⟨us, rfl, hq⟩ := hq
    obtain ⟨a, xs, rfl, g, ra⟩ := of_lst r
    have hl : (intsU 0 us.length).length = us.length := by simp [intsU]
    refine ⟨a, xs, rfl, SqL.of (S'.sm.get g (by intro _ z; cases z)), k _ _ G' H' hq x S' ?_⟩
    have w := walk_enum (K := K) (a := a) (xs := xs)
    refine ⟨fun i H G1 hi sG s _ => w.goes i H ?_ (SqL.of (s.get (sG _ _ g) (by intro _ z; cases z))), fun H G1 sG s _ => ?_, fun i H G1 x H' hi sG s _ y => ?_⟩
    · simp [enumU, pairsU, hl] at hi; rw [ra.length]; exact hi
    · have e : (enumU us).length = xs.length := by simp [enumU, pairsU, hl, ra.length]
      rw [e]; exact w.stops H (SqL.of (s.get (sG _ _ g) (by intro _ z; cases z)))
    · have hi2 : i < us.length := by simp [enumU, pairsU, hl] at hi; exact hi
      obtain ⟨t, p, b, rfl, ht, rfl, h1, h2⟩ := w.yields i H x H' (by rw [ra.length]; exact hi2) (SqL.of (s.get (sG _ _ g) (by intro _ z; cases z))) y
      cases h1
      obtain ⟨u2, e2, q2⟩ := ra.get h2
      have x : Xt No F.lk G1 H (upd G1 t (.tup [.int i, b])) (upd H t (.tup [.int i, b])) := Xt.new s ht
      refine ⟨.tup [.int i, u2], _, ?_, x, .tup upd_same (.cons (.int _) (.cons (q2.mono (sG.trans x.g)) .nil))⟩
      have e1 : (intsU 0 us.length)[i]? = some (.int i) := by rw [intsU, List.getElem?_map, List.getElem?_range hi2]; simp
      have : ((intsU 0 us.length).zip us)[i]? = some (.int i, u2) := by rw [List.getElem?_zip_eq_some]; exact ⟨e1, e2⟩
      rw [enumU, pairsU, List.getElem?_map, this]; rfl
end
/-! ### list comprehensions -/
section
variable {F : Fr} {L : Bool} {B B' : Nat} {ms ms1 ms2 : List Md} {env env2 : List U} {σ σ2 : L2.St} {G H G' H' : Hp}
/-- back from a block's own slots -/
theorem Sta.back (S : Sta F L B ms env σ G H) (x : Xt F.M F.lk G H G' H') (S2 : Sta F L B' ms2 env2 σ2 G' H') : Sta F L B' ms env σ G' H' :=
  ⟨S.ex.trans x, S.nl, S.mn, S2.bx, S.l1, S.l2, fun i m e => by
    obtain ⟨v, u, h1, h2, h3⟩ := S.sl i m e
    refine ⟨v, u, h1, h2, ?_⟩
    cases m with
    | junk => trivial
    | fz => obtain ⟨y, e, r⟩ := h3; exact ⟨y, e, r.mono x.g⟩
    | own =>
      obtain ⟨a, o, e, g, ho, r, n⟩ := h3
      exact ⟨a, o, e, x.un g (by rw [ho]; simp), x.h _ _ (fun z => (S.mn _ z).1 n) ho, r.mono x.g, n⟩
    | box => exact h3, S.ne⟩
def junkM (ms : List Md) : List Nat → List Md
  | [] => ms
  | v :: vs => (junkM ms vs).set v .junk
theorem Sta.set_junk (S : Sta F L B ms env σ G H) {i : Nat} {x : Option V} : Sta F L B (ms.set i .junk) env (σ.set i x) G H := by
  refine ⟨S.ex, S.nl, S.mn, S.bx, by simp [S.l1], by simp [S.l2], fun j m e => ?_, fun j k a e1 e2 h1 h2 => ?_⟩
  · have hj : j < ms.length := by have := (List.getElem?_eq_some_iff.mp e).1; simpa using this
    by_cases h : i = j
    · subst h
      rw [List.getElem?_set_self hj] at e
      cases e
      obtain ⟨v, u, h1, h2, h3⟩ := S.sl i _ (List.getElem?_eq_getElem hj)
      exact ⟨x, u, by rw [List.getElem?_set_self (by rw [S.l1]; exact hj)], h2, trivial⟩
    · rw [List.getElem?_set_ne h] at e
      rw [List.getElem?_set_ne h]
      exact S.sl j m e
  · have n1 : i ≠ j := by
      rintro rfl
      have hi : i < ms.length := by have := (List.getElem?_eq_some_iff.mp e1).1; simpa using this
      rw [List.getElem?_set_self hi] at e1; cases e1
    have n2 : i ≠ k := by
      rintro rfl
      have hi : i < ms.length := by have := (List.getElem?_eq_some_iff.mp e2).1; simpa using this
      rw [List.getElem?_set_self hi] at e2; cases e2
    rw [List.getElem?_set_ne n1] at e1 h1
    rw [List.getElem?_set_ne n2] at e2 h2
    exact S.ne j k a e1 e2 h1 h2
theorem Sta.wipe (S : Sta F L B ms env σ G H) : ∀ vs : List Nat, Sta F L B (junkM ms vs) env (L2.wipe σ vs) G H
  | [] => S
  | v :: vs => (Sta.wipe S vs).set_junk
/-- a thing that no slot holds and nothing tells of is changed -/
theorem Sta.put (S : Sta F L B ms env σ G H) {D : Addr} {o : HO} (g : G D = none) (h : H D ≠ none) (n : F.H D = none) (d : ∀ j : Nat, ms[j]? = some .own → σ[j]? ≠ some (some (.ref D))) : Sta F L B ms env σ G (upd H D o) := by
  refine ⟨S.ex.put g (.inr n) h, S.nl, S.mn, fun p e => ?_, S.l1, S.l2, fun i m e => ?_, S.ne⟩
  · obtain ⟨hm, c, b, l⟩ := S.bx p e
    have hp : p ≠ D := by rintro rfl; exact (S.mn p hm).1 n
    exact ⟨hm, c, b.is fun o h => by rw [upd_ne hp]; exact h, l⟩
  · obtain ⟨v, u, h1, h2, h3⟩ := S.sl i m e
    refine ⟨v, u, h1, h2, ?_⟩
    cases m with
    | junk => trivial
    | fz => exact h3
    | own =>
      obtain ⟨a, o', e', g', ho, r, n'⟩ := h3
      subst e'
      have ha : a ≠ D := by rintro rfl; exact d i e h1
      exact ⟨a, o', rfl, g', by rw [upd_ne ha]; exact ho, r, n'⟩
    | box => exact h3
end
def lcU (us : List U) (ug : UG) (ut : UT) (ue : UE) (env : List U) (q : U → Prop) : Prop :=
  ∃ I : Nat → List U → Prop, I 0 [] ∧ (∀ (i : Nat) x acc, us[i]? = some x → I i acc → acc.length ≤ i → ug x env fun env1 => ut env1 fun b => if b = true then ue env1 fun y => I (i + 1) (acc ++ [y]) else I (i + 1) acc) ∧ ∀ acc, I us.length acc → acc.length ≤ us.length → q (.lst acc)
theorem lc_run {L : Bool} {ms ms1 : List Md} {Tt Te N : Nat} {g : TG} {tt : TT} {te : TE} {ug : UG} {ut : UT} {ue : UE} {is vs : List Nat} (hg : RG L (junkM ms vs) ms1 is g ug) (hi : ∀ i ∈ is, i ∈ vs) (ht : RT L ms1 Tt tt ut) (he : RE L ms1 Te te ue) (hN : N ≤ 99999)
    {F : Fr} {B : Nat} {env : List U} {σ : L2.St} {G H : Hp} {us : List U} {J : It} (S : Sta F L (N * (Tt + Te) + B) ms env σ G H) (w : WkU F G J us) (hl : us.length ≤ N) {q : U → Prop} {Q : VK} (hu : lcU us ug ut ue env q)
    (k : ∀ u a o G' H', q u → Xt F.M F.lk G H G' H' → Sta F L B ms env σ G' H' → H a = none → G' a = none → H' a = some o → RepO G' o u → Q (.ref a) H') :
    ∀ D, H D = none → ∃ W : Nat → Nat → Hp → Prop, (∃ m, W 0 m (upd H D (.lst []))) ∧ ∀ i m H, W i m H →
      (J.stop i H ∧ Q (.ref D) H) ∨ (J.go i H ∧ ∃ Nx : Hp → Prop, (∀ H', Nx H' → ∃ m', m' < m ∧ W (i + 1) m' H') ∧ ∀ x H', J.yld i H x H' → g x (wipe σ vs) H' fun σ2 H2 => wipe σ2 vs = wipe σ vs ∧ tt σ2 H2 fun b H3 =>
        if b = true then te σ2 H3 fun y H4 => ∃ acc, H4 D = some (.lst acc) ∧ acc.length < sizeLine ∧ Nx (upd H4 D (.lst (acc ++ [y]))) else Nx H3) := by
  intro D hD
  obtain ⟨I, I0, Is, Ie⟩ := hu
  have gD : G D = none := S.sm.free hD
  have FD : F.H D = none := S.ex.f _ hD
  have dD := S.new_ne hD
  let Pv : Nat → Hp → Prop := fun i Hi => ∃ Gi acc uacc, Xt F.M F.lk G H Gi Hi ∧ Sta F L ((N - i) * (Tt + Te) + B) ms env σ Gi Hi ∧ Gi D = none ∧ Hi D = some (.lst acc) ∧ RepA Gi acc uacc ∧ I i uacc ∧ uacc.length ≤ i
  refine ⟨fun i m Hi => m = us.length - i ∧ i ≤ us.length ∧ Pv i Hi, ⟨us.length, by simp, Nat.zero_le _, G, [], [], ?_, ?_, gD, upd_same, .nil, I0, Nat.le_refl _⟩, ?_⟩
  · exact Xt.hid S.sm hD
  · have x : Xt No F.lk G H G (upd H D (.lst [])) := Xt.hid S.sm hD
    exact S.go x
  rintro i m Hi ⟨rfl, hle, Gi, acc, uacc, xi, Si, gi, hi', ra, hI, hal⟩
  by_cases hlt : i < us.length
  · refine .inr ⟨w.goes i Hi Gi hlt xi.g Si.sm Si.ex.h, Pv (i + 1), fun H' p' => ⟨us.length - (i + 1), by omega, rfl, hlt, p'⟩, fun x H2 y => ?_⟩
    obtain ⟨u, G2, eu, x2, r2⟩ := w.yields i Hi Gi x H2 hlt xi.g Si.sm Si.ex.h y
    have S2 := Si.go x2
    have eN : (N - i) * (Tt + Te) = Tt + Te + (N - (i + 1)) * (Tt + Te) := by
      have : N - i = (N - (i + 1)) + 1 := by omega
      rw [this, Nat.add_mul, Nat.one_mul]; omega
    rw [eN] at S2
    have hD2 : H2 D = some (.lst acc) := x2.h _ _ (fun z => z) hi'
    have gD2 : G2 D = none := x2.un gi (by rw [hi']; simp)
    have hQ := Is i u uacc eu hI hal
    refine hg F _ env (wipe σ vs) G2 H2 x u (S2.wipe vs) r2 _ _ hQ fun env1 σ1 hq1 S3 hw => ⟨(hw vs hi).trans wipe_wipe, ?_⟩
    refine ht F (Te + ((N - (i + 1)) * (Tt + Te) + B)) env1 σ1 G2 H2 (S3.le (by omega)) _ _ hq1 fun b G3 H3 hq2 x3 S4 => ?_
    have hD3 : H3 D = some (.lst acc) := x3.h _ _ (fun z => (S.mn D z).1 FD) hD2
    have gD3 : G3 D = none := x3.un gD2 (by rw [hD2]; simp)
    have S2b := S2.back x3 S4
    cases b with
    | false => exact ifF rfl ⟨G3, acc, uacc, xi.trans (x2.on.trans x3), S2b.le (by omega), gD3, hD3, ra.mono (x2.g.trans x3.g), by simpa using hq2, by omega⟩
    | true =>
      refine ifT rfl (he F _ env1 σ1 G3 H3 S4 _ _ (by simpa using hq2) fun z v G4 H4 hq3 x4 S5 r4 => ?_)
      have hD4 : H4 D = some (.lst acc) := x4.h _ _ (fun z => (S.mn D z).1 FD) hD3
      have gD4 : G4 D = none := x4.un gD3 (by rw [hD3]; simp)
      have S4b := S2b.back x4 S5
      have la := ra.length
      refine ⟨acc, hD4, szl (by omega), G4, acc ++ [v], uacc ++ [z], (xi.trans (x2.on.trans (x3.trans x4))).put gD4 (.inr hD) (by rw [hD4]; simp), S4b.put gD4 (by rw [hD4]; simp) FD dD, gD4, upd_same, (ra.mono (x2.g.trans (x3.g.trans x4.g))).app (.cons r4 .nil), hq3, by simp; omega⟩
  · have e : i = us.length := by omega
    subst e
    exact .inl ⟨w.stops Hi Gi xi.g Si.sm Si.ex.h, k (.lst uacc) D (.lst acc) Gi Hi (Ie uacc hI hal) xi (Si.le (by omega)) hD gi hi' (.lst ra)⟩
theorem rn_lc (N : Nat) {L : Bool} {ms ms1 : List Md} {T Tt Te : Nat} {wi : TI} {ui : UI} {g : TG} {tt : TT} {te : TE} {ug : UG} {ut : UT} {ue : UE} {is vs : List Nat} (hw : RI L ms T wi ui) (hg : RG L (junkM ms vs) ms1 is g ug) (ht : RT L ms1 Tt tt ut) (he : RE L ms1 Te te ue)
    (hi : ∀ i ∈ is, i ∈ vs := by decide) (hN : N ≤ 99999 := by decide) : RN L ms (T + N * (Tt + Te)) (tLc wi g tt te vs) (fun env q => ui env fun us => us.length ≤ N ∧ lcU us ug ut ue env q) := fun F B env σ G H S q Q hu k =>
  hw F (N * (Tt + Te) + B) env σ G H (S.le (by omega)) _ _ hu fun us J G1 H1 hq x1 S1 w => lc_run hg hi ht he hN S1 w hq.1 hq.2 fun u a o G' H' hq x S' hn gn ho r => k u a o G' H' hq (x1.trans x) S' (x1.f _ hn) gn ho r
end Va

namespace Va
open PySem L2 Kt LM DO PyProof.Rows
abbrev US := (List U → Prop) → (U → Prop) → List U → Prop
/-- what is given back: told of, or new and not told of -/
def RtOk (F : Fr) (G H : Hp) (v : V) (u : U) : Bool → Prop
  | false => Rep G v u
  | true => ∃ a o, v = .ref a ∧ G a = none ∧ H a = some o ∧ RepO G o u ∧ F.H a = none
def RS (L fr : Bool) (mr ms ms' : List Md) (T : Nat) (ts : TS) (us : US) : Prop :=
  ∀ F B env σ G H, Sta F L (T + B) ms env σ G H → ∀ (nx : List U → Prop) (rt : U → Prop) (D : Ends), us nx rt env →
    (∀ env' σ' G' H', nx env' → Sta F L B ms' env' σ' G' H' → D.nx σ' H') →
    (∀ u v env' σ' G' H', rt u → Sta F L B mr env' σ' G' H' → RtOk F G' H' v u fr → D.rt v H') → ts D σ H
section
variable {L fr : Bool} {mr ms ms' ms1 ms2 ml : List Md} {Ta Tb Tc T T1 T2 : Nat} {ta tb tc te : TE} {ua ub uc ue : UE} {tA : TA} {uA : UA} {tt tt' : TT} {ut ut' : UT} {ts ts1 ts2 : TS} {us us1 us2 : US}
theorem s_set (i : Nat) (h : RE L ms T te ue) : RS L fr mr ms (ms.set i .fz) T (tAsg te (gName i)) (fun nx rt env => ue env fun x => nx (env.set i x)) := fun F B env σ G H S nx rt D hu kn kr =>
  h F B env σ G H S _ _ hu fun u v G' H' hq x S' r => kn _ _ G' H' hq (S'.fz r)
theorem s_own (i : Nat) (h : RN L ms T te ue) : RS L fr mr ms (ms.set i .own) T (tAsg te (gName i)) (fun nx rt env => ue env fun x => nx (env.set i x)) := fun F B env σ G H S nx rt D hu kn kr =>
  h F B env σ G H S _ _ hu fun u a o G' H' hq x S' hn gn ho r => kn _ _ G' H' hq (S'.own gn ho r (S.ex.f _ hn) (S.new_ne hn))
theorem s_asg {g : TG} {ug : UG} {is : List Nat} (h : RE L ms T te ue) (hg : RG L ms ms1 is g ug) : RS L fr mr ms ms1 T (tAsg te g) (fun nx rt env => ue env fun x => ug x env nx) := fun F B env σ G H S nx rt D hu kn kr =>
  h F B env σ G H S _ _ hu fun u v G' H' hq x S' r => hg F B env σ G' H' v u S' r _ _ hq fun env' σ' hq S2 _ => kn env' σ' G' H' hq S2
theorem s_par (i j : Nat) (ha : RE L ms Ta ta ua) (hb : RE L ms Tb tb ub) : RS L fr mr ms ((ms.set i .fz).set j .fz) (Ta + Tb) (tPar i j (tCons ta (tCons tb tNil))) (fun nx rt env => ua env fun x => ub env fun y => nx ((env.set i x).set j y)) := fun F B env σ G H S nx rt D hu kn kr =>
  ha F (Tb + B) env σ G H (S.le (by omega)) _ _ hu fun u v G1 H1 hq x1 S1 r1 => hb F B env σ G1 H1 S1 _ _ hq fun w y G2 H2 hq2 x2 S2 r2 => ⟨v, y, rfl, kn _ _ G2 H2 hq2 ((S2.fz (r1.mono x2.g)).fz r2)⟩
theorem s_par3 (i j l : Nat) (ha : RE L ms Ta ta ua) (hb : RE L ms Tb tb ub) (hc : RE L ms Tc tc uc) : RS L fr mr ms (((ms.set i .fz).set j .fz).set l .fz) (Ta + (Tb + Tc)) (tPar3 i j l (tCons ta (tCons tb (tCons tc tNil)))) (fun nx rt env => ua env fun x => ub env fun y => uc env fun z => nx (((env.set i x).set j y).set l z)) := fun F B env σ G H S nx rt D hu kn kr =>
  ha F (Tb + Tc + B) env σ G H (S.le (by omega)) _ _ hu fun u v G1 H1 hq x1 S1 r1 => hb F (Tc + B) env σ G1 H1 (S1.le (by omega)) _ _ hq fun w y G2 H2 hq2 x2 S2 r2 => hc F B env σ G2 H2 S2 _ _ hq2 fun w3 y3 G3 H3 hq3 x3 S3 r3 =>
    ⟨v, y, y3, rfl, kn _ _ G3 H3 hq3 (((S3.fz (r1.mono (x2.g.trans x3.g))).fz (r2.mono x3.g)).fz r3)⟩
/-- the second one is new and will change -/
theorem s_parFN (i j : Nat) (hij : i ≠ j) (ha : RE L ms Ta ta ua) (hb : RN L ms Tb tb ub) : RS L fr mr ms ((ms.set i .fz).set j .own) (Ta + Tb) (tPar i j (tCons ta (tCons tb tNil))) (fun nx rt env => ua env fun x => ub env fun y => nx ((env.set i x).set j y)) := fun F B env σ G H S nx rt D hu kn kr =>
  ha F (Tb + B) env σ G H (S.le (by omega)) _ _ hu fun u v G1 H1 hq x1 S1 r1 => hb F B env σ G1 H1 S1 _ _ hq fun w a o G2 H2 hq2 x2 S2 hn gn ho r2 => ⟨v, .ref a, rfl, kn _ _ G2 H2 hq2 ((S2.fz (i := i) (r1.mono x2.g)).own gn ho r2 (S1.ex.f _ hn) (fun j hj => by
    by_cases e : i = j
    · subst e
      have hi : i < ms.length := by have := (List.getElem?_eq_some_iff.mp hj).1; simpa using this
      rw [List.getElem?_set_self hi] at hj; cases hj
    · rw [List.getElem?_set_ne e] at hj ⊢
      exact S1.new_ne hn j hj))⟩
/-- both are new and will change -/
theorem s_parNN (i j : Nat) (hij : i ≠ j) (ha : RN L ms Ta ta ua) (hb : RN L ms Tb tb ub) : RS L fr mr ms ((ms.set i .own).set j .own) (Ta + Tb) (tPar i j (tCons ta (tCons tb tNil))) (fun nx rt env => ua env fun x => ub env fun y => nx ((env.set i x).set j y)) := fun F B env σ G H S nx rt D hu kn kr =>
  ha F (Tb + B) env σ G H (S.le (by omega)) _ _ hu fun u a1 o1 G1 H1 hq x1 S1 hn1 gn1 ho1 r1 => hb F B env σ G1 H1 S1 _ _ hq fun w a o G2 H2 hq2 x2 S2 hn gn ho r2 => by
    have f1 := S.ex.f _ hn1
    have g2 : G2 a1 = none := x2.un gn1 (by rw [ho1]; simp)
    have h2 : H2 a1 = some o1 := x2.h _ _ (fun m => (S.mn _ m).1 f1) ho1
    refine ⟨.ref a1, .ref a, rfl, kn _ _ G2 H2 hq2 ((S2.own (i := i) g2 h2 (r1.mono x2.g) f1 (S.new_ne hn1)).own gn ho r2 (S1.ex.f _ hn) (fun j hj => ?_))⟩
    by_cases e : i = j
    · subst e
      have hi : i < ms.length := by have := (List.getElem?_eq_some_iff.mp hj).1; simpa using this
      rw [List.getElem?_set_self (by rw [S.l1]; exact hi)]
      intro z; cases z
      rw [hn] at ho1; cases ho1
    · rw [List.getElem?_set_ne e] at hj ⊢
      exact S1.new_ne hn j hj
theorem s_parNNN (i j l : Nat) (hij : i ≠ j) (hil : i ≠ l) (hjl : j ≠ l) (ha : RN L ms Ta ta ua) (hb : RN L ms Tb tb ub) (hc : RN L ms Tc tc uc) : RS L fr mr ms (((ms.set i .own).set j .own).set l .own) (Ta + (Tb + Tc)) (tPar3 i j l (tCons ta (tCons tb (tCons tc tNil)))) (fun nx rt env => ua env fun x => ub env fun y => uc env fun z => nx (((env.set i x).set j y).set l z)) := fun F B env σ G H S nx rt D hu kn kr =>
  ha F (Tb + Tc + B) env σ G H (S.le (by omega)) _ _ hu fun u a1 o1 G1 H1 hq x1 S1 hn1 gn1 ho1 r1 => hb F (Tc + B) env σ G1 H1 (S1.le (by omega)) _ _ hq fun w a o G2 H2 hq2 x2 S2 hn gn ho r2 =>
   hc F B env σ G2 H2 S2 _ _ hq2 fun w3 a3 o3 G3 H3 hq3 x3 S3 hn3 gn3 ho3 r3 => by
    have f1 := S.ex.f _ hn1
    have f2 := S1.ex.f _ hn
    have g12 : G2 a1 = none := x2.un gn1 (by rw [ho1]; simp)
    have h12 : H2 a1 = some o1 := x2.h _ _ (fun m => (S.mn _ m).1 f1) ho1
    have g13 : G3 a1 = none := x3.un g12 (by rw [h12]; simp)
    have h13 : H3 a1 = some o1 := x3.h _ _ (fun m => (S.mn _ m).1 f1) h12
    have g23 : G3 a = none := x3.un gn (by rw [ho]; simp)
    have h23 : H3 a = some o := x3.h _ _ (fun m => (S.mn _ m).1 f2) ho
    refine ⟨.ref a1, .ref a, .ref a3, rfl, kn _ _ G3 H3 hq3 (((S3.own (i := i) g13 h13 (r1.mono (x2.g.trans x3.g)) f1 (S.new_ne hn1)).own (i := j) g23 h23 (r2.mono x3.g) f2 (fun k hj => ?_)).own gn3 ho3 r3 (S2.ex.f _ hn3) (fun k hj => ?_))⟩
    · by_cases e : i = k
      · subst e
        have hi : i < ms.length := by have := (List.getElem?_eq_some_iff.mp hj).1; simpa using this
        rw [List.getElem?_set_self (by rw [S.l1]; exact hi)]
        intro z; cases z
        rw [hn] at ho1; cases ho1
      · rw [List.getElem?_set_ne e] at hj ⊢
        exact S1.new_ne hn k hj
    · have hk : k < ms.length := by have := (List.getElem?_eq_some_iff.mp hj).1; simpa using this
      by_cases e2 : j = k
      · subst e2
        rw [List.getElem?_set_self (by rw [List.length_set, S.l1]; exact hk)]
        intro z; cases z
        rw [hn3] at ho; cases ho
      · rw [List.getElem?_set_ne e2] at hj ⊢
        by_cases e : i = k
        · subst e
          rw [List.getElem?_set_self (by rw [S.l1]; exact hk)]
          intro z; cases z
          rw [hn3] at h12; cases h12
        · rw [List.getElem?_set_ne e] at hj ⊢
          exact S2.new_ne hn3 k hj
theorem s_expr (h : RE L ms T te ue) : RS L fr mr ms ms T (tDrop te) (fun nx rt env => ue env fun _ => nx env) := fun F B env σ G H S nx rt D hu kn kr =>
  h F B env σ G H S _ _ hu fun u v G' H' hq x S' r => kn _ _ G' H' hq S'
theorem s_next : RS L fr mr ms ms 0 tNext (fun nx rt env => nx env) := fun F B env σ G H S nx rt D hu kn kr => kn _ _ G H hu (S.le (by omega))
theorem s_seq (h1 : RS L fr mr ms ms1 T1 ts1 us1) (h2 : RS L fr mr ms1 ms2 T2 ts2 us2) : RS L fr mr ms ms2 (T1 + T2) (tSeq ts1 ts2) (fun nx rt env => us1 (fun env1 => us2 nx rt env1) rt env) := fun F B env σ G H S nx rt D hu kn kr =>
  h1 F (T2 + B) env σ G H (S.le (by omega)) _ _ { D with nx := ts2 D } hu (fun env' σ' G' H' hn S' => h2 F B env' σ' G' H' S' nx rt D hn kn kr) fun u v env' σ' G' H' hr S' r => kr u v env' σ' G' H' hr (S'.le (by omega)) r
theorem s_if (h : RT L ms Tc tt ut) (h1 : RS L fr mr ms ms1 T1 ts1 us1) (h2 : RS L fr mr ms ms2 T2 ts2 us2) (l1 : lesM ms1 ml = true := by rfl) (l2 : lesM ms2 ml = true := by rfl) : RS L fr mr ms ml (Tc + (T1 + T2)) (tIfS tt ts1 ts2) (fun nx rt env => ut env fun b => if b = true then us1 nx rt env else us2 nx rt env) := fun F B env σ G H S nx rt D hu kn kr =>
  h F (T1 + T2 + B) env σ G H (S.le (by omega)) _ _ hu fun b G' H' hq x S' => by
    cases b with
    | true => exact ifT rfl (h1 F B env σ G' H' (S'.le (by omega)) nx rt D (by simpa using hq) (fun env' σ' G' H' hn S' => kn env' σ' G' H' hn (S'.weak l1)) kr)
    | false => exact ifF rfl (h2 F B env σ G' H' (S'.le (by omega)) nx rt D (by simpa using hq) (fun env' σ' G' H' hn S' => kn env' σ' G' H' hn (S'.weak l2)) kr)
/-- a branch that does not come back -/
theorem s_ifR (h : RT L ms Tc tt ut) (h1 : RS L fr mr ms ms1 T1 ts1 us1) : RS L fr mr ms ms (Tc + T1) (tIfS tt ts1 tNext) (fun nx rt env => ut env fun b => if b = true then us1 (fun _ => False) rt env else nx env) := fun F B env σ G H S nx rt D hu kn kr =>
  h F (T1 + B) env σ G H (S.le (by omega)) _ _ hu fun b G' H' hq x S' => by
    cases b with
    | true => exact ifT rfl (h1 F B env σ G' H' S' (fun _ => False) rt D (by simpa using hq) (fun env' σ' G' H' hn S' => hn.elim) kr)
    | false => exact ifF rfl (kn env σ G' H' (by simpa using hq) (S'.le (by omega)))
theorem s_ret (h : RE L ms T te ue) (l : lesM ms mr = true := by rfl) : RS L false mr ms mr T (tRet te) (fun nx rt env => ue env rt) := fun F B env σ G H S nx rt D hu kn kr =>
  h F B env σ G H S _ _ hu fun u v G' H' hq x S' r => kr u v env σ G' H' hq (S'.weak l) r
theorem s_retN' (h : RN L ms T te ue) (l : lesM ms mr = true := by rfl) : RS L true mr ms mr T (tRet te) (fun nx rt env => ue env rt) := fun F B env σ G H S nx rt D hu kn kr =>
  h F B env σ G H S _ _ hu fun u a o G' H' hq x S' hn gn ho r => kr u _ env σ G' H' hq (S'.weak l) ⟨a, o, rfl, gn, ho, r, S.ex.f _ hn⟩
theorem s_weak (h : RS L fr mr ms ms1 T ts us) (l : lesM ms1 ms2 = true := by rfl) : RS L fr mr ms ms2 T ts us := fun F B env σ G H S nx rt D hu kn kr =>
  h F B env σ G H S nx rt D hu (fun env' σ' G' H' hn S' => kn env' σ' G' H' hn (S'.weak l)) kr
/-- a slot's own object is told of from now on -/
theorem s_frz (i : Nat) (h : RS L fr mr (ms.set i .fz) ms1 T ts us) (hm : ms[i]? = some .own := by rfl) : RS L fr mr ms ms1 T ts us := fun F B env σ G H S nx rt D hu kn kr => by
  obtain ⟨v, u, h1, h2, a, o, rfl, g, ho, r, n⟩ := S.sl i _ hm
  have hi : i < ms.length := (List.getElem?_eq_some_iff.mp hm).1
  have S1 : Sta F L (T + B) (ms.set i .junk) env (σ.set i (some (.ref a))) G H := S.set_junk
  have es : σ.set i (some (.ref a)) = σ := by
    apply List.ext_getElem?
    intro j
    by_cases e : i = j
    · subst e; rw [List.getElem?_set_self (by rw [S.l1]; exact hi), h1]
    · rw [List.getElem?_set_ne e]
  rw [es] at S1
  have S2 := S1.tell ho g n (fun j hj z => by
    by_cases e : i = j
    · subst e; rw [List.getElem?_set_self hi] at hj; cases hj
    · rw [List.getElem?_set_ne e] at hj
      exact e (S.ne i j a hm hj h1 z))
  have S3 := S2.fz (i := i) ((r.mono (same_new g)).rep upd_same)
  have ee : env.set i u = env := by
    apply List.ext_getElem?
    intro j
    by_cases e : i = j
    · subst e; rw [List.getElem?_set_self (by rw [S.l2]; exact hi), h2]
    · rw [List.getElem?_set_ne e]
  rw [es, ee, List.set_set] at S3
  exact h F B env σ _ H S3 nx rt D hu kn kr
def forU (items : List U) (ug : UG) (ub : US) (nx : List U → Prop) (rt : U → Prop) (env : List U) : Prop :=
  ∃ I : Nat → List U → Prop, I 0 env ∧ (∀ (i : Nat) x env, items[i]? = some x → I i env → ug x env fun env1 => ub (fun env2 => I (i + 1) env2) rt env1) ∧ ∀ env, I items.length env → nx env
theorem for_run (N : Nat) {g : TG} {ug : UG} {is : List Nat} {tb : TS} {ub : US} (hg : RG L ml ms1 is g ug) (hb : RS L fr mr ms1 ms2 Tb tb ub) (l2 : lesM ms2 ml = true) {F : Fr} {B : Nat} {env : List U} {σ : L2.St} {G H : Hp} {items : List U} {J : It}
    (S : Sta F L (N * Tb + B) ml env σ G H) (w : WkU F G J items) (hl : items.length ≤ N) {nx : List U → Prop} {rt : U → Prop} {D : Ends} (hu : forU items ug ub nx rt env)
    (kn : ∀ env' σ' G' H', nx env' → Sta F L B ml env' σ' G' H' → Same G G' → D.nx σ' H')
    (kr : ∀ u v env' σ' G' H', rt u → Sta F L B mr env' σ' G' H' → RtOk F G' H' v u fr → Same G G' → D.rt v H') :
    ∃ W : Nat → Nat → L2.St → Hp → Prop, (∃ m, W 0 m σ H) ∧ ∀ i m σ H, W i m σ H →
      (J.stop i H ∧ D.nx σ H) ∨ (J.go i H ∧ ∃ N : L2.St → Hp → Prop, (∀ σ' H', N σ' H' → ∃ m', m' < m ∧ W (i + 1) m' σ' H') ∧ ∀ x H', J.yld i H x H' → g x σ H' fun σ2 H2 => tb { D with nx := N, ct := N, bk := D.nx } σ2 H2) := by
  obtain ⟨I, I0, Is, Ie⟩ := hu
  let Pv : Nat → L2.St → Hp → Prop := fun i σi Hi => ∃ Gi envi, Sta F L ((N - i) * Tb + B) ml envi σi Gi Hi ∧ Same G Gi ∧ I i envi
  refine ⟨fun i m σi Hi => m = items.length - i ∧ i ≤ items.length ∧ Pv i σi Hi, ⟨items.length, by simp, Nat.zero_le _, G, env, S, Same.refl G, I0⟩, ?_⟩
  rintro i m σi Hi ⟨rfl, hle, Gi, envi, Si, sG, hI⟩
  by_cases hlt : i < items.length
  · refine .inr ⟨w.goes i Hi Gi hlt sG Si.sm Si.ex.h, Pv (i + 1), fun σ' H' p' => ⟨items.length - (i + 1), by omega, rfl, hlt, p'⟩, fun x H2 y => ?_⟩
    obtain ⟨u, G2, eu, x2, r2⟩ := w.yields i Hi Gi x H2 hlt sG Si.sm Si.ex.h y
    have S2 := Si.go x2
    have eN : (N - i) * Tb = Tb + (N - (i + 1)) * Tb := by
      have : N - i = (N - (i + 1)) + 1 := by omega
      rw [this, Nat.add_mul, Nat.one_mul]; omega
    rw [eN] at S2
    -- the frame from here on: what is told now stays told
    refine hg F _ envi σi G2 H2 x u S2 r2 _ _ (Is i u envi eu hI) fun env1 σ1 hq1 S3 _ => ?_
    have key := hb { F with G := G2, H := fun b => if F.H b = none then none else H2 b } ((N - (i + 1)) * Tb + B) env1 σ1 G2 H2 ?_ _ _ { D with nx := Pv (i + 1), ct := Pv (i + 1), bk := D.nx } hq1 ?_ ?_
    · exact key
    · have hle2 : ∀ b o, (if F.H b = none then none else H2 b) = some o → H2 b = some o := fun b o e => by
        by_cases hb : F.H b = none
        · rw [if_pos hb] at e; cases e
        · rw [if_neg hb] at e; exact e
      refine ⟨⟨Same.refl _, fun b o m e => hle2 b o e, S3.sm, fun b o e => .inl e, fun b e => ?_⟩, S3.nl, fun b m => ⟨?_, S3.mg b m⟩, (S3.le (B' := Tb + ((N - (i + 1)) * Tb + B)) (by omega)).bx, S3.l1, S3.l2, fun j m e => ?_, S3.ne⟩
      · show (if F.H b = none then none else H2 b) = none
        by_cases hb : F.H b = none
        · rw [if_pos hb]
        · rw [if_neg hb]; exact e
      · show (if F.H b = none then none else H2 b) ≠ none
        rw [if_neg (S3.mn b m).1]; exact S3.mh b m
      · obtain ⟨v, u', h1, h2, h3⟩ := S3.sl j m e
        refine ⟨v, u', h1, h2, ?_⟩
        cases m with
        | junk => trivial
        | fz => exact h3
        | own => obtain ⟨a, o, e', g', ho, r, n⟩ := h3; exact ⟨a, o, e', g', ho, r, if_pos n⟩
        | box => exact h3
    all_goals
      have back : ∀ {msx : List Md} {envx : List U} {σx : L2.St} {Gx Hx : Hp} {Bx : Nat}, Sta { F with G := G2, H := fun b => if F.H b = none then none else H2 b } L Bx msx envx σx Gx Hx → Sta F L Bx msx envx σx Gx Hx := by
        intro msx envx σx Gx Hx Bx Sx
        have hn : ∀ b, (if F.H b = none then none else H2 b) = none → F.H b = none := fun b e => by
          by_cases hb : F.H b = none
          · exact hb
          · rw [if_neg hb] at e; exact S3.ex.f _ e
        refine ⟨⟨S3.ex.g.trans Sx.ex.g, fun b o m e => ?_, Sx.ex.s, fun b o e => ?_, fun b e => hn b (Sx.ex.f b e)⟩, Sx.nl, S3.mn, Sx.bx, Sx.l1, Sx.l2, fun j m e => ?_, Sx.ne⟩
        · exact Sx.ex.h b o m (by show (if F.H b = none then none else H2 b) = some o; rw [if_neg (by rw [e]; simp)]; exact S3.ex.h b o m e)
        · rcases Sx.ex.n b o e with h | h
          · exact S3.ex.n b o h
          · exact .inr (hn b h)
        · obtain ⟨v, u', h1, h2, h3⟩ := Sx.sl j m e
          refine ⟨v, u', h1, h2, ?_⟩
          cases m with
          | junk => trivial
          | fz => exact h3
          | own => obtain ⟨a, o, e', g', ho, r, n⟩ := h3; exact ⟨a, o, e', g', ho, r, hn a n⟩
          | box => exact h3
    · intro env' σ' G' H' hn S'
      exact ⟨G', env', (back S').weak l2, sG.trans (x2.g.trans S'.ex.g), hn⟩
    · intro u v env' σ' G' H' hr S' r
      refine kr u v env' σ' G' H' hr ((back S').le (by omega)) ?_ (sG.trans (x2.g.trans S'.ex.g))
      cases fr with
      | false => exact r
      | true =>
        obtain ⟨a, o, e, g, ho, r, n⟩ := r
        refine ⟨a, o, e, g, ho, r, ?_⟩
        have n : (if F.H a = none then none else H2 a) = none := n
        by_cases hb : F.H a = none
        · exact hb
        · rw [if_neg hb] at n; exact S3.ex.f _ n
  · have e : i = items.length := by omega
    subst e
    exact .inl ⟨w.stops Hi Gi sG Si.sm Si.ex.h, kn envi σi Gi Hi (Ie envi hI) (Si.le (by omega)) sG⟩
theorem s_for (N : Nat) {wi : TI} {ui : UI} {g : TG} {ug : UG} {is : List Nat} {tb : TS} {ub : US} (hw : RI L ms T wi ui) (hg : RG L ml ms1 is g ug) (hb : RS L fr mr ms1 ms2 Tb tb ub) (l1 : lesM ms ml = true := by rfl) (l2 : lesM ms2 ml = true := by rfl) :
    RS L fr mr ms ml (T + N * Tb) (tFor wi g tb) (fun nx rt env => ui env fun items => items.length ≤ N ∧ forU items ug ub nx rt env) := fun F B env σ G H S nx rt D hu kn kr =>
  hw F (N * Tb + B) env σ G H (S.le (by omega)) _ _ hu fun items J G1 H1 hq x1 S1 w => for_run N hg hb l2 (S1.weak l1) w hq.1 hq.2 (fun env' σ' G' H' hn S' _ => kn env' σ' G' H' hn S') (fun u v env' σ' G' H' hr S' r _ => kr u v env' σ' G' H' hr S' r)
end
end Va

namespace Va
open PySem L2 Kt LM DO PyProof.Rows
section
variable {F : Fr} {L : Bool} {B B' : Nat} {ms ms1 ms2 : List Md} {env env2 : List U} {σ σ2 : L2.St} {G H G' H' : Hp}
theorem Sta.chg (S : Sta F L B ms env σ G H) {i : Nat} {a : Addr} {o : HO} {u : U} (hm : ms[i]? = some .own) (h1 : σ[i]? = some (some (.ref a))) (r : RepO G o u) : Sta F L B ms (env.set i u) σ G (upd H a o) := by
  obtain ⟨v, u0, e1, e2, a', o0, rfl, g, ho, r0, n⟩ := S.sl i _ hm
  rw [h1] at e1; cases e1
  have hi : i < ms.length := (List.getElem?_eq_some_iff.mp hm).1
  refine ⟨S.ex.put g (.inr n) (by rw [ho]; simp), S.nl, S.mn, fun p e => ?_, S.l1, by simp [S.l2], fun j m e => ?_, S.ne⟩
  · obtain ⟨hm, c, b, l⟩ := S.bx p e
    have hp : p ≠ a := by rintro rfl; exact (S.mn p hm).1 n
    exact ⟨hm, c, b.is fun o h => by rw [upd_ne hp]; exact h, l⟩
  · by_cases hij : i = j
    · subst hij
      rw [hm] at e; cases e
      exact ⟨_, u, h1, by rw [List.getElem?_set_self (by rw [S.l2]; exact hi)], a, o, rfl, g, upd_same, r, n⟩
    · obtain ⟨v, u', z1, z2, z3⟩ := S.sl j m e
      refine ⟨v, u', z1, by rw [List.getElem?_set_ne hij]; exact z2, ?_⟩
      cases m with
      | junk => trivial
      | fz => exact z3
      | own =>
        obtain ⟨b, o', e', g', ho', r', n'⟩ := z3
        subst e'
        have hb : b ≠ a := by rintro rfl; exact hij (S.ne i j b hm e h1 z1)
        exact ⟨b, o', rfl, g', by rw [upd_ne hb]; exact ho', r', n'⟩
      | box => exact z3
/-- what a slot of one's own holds -/
theorem Sta.at_own (S : Sta F L B ms env σ G H) {i : Nat} (hm : ms[i]? = some .own) : ∃ a o, σ[i]? = some (some (.ref a)) ∧ H a = some o ∧ RepO G o (gt env i) ∧ F.H a = none ∧ G a = none := by
  obtain ⟨v, u0, e1, e2, a, o, rfl, g, ho, r, n⟩ := S.sl i _ hm
  rw [gt_at e2]
  exact ⟨a, o, e1, ho, r, n, g⟩
end
section
variable {L fr : Bool} {mr ms ms' ms1 ms2 ml : List Md} {Ta Tb Tc T T1 T2 : Nat} {ta tb tc te : TE} {ua ub uc ue : UE} {tA : TA} {uA : UA} {tt tt' : TT} {ut ut' : UT} {ts ts1 ts2 : TS} {us us1 us2 : US}
/-! ### objects of one's own are changed -/
theorem s_append {K : PySem.W.Frag} (i : Nat) (h : RE L ms T te ue) (hm : ms[i]? = some .own := by rfl) : RS L fr mr ms ms T (tDrop (tBM K "list" rAppend (tVar i) (tCons te tNil))) (fun nx rt env => ∃ xs, gt env i = .lst xs ∧ xs.length < 100000 ∧ ue env fun x => nx (env.set i (.lst (xs ++ [x])))) := fun F B env σ G H S nx rt D hu kn kr => by
  obtain ⟨xs, ex, hl, hu⟩ := hu
  obtain ⟨a, o, h1, ho, r, n, g⟩ := S.at_own hm
  rw [ex] at r
  cases r with
  | lst r =>
    refine ⟨.ref a, h1, .inl ⟨rfl, _, SqL.of ho⟩, h F B env σ G H S _ _ hu fun u v G' H' hq x S' r' => ?_⟩
    have ho' : H' a = some (.lst _) := x.h _ _ (fun m => (S.mn _ m).1 n) ho
    exact ⟨a, _, v, rfl, rfl, ho', szl (by rw [r.length]; exact hl), kn _ _ G' _ hq (S'.chg hm h1 (.lst ((r.mono x.g).app (.cons r' .nil))))⟩
theorem s_extend {K : PySem.W.Frag} (i : Nat) (h : RV L ms T te ue) (hm : ms[i]? = some .own := by rfl) : RS L fr mr ms ms T (tDrop (tBM K "list" rExtend (tVar i) (tCons te tNil))) (fun nx rt env => ∃ xs, gt env i = .lst xs ∧ ue env fun x => ∃ ys, x = .lst ys ∧ xs.length + ys.length ≤ 100000 ∧ nx (env.set i (.lst (xs ++ ys)))) := fun F B env σ G H S nx rt D hu kn kr => by
  obtain ⟨xs, ex, hu⟩ := hu
  obtain ⟨a, o, h1, ho, r, n, g⟩ := S.at_own hm
  rw [ex] at r
  cases r with
  | lst r =>
    refine ⟨.ref a, h1, .inl ⟨rfl, _, SqL.of ho⟩, h F B env σ G H S _ _ hu fun u v G' H' hq x S' r' => ?_⟩
    obtain ⟨ys, rfl, hl, hq⟩ := hq
    have ho' : H' a = some (.lst _) := x.h _ _ (fun m => (S.mn _ m).1 n) ho
    obtain ⟨b, zs, rfl, hb, rz⟩ := r'.lst S'.sm
    exact ⟨a, b, _, zs, rfl, rfl, ho', hb, szL (by rw [r.length, rz.length]; exact hl), kn _ _ G' _ hq (S'.chg hm h1 (.lst ((r.mono x.g).app rz)))⟩
def putU (us : List (Key × U)) (k : Key) (u : U) : List (Key × U) :=
  if (us.any fun p => decide (p.1 = k)) = true then us.map (fun p => if p.1 = k then (p.1, u) else p) else us ++ [(k, u)]
theorem putK_rep {G : Hp} {k : Key} {v : V} {u : U} (h : Rep G v u) {kvs : List (Key × V)} {us : List (Key × U)} (r : RepK G kvs us) : RepK G (putK kvs k v) (putU us k u) := by
  have ha : ∀ {kvs : List (Key × V)} {us : List (Key × U)}, RepK G kvs us → (kvs.any fun p => decide (p.1 = k)) = us.any fun p => decide (p.1 = k) := by
    intro kvs us r
    induction kvs generalizing us with
    | nil => cases r; rfl
    | cons p s ih => cases r with | cons h r => simp [ih r]
  have hb : ∀ {kvs : List (Key × V)} {us : List (Key × U)}, RepK G kvs us → RepK G (kvs.map (fun kv => if kv.1 = k then (kv.1, v) else kv)) (us.map (fun p => if p.1 = k then (p.1, u) else p)) := by
    intro kvs us r
    induction kvs generalizing us with
    | nil => cases r; exact .nil
    | cons p s ih =>
      cases r with
      | cons h1 r =>
        rename_i k' v' u' us'
        rw [List.map_cons, List.map_cons]
        by_cases e : k' = k
        · rw [if_pos e, if_pos e]; exact .cons h (ih r)
        · rw [if_neg e, if_neg e]; exact .cons h1 (ih r)
  have hc : ∀ {kvs : List (Key × V)} {us : List (Key × U)}, RepK G kvs us → RepK G (kvs ++ [(k, v)]) (us ++ [(k, u)]) := by
    intro kvs us r
    induction kvs generalizing us with
    | nil => cases r; exact .cons h .nil
    | cons p s ih =>
      cases r with
      | cons h1 r => exact .cons h1 (ih r)
  unfold putK putU
  rw [ha r]
  split
  · exact hb r
  · exact hc r
theorem s_dput (i : Nat) (hv : RE L ms Ta ta ua) (hk : RV L ms Tb tb ub) (hm : ms[i]? = some .own := by rfl) : RS L fr mr ms ms (Ta + Tb) (sDPut (tVar i) tb ta) (fun nx rt env => ua env fun x => ub env fun y => ∃ us k, gt env i = .dic us ∧ keyU y = some k ∧ us.length < 100000 ∧ nx (env.set i (.dic (putU us k x)))) := fun F B env σ G H S nx rt D hu kn kr =>
  hv F (Tb + B) env σ G H (S.le (by omega)) _ _ hu fun u v G1 H1 hq x1 S1 r1 => by
    obtain ⟨a, o, h1, ho, r, n, g⟩ := S1.at_own hm
    refine ⟨.ref a, h1, hk F B env σ G1 H1 S1 _ _ hq fun w y G2 H2 hq2 x2 S2 r2 => ?_⟩
    obtain ⟨us, kk, ex, ek, hl, hq⟩ := hq2
    have := r2.key ek
    subst this
    rw [ex] at r
    cases r with
    | dic r =>
      have ho' : H2 a = some (.dK _) := x2.h _ _ (fun m => (S.mn _ m).1 n) ho
      exact ⟨a, _, rfl, DPut.k (k := kk) ho' (szl (by rw [r.length]; exact hl)), kn _ _ G2 _ hq (S2.chg hm h1 (.dic (putK_rep (r1.mono x2.g) (r.mono x2.g))))⟩
theorem s_aug {f : Int → Int → Int} (i : Nat) (h : RE L ms T te ue) (hm : ms[i]? = some .fz := by rfl) : RS L fr mr ms ms T (tAug i te (ipI f)) (fun nx rt env => ue env fun y => ∃ a b, gt env i = .int a ∧ y = .int b ∧ nx (env.set i (.int (f a b)))) := fun F B env σ G H S nx rt D hu kn kr => by
  obtain ⟨v, u, h1, h2, x, rfl, r⟩ := S.sl i _ hm
  refine ⟨x, h1, h F B env σ G H S _ _ hu fun w y G' H' hq x1 S' r' => ?_⟩
  obtain ⟨a, b, e1, rfl, hq⟩ := hq
  rw [gt_at h2] at e1
  subst e1
  have S2 := S'.fz (i := i) (.int (f a b))
  have em : ms.set i .fz = ms := by
    apply List.ext_getElem?
    intro j
    by_cases e : i = j
    · subst e; rw [List.getElem?_set_self (List.getElem?_eq_some_iff.mp hm).1, hm]
    · rw [List.getElem?_set_ne e]
  rw [em] at S2
  exact ⟨a, b, of_int r, of_int r', kn _ _ G' H' hq S2⟩
def whileU (ut : UT) (ub : US) (nx : List U → Prop) (rt : U → Prop) (env : List U) : Prop :=
  ∃ I : Nat → List U → Prop, (∃ m, I m env) ∧ ∀ m env, I m env → ut env fun b => if b = true then ub (fun env2 => ∃ m', m' < m ∧ I m' env2) rt env else nx env
theorem s_while {tb : TS} {ub : US} (ht : RT L ml 0 tt ut) (hb : RS L fr mr ml ms2 0 tb ub) (l1 : lesM ms ml = true := by rfl) (l2 : lesM ms2 ml = true := by rfl) : RS L fr mr ms ml 0 (tWhile tt tb) (fun nx rt env => whileU ut ub nx rt env) := fun F B env σ G H S nx rt D hu kn kr => by
  obtain ⟨I, ⟨m0, I0⟩, Is⟩ := hu
  refine ⟨fun m σ' H' => ∃ G' env', Sta F L B ml env' σ' G' H' ∧ I m env', ⟨m0, G, env, (S.le (by omega)).weak l1, I0⟩, ?_⟩
  rintro m σ' H' ⟨G', env', S', hI⟩
  refine ht F B env' σ' G' H' (S'.le (by omega)) _ _ (Is m env' hI) fun b G2 H2 hq x S2 => ?_
  cases b with
  | false => exact ifF rfl (kn env' σ' G2 H2 (by simpa using hq) S2)
  | true =>
    refine ifT rfl ⟨fun σ3 H3 => ∃ m', m' < m ∧ ∃ G3 env3, Sta F L B ml env3 σ3 G3 H3 ∧ I m' env3, fun σ3 H3 h => h, ?_⟩
    refine hb F B env' σ' G2 H2 (S2.le (by omega)) _ rt _ (by simpa using hq) (fun env3 σ3 G3 H3 h S3 => ?_) kr
    obtain ⟨m', hl, w⟩ := h
    exact ⟨m', hl, G3, env3, S3.weak l2, w⟩
end
/-! ### dicts are walked -/
section
variable {F : Fr} {B : Nat} {ms : List Md} {env : List U} {σ : L2.St} {G H : Hp} {d : Addr} {kvs : List (Key × V)} {od : Obj}
def OwnAt (ms : List Md) (σ : L2.St) (b : Addr) : Prop := ∃ j : Nat, ms[j]? = some .own ∧ σ[j]? = some (some (.ref b))
open Classical in
/-- the frame while the dict at d is locked -/
noncomputable def Fr.lock (F : Fr) (ms : List Md) (σ : L2.St) (G H : Hp) (d : Addr) (od : Obj) (kvs : List (Key × V)) : Fr :=
  { M := F.M, lk := fun b => b = d, bx := F.bx, G := G, H := fun b => if OwnAt ms σ b then none else upd H d (.frz od (.dK kvs)) b }
theorem Sta.ownF (S : Sta F L B ms env σ G H) {b : Addr} (h : OwnAt ms σ b) : F.H b = none ∧ G b = none ∧ H b ≠ none := by
  obtain ⟨j, h1, h2⟩ := h
  obtain ⟨a, o, e, ho, r, n, g⟩ := S.at_own h1
  rw [h2] at e; cases e
  exact ⟨n, g, by rw [ho]; simp⟩
theorem lock_get {b : Addr} {o : HO} (e : (F.lock ms σ G H d od kvs).H b = some o) : upd H d (.frz od (.dK kvs)) b = some o ∧ ¬ OwnAt ms σ b := by
  unfold Fr.lock at e
  by_cases hb : OwnAt ms σ b
  · simp [hb] at e
  · simp [hb] at e; exact ⟨e, hb⟩
theorem lock_at {b : Addr} (h : ¬ OwnAt ms σ b) : (F.lock ms σ G H d od kvs).H b = upd H d (.frz od (.dK kvs)) b := by
  unfold Fr.lock
  simp [h]
theorem lock_no {b : Addr} (h : (F.lock ms σ G H d od kvs).H b = none) : OwnAt ms σ b ∨ upd H d (.frz od (.dK kvs)) b = none := by
  by_cases hb : OwnAt ms σ b
  · exact .inl hb
  · rw [lock_at hb] at h; exact .inr h
theorem lock_own {b : Addr} (h : OwnAt ms σ b) : (F.lock ms σ G H d od kvs).H b = none := by
  unfold Fr.lock
  simp [h]
theorem Sta.lock (S : Sta F false B ms env σ G H) (g : G d = some (.dK kvs)) : Sta (F.lock ms σ G H d od kvs) true B ms env σ G (upd H d (.frz od (.dK kvs))) := by
  have sm : Same G H := S.sm.same (S.nl rfl)
  have hd : H d = some (.dK kvs) := sm _ _ g
  constructor
  · refine ⟨Same.refl _, fun b o m e => (lock_get e).1, fun b o e => ?_, fun b o e => .inl e, fun b e => ?_⟩
    · by_cases hb : b = d
      · subst hb
        rw [g] at e; cases e
        exact .inr ⟨rfl, od, kvs, rfl, upd_same⟩
      · exact .inl (by rw [upd_ne hb]; exact sm _ _ e)
    · by_cases hb : OwnAt ms σ b
      · exact lock_own hb
      · rw [lock_at hb]; exact e
  · intro h; cases h
  · intro b m
    have m : F.M b := m
    refine ⟨?_, S.mg b m⟩
    have hb : b ≠ d := by rintro rfl; rw [S.mg _ m] at g; cases g
    rw [lock_at (fun h => (S.mn b m).1 (S.ownF h).1), upd_ne hb]
    exact S.mh b m
  · intro p e
    obtain ⟨hm, c, b, l⟩ := S.bx p e
    have hp : p ≠ d := by rintro rfl; rw [S.mg _ hm] at g; cases g
    exact ⟨hm, c, b.is fun o h => by rw [upd_ne hp]; exact h, l⟩
  · exact S.l1
  · exact S.l2
  · intro j m e
    obtain ⟨v, u, h1, h2, h3⟩ := S.sl j m e
    refine ⟨v, u, h1, h2, ?_⟩
    cases m with
    | junk => trivial
    | fz => exact h3
    | own =>
      obtain ⟨a, o, e', g', ho, r, n⟩ := h3
      subst e'
      have ha : a ≠ d := by rintro rfl; rw [g'] at g; cases g
      exact ⟨a, o, rfl, g', by rw [upd_ne ha]; exact ho, r, lock_own ⟨j, e, h1⟩⟩
    | box => exact h3
  · exact S.ne
theorem Sta.unlock {ms2 : List Md} {env2 : List U} {σ2 : L2.St} {G' H' : Hp} {B' : Nat} (S : Sta F false B ms env σ G H) (g : G d = some (.dK kvs)) (S2 : Sta (F.lock ms σ G H d od kvs) true B' ms2 env2 σ2 G' H') :
    H' d = some (.frz od (.dK kvs)) ∧ Sta F false B' ms2 env2 σ2 G' (upd H' d (.dK kvs)) ∧ Same G G' := by
  have sm : Same G H := S.sm.same (S.nl rfl)
  have hd : H d = some (.dK kvs) := sm _ _ g
  have gd' : G' d = some (.dK kvs) := S2.ex.g _ _ g
  have nMd : ¬ F.M d := fun m => by rw [S.mg _ m] at g; cases g
  have nod : ¬ OwnAt ms σ d := fun h => by rw [(S.ownF h).2.1] at g; cases g
  have hfz : H' d = some (.frz od (.dK kvs)) := S2.ex.h d _ nMd (by rw [lock_at nod]; exact upd_same)
  have hno : ∀ b, (F.lock ms σ G H d od kvs).H b = none → F.H b = none := fun b e => by
    rcases lock_no e with h | h
    · exact (S.ownF h).1
    · by_cases hb : b = d
      · subst hb; rw [upd_same] at h; cases h
      · rw [upd_ne hb] at h; exact S.ex.f _ h
  refine ⟨hfz, ?_, S2.ex.g⟩
  constructor
  · refine ⟨S.ex.g.trans S2.ex.g, fun b o m e => ?_, fun b o e => ?_, fun b o e => ?_, fun b e => ?_⟩
    · by_cases hb : b = d
      · subst hb
        have := S.ex.h b o m e
        rw [hd] at this; cases this
        exact upd_same
      · rw [upd_ne hb]
        refine S2.ex.h b o m ?_
        rw [lock_at (fun h => by rw [(S.ownF h).1] at e; cases e), upd_ne hb]
        exact S.ex.h b o m e
    · by_cases hb : b = d
      · subst hb; rw [gd'] at e; cases e; exact .inl upd_same
      · rw [upd_ne hb]
        rcases S2.sm b o e with h | ⟨h, _⟩
        · exact .inl h
        · exact absurd h hb
    · rcases S2.ex.n b o e with h | h
      · exact S.ex.n b o h
      · exact .inr (hno b h)
    · by_cases hb : b = d
      · subst hb; rw [upd_same] at e; cases e
      · rw [upd_ne hb] at e; exact hno b (S2.ex.f b e)
  · exact S.nl
  · exact S.mn
  · intro p e
    obtain ⟨hm, c, b, l⟩ := S2.bx p e
    have hm : F.M p := hm
    have hp : p ≠ d := by rintro rfl; exact nMd hm
    exact ⟨hm, c, b.is fun o h => by rw [upd_ne hp]; exact h, l⟩
  · exact S2.l1
  · exact S2.l2
  · intro j m e
    obtain ⟨v, u, h1, h2, h3⟩ := S2.sl j m e
    refine ⟨v, u, h1, h2, ?_⟩
    cases m with
    | junk => trivial
    | fz => exact h3
    | own =>
      obtain ⟨a, o, e', g', ho, r, n⟩ := h3
      have ha : a ≠ d := by rintro rfl; rw [g'] at gd'; cases gd'
      exact ⟨a, o, e', g', by rw [upd_ne ha]; exact ho, r, hno a n⟩
    | box => exact h3
  · exact S2.ne
end
def kU : Key → U
  | .inl i => .int i
  | .inr x => .str x
theorem rep_kU {G : Hp} (k : Key) : Rep G (kV k) (kU k) := by
  cases k with
  | inl i => exact .int i
  | inr x => exact .str x
theorem RepK.at : ∀ {G : Hp} {kvs : List (Key × V)} {us : List (Key × U)} {i : Nat} {k : Key} {v : V}, RepK G kvs us → kvs[i]? = some (k, v) → ∃ u, us[i]? = some (k, u)
  | _, _, _, _, _, _, .nil, e => by simp at e
  | _, _, _, 0, _, _, .cons h _, e => by simp at e; obtain ⟨rfl, rfl⟩ := e; exact ⟨_, rfl⟩
  | _, _, _, i + 1, k, v, .cons _ r, e => by
    obtain ⟨u, h1⟩ := RepK.at (i := i) (k := k) (v := v) r (by simpa using e)
    exact ⟨u, by simpa using h1⟩
theorem wk_keys {F : Fr} {d : Addr} {od : Obj} {G : Hp} {kvs : List (Key × V)} {us : List (Key × U)} (r : RepK G kvs us) (hM : ¬ F.M d) (hF : F.H d = some (.frz od (.dK kvs))) : WkU F G (Itk d od kvs) (us.map fun p => kU p.1) := by
  have hl : (us.map fun p => kU p.1).length = kvs.length := by rw [List.length_map, r.length]
  have w := walk_keys (d := d) (o := od) (kvs := kvs)
  refine ⟨fun i H G1 hi sG s kp => w.goes i H (by omega) (kp _ _ hM hF), fun H G1 sG s kp => by rw [hl]; exact w.stops H (kp _ _ hM hF), fun i H G1 x H' hi sG s kp y => ?_⟩
  obtain ⟨rfl, k, v, e, rfl⟩ := w.yields i H x H' (by omega) (kp _ _ hM hF) y
  obtain ⟨u, e2⟩ := r.at e
  exact ⟨kU k, G1, by rw [List.getElem?_map, e2]; rfl, Xt.refl s, rep_kU k⟩
/-- [.. for k in d]: d is told of -/
theorem rn_lcD (N : Nat) {ms ms1 : List Md} {Tt Te : Nat} {i : Nat} {g : TG} {tt : TT} {te : TE} {ug : UG} {ut : UT} {ue : UE} {is vs : List Nat} (hg : RG true (junkM ms vs) ms1 is g ug) (ht : RT true ms1 Tt tt ut) (he : RE true ms1 Te te ue)
    (hm : ms[i]? = some .fz := by rfl) (hi : ∀ i ∈ is, i ∈ vs := by decide) (hN : N ≤ 99999 := by decide) : RN false ms (N * (Tt + Te)) (tLockE (tLc (iKeys (tVar i)) g tt te vs)) (fun env q => ∃ us, gt env i = .dic us ∧ us.length ≤ N ∧ lcU (us.map fun p => kU p.1) ug ut ue env q) := fun F B env σ G H S q Q hu k => by
  obtain ⟨us, eu, hl, hu⟩ := hu
  obtain ⟨v, u, h1, h2, x, rfl, r⟩ := S.sl i _ hm
  rw [gt_at h2] at eu
  subst eu
  obtain ⟨d, kvs, rfl, g0, rk⟩ := of_dic r
  have sm : Same G H := S.sm.same (S.nl rfl)
  refine ⟨d, _, sm _ _ g0, trivial, fun od => ?_⟩
  have Sl := S.lock (od := od) g0
  have nod : ¬ OwnAt ms σ d := fun h => by rw [(S.ownF h).2.1] at g0; cases g0
  have nM : ¬ F.M d := fun m => by rw [S.mg _ m] at g0; cases g0
  refine ⟨.ref d, h1, d, od, rfl, .inl ⟨kvs, upd_same, ?_⟩⟩
  refine lc_run (Q := fun v H' => H' d = some (.frz od (.dK kvs)) ∧ Q v (upd H' d (.dK kvs))) hg hi ht he hN Sl (wk_keys rk nM (by rw [lock_at nod]; exact upd_same)) (by rw [List.length_map]; exact hl) hu ?_
  intro u a o G' H' hq x S' hn gn ho r'
  obtain ⟨hfz, S2, sG⟩ := S.unlock g0 S'
  have had : a ≠ d := by rintro rfl; rw [upd_same] at hn; cases hn
  refine ⟨hfz, k u a o G' _ hq ?_ S2 (by rw [upd_ne had] at hn; exact hn) gn (by rw [upd_ne had]; exact ho) r'⟩
  refine ⟨sG, fun b o m e => ?_, S2.sm, fun b o e => ?_, fun b e => ?_⟩
  · by_cases hb : b = d
    · subst hb; rw [sm _ _ g0] at e; cases e; exact upd_same
    · rw [upd_ne hb]; exact x.h b o m (by rw [upd_ne hb]; exact e)
  · rcases x.n b o e with h | h
    · exact .inl h
    · by_cases hb : b = d
      · subst hb; rw [upd_same] at h; cases h
      · rw [upd_ne hb] at h; exact .inr h
  · by_cases hb : b = d
    · subst hb; rw [upd_same] at e; cases e
    · rw [upd_ne hb] at e
      have := x.f b e
      rw [upd_ne hb] at this; exact this
/-- for k in d: d is told of -/
theorem s_forD (N : Nat) {fr : Bool} {mr ms ml ms1 ms2 : List Md} {Tb : Nat} {i : Nat} {g : TG} {ug : UG} {is : List Nat} {tb : TS} {ub : US} (hg : RG true ml ms1 is g ug) (hb : RS true fr mr ms1 ms2 Tb tb ub) (hm : ms[i]? = some .fz := by rfl) (l1 : lesM ms ml = true := by rfl) (l2 : lesM ms2 ml = true := by rfl) :
    RS false fr mr ms ml (N * Tb) (tLock (tFor (iKeys (tVar i)) g tb)) (fun nx rt env => ∃ us, gt env i = .dic us ∧ us.length ≤ N ∧ forU (us.map fun p => kU p.1) ug ub nx rt env) := fun F B env σ G H S nx rt D hu kn kr => by
  obtain ⟨us, eu, hl, hu⟩ := hu
  obtain ⟨v, u, h1, h2, x, rfl, r⟩ := S.sl i _ hm
  rw [gt_at h2] at eu
  subst eu
  obtain ⟨d, kvs, rfl, g0, rk⟩ := of_dic r
  have sm : Same G H := S.sm.same (S.nl rfl)
  have S0 := S.weak l1
  refine ⟨d, _, sm _ _ g0, trivial, fun od => ?_⟩
  have Sl := S0.lock (od := od) g0
  have nod : ¬ OwnAt ml σ d := fun h => by rw [(S0.ownF h).2.1] at g0; cases g0
  have nM : ¬ F.M d := fun m => by rw [S.mg _ m] at g0; cases g0
  refine ⟨.ref d, h1, d, od, rfl, .inl ⟨kvs, upd_same, ?_⟩⟩
  refine for_run N hg hb l2 Sl (wk_keys rk nM (by rw [lock_at nod]; exact upd_same)) (by rw [List.length_map]; exact hl) hu (fun env' σ' G' H' hn S' _ => ?_) (fun u v env' σ' G' H' hr S' r _ => ?_)
  · obtain ⟨hfz, S2, sG⟩ := S0.unlock g0 S'
    exact ⟨hfz, kn env' σ' G' _ hn S2⟩
  · obtain ⟨hfz, S2, sG⟩ := S0.unlock g0 S'
    refine ⟨hfz, kr u v env' σ' G' _ hr S2 ?_⟩
    cases fr with
    | false => exact r
    | true =>
      obtain ⟨a, o, e, g, ho, r, n⟩ := r
      have had : a ≠ d := by rintro rfl; rw [S'.ex.g _ _ g0] at g; cases g
      refine ⟨a, o, e, g, by rw [upd_ne had]; exact ho, r, ?_⟩
      rcases lock_no n with h | h
      · exact (S0.ownF h).1
      · rw [upd_ne had] at h; exact S.ex.f _ h
end Va

namespace Va
open PySem L2 Kt LM DO PyProof.Rows
abbrev Pf := List U → (U → Prop) → Prop
/-- a promise by values -/
def spU (L : Bool) (pf : Pf) : Sp := fun vs H Q _ => ∃ (lk : Addr → Prop) (G : Hp) (us : List U) (q : U → Prop), (L = false → ∀ b, ¬ lk b) ∧ Sm lk G H ∧ RepA G vs us ∧ pf us q ∧
  ∀ u G' H' v, q u → Xt No lk G H G' H' → Rep G' v u → Q v H'
/-- .. of a new object -/
def spN (L : Bool) (pf : Pf) : Sp := fun vs H Q _ => ∃ (lk : Addr → Prop) (G : Hp) (us : List U) (q : U → Prop), (L = false → ∀ b, ¬ lk b) ∧ Sm lk G H ∧ RepA G vs us ∧ pf us q ∧
  ∀ u G' H' a o, q u → Xt No lk G H G' H' → H a = none → G' a = none → H' a = some o → RepO G' o u → Q (.ref a) H'
/-- .. with the box first -/
def spB (L : Bool) (T : Nat) (pf : Pf) : Sp := fun vs H Q _ => ∃ (lk : Addr → Prop) (G : Hp) (us : List U) (q : U → Prop) (p : Addr) (ws : List V) (c : Int), vs = .ref p :: ws ∧ (L = false → ∀ b, ¬ lk b) ∧ Sm lk G H ∧ G p = none ∧ Bx H p c ∧ c + T ≤ lim ∧ RepA G ws us ∧ pf us q ∧
  ∀ u G' H' v c', q u → Xt (On p) lk G H G' H' → Bx H' p c' → c' ≤ c + T → Rep G' v u → Q v H'
def spBN (L : Bool) (T : Nat) (pf : Pf) : Sp := fun vs H Q _ => ∃ (lk : Addr → Prop) (G : Hp) (us : List U) (q : U → Prop) (p : Addr) (ws : List V) (c : Int), vs = .ref p :: ws ∧ (L = false → ∀ b, ¬ lk b) ∧ Sm lk G H ∧ G p = none ∧ Bx H p c ∧ c + T ≤ lim ∧ RepA G ws us ∧ pf us q ∧
  ∀ u G' H' a o c', q u → Xt (On p) lk G H G' H' → Bx H' p c' → c' ≤ c + T → H a = none → G' a = none → H' a = some o → RepO G' o u → Q (.ref a) H'
section
variable {L L' fr : Bool} {mr ms ms' ms1 ms2 ml : List Md} {Ta Tb Tc T T1 T2 : Nat} {ta tb tc te : TE} {ua ub uc ue : UE} {tA : TA} {uA : UA} {tt tt' : TT} {ut ut' : UT} {ts ts1 ts2 : TS} {us us1 us2 : US} {E : XK} {pf : Pf}
theorem noL {lk : Addr → Prop} (hL : (L' || !L) = true) (h : L = false → ∀ b, ¬ lk b) : L' = false → ∀ b, ¬ lk b := fun e => h (by rw [e] at hL; simpa using hL)
theorem re_call (ha : RA L ms T tA uA) (hL : (L' || !L) = true := by rfl) : RE L ms T (tCall (spU L' pf) [] E tA) (fun env q => uA env fun us => pf us q) := fun F B env σ G H S q Q hu k =>
  ha F B env σ G H S _ _ hu fun us vs G1 H1 hq x1 S1 r1 => ⟨F.lk, G1, us, q, noL hL S1.nl, S1.sm, by rw [List.append_nil]; exact r1, hq, fun u G' H' v hq x r => k u v G' H' hq (x1.trans x.on) (S1.go x) r⟩
theorem rn_call (ha : RA L ms T tA uA) (hL : (L' || !L) = true := by rfl) : RN L ms T (tCall (spN L' pf) [] E tA) (fun env q => uA env fun us => pf us q) := fun F B env σ G H S q Q hu k =>
  ha F B env σ G H S _ _ hu fun us vs G1 H1 hq x1 S1 r1 => ⟨F.lk, G1, us, q, noL hL S1.nl, S1.sm, by rw [List.append_nil]; exact r1, hq, fun u G' H' a o hq x hn gn ho r => k u a o G' H' hq (x1.trans x.on) (S1.go x) (x1.f _ hn) gn ho r⟩
theorem Sta.box (S : Sta F L B ms env σ G H) {i : Nat} (hm : ms[i]? = some .box) : ∃ p c, σ[i]? = some (some (.ref p)) ∧ F.bx = some p ∧ G p = none ∧ Bx H p c ∧ c + B ≤ lim := by
  obtain ⟨v, u, h1, h2, p, rfl, e⟩ := S.sl i _ hm
  obtain ⟨m, c, b, l⟩ := S.bx p e
  exact ⟨p, c, h1, e, S.mg p m, b, l⟩
theorem re_callB (i : Nat) (ha : RA L ms Ta tA uA) (hm : ms[i]? = some .box := by rfl) (hL : (L' || !L) = true := by rfl) : RE L ms (Ta + T) (tCall (spB L' T pf) [] E (tCons (tVar i) tA)) (fun env q => uA env fun us => pf us q) := fun F B env σ G H S q Q hu k => by
  obtain ⟨p, _, h1, e, _⟩ := S.box hm
  refine ⟨.ref p, h1, ha F (T + B) env σ G H (S.le (by omega)) _ _ hu fun us vs G1 H1 hq x1 S1 r1 => ?_⟩
  obtain ⟨p', c, h1', e', g, b, l⟩ := S1.box hm
  rw [h1] at h1'; cases h1'
  refine ⟨F.lk, G1, us, q, p, vs, c, by rw [List.append_nil], noL hL S1.nl, S1.sm, g, b, by omega, r1, hq, fun u G' H' v c' hq x b' hc r => ?_⟩
  have hM := (S1.bx p e).1
  exact k u v G' H' hq (x1.trans (x.mono fun b z => by rw [z]; exact hM)) (S1.goB e x b' (by omega)) r
theorem rn_callB (i : Nat) (ha : RA L ms Ta tA uA) (hm : ms[i]? = some .box := by rfl) (hL : (L' || !L) = true := by rfl) : RN L ms (Ta + T) (tCall (spBN L' T pf) [] E (tCons (tVar i) tA)) (fun env q => uA env fun us => pf us q) := fun F B env σ G H S q Q hu k => by
  obtain ⟨p, _, h1, e, _⟩ := S.box hm
  refine ⟨.ref p, h1, ha F (T + B) env σ G H (S.le (by omega)) _ _ hu fun us vs G1 H1 hq x1 S1 r1 => ?_⟩
  obtain ⟨p', c, h1', e', g, b, l⟩ := S1.box hm
  rw [h1] at h1'; cases h1'
  refine ⟨F.lk, G1, us, q, p, vs, c, by rw [List.append_nil], noL hL S1.nl, S1.sm, g, b, by omega, r1, hq, fun u G' H' a o c' hq x b' hc hn gn ho r => ?_⟩
  have hM := (S1.bx p e).1
  exact k u a o G' H' hq (x1.trans (x.mono fun b z => by rw [z]; exact hM)) (S1.goB e x b' (by omega)) (x1.f _ hn) gn ho r
/-! ### methods -/
/-- an instance of the class at C -/
def InsC (C : Addr) (u : U) : Prop := ∀ G v, Rep G v u → ∃ a dx fs, v = .ref a ∧ G a = some (.ins C dx fs)
def InsM (C : Addr) (m : Str) (u : U) : Prop := ∀ G v, Rep G v u → ∃ a dx fs, v = .ref a ∧ G a = some (.ins C dx fs) ∧ fs.lookup m = none
theorem Sm.ins {lk : Addr → Prop} {G H : Hp} {a C dx : Addr} {fs : List (Str × V)} (s : Sm lk G H) (h : G a = some (.ins C dx fs)) : H a = some (.ins C dx fs) := s.get h (by intro _ z; cases z)
theorem re_meth {C : Addr} {m : Str} (ha : RE L ms Ta ta ua) (hA : RA L ms T tA uA) (hL : (L' || !L) = true := by rfl) : RE L ms (Ta + T) (tMeth C m (spU L' pf) [] E ta tA) (fun env q => ua env fun x => InsM C m x ∧ uA env fun us => pf (x :: us) q) := fun F B env σ G H S q Q hu k =>
  ha F (T + B) env σ G H (S.le (by omega)) _ _ hu fun u v G1 H1 hq x1 S1 r1 => by
    obtain ⟨a, dx, fs, rfl, g, hl⟩ := hq.1 _ _ r1
    exact ⟨a, dx, fs, rfl, S1.sm.ins g, hl, hA F B env σ G1 H1 S1 _ _ hq.2 fun us vs G2 H2 hq2 x2 S2 r2 => ⟨F.lk, G2, u :: us, q, noL hL S2.nl, S2.sm, by rw [List.append_nil]; exact .cons (r1.mono x2.g) r2, hq2, fun u G' H' v hq x r => k u v G' H' hq ((x1.trans x2).trans x.on) (S2.go x) r⟩⟩
theorem rn_meth {C : Addr} {m : Str} (ha : RE L ms Ta ta ua) (hA : RA L ms T tA uA) (hL : (L' || !L) = true := by rfl) : RN L ms (Ta + T) (tMeth C m (spN L' pf) [] E ta tA) (fun env q => ua env fun x => InsM C m x ∧ uA env fun us => pf (x :: us) q) := fun F B env σ G H S q Q hu k =>
  ha F (T + B) env σ G H (S.le (by omega)) _ _ hu fun u v G1 H1 hq x1 S1 r1 => by
    obtain ⟨a, dx, fs, rfl, g, hl⟩ := hq.1 _ _ r1
    exact ⟨a, dx, fs, rfl, S1.sm.ins g, hl, hA F B env σ G1 H1 S1 _ _ hq.2 fun us vs G2 H2 hq2 x2 S2 r2 => ⟨F.lk, G2, u :: us, q, noL hL S2.nl, S2.sm, by rw [List.append_nil]; exact .cons (r1.mono x2.g) r2, hq2, fun u G' H' a o hq x hn gn ho r => k u a o G' H' hq ((x1.trans x2).trans x.on) (S2.go x) ((x1.trans x2).f _ hn) gn ho r⟩⟩
theorem re_prop {C : Addr} (ha : RE L ms Ta ta ua) (hL : (L' || !L) = true := by rfl) : RE L ms Ta (tProp C (spU L' pf) [] E ta) (fun env q => ua env fun x => InsC C x ∧ pf [x] q) := fun F B env σ G H S q Q hu k =>
  ha F B env σ G H S _ _ hu fun u v G1 H1 hq x1 S1 r1 => by
    obtain ⟨a, dx, fs, rfl, g⟩ := hq.1 _ _ r1
    exact ⟨a, dx, fs, rfl, S1.sm.ins g, F.lk, G1, [u], q, noL hL S1.nl, S1.sm, .cons r1 .nil, hq.2, fun u G' H' v hq x r => k u v G' H' hq (x1.trans x.on) (S1.go x) r⟩
theorem rn_prop {C : Addr} (ha : RE L ms Ta ta ua) (hL : (L' || !L) = true := by rfl) : RN L ms Ta (tProp C (spN L' pf) [] E ta) (fun env q => ua env fun x => InsC C x ∧ pf [x] q) := fun F B env σ G H S q Q hu k =>
  ha F B env σ G H S _ _ hu fun u v G1 H1 hq x1 S1 r1 => by
    obtain ⟨a, dx, fs, rfl, g⟩ := hq.1 _ _ r1
    exact ⟨a, dx, fs, rfl, S1.sm.ins g, F.lk, G1, [u], q, noL hL S1.nl, S1.sm, .cons r1 .nil, hq.2, fun u G' H' a o hq x hn gn ho r => k u a o G' H' hq (x1.trans x.on) (S1.go x) (x1.f _ hn) gn ho r⟩
/-- an operator over told values -/
theorem re_two {r : R2} {uo : U → U → (U → Prop) → Prop} (ha : RE L ms Ta ta ua) (hb : RE L ms Tb tb ub)
    (o : ∀ (F : Fr) G H x y u w, Sm F.lk G H → (L = false → ∀ b, ¬ F.lk b) → Rep G x u → Rep G y w → ∀ (q : U → Prop) (Q : VK), uo u w q → (∀ z v G' H', q z → Xt No F.lk G H G' H' → Rep G' v z → Q v H') → r x y H Q) :
    RE L ms (Ta + Tb) (tOp r ta tb) (fun env q => ua env fun x => ub env fun y => uo x y q) := fun F B env σ G H S q Q hu k =>
  ha F (Tb + B) env σ G H (S.le (by omega)) _ _ hu fun u v G1 H1 hq x1 S1 r1 => hb F B env σ G1 H1 S1 _ _ hq fun w y G2 H2 hq2 x2 S2 r2 =>
    o F G2 H2 v y u w S2.sm S2.nl (r1.mono x2.g) r2 q Q hq2 fun z v' G3 H3 hz x3 r3 => k z v' G3 H3 hz ((x1.trans x2).trans x3.on) (S2.go x3) r3
theorem rn_two {r : R2} {uo : U → U → (U → Prop) → Prop} (ha : RE L ms Ta ta ua) (hb : RE L ms Tb tb ub)
    (o : ∀ (F : Fr) G H x y u w, Sm F.lk G H → (L = false → ∀ b, ¬ F.lk b) → Rep G x u → Rep G y w → ∀ (q : U → Prop) (Q : VK), uo u w q → (∀ z a o G' H', q z → Xt No F.lk G H G' H' → H a = none → G' a = none → H' a = some o → RepO G' o z → Q (.ref a) H') → r x y H Q) :
    RN L ms (Ta + Tb) (tOp r ta tb) (fun env q => ua env fun x => ub env fun y => uo x y q) := fun F B env σ G H S q Q hu k =>
  ha F (Tb + B) env σ G H (S.le (by omega)) _ _ hu fun u v G1 H1 hq x1 S1 r1 => hb F B env σ G1 H1 S1 _ _ hq fun w y G2 H2 hq2 x2 S2 r2 =>
    o F G2 H2 v y u w S2.sm S2.nl (r1.mono x2.g) r2 q Q hq2 fun z a o G3 H3 hz x3 hn gn ho r3 => k z a o G3 H3 hz ((x1.trans x2).trans x3.on) (S2.go x3) ((x1.trans x2).f _ hn) gn ho r3
theorem rn_bin {C : Addr} (ha : RE L ms Ta ta ua) (hb : RE L ms Tb tb ub) (hL : (L' || !L) = true := by rfl) : RN L ms (Ta + Tb) (tOp (OO.rBin C (spN L' pf) E) ta tb) (fun env q => ua env fun x => ub env fun y => InsC C x ∧ InsC C y ∧ pf [x, y] q) :=
  rn_two ha hb fun F G H x y u w s nl r1 r2 q Q hu k => by
    obtain ⟨h1, h2, hp⟩ := hu
    obtain ⟨a, dx, fs, rfl, g⟩ := h1 _ _ r1
    obtain ⟨b, dy, gs, rfl, g2⟩ := h2 _ _ r2
    exact ⟨a, b, dx, dy, fs, gs, rfl, rfl, s.ins g, s.ins g2, F.lk, G, [u, w], q, noL hL nl, s, .cons r1 (.cons r2 .nil), hp, fun u G' H' a o hq x hn gn ho r => k u a o G' H' hq x hn gn ho r⟩
theorem re_bin {C : Addr} (ha : RE L ms Ta ta ua) (hb : RE L ms Tb tb ub) (hL : (L' || !L) = true := by rfl) : RE L ms (Ta + Tb) (tOp (OO.rBin C (spU L' pf) E) ta tb) (fun env q => ua env fun x => ub env fun y => InsC C x ∧ InsC C y ∧ pf [x, y] q) :=
  re_two ha hb fun F G H x y u w s nl r1 r2 q Q hu k => by
    obtain ⟨h1, h2, hp⟩ := hu
    obtain ⟨a, dx, fs, rfl, g⟩ := h1 _ _ r1
    obtain ⟨b, dy, gs, rfl, g2⟩ := h2 _ _ r2
    exact ⟨a, b, dx, dy, fs, gs, rfl, rfl, s.ins g, s.ins g2, F.lk, G, [u, w], q, noL hL nl, s, .cons r1 (.cons r2 .nil), hp, fun u G' H' v hq x r => k u v G' H' hq x r⟩
theorem rn_binI {C : Addr} (ha : RE L ms Ta ta ua) (hb : RE L ms Tb tb ub) (hL : (L' || !L) = true := by rfl) : RN L ms (Ta + Tb) (tOp (OO.rBinI C (spN L' pf) E) ta tb) (fun env q => ua env fun x => ub env fun y => InsC C x ∧ ∃ i, y = .int i ∧ pf [x, .int i] q) :=
  rn_two ha hb fun F G H x y u w s nl r1 r2 q Q hu k => by
    obtain ⟨h1, i, rfl, hp⟩ := hu
    obtain ⟨a, dx, fs, rfl, g⟩ := h1 _ _ r1
    exact ⟨a, i, dx, fs, rfl, of_int r2, s.ins g, F.lk, G, [u, .int i], q, noL hL nl, s, .cons r1 (.cons (.int i) .nil), hp, fun u G' H' a o hq x hn gn ho r => k u a o G' H' hq x hn gn ho r⟩
theorem re_ixO {C : Addr} (ha : RE L ms Ta ta ua) (hb : RE L ms Tb tb ub) (hL : (L' || !L) = true := by rfl) : RE L ms (Ta + Tb) (tOp (OO.rIxO C (spU L' pf) E) ta tb) (fun env q => ua env fun x => ub env fun y => InsC C x ∧ pf [x, y] q) :=
  re_two ha hb fun F G H x y u w s nl r1 r2 q Q hu k => by
    obtain ⟨h1, hp⟩ := hu
    obtain ⟨a, dx, fs, rfl, g⟩ := h1 _ _ r1
    exact ⟨a, dx, fs, rfl, s.ins g, F.lk, G, [u, w], q, noL hL nl, s, .cons r1 (.cons r2 .nil), hp, fun u G' H' v hq x r => k u v G' H' hq x r⟩
theorem rn_ixO {C : Addr} (ha : RE L ms Ta ta ua) (hb : RE L ms Tb tb ub) (hL : (L' || !L) = true := by rfl) : RN L ms (Ta + Tb) (tOp (OO.rIxO C (spN L' pf) E) ta tb) (fun env q => ua env fun x => ub env fun y => InsC C x ∧ pf [x, y] q) :=
  rn_two ha hb fun F G H x y u w s nl r1 r2 q Q hu k => by
    obtain ⟨h1, hp⟩ := hu
    obtain ⟨a, dx, fs, rfl, g⟩ := h1 _ _ r1
    exact ⟨a, dx, fs, rfl, s.ins g, F.lk, G, [u, w], q, noL hL nl, s, .cons r1 (.cons r2 .nil), hp, fun u G' H' a o hq x hn gn ho r => k u a o G' H' hq x hn gn ho r⟩
theorem re_inO {C : Addr} {neg : Bool} (ha : RE L ms Ta ta ua) (hb : RE L ms Tb tb ub) (hL : (L' || !L) = true := by rfl) : RE L ms (Ta + Tb) (tOp (OO.rInO C neg (spU L' pf) E) ta tb) (fun env q => ua env fun y => ub env fun x => InsC C x ∧ pf [x, y] fun z => ∃ b, z = .bl b ∧ q (.bl (if neg then !b else b))) :=
  re_two ha hb fun F G H x y u w s nl r1 r2 q Q hu k => by
    obtain ⟨h1, hp⟩ := hu
    obtain ⟨a, dx, fs, rfl, g⟩ := h1 _ _ r2
    refine ⟨a, dx, fs, rfl, s.ins g, F.lk, G, [w, u], _, noL hL nl, s, .cons r2 (.cons r1 .nil), hp, fun u G' H' v hq x r => ?_⟩
    obtain ⟨b, rfl, hq⟩ := hq
    exact ⟨b, of_bl r, k _ _ G' H' hq x (.bl _)⟩
theorem re_oneC {r : List V → Hp → VK → Prop} {uo : U → (U → Prop) → Prop} (ha : RE L ms Ta ta ua)
    (o : ∀ (F : Fr) G H x u, Sm F.lk G H → (L = false → ∀ b, ¬ F.lk b) → Rep G x u → ∀ (q : U → Prop) (Q : VK), uo u q → (∀ z v G' H', q z → Xt No F.lk G H G' H' → Rep G' v z → Q v H') → r [x] H Q) :
    RE L ms Ta (tCB r (tCons ta tNil)) (fun env q => ua env fun x => uo x q) := fun F B env σ G H S q Q hu k =>
  ha F B env σ G H S _ _ hu fun u v G1 H1 hq x1 S1 r1 => o F G1 H1 v u S1.sm S1.nl r1 q Q hq fun z v' G3 H3 hz x3 r3 => k z v' G3 H3 hz (x1.trans x3.on) (S1.go x3) r3
theorem re_lenO {C : Addr} (ha : RE L ms Ta ta ua) (hL : (L' || !L) = true := by rfl) : RE L ms Ta (tCB (OO.rLenO C (spU L' pf) E) (tCons ta tNil)) (fun env q => ua env fun x => InsC C x ∧ pf [x] fun z => ∃ k : Int, z = .int k ∧ 0 ≤ k ∧ k < 2 ^ 63 ∧ q (.int k)) :=
  re_oneC ha fun F G H x u s nl r1 q Q hu k => by
    obtain ⟨h1, hp⟩ := hu
    obtain ⟨a, dx, fs, rfl, g⟩ := h1 _ _ r1
    refine ⟨a, dx, fs, rfl, s.ins g, F.lk, G, [u], _, noL hL nl, s, .cons r1 .nil, hp, fun u G' H' v hq x r => ?_⟩
    obtain ⟨b, rfl, h2, h3, hq⟩ := hq
    exact ⟨b, of_int r, h2, h3, k _ _ G' H' hq x (.int _)⟩
theorem re_absO {C : Addr} (ha : RE L ms Ta ta ua) (hL : (L' || !L) = true := by rfl) : RE L ms Ta (tCB (OO.rAbsO C (spU L' pf) E) (tCons ta tNil)) (fun env q => ua env fun x => InsC C x ∧ pf [x] q) :=
  re_oneC ha fun F G H x u s nl r1 q Q hu k => by
    obtain ⟨h1, hp⟩ := hu
    obtain ⟨a, dx, fs, rfl, g⟩ := h1 _ _ r1
    exact ⟨a, dx, fs, rfl, s.ins g, F.lk, G, [u], q, noL hL nl, s, .cons r1 .nil, hp, fun u G' H' v hq x r => k u v G' H' hq x r⟩
/-! ### a def -/
def msU (n k : Nat) : List Md := List.replicate n .fz ++ List.replicate k .junk
def mrU (n : Nat) : List Md := List.replicate n .junk
theorem sta_start {F : Fr} {B n k : Nat} {vs : List V} {us : List U} {N : List Str} (hx : Xt F.M F.lk F.G F.H F.G F.H) (nl : L = false → ∀ b, ¬ F.lk b) (mn : ∀ b, F.M b → F.H b ≠ none ∧ F.G b = none)
    (bx : ∀ p, F.bx = some p → F.M p ∧ ∃ c : Int, Bx F.H p c ∧ c + B ≤ lim) {ms0 : List Md} {ws : List V} {vs0 : List V} (hN : N.length = ms0.length + n + k) (r : RepA F.G vs us) (hn : vs.length = n) {us0 : List U}
    (h0 : vs0.length = ms0.length) (h1 : us0.length = ms0.length) (hs : ∀ (i : Nat) (m : Md), ms0[i]? = some m → ∃ v u, vs0[i]? = some v ∧ us0[i]? = some u ∧ SlOk F F.G F.H m (some v) u ∧ m ≠ .own) :
    Sta F L B (ms0 ++ msU n k) (us0 ++ (us ++ List.replicate k .non)) (start N (vs0 ++ vs)) F.G F.H := by
  have hl := r.length
  have es : start N (vs0 ++ vs) = vs0.map some ++ (vs.map some ++ List.replicate k none) := by
    unfold L2.start
    rw [List.map_append, List.append_assoc, List.length_append, h0, hn, hN]
    congr 3
    omega
  rw [es]
  have nown : ∀ j : Nat, (ms0 ++ msU n k)[j]? ≠ some .own := fun j e => by
    by_cases hj : j < ms0.length
    · rw [List.getElem?_append_left hj] at e
      obtain ⟨v, u, _, _, _, h⟩ := hs j _ e
      exact h rfl
    · rw [List.getElem?_append_right (by omega)] at e
      have := List.mem_of_getElem? e
      unfold msU at this
      simp [List.mem_append, List.mem_replicate] at this
  refine ⟨hx, nl, mn, bx, by simp [msU, h0, hn], by simp [msU, h1, ← hl, hn], fun j m e => ?_, fun i j a e1 => absurd e1 (nown i)⟩
  by_cases hj : j < ms0.length
  · rw [List.getElem?_append_left hj] at e
    obtain ⟨v, u, e1, e2, e3, _⟩ := hs j m e
    refine ⟨some v, u, ?_, ?_, e3⟩
    · rw [List.getElem?_append_left (by simp [h0]; exact hj), List.getElem?_map, e1]; rfl
    · rw [List.getElem?_append_left (by omega)]; exact e2
  · rw [List.getElem?_append_right (by omega)] at e
    have e1 : (vs0.map some ++ (vs.map some ++ List.replicate k none))[j]? = (vs.map some ++ List.replicate k none)[j - ms0.length]? := by
      rw [List.getElem?_append_right (by simp [h0]; omega), List.length_map, h0]
    have e2 : (us0 ++ (us ++ List.replicate k U.non))[j]? = (us ++ List.replicate k U.non)[j - ms0.length]? := by
      rw [List.getElem?_append_right (by omega), h1]
    rw [e1, e2]
    clear e1 e2
    generalize j - ms0.length = i at *
    unfold msU at e
    by_cases hi : i < n
    · rw [List.getElem?_append_left (by simp; exact hi)] at e
      have em : m = .fz := by
        have := List.mem_of_getElem? e
        exact (List.mem_replicate.mp this).2
      subst em
      have hv : vs[i]? = some vs[i] := List.getElem?_eq_getElem (by omega)
      obtain ⟨u, hu, ru⟩ := r.get hv
      refine ⟨some vs[i], u, ?_, ?_, vs[i], rfl, ru⟩
      · rw [List.getElem?_append_left (by simp; omega), List.getElem?_map, hv]; rfl
      · rw [List.getElem?_append_left (by omega)]; exact hu
    · rw [List.getElem?_append_right (by simp; omega)] at e
      have hm : m = .junk := by
        have := List.mem_of_getElem? e
        exact (List.mem_replicate.mp this).2
      have hk : i - n < k := by
        have := (List.getElem?_eq_some_iff.mp e).1
        simpa using this
      subst hm
      refine ⟨none, .non, ?_, ?_, trivial⟩
      · rw [List.getElem?_append_right (by simp; omega)]
        simp only [List.length_map, hn]
        rw [List.getElem?_replicate, if_pos hk]
      · rw [List.getElem?_append_right (by omega)]
        rw [← hl, hn, List.getElem?_replicate, if_pos hk]
theorem run_U {N : List Str} {n k : Nat} {vs : List V} {H : Hp} {Q : VK} {ts : TS} {us : US} (h : spU L pf vs H Q E) (hb : RS L false (mrU (n + k)) (msU n k) ms' T ts us) (hn : vs.length = n) (hN : N.length = n + k)
    (hp : ∀ as q, pf as q → us (fun _ => q .non) q (as ++ List.replicate k .non)) : ts { nx := fun _ H' => Q .non H', rt := Q } (start N vs) H := by
  obtain ⟨lk, G, as, q, nl, sm, r, hpf, kk⟩ := h
  have S : Sta ⟨No, lk, none, G, H⟩ L (T + 0) ([] ++ msU n k) ([] ++ (as ++ List.replicate k .non)) (start N ([] ++ vs)) G H :=
    sta_start (F := ⟨No, lk, none, G, H⟩) (Xt.refl sm) nl (fun b m => m.elim) (fun p e => by cases e) (ws := []) (by simpa using hN) r hn rfl rfl (fun i m e => by simp at e)
  exact hb _ 0 _ _ G H S _ _ _ (hp as q hpf) (fun env' σ' G' H' hq S' => kk .non G' H' .non hq S'.ex .non) (fun u v env' σ' G' H' hq S' r => kk u G' H' v hq S'.ex r)
theorem run_N {N : List Str} {n k : Nat} {vs : List V} {H : Hp} {Q : VK} {ts : TS} {us : US} (h : spN L pf vs H Q E) (hb : RS L true (mrU (n + k)) (msU n k) ms' T ts us) (hn : vs.length = n) (hN : N.length = n + k)
    (hp : ∀ as q, pf as q → us (fun _ => False) q (as ++ List.replicate k .non)) : ts { nx := fun _ H' => Q .non H', rt := Q } (start N vs) H := by
  obtain ⟨lk, G, as, q, nl, sm, r, hpf, kk⟩ := h
  have S : Sta ⟨No, lk, none, G, H⟩ L (T + 0) ([] ++ msU n k) ([] ++ (as ++ List.replicate k .non)) (start N ([] ++ vs)) G H :=
    sta_start (F := ⟨No, lk, none, G, H⟩) (Xt.refl sm) nl (fun b m => m.elim) (fun p e => by cases e) (ws := []) (by simpa using hN) r hn rfl rfl (fun i m e => by simp at e)
  refine hb _ 0 _ _ G H S _ _ _ (hp as q hpf) (fun env' σ' G' H' hq S' => hq.elim) (fun u v env' σ' G' H' hq S' r => ?_)
  obtain ⟨a, o, rfl, g, ho, r, n⟩ := r
  exact kk u G' H' a o hq S'.ex n g ho r
def mrB (n : Nat) : List Md := .box :: List.replicate n .junk
theorem sta_startB {N : List Str} {n k B : Nat} {lk : Addr → Prop} {G H : Hp} {p : Addr} {c : Int} {vs : List V} {as : List U} (nl : L = false → ∀ b, ¬ lk b) (sm : Sm lk G H) (gp : G p = none) (b : Bx H p c) (hc : c + B ≤ lim) (r : RepA G vs as) (hn : vs.length = n) (hN : N.length = n + k + 1) :
    Sta ⟨On p, lk, some p, G, H⟩ L B ([.box] ++ msU n k) ([.non] ++ (as ++ List.replicate k .non)) (start N ([.ref p] ++ vs)) G H := by
  refine sta_start (F := ⟨On p, lk, some p, G, H⟩) (Xt.refl sm) nl (fun b' m => by cases m; exact ⟨b.ne, gp⟩) (fun p' e => by cases e; exact ⟨rfl, c, b, hc⟩) (ws := []) (by simp; omega) r hn rfl rfl (fun i m e => ?_)
  cases i with
  | zero => simp at e; subst e; exact ⟨.ref p, .non, rfl, rfl, ⟨p, rfl, rfl⟩, by simp⟩
  | succ i => simp at e
theorem run_B {N : List Str} {n k : Nat} {vs : List V} {H : Hp} {Q : VK} {ts : TS} {us : US} (h : spB L T pf vs H Q E) (hb : RS L false (mrB (n + k)) (.box :: msU n k) ms' T1 ts us) (hT : T1 ≤ T) (hn : vs.length = n + 1) (hN : N.length = n + k + 1)
    (hp : ∀ as q, pf as q → us (fun _ => q .non) q (.non :: (as ++ List.replicate k .non))) : ts { nx := fun _ H' => Q .non H', rt := Q } (start N vs) H := by
  obtain ⟨lk, G, as, q, p, ws, c, rfl, nl, sm, gp, b, hc, r, hpf, kk⟩ := h
  have hc0 : 0 ≤ c := by obtain ⟨_, _, _, h, _⟩ := b; exact h
  have S := sta_startB (N := N) (B := T1 + (lim - (c.toNat + T1))) (k := k) (L := L) nl sm gp b (by omega) r (by simpa using hn) hN
  have fin : ∀ {msx : List Md} {envx : List U} {σx : L2.St} {G' H' : Hp}, Sta ⟨On p, lk, some p, G, H⟩ L (lim - (c.toNat + T1)) msx envx σx G' H' → ∃ c', Bx H' p c' ∧ c' ≤ c + T := fun S' => by
    obtain ⟨_, c', b', l⟩ := S'.bx p rfl
    exact ⟨c', b', by omega⟩
  refine hb _ _ _ _ G H S _ _ _ (hp as q hpf) (fun env' σ' G' H' hq S' => ?_) (fun u v env' σ' G' H' hq S' r => ?_)
  · obtain ⟨c', b', l⟩ := fin S'
    exact kk .non G' H' .non c' hq S'.ex b' l .non
  · obtain ⟨c', b', l⟩ := fin S'
    exact kk u G' H' v c' hq S'.ex b' l r
theorem run_BN {N : List Str} {n k : Nat} {vs : List V} {H : Hp} {Q : VK} {ts : TS} {us : US} (h : spBN L T pf vs H Q E) (hb : RS L true (mrB (n + k)) (.box :: msU n k) ms' T1 ts us) (hT : T1 ≤ T) (hn : vs.length = n + 1) (hN : N.length = n + k + 1)
    (hp : ∀ as q, pf as q → us (fun _ => False) q (.non :: (as ++ List.replicate k .non))) : ts { nx := fun _ H' => Q .non H', rt := Q } (start N vs) H := by
  obtain ⟨lk, G, as, q, p, ws, c, rfl, nl, sm, gp, b, hc, r, hpf, kk⟩ := h
  have hc0 : 0 ≤ c := by obtain ⟨_, _, _, h, _⟩ := b; exact h
  have S := sta_startB (N := N) (B := T1 + (lim - (c.toNat + T1))) (k := k) (L := L) nl sm gp b (by omega) r (by simpa using hn) hN
  refine hb _ _ _ _ G H S _ _ _ (hp as q hpf) (fun env' σ' G' H' hq S' => hq.elim) (fun u v env' σ' G' H' hq S' r => ?_)
  obtain ⟨_, c', b', l⟩ := S'.bx p rfl
  obtain ⟨a, o, rfl, g, ho, r, n⟩ := r
  exact kk u G' H' a o c' hq S'.ex b' (by omega) n g ho r
end
end Va

namespace Va
open PySem L2 Kt LM DO PyProof.Rows
section
variable {L fr : Bool} {mr ms ms' : List Md} {T n : Nat} {pf : Pf} {vs : List V} {H : Hp} {Q : VK} {E : XK}
theorem len_U (hl : ∀ us q, pf us q → us.length = n) (h : spU L pf vs H Q E) : vs.length = n := by
  obtain ⟨_, _, us, q, _, _, r, hp, _⟩ := h
  rw [r.length]; exact hl us q hp
theorem len_N (hl : ∀ us q, pf us q → us.length = n) (h : spN L pf vs H Q E) : vs.length = n := by
  obtain ⟨_, _, us, q, _, _, r, hp, _⟩ := h
  rw [r.length]; exact hl us q hp
theorem len_B (hl : ∀ us q, pf us q → us.length = n) (h : spB L T pf vs H Q E) : vs.length = n + 1 := by
  obtain ⟨_, _, us, q, _, _, _, rfl, _, _, _, _, _, r, hp, _⟩ := h
  rw [List.length_cons, r.length, hl us q hp]
theorem len_BN (hl : ∀ us q, pf us q → us.length = n) (h : spBN L T pf vs H Q E) : vs.length = n + 1 := by
  obtain ⟨_, _, us, q, _, _, _, rfl, _, _, _, _, _, r, hp, _⟩ := h
  rw [List.length_cons, r.length, hl us q hp]
/-- a slot's own object is given back -/
theorem s_retO (i : Nat) (hm : ms[i]? = some .own := by rfl) (l : lesM ms mr = true := by rfl) : RS L true mr ms mr 0 (tRet (tVar i)) (fun nx rt env => rt (gt env i)) := fun F B env σ G H S nx rt D hu kn kr => by
  obtain ⟨a, o, h1, ho, r, n, g⟩ := S.at_own hm
  exact ⟨.ref a, h1, kr _ _ env σ G H hu ((S.le (by omega)).weak l) ⟨a, o, rfl, g, ho, r, n⟩⟩
end
/-! ### what older promises say by values -/
theorem bx_sx {G : Hp} {H : Hp} {p : Addr} {c : Int} (b : Bx H p c) (s : Same G H) (g : G p = none) : Sx G H p c := ⟨s, b, g⟩
def nil : Hp := fun _ => none
theorem same_nil {H : Hp} : Same nil H := fun _ _ e => by cases e
def pfTake : Pf := fun us q => ∃ m : Int, us = [.int m] ∧ 0 < m ∧ m < 2 ^ 64 ∧ ∀ r : Int, 0 ≤ r → r < m → q (.int r)
theorem hl_take : ∀ us q, pfTake us q → us.length = 1 := by rintro us q ⟨m, rfl, _⟩; rfl
theorem lim_lt {c : Int} {T : Nat} (h : c + T ≤ lim) : c < 2 ^ 51 := by
  have : lim = 1125899906842624 := by decide
  omega
theorem cv_take {vs : List V} {H : Hp} {Q : VK} {E : XK} (h : spB true 1 pfTake vs H Q E) : spTake vs H Q E := by
  obtain ⟨lk, G, us, q, p, ws, c, rfl, nl, sm, gp, b, hc, r, ⟨m, rfl, h0, h1, hq⟩, k⟩ := h
  cases r with
  | cons r1 r =>
    cases r
    have := of_int r1
    subst this
    have hl := lim_lt hc
    refine ⟨nil, p, m, c, rfl, ⟨same_nil, b, rfl⟩, by omega, h0, h1, fun H' i c' x S' hc' hi0 hi1 => ?_⟩
    obtain ⟨x2, _⟩ := Xt.of_ex sm same_nil x (fun b z => by rw [z]; exact gp)
    exact k _ _ H' _ c' (hq i hi0 hi1) x2 S'.b (by omega) (.int i)
def pfNames : Pf := fun us q => ∃ n : Nat, us = [.int (n : Int)] ∧ n ≤ 26 ∧ ∀ ns : List Str, ns.length = n → (∀ x ∈ ns, Kd x) → ns.Nodup → q (.lst (ns.map U.str))
theorem hl_names : ∀ us q, pfNames us q → us.length = 1 := by rintro us q ⟨m, rfl, _⟩; rfl
theorem cv_names {vs : List V} {H : Hp} {Q : VK} {E : XK} (h : spB true 1000 pfNames vs H Q E) : spNames vs H Q E := by
  obtain ⟨lk, G, us, q, p, ws, c, rfl, nl, sm, gp, b, hc, r, ⟨n, rfl, h0, hq⟩, k⟩ := h
  cases r with
  | cons r1 r =>
    cases r
    have := of_int r1
    subst this
    have hl := lim_lt hc
    refine ⟨nil, p, c, n, rfl, ⟨same_nil, b, rfl⟩, by omega, h0, fun G1 H' c' l ns x S' hc' hn h1 h2 h3 => ?_⟩
    obtain ⟨x2, s2⟩ := Xt.of_ex sm same_nil x (fun b z => by rw [z]; exact gp)
    exact k _ _ H' _ c' (hq ns h1 h2 h3) x2 S'.b (by omega) (.lst (s2 _ _ hn) (repA_str ns))
/-! ### promises by values of the law's own defs -/
def pfOf : Pf := fun us q => ∃ xs, us = [.lst xs] ∧ 0 < xs.length ∧ xs.length < 1000 ∧ ∀ u ∈ xs, q u
theorem hl_of : ∀ us q, pfOf us q → us.length = 1 := by rintro us q ⟨m, rfl, _⟩; rfl
def pfMixed : Pf := fun us q => ∃ u xs, us = [u] ∧ seqU u = some xs ∧ xs.length ≤ 1000 ∧ ∀ ys : List U, ys.Perm xs → q (.lst ys)
theorem hl_mixed : ∀ us q, pfMixed us q → us.length = 1 := by rintro us q ⟨m, _, rfl, _⟩; rfl
/-- data told by dicts: pairs -/
def dU (d : Pr) : U := .dic (d.map fun p => (Sum.inr p.1, .int p.2))
def sU (ps : Pr) : List U := ps.map pU
def pfPairs : Pf := fun us q => ∃ d : Pr, us = [dU d] ∧ (d.map (·.1)).Nodup ∧ d.length ≤ 1000 ∧ (∀ x ∈ d, SeqAt.shaped (encP x) = true) ∧ q (.tup (sU (lotD d)))
theorem hl_pairs : ∀ us q, pfPairs us q → us.length = 1 := by rintro us q ⟨m, rfl, _⟩; rfl
theorem repK_dU {G : Hp} : ∀ d : Pr, RepK G (encD d) (d.map fun p => (Sum.inr p.1, .int p.2))
  | [] => .nil
  | p :: r => .cons (.int _) (repK_dU r)
theorem of_dU {G : Hp} {v : V} {d : Pr} (h : Rep G v (dU d)) : ∃ a, v = .ref a ∧ G a = some (.dK (encD d)) := by
  obtain ⟨a, kvs, rfl, g, r⟩ := of_dic h
  refine ⟨a, rfl, ?_⟩
  have : ∀ {kvs : List (Key × V)} {d : Pr}, RepK G kvs (d.map fun p => (Sum.inr p.1, .int p.2)) → kvs = encD d := by
    intro kvs d
    induction d generalizing kvs with
    | nil => intro r; cases r; rfl
    | cons p s ih =>
      intro r
      cases r with
      | cons h r =>
        have := of_int h
        subst this
        rw [ih r]; rfl
  rw [g, this r]
theorem embs_sU (ps : Pr) : embs (ps.map encP) = sU ps := by rw [embs_eq, List.map_map]; rfl
theorem emb_pairs (ps : Pr) : emb (.tuple (ps.map encP)) = .tup (sU ps) := by rw [emb, embs_sU]
theorem emb_lpairs (ps : Pr) : emb (.list (ps.map encP)) = .lst (sU ps) := by rw [emb, embs_sU]
theorem cv_pairs {vs : List V} {H : Hp} {Q : VK} {E : XK} (h : spU false pfPairs vs H Q E) : spPairs vs H Q E := by
  obtain ⟨lk, G, us, q, nl, sm, r, ⟨d, rfl, h1, h2, h3, hq⟩, k⟩ := h
  cases r with
  | cons r1 r =>
    cases r
    obtain ⟨a, rfl, g⟩ := of_dU r1
    refine ⟨G, a, d, rfl, sm.same (nl rfl), g, h1, h2, h3, fun G1 H' v x rp => ?_⟩
    obtain ⟨x2, s2⟩ := Xt.of_ex sm (Same.refl G) x (fun b z => z.elim)
    have := (rep_emb rp).mono s2
    rw [show emb (.tuple ((mkLot (d.filter fun p => decide (0 < p.2))).map encP)) = .tup (sU (lotD d)) from emb_pairs _] at this
    exact k _ _ H' v hq x2 this
def pfCounted : Pf := fun us q => ∃ (u : U) (ps : Pr), us = [u] ∧ (u = .lst (sU ps) ∨ u = .tup (sU ps)) ∧ ps.length ≤ 1000 ∧ q (dU (tally ps))
theorem hl_counted : ∀ us q, pfCounted us q → us.length = 1 := by rintro us q ⟨m, _, rfl, _⟩; rfl
theorem toDs_sU (ps : Pr) : toDs (sU ps) = ps.map encP := by rw [toDs_eq, sU, List.map_map]; rfl
theorem isDs_sU (ps : Pr) : isDs (sU ps) = true := by
  rw [isDs_eq, sU, List.all_map, List.all_eq_true]; intro x _; rfl
theorem cv_counted {vs : List V} {H : Hp} {Q : VK} {E : XK} (h : spN false pfCounted vs H Q E) : spCounted vs H Q E := by
  obtain ⟨lk, G, us, q, nl, sm, r, ⟨u, ps, rfl, h1, h2, hq⟩, k⟩ := h
  cases r with
  | cons r1 r =>
    cases r
    refine ⟨G, _, ps, rfl, sm.same (nl rfl), ?_, h2, fun H' a x hn ho => ?_⟩
    · rcases h1 with rfl | rfl
      · left; have := r1.rp (isDs_sU ps); rw [toD, toDs_sU] at this; exact this
      · right; have := r1.rp (isDs_sU ps); rw [toD, toDs_sU] at this; exact this
    · obtain ⟨x2, s2⟩ := Xt.of_ex sm (Same.refl G) x (fun b z => z.elim)
      have e : (fun b => (G b).or (G b)) = G := by funext b; cases G b <;> rfl
      rw [e] at x2
      exact k _ G H' a _ hq x2 hn (sm.free hn) ho (.dic (repK_dU _))
def pfSame (n : Nat) : Pf := fun us q => ∃ u w, us = [u, w] ∧ isD u = true ∧ isD w = true ∧ toD u = toD w ∧ Fit n (toD u) ∧ q (.bl true)
theorem hl_same {n : Nat} : ∀ us q, pfSame n us q → us.length = 2 := by rintro us q ⟨m, _, rfl, _⟩; rfl
theorem cv_same {n : Nat} {vs : List V} {H : Hp} {Q : VK} {E : XK} (h : spU false (pfSame n) vs H Q E) : spSame (Fit n) vs H Q E := by
  obtain ⟨lk, G, us, q, nl, sm, r, ⟨u, w, rfl, h1, h2, e, hf, hq⟩, k⟩ := h
  cases r with
  | cons r1 r =>
    cases r with
    | cons r2 r =>
      cases r
      refine ⟨G, _, _, toD u, rfl, sm.same (nl rfl), r1.rp h1, e ▸ r2.rp h2, hf, fun H' x => ?_⟩
      obtain ⟨x2, s2⟩ := Xt.of_ex sm (Same.refl G) x (fun b z => z.elim)
      exact k _ _ H' _ hq x2 (.bl true)
theorem cutU_to (xs : List U) (m : Nat) : cutU xs none (some (m : Int)) = xs.take m := by
  unfold cutU
  rw [HT.sIx_none, HT.sIx_nat, List.drop_zero, Nat.sub_zero]
  by_cases h : m ≤ xs.length
  · rw [Nat.min_eq_left h]
  · rw [Nat.min_eq_right (by omega), List.take_of_length_le (Nat.le_refl _), List.take_of_length_le (by omega)]
theorem cutU_from (xs : List U) (m : Nat) : cutU xs (some (m : Int)) none = xs.drop m := by
  unfold cutU
  rw [HT.sIx_none, HT.sIx_nat]
  by_cases h : m ≤ xs.length
  · rw [Nat.min_eq_left h, List.take_of_length_le (by rw [List.length_drop]; omega)]
  · rw [Nat.min_eq_right (by omega), List.drop_of_length_le (Nat.le_refl _), List.drop_of_length_le (by omega)]; simp
theorem intsU_len (lo : Int) (n : Nat) : (intsU lo n).length = n := by simp [intsU]
theorem intsU_at {lo : Int} {n i : Nat} {x : U} (h : (intsU lo n)[i]? = some x) : i < n ∧ x = .int (lo + (i : Int)) := by
  have hi : i < n := by have := (List.getElem?_eq_some_iff.mp h).1; rwa [intsU_len] at this
  rw [intsU, List.getElem?_map, List.getElem?_range hi] at h
  exact ⟨hi, (Option.some.inj h).symm⟩
/-! ### lots -/
def lotU (C : Addr) (m : Pr) : U := .obj fun G v => ∃ a, v = .ref a ∧ LotAt C G a m
theorem of_lotU {C : Addr} {G : Hp} {v : V} {m : Pr} (h : Rep G v (lotU C m)) : ∃ a, v = .ref a ∧ LotAt C G a m := by
  cases h with
  | obj _ h => exact h
theorem rep_lotU {C : Addr} {G : Hp} {a : Addr} {m : Pr} (h : LotAt C G a m) : Rep G (.ref a) (lotU C m) := .obj (fun G1 G2 v s ⟨a, e, h⟩ => ⟨a, e, h.mono s⟩) ⟨a, rfl, h⟩
theorem insC_lot {C : Addr} {m : Pr} : InsC C (lotU C m) := fun G v h => by
  obtain ⟨a, rfl, hl⟩ := of_lotU h
  obtain ⟨dx, fs, e⟩ := hl.ins
  exact ⟨a, dx, fs, rfl, e⟩
theorem insM_lot {C : Addr} {m : Pr} {x : Str} (hx : x ≠ "own_many") : InsM C x (lotU C m) := fun G v h => by
  obtain ⟨a, rfl, hl⟩ := of_lotU h
  obtain ⟨dx, fs, e⟩ := hl.ins
  exact ⟨a, dx, fs, rfl, e, hl.noat e hx⟩
/-- a lot that stands at a, told of but for a itself -/
theorem repO_lot {C : Addr} {G : Hp} {a : Addr} {m : Pr} (h : LotAt C G a m) : ∃ o, G a = some o ∧ RepO (fun b => if b = a then none else G b) o (lotU C m) := by
  obtain ⟨dx, dd, d, h1, h2, h3, h4, h5⟩ := h
  have hd : dd ≠ a := by rintro rfl; rw [h1] at h2; cases h2
  refine ⟨_, h1, .obj (fun G1 G2 v s ⟨a, e, h⟩ => ⟨a, e, h.mono s⟩) fun G' b s e => ⟨b, rfl, dx, dd, d, e, s _ _ (by show (if dd = a then none else G dd) = _; rw [if_neg hd]; exact h2), h3, h4, h5⟩⟩
/-- a new lot by an older promise, not told of yet -/
theorem new_lot {C : Addr} {lk : Addr → Prop} {G H G1 H' : Hp} {x : Addr} {m : Pr} (sm : Sm lk G H) (ex : Ex No G H G1 H') (hx : H x = none) (hl : LotAt C G1 x m) :
    ∃ G2 o, Xt No lk G H G2 H' ∧ G2 x = none ∧ H' x = some o ∧ RepO G2 o (lotU C m) := by
  obtain ⟨x2, s2⟩ := Xt.of_ex sm (Same.refl G) ex (fun b z => z.elim)
  generalize (fun b => (G b).or (G1 b)) = G3 at x2 s2
  obtain ⟨o, h1, h2⟩ := repO_lot (hl.mono s2)
  have gx := sm.free hx
  refine ⟨fun b => if b = x then none else G3 b, o, ⟨fun b u e => ?_, x2.h, fun b u e => ?_, fun b u e => ?_, x2.f⟩, if_pos rfl, ex.s _ _ ?_, h2⟩
  · show (if b = x then none else G3 b) = _
    rw [if_neg (ne_of_none e gx)]; exact x2.g b u e
  · by_cases hb : b = x
    · simp [hb] at e
    · simp [hb] at e; exact x2.s b u e
  · by_cases hb : b = x
    · simp [hb] at e
    · simp [hb] at e; exact x2.n b u e
  · obtain ⟨o', e'⟩ : ∃ o', G1 x = some o' := by obtain ⟨dx, fs, e⟩ := hl.ins; exact ⟨_, e⟩
    have := s2 _ _ e'
    rw [h1] at this; cases this
    exact e'
/-- a told lot alone -/
def pf1 (C : Addr) (f : Pr → (U → Prop) → Prop) : Pf := fun us q => ∃ m, us = [lotU C m] ∧ f m q
theorem hl_1 {C : Addr} {f : Pr → (U → Prop) → Prop} : ∀ us q, pf1 C f us q → us.length = 1 := by rintro us q ⟨m, rfl, _⟩; rfl
def pf2 (C : Addr) (f : Pr → Pr → (U → Prop) → Prop) : Pf := fun us q => ∃ m n, us = [lotU C m, lotU C n] ∧ f m n q
theorem hl_2 {C : Addr} {f : Pr → Pr → (U → Prop) → Prop} : ∀ us q, pf2 C f us q → us.length = 2 := by rintro us q ⟨m, _, rfl, _⟩; rfl
section
variable {C : Addr} {K : PySem.W.Frag} {vs : List V} {H : Hp} {Q : VK} {E : XK}
theorem of1 {L : Bool} {f : Pr → (U → Prop) → Prop} (h : spU L (pf1 C f) vs H Q E) : ∃ (lk : Addr → Prop) (G : Hp) (a : Addr) (m : Pr) (q : U → Prop), vs = [.ref a] ∧ (L = false → Same G H) ∧ Sm lk G H ∧ LotAt C G a m ∧ f m q ∧ ∀ u G' H' v, q u → Xt No lk G H G' H' → Rep G' v u → Q v H' := by
  obtain ⟨lk, G, us, q, nl, sm, r, ⟨m, rfl, hf⟩, k⟩ := h
  cases r with
  | cons r1 r =>
    cases r
    obtain ⟨a, rfl, hl⟩ := of_lotU r1
    exact ⟨lk, G, a, m, q, rfl, fun e => sm.same (nl e), sm, hl, hf, k⟩
theorem of1N {L : Bool} {f : Pr → (U → Prop) → Prop} (h : spN L (pf1 C f) vs H Q E) : ∃ (lk : Addr → Prop) (G : Hp) (a : Addr) (m : Pr) (q : U → Prop), vs = [.ref a] ∧ (L = false → Same G H) ∧ Sm lk G H ∧ LotAt C G a m ∧ f m q ∧ ∀ u G' H' a o, q u → Xt No lk G H G' H' → H a = none → G' a = none → H' a = some o → RepO G' o u → Q (.ref a) H' := by
  obtain ⟨lk, G, us, q, nl, sm, r, ⟨m, rfl, hf⟩, k⟩ := h
  cases r with
  | cons r1 r =>
    cases r
    obtain ⟨a, rfl, hl⟩ := of_lotU r1
    exact ⟨lk, G, a, m, q, rfl, fun e => sm.same (nl e), sm, hl, hf, k⟩
theorem of2 {L : Bool} {f : Pr → Pr → (U → Prop) → Prop} (h : spU L (pf2 C f) vs H Q E) : ∃ (lk : Addr → Prop) (G : Hp) (a b : Addr) (m n : Pr) (q : U → Prop), vs = [.ref a, .ref b] ∧ (L = false → Same G H) ∧ Sm lk G H ∧ LotAt C G a m ∧ LotAt C G b n ∧ f m n q ∧ ∀ u G' H' v, q u → Xt No lk G H G' H' → Rep G' v u → Q v H' := by
  obtain ⟨lk, G, us, q, nl, sm, r, ⟨m, n, rfl, hf⟩, k⟩ := h
  cases r with
  | cons r1 r =>
    cases r with
    | cons r2 r =>
      cases r
      obtain ⟨a, rfl, hl⟩ := of_lotU r1
      obtain ⟨b, rfl, hl2⟩ := of_lotU r2
      exact ⟨lk, G, a, b, m, n, q, rfl, fun e => sm.same (nl e), sm, hl, hl2, hf, k⟩
theorem of2N {L : Bool} {f : Pr → Pr → (U → Prop) → Prop} (h : spN L (pf2 C f) vs H Q E) : ∃ (lk : Addr → Prop) (G : Hp) (a b : Addr) (m n : Pr) (q : U → Prop), vs = [.ref a, .ref b] ∧ (L = false → Same G H) ∧ Sm lk G H ∧ LotAt C G a m ∧ LotAt C G b n ∧ f m n q ∧ ∀ u G' H' a o, q u → Xt No lk G H G' H' → H a = none → G' a = none → H' a = some o → RepO G' o u → Q (.ref a) H' := by
  obtain ⟨lk, G, us, q, nl, sm, r, ⟨m, n, rfl, hf⟩, k⟩ := h
  cases r with
  | cons r1 r =>
    cases r with
    | cons r2 r =>
      cases r
      obtain ⟨a, rfl, hl⟩ := of_lotU r1
      obtain ⟨b, rfl, hl2⟩ := of_lotU r2
      exact ⟨lk, G, a, b, m, n, q, rfl, fun e => sm.same (nl e), sm, hl, hl2, hf, k⟩
theorem toX {lk : Addr → Prop} {G G1 H' : Hp} (sm : Sm lk G H) (x : Ex No G H G1 H') : ∃ G2, Xt No lk G H G2 H' ∧ Same G1 G2 := by
  obtain ⟨x2, s2⟩ := Xt.of_ex sm (Same.refl G) x (fun b z => z.elim)
  exact ⟨_, x2, s2⟩
def fPairs : Pr → (U → Prop) → Prop := fun m q => q (.tup (sU m))
theorem cv_LotPairs (h : spU false (pf1 C fPairs) vs H Q E) : spLotPairs C vs H Q E := by
  obtain ⟨lk, G, a, m, q, rfl, S, sm, hl, hf, k⟩ := of1 h
  refine ⟨G, a, m, rfl, S rfl, hl, fun G' H' v x r => ?_⟩
  obtain ⟨G2, x2, s2⟩ := toX sm x
  have := (rep_emb r).mono s2
  rw [emb_pairs] at this
  exact k _ _ _ v hf x2 this
def fLen : Pr → (U → Prop) → Prop := fun m q => q (.int m.length)
theorem cv_LotLen (h : spU false (pf1 C fLen) vs H Q E) : spLotLen C vs H Q E := by
  obtain ⟨lk, G, a, m, q, rfl, S, sm, hl, hf, k⟩ := of1 h
  exact ⟨G, a, m, rfl, S rfl, hl, k _ G H _ hf (Xt.refl sm) (.int _)⟩
def fAbs : Pr → (U → Prop) → Prop := fun m q => q (.int (m.map (·.2)).sum)
theorem cv_LotAbs (h : spU false (pf1 C fAbs) vs H Q E) : spLotAbs C vs H Q E := by
  obtain ⟨lk, G, a, m, q, rfl, S, sm, hl, hf, k⟩ := of1 h
  refine ⟨G, a, m, rfl, S rfl, hl, fun H' x => ?_⟩
  obtain ⟨G2, x2, s2⟩ := toX sm x
  exact k _ _ _ _ hf x2 (.int _)
def fKinds : Pr → (U → Prop) → Prop := fun m q => q (.lst ((m.map (·.1)).map U.str))
theorem cv_LotKinds (h : spN false (pf1 C fKinds) vs H Q E) : spLotKinds C vs H Q E := by
  obtain ⟨lk, G, a, m, q, rfl, S, sm, hl, hf, k⟩ := of1N h
  refine ⟨G, a, m, rfl, S rfl, hl, fun H' l x hn ho => ?_⟩
  obtain ⟨x2, s2⟩ := Xt.of_ex sm (Same.refl G) x (fun b z => z.elim)
  have e : (fun b => (G b).or (G b)) = G := by funext b; cases G b <;> rfl
  rw [e] at x2
  exact k _ G H' l _ hf x2 hn (sm.free hn) ho (.lst (repA_str _))
def pfK (C : Addr) (f : Pr → Str → (U → Prop) → Prop) : Pf := fun us q => ∃ m k, us = [lotU C m, .str k] ∧ f m k q
theorem hl_K {f : Pr → Str → (U → Prop) → Prop} : ∀ us q, pfK C f us q → us.length = 2 := by rintro us q ⟨m, _, rfl, _⟩; rfl
def fGet : Pr → Str → (U → Prop) → Prop := fun m k q => q (.int (lk m k))
theorem cv_LotGet (h : spU false (pfK C fGet) vs H Q E) : spLotGet C vs H Q E := by
  obtain ⟨lk, G, us, q, nl, sm, r, ⟨m, n, rfl, hf⟩, k⟩ := h
  cases r with
  | cons r1 r =>
    cases r with
    | cons r2 r =>
      cases r
      obtain ⟨a, rfl, hl⟩ := of_lotU r1
      have := of_str r2
      subst this
      exact ⟨G, a, m, n, rfl, sm.same (nl rfl), hl, k _ G H _ hf (Xt.refl sm) (.int _)⟩
def fHas : Pr → Str → (U → Prop) → Prop := fun m k q => q (.bl (decide (0 < lk m k)))
theorem cv_LotHas (h : spU false (pfK C fHas) vs H Q E) : spLotHas C vs H Q E := by
  obtain ⟨lk, G, us, q, nl, sm, r, ⟨m, n, rfl, hf⟩, k⟩ := h
  cases r with
  | cons r1 r =>
    cases r with
    | cons r2 r =>
      cases r
      obtain ⟨a, rfl, hl⟩ := of_lotU r1
      have := of_str r2
      subst this
      exact ⟨G, a, m, n, rfl, sm.same (nl rfl), hl, k _ G H _ hf (Xt.refl sm) (.bl _)⟩
def fWithin : Pr → Pr → (U → Prop) → Prop := fun m n q => q (.bl (m.all fun p => decide (p.2 ≤ lk n p.1)))
theorem cv_LotWithin (h : spU false (pf2 C fWithin) vs H Q E) : spLotWithin C vs H Q E := by
  obtain ⟨lk, G, a, b, m, n, q, rfl, S, sm, hl, hl2, hf, k⟩ := of2 h
  refine ⟨G, a, b, m, n, rfl, S rfl, hl, hl2, fun G' H' x => ?_⟩
  obtain ⟨G2, x2, s2⟩ := toX sm x
  exact k _ _ _ _ hf x2 (.bl _)
theorem newL {lk : Addr → Prop} {G : Hp} {m : Pr} {q : U → Prop} (sm : Sm lk G H) (hf : q (lotU C m)) (k : ∀ u G' H' a o, q u → Xt No lk G H G' H' → H a = none → G' a = none → H' a = some o → RepO G' o u → Q (.ref a) H') : NewLot C G H m Q := fun G' H' x ex hx hl => by
  obtain ⟨G2, o, x2, g2, ho, r⟩ := new_lot sm ex hx hl
  exact k _ G2 H' x o hf x2 hx g2 ho r
def fAdd (C : Addr) : Pr → Pr → (U → Prop) → Prop := fun m n q => ∃ Ks : List Str, Ks.length < 64 ∧ (∀ p ∈ m, p.1 ∈ Ks) ∧ (∀ p ∈ n, p.1 ∈ Ks) ∧ q (lotU C (mkLot (m ++ n)))
theorem cv_LotAdd (h : spN false (pf2 C (fAdd C)) vs H Q E) : spLotAdd C vs H Q E := by
  obtain ⟨lk, G, a, b, m, n, q, rfl, S, sm, hl, hl2, ⟨Ks, h1, h2, h3, hf⟩, k⟩ := of2N h
  exact ⟨G, a, b, m, n, Ks, rfl, S rfl, hl, hl2, h1, h2, h3, newL sm hf k⟩
def fSub (C : Addr) : Pr → Pr → (U → Prop) → Prop := fun m n q => (∀ k, lk n k ≤ lk m k) ∧ q (lotU C (mkLot (m.map fun p => (p.1, p.2 - lk n p.1))))
theorem cv_LotSub (h : spN false (pf2 C (fSub C)) vs H Q E) : spLotSub C vs H Q E := by
  obtain ⟨lk, G, a, b, m, n, q, rfl, S, sm, hl, hl2, ⟨h1, hf⟩, k⟩ := of2N h
  exact ⟨G, a, b, m, n, rfl, S rfl, hl, hl2, h1, newL sm hf k⟩
def fAnd (C : Addr) : Pr → Pr → (U → Prop) → Prop := fun m n q => q (lotU C (mkLot (m.map fun p => (p.1, min p.2 (lk n p.1)))))
theorem cv_LotAnd (h : spN false (pf2 C (fAnd C)) vs H Q E) : spLotAnd C vs H Q E := by
  obtain ⟨lk, G, a, b, m, n, q, rfl, S, sm, hl, hl2, hf, k⟩ := of2N h
  exact ⟨G, a, b, m, n, rfl, S rfl, hl, hl2, newL sm hf k⟩
def pfI (C : Addr) (f : Pr → Int → (U → Prop) → Prop) : Pf := fun us q => ∃ m i, us = [lotU C m, .int i] ∧ f m i q
theorem hl_I {f : Pr → Int → (U → Prop) → Prop} : ∀ us q, pfI C f us q → us.length = 2 := by rintro us q ⟨m, _, rfl, _⟩; rfl
def fMul (C : Addr) : Pr → Int → (U → Prop) → Prop := fun m t q => 0 ≤ t ∧ (∀ p ∈ m, p.2.natAbs < 2 ^ 400) ∧ t.natAbs < 2 ^ 400 ∧ q (lotU C (mkLot (m.map fun p => (p.1, p.2 * t))))
theorem cv_LotMul (h : spN false (pfI C (fMul C)) vs H Q E) : spLotMul C vs H Q E := by
  obtain ⟨lk, G, us, q, nl, sm, r, ⟨m, n, rfl, h1, h2, h3, hf⟩, k⟩ := h
  cases r with
  | cons r1 r =>
    cases r with
    | cons r2 r =>
      cases r
      obtain ⟨a, rfl, hl⟩ := of_lotU r1
      have := of_int r2
      subst this
      exact ⟨G, a, m, n, rfl, sm.same (nl rfl), hl, h1, h2, h3, newL sm hf k⟩
/-- Lot(pairs) -/
theorem rn_lot {ms : List Md} {T : Nat} {te : TE} {ue : UE} (h : RE false ms T te ue) : RN false ms T (tMake C (spLotInit K C) [] E (tCons te tNil)) (fun env q => ue env fun x => ∃ (ps : Pr) (Ks : List Str), (x = .lst (sU ps) ∨ x = .tup (sU ps)) ∧ (∀ p ∈ ps, 0 ≤ p.2) ∧ Ks.length < 64 ∧ (∀ p ∈ ps, p.1 ∈ Ks) ∧ ps.length ≤ 10000 ∧ q (lotU C (mkLot ps))) := fun F B env σ G H S q Q hu k =>
  h F B env σ G H S _ _ hu fun u v G1 H1 hq x1 S1 r1 => by
    obtain ⟨ps, Ks, hx, h1, h2, h3, h4, hq⟩ := hq
    have sm := S1.sm.same (S1.nl rfl)
    refine make_lotR (Ks := Ks) sm ?_ h1 h2 h3 h4 fun G' H' x ex hx hl => ?_
    · rcases hx with rfl | rfl
      · right; have := r1.rp (isDs_sU ps); rw [toD, toDs_sU] at this; exact this
      · left; have := r1.rp (isDs_sU ps); rw [toD, toDs_sU] at this; exact this
    · obtain ⟨G2, o, x2, g2, ho, r⟩ := new_lot S1.sm ex hx hl
      exact k _ x o G2 H' hq (x1.trans x2.on) (S1.go x2) (x1.f _ hx) g2 ho r
end
end Va

namespace Kt
open PySem L2 PySem.W
/-- e.f, e a kept exception of whatever own class -/
def tXfA (K : PySem.W.Frag) (f : Str) (te : TE) : TE := fun σ H Q => te σ H fun x H1 => ∃ (a C dd : Addr) (fs : List (Str × V)) (v : V), x = .ref a ∧ XfC K C ∧ findIn K (.ref C) f = some none ∧ H1 a = some (exT a (.ref C) (some dd)) ∧ H1 dd = some (.xd fs) ∧ fs.lookup f = some v ∧ Q v H1
theorem pe_xfA {X : Cx} {K : PySem.W.Frag} {e : Expr} {te : TE} {pos : Pos} {n : Str} (he : PE X e te) (hb : attributeBase e n X.env (eval e X.env) = eval e X.env := by rfl) (hK : X.K = K := by rfl) : PE X (.Attribute e n pos) (tXfA K n te) := by
  subst hK
  refine ⟨fun pins s σ H Q I h => attr_of hb (thn (he.run pins s σ H _ I h) ?_)⟩
  rintro u s1 ⟨x, H1, I1, rx, a, C, dd, fs, v, rfl, T, hno, ha, hdd, l, q⟩

  cases (show u = Value.ref a from rx)
  obtain ⟨⟨oe, vs, hget, hz, hv⟩, _, _⟩ := I1.hok a _ ha
  obtain ⟨mA, hns, hr⟩ := (show ObjOk X.prog X.w H1 s1.heap dd (.xd fs) from I1.hok dd _ hdd)
  obtain ⟨od, ho, hl⟩ := lookIn_ns hns
  obtain ⟨w, hw, rw'⟩ := RelO.some_of (v := v) (o := mA n) (by rw [← l]; exact hr n)
  have J : PySem.W.InstAt s1.heap a oe C (some od) := ⟨hget, hz.1, by unfold PySem.W.notCls; rw [hv], by rw [hz.2]; exact ho⟩
  exact HandSPX.exc_get I1.kIn J T.ga T.gg T.exC (PySem.W.findObj_own T.hdC hno rfl (by rw [hl, hw])) (handed_of rw') ⟨v, H1, I1.tok _, rw', q⟩
/-- isinstance of a kept exception, with a dict or without -/
def rIsX (K : PySem.W.Frag) : List V → Hp → VK → Prop := fun xs H Q => rIsTD K xs H Q ∨ rIsT K xs H Q
theorem call_isX {X : Cx} (K : PySem.W.Frag) (hK : X.K = K := by rfl) : CallR X (.builtin "isinstance") (rIsX K) := by
  intro pins s σ H xs us Q I r h
  rcases h with h | h
  · exact call_isTD K hK pins s σ H xs us Q I r h
  · exact call_isT K hK pins s σ H xs us Q I r h
end Kt
namespace Va
open PySem L2 Kt LM DO PyProof.Rows
theorem RepF.look {G : Hp} {f : Str} : ∀ {r : List (Str × V)} {t : List (Str × U)} {u : U}, RepF G r t → t.lookup f = some u → ∃ v, r.lookup f = some v ∧ Rep G v u
  | _, _, _, .nil, e => by cases e
  | _, _, u, .cons (x := x) h r, e => by
    rw [List.lookup_cons] at e ⊢
    by_cases hx : (f == x) = true
    · rw [hx] at e ⊢; cases e; exact ⟨_, rfl, h⟩
    · rw [Bool.eq_false_iff.mpr hx] at e ⊢; exact r.look e
theorem RepF.app {G : Hp} : ∀ {r r' : List (Str × V)} {t t' : List (Str × U)}, RepF G r t → RepF G r' t' → RepF G (r ++ r') (t ++ t')
  | _, _, _, _, .nil, s => s
  | _, _, _, _, .cons h r, s => .cons h (r.app s)
theorem repF_zip {G : Hp} : ∀ {ns : List Str} {vs : List V} {us : List U}, RepA G vs us → RepF G (ns.zip vs).reverse (ns.zip us).reverse
  | [], _, _, _ => .nil
  | _ :: _, _, _, .nil => .nil
  | n :: ns, _, _, .cons h r => by
    rw [List.zip_cons_cons, List.zip_cons_cons, List.reverse_cons, List.reverse_cons]
    exact (repF_zip r).app (.cons h .nil)
/-- a kept exception of the class at C with its fields; one without an own dict -/
def xdU (C : Addr) (fs : List (Str × U)) : U := .obj fun G v => ∃ a dd vs, v = .ref a ∧ G a = some (exT a (.ref C) (some dd)) ∧ G dd = some (.xd vs) ∧ RepF G vs fs
def x0U (C : Addr) : U := .obj fun G v => ∃ a, v = .ref a ∧ G a = some (exT a (.ref C) none)
theorem rep_xdU {C : Addr} {fs : List (Str × U)} {G : Hp} {a dd : Addr} {vs : List (Str × V)} (h1 : G a = some (exT a (.ref C) (some dd))) (h2 : G dd = some (.xd vs)) (h3 : RepF G vs fs) : Rep G (.ref a) (xdU C fs) :=
  .obj (fun G1 G2 v s ⟨a, dd, vs, e, h1, h2, h3⟩ => ⟨a, dd, vs, e, s _ _ h1, s _ _ h2, h3.mono s⟩) ⟨a, dd, vs, rfl, h1, h2, h3⟩
theorem rep_x0U {C : Addr} {G : Hp} {a : Addr} (h1 : G a = some (exT a (.ref C) none)) : Rep G (.ref a) (x0U C) :=
  .obj (fun G1 G2 v s ⟨a, e, h1⟩ => ⟨a, e, s _ _ h1⟩) ⟨a, rfl, h1⟩
theorem of_xdU {C : Addr} {fs : List (Str × U)} {G : Hp} {v : V} (h : Rep G v (xdU C fs)) : ∃ a dd vs, v = .ref a ∧ G a = some (exT a (.ref C) (some dd)) ∧ G dd = some (.xd vs) ∧ RepF G vs fs := by
  cases h with
  | obj _ h => exact h
theorem of_x0U {C : Addr} {G : Hp} {v : V} (h : Rep G v (x0U C)) : ∃ a, v = .ref a ∧ G a = some (exT a (.ref C) none) := by
  cases h with
  | obj _ h => exact h
theorem exT_nd {a : Addr} {c : Value} {d : Option Addr} : ∀ kvs, exT a c d ≠ .dK kvs := fun _ z => by cases z
section
variable {L : Bool} {ms : List Md} {T Ta Tb : Nat} {te : TE} {ue : UE} {tA tk : TA} {uA : UA} {C : Addr} {ns : List Str} {K : PySem.W.Frag} {f : Str}
/-- an exception is made: told of at once -/
theorem made {F : Fr} {B : Nat} {env : List U} {σ : L2.St} {G H : Hp} {d a : Addr} {vs : List (Str × V)} {fs : List (Str × U)} (S : Sta F L B ms env σ G H) (hd : H d = none) (ha : upd H d (.xd vs) a = none) (r : RepF G vs fs) :
    ∃ G2, Xt No F.lk G H G2 (upd (upd H d (.xd vs)) a (exT a (.ref C) (some d))) ∧ Rep G2 (.ref a) (xdU C fs) := by
  have x1 : Xt No F.lk G H (upd G d (.xd vs)) (upd H d (.xd vs)) := Xt.new S.sm hd
  have x2 : Xt No F.lk (upd G d (.xd vs)) (upd H d (.xd vs)) (upd (upd G d (.xd vs)) a (exT a (.ref C) (some d))) (upd (upd H d (.xd vs)) a (exT a (.ref C) (some d))) := Xt.new x1.s ha
  exact ⟨_, x1.trans x2, rep_xdU upd_same (x2.g _ _ upd_same) (r.mono (x1.g.trans x2.g))⟩
theorem re_exc (h : RA L ms T tA uA) : RE L ms T (tExc (tMkO C (spIni C ns) [] tA)) (fun env q => uA env fun us => us.length = ns.length ∧ us.length ≤ 1000 ∧ q (xdU C (ns.zip us).reverse)) := fun F B env σ G H S q Q hu k =>
  h F B env σ G H S _ _ hu fun us vs G1 H1 hq x1 S1 r1 => by
    refine mk_ini (C := C) (ns := ns) (ys := vs) (H1 := H1) (Q := fun cls d H1 => ∀ a, H1 a = none → Q (.ref a) (upd H1 a (exT a cls d))) (by rw [r1.length]; exact hq.1) (by rw [r1.length]; exact hq.2.1) fun d hd a ha => ?_
    obtain ⟨G2, x2, r2⟩ := made (C := C) S1 hd ha (repF_zip r1)
    exact k _ _ G2 _ hq.2.2 (x1.trans x2.on) (S1.go x2) r2
/-- by one keyword -/
theorem re_excK (h : RA L ms T tA uA) {gV : List V → List V → List V} (hg : ∀ vs zs, gV vs zs = vs ++ zs := by intros; rfl) {m : Nat} : RE L ms T (tExc (tMkK C m (spIni C ns) gV tA)) (fun env q => uA env fun us => us.length = m ∧ us.length = ns.length ∧ us.length ≤ 1000 ∧ q (xdU C (ns.zip us).reverse)) := fun F B env σ G H S q Q hu k =>
  h F B env σ G H S _ _ hu fun us vs G1 H1 hq x1 S1 r1 => by
    have hm := mk_ini (C := C) (ns := ns) (ys := vs) (H1 := H1) (Q := fun cls d H1 => ∀ a, H1 a = none → Q (.ref a) (upd H1 a (exT a cls d))) (by rw [r1.length]; exact hq.2.1) (by rw [r1.length]; exact hq.2.2.1) fun d hd a ha => by
      obtain ⟨G2, x2, r2⟩ := made (C := C) S1 hd ha (repF_zip r1)
      exact k _ _ G2 _ hq.2.2.2 (x1.trans x2.on) (S1.go x2) r2
    refine ⟨by rw [r1.length]; exact hq.1, fun a ha => ?_⟩
    have := hm.2 a ha
    rw [List.append_nil] at this
    rw [hg]
    exact this
/-- by two keywords, the second one first -/
theorem re_excS (h : RA L ms T tA uA) {gV : List V → List V → List V} (hg : ∀ s x y, gV [s] [x, y] = [s, y, x] := by intros; rfl) {m : Nat} : RE L ms T (tExc (tMkK C m (spIni C ns) gV tA)) (fun env q => uA env fun us => ∃ x y, us = [x, y] ∧ m = 2 ∧ ns.length = 2 ∧ q (xdU C (ns.zip [y, x]).reverse)) := fun F B env σ G H S q Q hu k =>
  h F B env σ G H S _ _ hu fun us vs G1 H1 hq x1 S1 r1 => by
    obtain ⟨x, y, rfl, hm2, hn, hq⟩ := hq
    cases r1 with
    | cons ra r1 =>
      cases r1 with
      | cons rb r1 =>
        cases r1
        rename_i v w
        have hm := mk_ini (C := C) (ns := ns) (ys := [w, v]) (H1 := H1) (Q := fun cls d H1 => ∀ a, H1 a = none → Q (.ref a) (upd H1 a (exT a cls d))) (by rw [hn]; rfl) (by simp) fun d hd a ha => by
          obtain ⟨G2, x2, r2⟩ := made (C := C) S1 hd ha (repF_zip (ns := ns) (.cons rb (.cons ra .nil)))
          exact k _ _ G2 _ hq (x1.trans x2.on) (S1.go x2) r2
        refine ⟨hm2.symm, fun a ha => ?_⟩
        have := hm.2 a ha
        rw [List.append_nil] at this
        rw [hg]
        exact this
theorem re_exc0 : RE L ms 0 (tExc (fun _ H Q => Q (.ref C) none H)) (fun _ q => q (x0U C)) := fun F B env σ G H S q Q hu k a ha => by
  have x2 : Xt No F.lk G H (upd G a (exT a (.ref C) none)) (upd H a (exT a (.ref C) none)) := Xt.new S.sm ha
  exact k _ _ _ _ hu x2.on ((S.le (by omega)).go x2) (rep_x0U upd_same)
theorem re_xf (h : RE L ms T te ue) : RE L ms T (tXfA K f te) (fun env q => ue env fun x => ∃ C fs u, x = xdU C fs ∧ XfC K C ∧ PySem.W.findIn K (.ref C) f = some none ∧ fs.lookup f = some u ∧ q u) := fun F B env σ G H S q Q hu k =>
  h F B env σ G H S _ _ hu fun u v G1 H1 hq x1 S1 r1 => by
    obtain ⟨C, fs, w, rfl, hx, hn, hl, hq⟩ := hq
    obtain ⟨a, dd, vs, rfl, g1, g2, rf⟩ := of_xdU r1
    obtain ⟨y, hy, ry⟩ := rf.look hl
    exact ⟨a, C, dd, vs, y, rfl, hx, hn, S1.sm.get g1 exT_nd, S1.sm.get g2 (by intro _ z; cases z), hy, k _ _ G1 H1 hq x1 S1 ry⟩
/-- an exception of the class at D -/
def IsX (D : Addr) (x : U) : Prop := (∃ fs, x = xdU D fs) ∨ x = x0U D
theorem re_isX {c : V} (h : RE L ms T te ue) : RE L ms T (tCB (rIsX K) (tCons te (tCons (tC c) tNil))) (fun env q => ue env fun x => ∃ D cv b, IsX D x ∧ ExcC K D ∧ ClsV c cv ∧ PySem.W.kitOne K (.ref D) cv = some b ∧ q (.bl b)) := fun F B env σ G H S q Q hu k =>
  h F B env σ G H S _ _ hu fun u v G1 H1 hq x1 S1 r1 => by
    obtain ⟨D, cv, b, hx, he, hc, hk, hq⟩ := hq
    rcases hx with ⟨fs, rfl⟩ | rfl
    · obtain ⟨a, dd, vs, rfl, g1, g2, rf⟩ := of_xdU r1
      exact .inl ⟨a, D, dd, vs, c, cv, b, rfl, S1.sm.get g1 exT_nd, S1.sm.get g2 (by intro _ z; cases z), he, hc, hk, k _ _ G1 H1 hq x1 S1 (.bl _)⟩
    · obtain ⟨a, rfl, g1⟩ := of_x0U r1
      exact .inr ⟨a, D, c, cv, b, rfl, S1.sm.get g1 exT_nd, he, hc, hk, k _ _ G1 H1 hq x1 S1 (.bl _)⟩
/-- two lists of unlike lengths -/
theorem ro_eqLen : RO L OO.rEqLen (fun x y q => ∃ us ws, x = .lst us ∧ y = .lst ws ∧ us.length ≠ ws.length ∧ q (.bl false)) := by
  intro F G H x y u w s _ r1 r2 q Q hu k
  obtain ⟨us, ws, rfl, rfl, hz, hq⟩ := hu
  obtain ⟨a, xs, rfl, ho, ra⟩ := r1.lst s
  obtain ⟨b, ys, rfl, hp, rb⟩ := r2.lst s
  exact ⟨a, b, xs, ys, rfl, rfl, ho, hp, by rw [ra.length, rb.length]; exact hz, k _ _ G H hq (Xt.refl s) (.bl _)⟩
end
end Va
namespace Kt
open PySem L2
def app2 {α : Type} (us ws : List α) : List α := us ++ ws
def swp {α : Type} : List α → List α → List α
  | [s], [x, y] => [s, y, x]
  | a, b => a ++ b
theorem kb_app2 {K : PySem.W.Frag} {fd : FuncData} {ps ks : List Str} (h : ∀ (s : Value) (ws : List Value), ws.length = ks.length → bindArgs fd ⟨[s], ks.zip ws⟩ = pure (ps.zip (s :: ws))) : KBn K fd ps 1 ks app2 app2 where
  to s us ws X l1 l2 := by
    match us, l1 with
    | [a], _ => exact .of_eq (h a ws l2)
  rel r1 r2 := r1.append r2
theorem kb_swp {K : PySem.W.Frag} {fd : FuncData} {ps ks : List Str} (h : ∀ (s : Value) (ws : List Value), ws.length = 2 → bindArgs fd ⟨[s], ks.zip ws⟩ = pure (ps.zip (swp [s] ws))) (hk : ks.length = 2 := by rfl) : KBn K fd ps 1 ks swp swp where
  to s us ws X l1 l2 := by
    match us, l1 with
    | [a], _ => exact .of_eq (h a ws (l2.trans hk))
  rel := by
    intro vs us zs ws r1 r2
    cases r1 with
    | nil => exact r2
    | cons h1 r1 =>
      cases r1 with
      | cons h2 r1 => exact Vals.append (Paired.cons h1 (Paired.cons h2 r1)) r2
      | nil =>
        cases r2 with
        | nil => exact .cons h1 .nil
        | cons h3 r2 =>
          cases r2 with
          | nil => exact .cons h1 (.cons h3 .nil)
          | cons h4 r2 =>
            cases r2 with
            | nil => exact .cons h1 (.cons h4 (.cons h3 .nil))
            | cons h5 r2 => exact .cons h1 (.cons h3 (.cons h4 (.cons h5 r2)))
end Kt
namespace Va
open PySem L2 Kt LM DO PyProof.Rows
/-- a comprehension that says of each item alone whether it is taken and what comes of it -/
theorem lc_pure {us : List U} {ug : UG} {ut : UT} {ue : UE} {env : List U} {q : U → Prop} (p : U → Bool) (f : U → U)
    (h : ∀ (i : Nat) x, us[i]? = some x → ∀ (Q : U → Prop) (N : Prop), (p x = true → Q (f x)) → (p x = false → N) → ug x env fun env1 => ut env1 fun b => if b = true then ue env1 Q else N)
    (hq : q (.lst ((us.filter p).map f))) : lcU us ug ut ue env q := by
  refine ⟨fun i acc => acc = ((us.take i).filter p).map f, rfl, fun i x acc hx hI _ => ?_, fun acc hI _ => ?_⟩
  · refine h i x hx _ _ (fun hp => ?_) (fun hp => ?_)
    · show acc ++ [f x] = ((us.take (i + 1)).filter p).map f
      rw [show acc = _ from hI, List.take_add_one, hx]; simp [hp]
    · show acc = ((us.take (i + 1)).filter p).map f
      rw [show acc = _ from hI, List.take_add_one, hx]; simp [hp]
  · rw [show acc = _ from hI, List.take_of_length_le (Nat.le_refl _)]; exact hq
theorem szz {n : Nat} (h : Nat.ble n 100000 = true) : n ≤ 100000 := Nat.le_of_ble_eq_true h
theorem lc_map {us : List U} {ug : UG} {ut : UT} {ue : UE} {env : List U} {q : U → Prop} (f : U → U)
    (h : ∀ (i : Nat) x, us[i]? = some x → ∀ Q : U → Prop, Q (f x) → ug x env fun env1 => ut env1 fun b => b = true ∧ ue env1 Q)
    (hm : ∀ (x : U) (Q : U → Prop) (N : Prop), (ug x env fun env1 => ut env1 fun b => b = true ∧ ue env1 Q) → ug x env fun env1 => ut env1 fun b => if b = true then ue env1 Q else N)
    (hq : q (.lst (us.map f))) : lcU us ug ut ue env q := by
  refine lc_pure (fun _ => true) f (fun i x hx Q N h1 _ => hm x Q N (h i x hx Q (h1 rfl))) ?_
  rw [List.filter_eq_self.mpr (fun _ _ => rfl)]; exact hq
end Va
namespace Va
open PySem L2 Kt LM DO PyProof.Rows
def pfTrue : Pf := fun us q => us = [] ∧ q (.bl true)
theorem hl_true : ∀ us q, pfTrue us q → us.length = 0 := by rintro us q ⟨rfl, _⟩; rfl
/-- the law's check of one box that is new -/
def spRight0 : Sp := fun vs H Q _ => ∃ (G : Hp) (p : Addr) (c : Int), vs = [.ref p] ∧ Sx G H p c ∧ c < 2 ^ 10 ∧
  ∀ G' H' c', Ex (On p) G H G' H' → Sx G' H' p c' → Q (.bl true) H'
theorem cv_right {T : Nat} (hT : T ≤ 2 ^ 49) {vs : List V} {H : Hp} {Q : VK} {E : XK} (h : spRight0 vs H Q E) : spB false T pfTrue vs H Q E := by
  obtain ⟨G, p, c, rfl, S, hc, k⟩ := h
  have hl : lim = 2 ^ 50 := rfl
  refine ⟨No, G, [], (· = .bl true), p, [], c, rfl, fun _ _ z => z, Sm.of S.s, S.n, S.b, by rw [hl]; omega, .nil, ⟨rfl, rfl⟩, fun u G' H' v c' hq x b hc' r => ?_⟩
  subst hq
  have := of_bl r
  subst this
  have sm : Same G' H' := x.s.same fun _ z => z
  exact k G' H' c' ⟨x.g, x.h, sm, x.n, x.f⟩ ⟨sm, b, x.un S.n S.b.ne⟩
end Va
namespace Kt
open PySem L2
theorem exm_of_kit {K : PySem.W.Frag} {D : Addr} {T : String} {v : Bool} (hb : (PySem.W.subIn K (.type T) (.type "BaseException") == some true) = true) (h : PySem.W.kitOne K (.ref D) (.type T) = some v) : PySem.W.exmOne K (.ref D) (.type T) = some v := by
  unfold PySem.W.exmOne
  rw [if_pos hb]
  unfold PySem.W.kitOne at h
  rw [if_neg (by intro z; cases (beq_iff_eq.mp z))] at h
  exact h
end Kt
namespace Kt
open PySem L2
/-- an exception with fields is made, whatever is wished of it -/
theorem mkO_run {C : Addr} {ns : List Str} {ta : TA} {σ : L2.St} {H H1 : Hp} {Q : XK} {ys : List V} (hta : ∀ R : List V → Hp → Prop, R ys H1 → ta σ H R) (h1 : ys.length = ns.length) (h2 : ys.length ≤ 1000)
    (h3 : ∀ d, H1 d = none → Q (.ref C) (some d) (upd H1 d (.xd (ns.zip ys).reverse))) : tMkO C (spIni C ns) [] ta σ H Q := hta _ (mk_ini h1 h2 h3)
end Kt

namespace Va
open PySem L2 Kt LM DO PyProof.Rows
/-- a dict of numbers by texts -/
def kdU (d : Pr) : List (Key × U) := d.map fun p => (Sum.inr p.1, .int p.2)
theorem valU_d (d : Pr) (k : Str) : valU (kdU d) (Sum.inr k) = (look d k).map U.int := by
  unfold valU kdU
  induction d with
  | nil => rfl
  | cons p d ih =>
    rw [List.map_cons, List.find?_cons]
    by_cases h : p.1 = k
    · subst h
      simp [look]
    · have h1 : decide ((Sum.inr p.1 : Key) = Sum.inr k) = false := by simp [h]
      simp only [h1, look, h, if_false]; exact ih
theorem anyU_d (d : Pr) (k : Str) : ((kdU d).any fun p => decide (p.1 = (Sum.inr k : Key))) = decide (k ∈ d.map (·.1)) := by
  unfold kdU
  induction d with
  | nil => rfl
  | cons p d ih =>
    rw [List.map_cons, List.any_cons, ih, List.map_cons]
    by_cases h : p.1 = k
    · simp [h]
    · have : ¬ k = p.1 := fun e => h e.symm
      simp [h, this]
theorem putU_d (d : Pr) (k : Str) (n : Int) : putU (kdU d) (Sum.inr k) (.int n) = kdU (putD d k n) := by
  unfold putU putD
  rw [anyU_d]
  by_cases h : k ∈ d.map (·.1)
  · rw [if_pos (decide_eq_true h), if_pos h]
    unfold kdU
    rw [List.map_map, List.map_map]
    refine List.map_congr_left fun p _ => ?_
    by_cases e : p.1 = k
    · simp [e]
    · simp [e]
  · rw [if_neg (by simpa using h), if_neg h]
    unfold kdU; rw [List.map_append]; rfl
theorem hasU_d (d : Pr) (k : Str) : (valU (kdU d) (Sum.inr k)).isSome = (look d k).isSome := by rw [valU_d]; cases look d k <;> rfl
theorem getU_d (d : Pr) (k : Str) : (valU (kdU d) (Sum.inr k)).getD (.int 0) = .int ((look d k).getD 0) := by rw [valU_d]; cases look d k <;> rfl
theorem kdU_len (d : Pr) : (kdU d).length = d.length := List.length_map _
theorem kdU_keys (d : Pr) : (kdU d).map (fun p => kU p.1) = d.map fun p => U.str p.1 := by unfold kdU; rw [List.map_map]; rfl
/-- a list comprehension over a list that is told by a map -/
theorem lc_idxF {α : Type} {l : List α} {f : α → U} {ug : UG} {ut : UT} {ue : UE} {env : List U} {q : U → Prop} (p : α → Bool) (g : α → U)
    (h : ∀ (i : Nat) a, l[i]? = some a → ∀ (Q : U → Prop) (N : Prop), (p a = true → Q (g a)) → (p a = false → N) → ug (f a) env fun env1 => ut env1 fun b => if b = true then ue env1 Q else N)
    (hq : q (.lst ((l.filter p).map g))) : lcU (l.map f) ug ut ue env q := by
  refine ⟨fun i acc => acc = ((l.take i).filter p).map g, rfl, fun i x acc hx hI _ => ?_, fun acc hI _ => ?_⟩
  · rw [List.getElem?_map] at hx
    obtain ⟨a, ha, rfl⟩ := Option.map_eq_some_iff.mp hx
    refine h i a ha _ _ (fun hp => ?_) (fun hp => ?_)
    · show acc ++ [g a] = ((l.take (i + 1)).filter p).map g
      rw [show acc = _ from hI, List.take_add_one, ha]; simp [hp]
    · show acc = ((l.take (i + 1)).filter p).map g
      rw [show acc = _ from hI, List.take_add_one, ha]; simp [hp]
  · rw [show acc = _ from hI, List.length_map, List.take_of_length_le (Nat.le_refl _)]; exact hq
theorem lc_idx {α : Type} {l : List α} {f : α → U} {ug : UG} {ut : UT} {ue : UE} {env : List U} {q : U → Prop} (g : α → U)
    (h : ∀ (i : Nat) a, l[i]? = some a → ∀ (Q : U → Prop) (N : Prop), Q (g a) → ug (f a) env fun env1 => ut env1 fun b => if b = true then ue env1 Q else N)
    (hq : q (.lst (l.map g))) : lcU (l.map f) ug ut ue env q := by
  refine lc_idxF (fun _ => true) g (fun i a ha Q N h1 _ => h i a ha Q N (h1 rfl)) ?_
  rw [List.filter_eq_self.mpr (fun _ _ => rfl)]; exact hq
theorem lotD_le (m : Pr) : (lotD m).length ≤ m.length := by
  unfold lotD
  have h := mk_len (ps := m.filter fun p => decide (0 < p.2)) (Ks := m.map (·.1)) (fun x hx => by have := (List.mem_filter.mp hx).2; have := of_decide_eq_true this; omega) (fun x hx => List.mem_map_of_mem (List.mem_filter.mp hx).1)
  rwa [List.length_map] at h
theorem tallyFrom_take {d ps : Pr} {i : Nat} {p : Str × Int} (h : ps[i]? = some p) : tallyFrom d (ps.take (i + 1)) = putD (tallyFrom d (ps.take i)) p.1 ((look (tallyFrom d (ps.take i)) p.1).getD 0 + p.2) := by
  unfold tallyFrom
  rw [List.take_add_one, h, Option.toList_some, List.foldl_append]; rfl
theorem tallyFrom_len (ps : Pr) : ∀ d : Pr, (tallyFrom d ps).length ≤ d.length + ps.length := by
  induction ps with
  | nil => intro d; exact Nat.le_refl _
  | cons p r ih =>
    intro d
    have h1 := ih (putD d p.1 ((look d p.1).getD 0 + p.2))
    have h2 := putD_length d p.1 ((look d p.1).getD 0 + p.2)
    rw [List.length_cons]
    show (tallyFrom (putD d p.1 ((look d p.1).getD 0 + p.2)) r).length ≤ _
    omega
theorem tallyFrom_nodup (ps : Pr) : ∀ d : Pr, (d.map (·.1)).Nodup → ((tallyFrom d ps).map (·.1)).Nodup := by
  induction ps with
  | nil => intro d h; exact h
  | cons p r ih => intro d h; exact ih _ (putD_nodup h _ _)
/-- a list of texts, put in order -/
def pfRisS : Pf := fun us q => ∃ ks : List Str, us = [.lst (ks.map .str)] ∧ ks.length ≤ 1000 ∧ (∀ k ∈ ks, SeqAt.shaped (.str k) = true) ∧ ∀ js : List Str, js.Perm ks → js.Pairwise (fun a b => slt b a = false) → q (.lst (js.map .str))
theorem hl_risS : ∀ us q, pfRisS us q → us.length = 1 := by rintro us q ⟨ks, rfl, _⟩; rfl
end Va
namespace Va
open PySem L2 Kt LM DO PyProof.Rows
section
variable {L : Bool}
theorem keys_rep {G : Hp} : ∀ {kvs : List (Key × V)} {us : List (Key × U)}, RepK G kvs us → RepA G (kvs.map fun kv => kV kv.1) (us.map fun p => kU p.1)
  | _, _, .nil => .nil
  | _, _, .cons _ r => .cons (rep_kU _) (keys_rep r)
/-- list(d): its keys -/
def rListD : List V → Hp → VK → Prop := fun xs H Q => ∃ (a : Addr) (kvs : List (Key × V)), xs = [.ref a] ∧ Rd H a (.dK kvs) ∧ ∀ p, H p = none → Q (.ref p) (upd H p (.lst (kvs.map fun kv => kV kv.1)))
theorem rc_listD : RCN L rListD (fun us q => ∃ ds, us = [.dic ds] ∧ q (.lst (ds.map fun p => kU p.1))) := by
  intro F G H xs us s _ r q Q hu k
  obtain ⟨ds, rfl, hq⟩ := hu
  obtain ⟨v, rfl, h⟩ := r.one
  obtain ⟨a, kvs, rfl, hd, rk⟩ := h.dic s
  exact ⟨a, kvs, rfl, hd, fun l hl => k _ l _ G _ hq (Xt.hid s hl) hl (s.free hl) upd_same (.lst (keys_rep rk))⟩
end
def insS (done : List Str) (k : Str) : List Str := done.take (done.filter fun d => !slt k d).length ++ [k] ++ done.drop (done.filter fun d => !slt k d).length
def risS (ks : List Str) : List Str := ks.foldl insS []
theorem insS_cons_le {d k : Str} {r : List Str} (h : slt k d = false) : insS (d :: r) k = d :: insS r k := by
  unfold insS
  rw [List.filter_cons, h]; rfl
theorem insS_cons_gt {d k : Str} {r : List Str} (h : slt k d = true) (hs : ∀ x ∈ r, slt x d = false) : insS (d :: r) k = k :: d :: r := by
  have e : ((d :: r).filter fun x => !slt k x) = [] := by
    rw [List.filter_eq_nil_iff]
    intro x hx
    rcases List.mem_cons.mp hx with rfl | hx
    · simp [h]
    · have h2 := hs x hx
      cases e2 : slt d x with
      | true => simp [slt_tr h e2]
      | false => rw [slt_tri h2 e2]; simp [h]
  unfold insS; rw [e]; rfl
theorem insS_mem {k x : Str} {l : List Str} (h : x ∈ insS l k) : x = k ∨ x ∈ l := by
  unfold insS at h
  rw [List.append_assoc, List.mem_append, List.mem_append, List.mem_singleton] at h
  rcases h with h | h | h
  · exact .inr (List.mem_of_mem_take h)
  · exact .inl h
  · exact .inr (List.mem_of_mem_drop h)
theorem insS_srt {k : Str} : ∀ {l : List Str}, l.Pairwise (fun a b => slt b a = false) → (insS l k).Pairwise (fun a b => slt b a = false)
  | [], _ => by unfold insS; simp
  | d :: r, h => by
    rw [List.pairwise_cons] at h
    cases e : slt k d with
    | false =>
      rw [insS_cons_le e, List.pairwise_cons]
      refine ⟨fun x hx => ?_, insS_srt h.2⟩
      rcases insS_mem hx with rfl | hx
      · exact e
      · exact h.1 x hx
    | true =>
      rw [insS_cons_gt e h.1, List.pairwise_cons, List.pairwise_cons]
      refine ⟨fun x hx => ?_, h⟩
      rcases List.mem_cons.mp hx with rfl | hx
      · exact slt_asym e
      · cases e2 : slt x k with
        | false => rfl
        | true => have := slt_tr e2 e; rw [h.1 x hx] at this; cases this
theorem risS_srt (ks : List Str) : (risS ks).Pairwise (fun a b => slt b a = false) := by
  suffices h : ∀ l : List Str, l.Pairwise (fun a b => slt b a = false) → (ks.foldl insS l).Pairwise (fun a b => slt b a = false) from h [] .nil
  induction ks with
  | nil => exact fun l h => h
  | cons k r ih => exact fun l h => ih _ (insS_srt h)
theorem risD_str (ks : List Str) : risD (ks.map .str) = (risS ks).map .str := by
  suffices h : ∀ l : List Str, (ks.map PyData.str).foldl insD (l.map .str) = (ks.foldl insS l).map .str from h []
  induction ks with
  | nil => exact fun l => rfl
  | cons k r ih =>
    intro l
    rw [List.map_cons, List.foldl_cons, List.foldl_cons, ← ih]
    congr 1
    unfold insD insS
    rw [List.filter_map, List.length_map, show ((fun d => leD d (.str k)) ∘ PyData.str) = fun d => !slt k d from rfl, ← List.map_take, ← List.map_drop, List.map_append, List.map_append]; rfl
theorem risS_perm (ks : List Str) : (risS ks).Perm ks := by
  have h := risD_perm (ks.map .str)
  rw [risD_str] at h
  have h2 := h.map (fun d => match d with | PyData.str x => x | _ => "")
  rw [List.map_map, List.map_map] at h2
  have e : ∀ l : List Str, l.map ((fun d => match d with | PyData.str x => x | _ => "") ∘ PyData.str) = l := fun l => by
    induction l with
    | nil => rfl
    | cons a r ih => rw [List.map_cons, ih]; rfl
  rwa [e, e] at h2
theorem isDs_str (ks : List Str) : isDs (ks.map .str) = true := by
  rw [isDs_eq, List.all_map, List.all_eq_true]; intro x _; rfl
theorem toDs_str (ks : List Str) : toDs (ks.map .str) = ks.map .str := by rw [toDs_eq, List.map_map]; rfl
theorem cv_risS {vs : List V} {H : Hp} {Q : VK} {E : XK} (h : spU false pfRisS vs H Q E) : spRising vs H Q E := by
  obtain ⟨lk, G, us, q, nl, sm, r, ⟨ks, rfl, h2, hsh, hq⟩, k⟩ := h
  cases r with
  | cons r1 r =>
    cases r
    have rp := r1.rp (isDs_str ks)
    rw [toD, toDs_str] at rp
    refine ⟨G, _, ks.map .str, rfl, sm.same (nl rfl), .inl rp, ?_, ?_, by rw [List.length_map]; exact h2, fun G1 H' v x rp => ?_⟩
    · intro d hd
      obtain ⟨x, hx, rfl⟩ := List.mem_map.mp hd
      exact hsh x hx
    · intro d hd e he
      obtain ⟨x, _, rfl⟩ := List.mem_map.mp hd
      obtain ⟨y, _, rfl⟩ := List.mem_map.mp he
      rfl
    obtain ⟨x2, s2⟩ := Xt.of_ex sm (Same.refl G) x (fun b z => z.elim)
    have := (rep_emb rp).mono s2
    rw [risD_str, show emb (.list ((risS ks).map .str)) = .lst ((risS ks).map .str) by rw [emb, embs_eq, List.map_map]; rfl] at this
    exact k _ _ H' v (hq _ (risS_perm ks) (risS_srt ks)) x2 this
theorem putD_key {d : Pr} {k : Str} {n : Int} {x : Str × Int} (h : x ∈ putD d k n) : x.1 = k ∨ x.1 ∈ d.map (·.1) := by
  have h2 : x.1 ∈ (putD d k n).map (·.1) := List.mem_map_of_mem h
  rw [putD_keys] at h2
  split at h2
  · exact .inr h2
  · rcases List.mem_append.mp h2 with h2 | h2
    · exact .inr h2
    · exact .inl (List.mem_singleton.mp h2)
theorem tallyFrom_key (ps : Pr) : ∀ (d : Pr) {x : Str × Int}, x ∈ tallyFrom d ps → x.1 ∈ d.map (·.1) ∨ x.1 ∈ ps.map (·.1) := by
  induction ps with
  | nil => intro d x h; exact .inl (List.mem_map_of_mem h)
  | cons p r ih =>
    intro d x h
    rcases ih (putD d p.1 ((look d p.1).getD 0 + p.2)) h with h | h
    · obtain ⟨y, hy, e⟩ := List.mem_map.mp h
      rcases putD_key hy with h2 | h2
      · right; rw [← e, h2]; exact List.mem_map_of_mem (List.mem_cons_self ..)
      · left; rw [← e]; exact h2
    · right; exact List.mem_map.mpr (by obtain ⟨y, hy, e⟩ := List.mem_map.mp h; exact ⟨y, List.mem_cons_of_mem _ hy, e⟩)
theorem lotD_key {m : Pr} {x : Str × Int} (h : x ∈ lotD m) : x.1 ∈ m.map (·.1) := by
  have h2 := keys_mk (lotD_nn m) h
  obtain ⟨y, hy, e⟩ := List.mem_map.mp h2
  rw [← e]; exact List.mem_map_of_mem (List.mem_filter.mp hy).1
theorem ok_keys {m : Pr} (h : ∀ x ∈ m, PyData.strOk x.1 = true) {k : Str} (hk : k ∈ m.map (·.1)) : PyData.strOk k = true := by
  obtain ⟨y, hy, rfl⟩ := List.mem_map.mp hk
  exact h y hy
/-- whether two lots are one -/
def spLotEq (C : Addr) : Sp := fun vs H Q _ => ∃ (G : Hp) (a b : Addr) (m n : Pr), vs = [.ref a, .ref b] ∧ Same G H ∧ LotAt C G a m ∧ LotAt C G b n ∧ Q (.bl (decide (m = n))) H
theorem allIn_enc (e d : Pr) : OO.allIn (encD e) (encD d) = d.all fun p => decide (look e p.1 = some p.2) := by
  unfold OO.allIn LM.encD
  rw [List.all_map]
  congr 1
  funext p
  show decide ((valV (LM.encD e) (Sum.inr p.1)).bind OO.intV = some p.2) = _
  rw [val_enc]
  cases look e p.1 <;> rfl
theorem eq_lots {d e m n : Pr} (hd : d.Perm m) (he : e.Perm n) (hm : Ok m) (hn : Ok n) : ((encD d).length == (encD e).length && OO.allIn (encD e) (encD d)) = decide (m = n) := by
  have kd : (d.map (·.1)).Nodup := (hd.map _).nodup_iff.mpr hm.keys_nodup
  have ke : (e.map (·.1)).Nodup := (he.map _).nodup_iff.mpr hn.keys_nodup
  rw [allIn_enc, Bool.eq_iff_iff, decide_eq_true_iff, Bool.and_eq_true, beq_iff_eq, List.all_eq_true]
  rw [show (encD d).length = d.length from List.length_map _, show (encD e).length = e.length from List.length_map _]
  constructor
  · rintro ⟨hl, ha⟩
    refine hm.ext hn fun k => ?_
    by_cases h : k ∈ d.map (·.1)
    · obtain ⟨p, hp, rfl⟩ := List.mem_map.mp h
      have h1 := look_some_mem (of_decide_eq_true (ha p hp))
      rw [hm.lk_mem (hd.mem_iff.mp hp), hn.lk_mem (p := p) (he.mem_iff.mp h1)]
    · rw [lk_out (m := m) (k := k) (fun x hx e2 => h (e2 ▸ List.mem_map_of_mem (hd.mem_iff.mpr hx)))]
      by_cases h2 : k ∈ e.map (·.1)
      · have h3 := nodup_sub (l := k :: d.map (·.1)) (m := e.map (·.1)) (List.nodup_cons.mpr ⟨h, kd⟩) fun x hx => by
          rcases List.mem_cons.mp hx with rfl | hx
          · exact h2
          · obtain ⟨p, hp, rfl⟩ := List.mem_map.mp hx
            exact List.mem_map_of_mem (look_some_mem (of_decide_eq_true (ha p hp)))
        rw [List.length_cons, List.length_map, List.length_map] at h3
        omega
      · rw [lk_out (m := n) (k := k) (fun x hx e2 => h2 (e2 ▸ List.mem_map_of_mem (he.mem_iff.mpr hx)))]
  · rintro rfl
    exact ⟨hd.length_eq.trans he.length_eq.symm, fun p hp => decide_eq_true (look_mem ke (he.mem_iff.mpr (hd.mem_iff.mp hp)))⟩
theorem ints_enc (d : Pr) : ∀ p ∈ encD d, (OO.intV p.2).isSome = true := fun p hp => by
  obtain ⟨x, _, rfl⟩ := List.mem_map.mp hp
  rfl
theorem ints_val (d : Pr) : ∀ k v, valV (encD d) k = some v → (OO.intV v).isSome = true := fun k v h => by
  cases k with
  | inr k =>
    rw [val_enc] at h
    obtain ⟨i, _, rfl⟩ := Option.map_eq_some_iff.mp h
    rfl
  | inl i =>
    exfalso
    induction d with
    | nil => cases h
    | cons p r ih =>
      rw [LM.encD, List.map_cons] at h
      rw [valV_neg (fun z => by cases z)] at h
      exact ih h
/-- what tells an instance's class -/
structure TyC (K : PySem.W.Frag) (C : Addr) : Prop where
  cl : Cls K C
  ha : PySem.W.findIn K (.ref C) "__class__" = some (some (.builtin "object.__class__"))
  hn : PySem.W.specialIn K (.builtin "object.__class__") "__get__" = some (some (.builtin "getset_descriptor.__get__"))
  ht : PySem.W.takesIn K (.builtin "object.__class__") = some true
  hm : PySem.W.mroIn K C (.type "object") = some true
theorem TyC.of {K : PySem.W.Frag} {C : Addr} {H : Hp} {a dx : Addr} {fs : List (Str × V)} (t : TyC K C) (e : H a = some (.ins C dx fs)) : TyX K H (.ref a) (.ref C) := .base (.ins e t.cl t.ha t.hn t.ht t.hm)
theorem kit_tyref {K : PySem.W.Frag} {C : Addr} {n : String} {v : Bool} (i : PySem.W.isClsIn K C = true) (t : PySem.W.typeIn K (.ref C) = some (.type "type")) (h : PySem.W.subIn K (.type n) (.ref C) = some v) : PySem.W.kitOne K (.type n) (.ref C) = some v := by
  unfold PySem.W.kitOne
  have e : ¬ ((Value.type n == Value.ref C) = true) := by
    intro z; cases (beq_iff_eq.mp z)
  rw [if_neg e]
  have e : ((PySem.W.clsIn K C).isSome && PySem.W.typeIn K (.ref C) == some (.type "type")) = true := by
    have i' : (PySem.W.clsIn K C).isSome = true := i
    rw [i', t]; rfl
  show (if ((PySem.W.clsIn K C).isSome && PySem.W.typeIn K (.ref C) == some (.type "type")) = true then PySem.W.subIn K (.type n) (.ref C) else none) = some v
  rw [if_pos e, h]
/-- an own class and the tuples -/
structure NoTup (K : PySem.W.Frag) (C : Addr) : Prop where
  s1 : PySem.W.subIn K (.type "tuple") (.ref C) = some false
  s2 : PySem.W.subIn K (.ref C) (.type "tuple") = some false
  ki : PySem.W.kitOne K (.type "tuple") (.ref C) = some false
/-- x == t by the facts of the def -/
theorem met_eqT {X : Cx} {n : Nat} {C f : Addr} {fd : FuncData} {qual : Str} {st : Stmt} {N ps : List Str} {c : Expr} {p1 p2 p3 : Pos} {rest : List Stmt} {tc : TT} (h : MetF X.K C "__eq__" qual st ps f fd) (S : FnScope N ps (defScope st)) (nt : NoTup X.K C) (hps : ps.length = 2)
    (hbd : defBody st = .If c [.Return (some (.Name "NotImplemented" p1)) p2] [] p3 :: rest) (hr : Room (n + 1) X.A)
    (hg : (defScope st).names.lookup ("NotImplemented" : Str) = some .globalImplicit) (hm : X.mg "NotImplemented" = none) (hv : bootBuiltins "NotImplemented" = some .notImplemented)
    (hc : ∀ (cdv : Value) (A : Around) (outer : List Env) (s : Shared) (H : Hp), Room n (A.deeper (envOfC qual (defScope st) s.heap.objs.size f cdv)) → PT (cxOf CX0 X.prog X.w X.K X.mg X.base N qual (defScope st) f cdv A outer s H fun _ _ _ => False).nox c tc) : OpR X (compareOp .Eq) (OO.rEqT C N tc) := by
  obtain ⟨oc, od, dV, kV, doc, pm, an, cdv, ct, osl, e, lk, hcd⟩ := h.F.ex
  have hb := h.b
  rw [e] at lk hb
  rw [hbd] at lk hb
  exact OO.op_eqT lk hcd S hps hr hb h.own hg hm hv (hc cdv) nt.s1 nt.s2
section
variable {L L' : Bool} {ms : List Md} {Ta Tb : Nat} {ta tb : TE} {ua ub : UE} {pf : Pf} {E : XK} {C : Addr}
theorem rn_binIR (ha : RE L ms Ta ta ua) (hb : RE L ms Tb tb ub) (hL : (L' || !L) = true := by rfl) : RN L ms (Ta + Tb) (tOp (OO.rBinR C (spN L' pf) E) ta tb) (fun env q => ua env fun x => ub env fun y => InsC C y ∧ ∃ i, x = .int i ∧ pf [y, .int i] q) :=
  rn_two ha hb fun F G H x y u w s nl r1 r2 q Q hu k => by
    obtain ⟨h1, i, rfl, hp⟩ := hu
    obtain ⟨a, dx, fs, rfl, g⟩ := h1 _ _ r2
    exact ⟨a, i, dx, fs, of_int r1, rfl, s.ins g, F.lk, G, [w, .int i], q, noL hL nl, s, .cons r2 (.cons (.int i) .nil), hp, fun u G' H' a o hq x hn gn ho r => k u a o G' H' hq x hn gn ho r⟩
/-- an own object == a tuple: False -/
theorem re_eqT {K : PySem.W.Frag} {N : List Str} {tc : TT} (nt : NoTup K C) (htc : PySem.W.kitOne K (.type "tuple") (.ref C) = some false → ∀ (H : Hp) (a t : Addr) (ys : List V), H t = some (.tup ys) → tc (L2.start N [.ref a, .ref t]) H fun b H' => b = true ∧ H' = H) (ha : RE L ms Ta ta ua) (hb : RE L ms Tb tb ub) :
    RE L ms (Ta + Tb) (tOp (OO.rEqT C N tc) ta tb) (fun env q => ua env fun x => ub env fun y => InsC C x ∧ (∃ ys, y = .tup ys) ∧ q (.bl false)) :=
  re_two ha hb fun F G H x y u w s nl r1 r2 q Q hu k => by
    obtain ⟨h1, ⟨ys, rfl⟩, hp⟩ := hu
    obtain ⟨a, dx, fs, rfl, g⟩ := h1 _ _ r1
    obtain ⟨t, xs, rfl, g2, r3⟩ := Va.of_tup r2
    have ht := s.get g2 (by intro kvs z; cases z)
    exact ⟨a, t, dx, fs, xs, rfl, rfl, s.ins g, ht, htc nt.ki H a t xs ht, k _ _ G H hp (Xt.refl s) (.bl _)⟩
end
def fEq : Pr → Pr → (U → Prop) → Prop := fun m n q => q (.bl (decide (m = n)))
theorem cv_LotEq {C : Addr} {vs : List V} {H : Hp} {Q : VK} {E : XK} (h : spU false (pf2 C fEq) vs H Q E) : spLotEq C vs H Q E := by
  obtain ⟨lk, G, a, b, m, n, q, rfl, S, sm, hl, hl2, hf, k⟩ := of2 h
  exact ⟨G, a, b, m, n, rfl, S rfl, hl, hl2, k _ _ _ _ hf (Xt.refl sm) (.bl _)⟩
/-- a slot's own object shown to what answers True or False: it is the slot's own still -/
theorem re_keep {L : Bool} {ms : List Md} {T : Nat} {te : TE} {ue : UE} (i : Nat) (h : RE L (ms.set i .fz) T te ue) (hm : ms[i]? = some .own := by rfl) : RE L ms T te (fun env q => ue env fun x => ∃ b, x = .bl b ∧ q (.bl b)) := fun F B env σ G H S q Q hu k => by
  obtain ⟨v, u, h1, h2, a, o, rfl, g, ho, r, n⟩ := S.sl i _ hm
  have hi : i < ms.length := (List.getElem?_eq_some_iff.mp hm).1
  have S1 : Sta F L (T + B) (ms.set i .junk) env (σ.set i (some (.ref a))) G H := S.set_junk
  have es : σ.set i (some (.ref a)) = σ := by
    apply List.ext_getElem?
    intro j
    by_cases e : i = j
    · subst e; rw [List.getElem?_set_self (by rw [S.l1]; exact hi), h1]
    · rw [List.getElem?_set_ne e]
  rw [es] at S1
  have S2 := S1.tell ho g n (fun j hj z => by
    by_cases e : i = j
    · subst e; rw [List.getElem?_set_self hi] at hj; cases hj
    · rw [List.getElem?_set_ne e] at hj
      exact e (S.ne i j a hm hj h1 z))
  have S3 := S2.fz (i := i) ((r.mono (same_new g)).rep upd_same)
  have ee : env.set i u = env := by
    apply List.ext_getElem?
    intro j
    by_cases e : i = j
    · subst e; rw [List.getElem?_set_self (by rw [S.l2]; exact hi), h2]
    · rw [List.getElem?_set_ne e]
  rw [es, ee, List.set_set] at S3
  refine h F B env σ _ H S3 _ _ hu fun x y G' H' hx xt S' ry => ?_
  obtain ⟨b, rfl, hq⟩ := hx
  have x0 : Xt F.M F.lk G H G H' := ⟨Same.refl G, xt.h, fun b o e => xt.s b o (xt.g b o (same_new g b o e)), fun b o e => .inl e, xt.f⟩
  have eb := Va.of_bl ry
  refine k (.bl b) y G H' hq x0 ⟨S.ex.trans x0, S.nl, S.mn, S'.bx, S.l1, S.l2, fun j m hj => ?_, S.ne⟩ (eb ▸ .bl b)
  obtain ⟨v, w, e1, e2, hs⟩ := S.sl j m hj
  refine ⟨v, w, e1, e2, ?_⟩
  cases m with
  | junk => trivial
  | fz => exact hs
  | own =>
    obtain ⟨a2, o2, e, g2, ho2, r2, n2⟩ := hs
    exact ⟨a2, o2, e, g2, xt.h _ _ (fun z => (S.mn _ z).1 n2) ho2, r2, n2⟩
  | box => exact hs
def decP : PyData → Str × Int
  | .tuple [.str a, .int b] => (a, b)
  | _ => ("", 0)
theorem dec_enc (l : Pr) : (l.map encP).map decP = l := by
  rw [List.map_map]
  induction l with
  | nil => rfl
  | cons p r ih => rw [List.map_cons, ih]; rfl
theorem lotD_perm {d : Pr} (hn : (d.map (·.1)).Nodup) : (lotD d).Perm (d.filter fun p => decide (0 < p.2)) := by
  have h := risD_perm ((d.filter fun p => decide (0 < p.2)).map encP)
  rw [ris_pairs (hn.sublist (List.filter_sublist.map _)) (fun x hx => of_decide_eq_true (List.mem_filter.mp hx).2)] at h
  have h2 := h.map decP
  rwa [dec_enc, dec_enc] at h2
theorem sum_pos (d : Pr) (h0 : ∀ x ∈ d, 0 ≤ x.2) : ((d.filter fun p => decide (0 < p.2)).map (·.2)).sum = (d.map (·.2)).sum := by
  induction d with
  | nil => rfl
  | cons p r ih =>
    have ih := ih fun x hx => h0 x (List.mem_cons_of_mem _ hx)
    have hp := h0 p (List.mem_cons_self ..)
    rw [List.filter_cons]
    by_cases h : 0 < p.2
    · rw [if_pos (decide_eq_true h), List.map_cons, List.map_cons, List.sum_cons, List.sum_cons, ih]
    · rw [if_neg (by simpa using h), ih, List.map_cons, List.sum_cons]
      have : p.2 = 0 := by omega
      omega
theorem lotD_sum {d : Pr} (hn : (d.map (·.1)).Nodup) (h0 : ∀ x ∈ d, 0 ≤ x.2) : ((lotD d).map (·.2)).sum = (d.map (·.2)).sum := by
  rw [Kt.sum_perm ((lotD_perm hn).map _), sum_pos d h0]
theorem fit_strs {n : Nat} (ks : List Str) (h : ks.length ≤ 10000) : Fit (n + 2) (.list (ks.map PyData.str)) := fit_list (by rw [List.length_map]; exact h) fun e he => by
  obtain ⟨b, _, rfl⟩ := List.mem_map.mp he
  exact fit_str b
theorem fit_intL {n : Nat} (ks : List Int) (h : ks.length ≤ 10000) : Fit (n + 2) (.list (ks.map PyData.int)) := fit_list (by rw [List.length_map]; exact h) fun e he => by
  obtain ⟨b, _, rfl⟩ := List.mem_map.mp he
  exact fit_int b
theorem fit_blL {n : Nat} (ks : List Bool) (h : ks.length ≤ 10000) : Fit (n + 2) (.list (ks.map PyData.bool)) := fit_list (by rw [List.length_map]; exact h) fun e he => by
  obtain ⟨b, _, rfl⟩ := List.mem_map.mp he
  exact fit_bl b
theorem fit_sU {n : Nat} (ps : Pr) (h : ps.length ≤ 10000) : Fit (n + 3) (.tuple (ps.map encP)) := fit_tup (by rw [List.length_map]; exact h) fun e he => by
  obtain ⟨b, _, rfl⟩ := List.mem_map.mp he
  exact fit_pair b
section
variable {α : Type}
theorem isD_mi (l : List α) (f : α → Int) : isD (.lst (l.map fun k => .int (f k))) = true := by
  show isDs _ = true
  rw [isDs_eq, List.all_map, List.all_eq_true]; intro x _; rfl
theorem isD_mb (l : List α) (f : α → Bool) : isD (.lst (l.map fun k => .bl (f k))) = true := by
  show isDs _ = true
  rw [isDs_eq, List.all_map, List.all_eq_true]; intro x _; rfl
theorem isD_ms (l : List α) (f : α → Str) : isD (.lst (l.map fun k => .str (f k))) = true := by
  show isDs _ = true
  rw [isDs_eq, List.all_map, List.all_eq_true]; intro x _; rfl
theorem toD_mi (l : List α) (f : α → Int) : toD (.lst (l.map fun k => .int (f k))) = .list ((l.map f).map .int) := by
  show PyData.list (toDs _) = _
  rw [toDs_eq, List.map_map, List.map_map]; rfl
theorem toD_mb (l : List α) (f : α → Bool) : toD (.lst (l.map fun k => .bl (f k))) = .list ((l.map f).map .bool) := by
  show PyData.list (toDs _) = _
  rw [toDs_eq, List.map_map, List.map_map]; rfl
theorem toD_ms (l : List α) (f : α → Str) : toD (.lst (l.map fun k => .str (f k))) = .list ((l.map f).map .str) := by
  show PyData.list (toDs _) = _
  rw [toDs_eq, List.map_map, List.map_map]; rfl
theorem isD_sU (ps : Pr) : isD (.tup (sU ps)) = true := isDs_sU ps
theorem toD_sU (ps : Pr) : toD (.tup (sU ps)) = .tuple (ps.map encP) := congrArg PyData.tuple (toDs_sU ps)
theorem isD4 {a b c d : U} (h1 : isD a = true) (h2 : isD b = true) (h3 : isD c = true) (h4 : isD d = true) : isD (.lst [a, b, c, d]) = true := by
  show isDs _ = true
  simp only [isDs, h1, h2, h3, h4, Bool.and_self]
theorem isD2 {a b : U} (h1 : isD a = true) (h2 : isD b = true) : isD (.lst [a, b]) = true := by
  show isDs _ = true
  simp only [isDs, h1, h2, Bool.and_self]
theorem fit4 {n : Nat} {a b c d : U} (h1 : Fit n (toD a)) (h2 : Fit n (toD b)) (h3 : Fit n (toD c)) (h4 : Fit n (toD d)) : Fit (n + 1) (toD (.lst [a, b, c, d])) := by
  show Fit (n + 1) (.list (toDs _))
  refine fit_list (by simp [toDs]) fun e he => ?_
  simp only [toDs, List.mem_cons, List.not_mem_nil, or_false] at he
  rcases he with rfl | rfl | rfl | rfl
  · exact h1
  · exact h2
  · exact h3
  · exact h4
theorem fit2 {n : Nat} {a b : U} (h1 : Fit n (toD a)) (h2 : Fit n (toD b)) : Fit (n + 1) (toD (.lst [a, b])) := by
  show Fit (n + 1) (.list (toDs _))
  refine fit_list (by simp [toDs]) fun e he => ?_
  simp only [toDs, List.mem_cons, List.not_mem_nil, or_false] at he
  rcases he with rfl | rfl
  · exact h1
  · exact h2
end
theorem tup_end {lk : Addr → Prop} {G H G3 H3 : Hp} {v : V} {d : PyData} {u : U} {q : U → Prop} {Q : VK} (sm : Sm lk G H) (x : Ex No G H G3 H3) (r : Rp G3 v d) (e : emb d = u) (hq : q u) (kk : ∀ u G' H' v, q u → Xt No lk G H G' H' → Rep G' v u → Q v H') : Q v H3 := by
  obtain ⟨xx, ss⟩ := Xt.of_ex sm (Same.refl G) x (fun b z => z.elim)
  have rr := (rep_emb r).mono ss
  rw [e] at rr
  exact kk _ _ _ _ hq xx rr
/-- a def's one default: the empty tuple -/
structure Dft (K : PySem.W.Frag) (fd : FuncData) (ps : List Str) (e : Addr) : Prop where
  b : Binds K fd ps [.ref e]
  t : ∃ (dd : Option Addr) (n : Nat) (sl : Array (Option Value)), K.lookup e = some ⟨.type "tuple", dd, .seq #[] n, sl⟩
theorem Dft.sq {K : PySem.W.Frag} {fd : FuncData} {ps : List Str} {e : Addr} (d : Dft K fd ps e) (H : Hp) : SqT K H e [] := by
  obtain ⟨dd, n, sl, h⟩ := d.t
  exact .inr ⟨_, #[], n, h, rfl, rfl, Nat.zero_le _, .nil⟩
theorem dft_of {K : PySem.W.Frag} {m qual : Str} {st : Stmt} {ps : List Str} {kV doc pm cdv ct cT : Value} {an : Option Addr} {T e : Addr} {dT dE : Option Addr} {nT nE : Nat} {sT sE : Array (Option Value)}
    (lT : K.lookup T = some ⟨cT, dT, .seq #[.ref e] nT, sT⟩) (lE : K.lookup e = some ⟨.type "tuple", dE, .seq #[] nE, sE⟩)
    (hb : ∀ (T : Addr) (kV doc pm : Value) (an : Option Addr) (cdv ct u : Value) (us : List Value), us.length + 1 = ps.length →
      ∃ k, bindArgs (PySem.W.fnOf m qual (defArgs st) (defBody st) (defScope st) (.ref T) kV doc pm an cdv ct) ⟨us, []⟩ = seqItems? (.ref T) >>= k ∧ k (some #[u]) = pure (ps.zip (us ++ [u]))) :
    Dft K (PySem.W.fnOf m qual (defArgs st) (defBody st) (defScope st) (.ref T) kV doc pm an cdv ct) ps e :=
  ⟨fun s us X hl => by
    rw [List.length_append, List.length_singleton] at hl
    obtain ⟨k, e1, e2⟩ := hb T kV doc pm an cdv ct (.ref e) us hl
    refine BindsTo.of_looks fun M => ?_
    rw [e1]
    exact looks_items X lT rfl (.of_pure e2), _, _, _, lE⟩
/-- Lot() -/
theorem rn_lot0 {K : PySem.W.Frag} {C e : Addr} {fd : FuncData} {ps : List Str} {E : XK} {ms : List Md} (d : Dft K fd ps e) : RN false ms 0 (tMake C (spLotInit K C) [.ref e] E tNil) (fun env q => q (lotU C [])) := fun F B env σ G H S q Q hu k => by
  have sm := S.sm.same (S.nl rfl)
  refine make_lot (q := e) (xs := []) (ps := []) (Ks := []) sm (.inr (d.sq G)) .nil (fun p hp => nomatch hp) (by decide) (fun p hp => nomatch hp) (Nat.zero_le _) fun G' H' x ex hx hl => ?_
  obtain ⟨G2, o, x2, g2, ho, r⟩ := new_lot S.sm ex hx hl
  exact k _ x o G2 H' hu x2.on ((S.le (by omega)).go x2) hx g2 ho r
theorem kb_appD {K : PySem.W.Frag} {m qual : Str} {st : Stmt} {ps ks : List Str} {kV doc pm cdv ct cT u : Value} {an : Option Addr} {T : Addr} {dT : Option Addr} {nT : Nat} {sT : Array (Option Value)}
    (lT : K.lookup T = some ⟨cT, dT, .seq #[u] nT, sT⟩)
    (hb : ∀ (T : Addr) (kV doc pm : Value) (an : Option Addr) (cdv ct u s : Value) (ws : List Value), ws.length = ks.length →
      ∃ k, bindArgs (PySem.W.fnOf m qual (defArgs st) (defBody st) (defScope st) (.ref T) kV doc pm an cdv ct) ⟨[s], ks.zip ws⟩ = seqItems? (.ref T) >>= k ∧ k (some #[u]) = pure (ps.zip (s :: ws))) :
    KBn K (PySem.W.fnOf m qual (defArgs st) (defBody st) (defScope st) (.ref T) kV doc pm an cdv ct) ps 1 ks app2 app2 where
  to s us ws X l1 l2 := by
    match us, l1 with
    | [a], _ =>
      obtain ⟨k, e1, e2⟩ := hb T kV doc pm an cdv ct u a ws l2
      refine BindsTo.of_looks fun M => ?_
      rw [e1]
      exact looks_items X lT rfl (.of_pure e2)
  rel r1 r2 := r1.append r2
/-- Lot(pairs=..) -/
theorem rn_lotK {K : PySem.W.Frag} {C : Addr} {E : XK} {ms : List Md} {T : Nat} {te : TE} {ue : UE} (h : RE false ms T te ue) : RN false ms T (tMakeK C 0 1 (spLotInit K C) app2 E tNil (tCons te tNil)) (fun env q => ue env fun x => ∃ (ps : Pr) (Ks : List Str), (x = .lst (sU ps) ∨ x = .tup (sU ps)) ∧ (∀ p ∈ ps, 0 ≤ p.2) ∧ Ks.length < 64 ∧ (∀ p ∈ ps, p.1 ∈ Ks) ∧ ps.length ≤ 10000 ∧ q (lotU C (mkLot ps))) := fun F B env σ G H S q Q hu k =>
  h F B env σ G H S _ _ hu fun u v G1 H1 hq x1 S1 r1 => by
    obtain ⟨ps, Ks, hx, h1, h2, h3, h4, hq⟩ := hq
    have sm := S1.sm.same (S1.nl rfl)
    refine ⟨rfl, rfl, make_lotR (Ks := Ks) sm ?_ h1 h2 h3 h4 fun G' H' x ex hx hl => ?_⟩
    · rcases hx with rfl | rfl
      · right; have := r1.rp (isDs_sU ps); rw [toD, toDs_sU] at this; exact this
      · left; have := r1.rp (isDs_sU ps); rw [toD, toDs_sU] at this; exact this
    · obtain ⟨G2, o, x2, g2, ho, r⟩ := new_lot S1.sm ex hx hl
      exact k _ x o G2 H' hq (x1.trans x2.on) (S1.go x2) (x1.f _ hx) g2 ho r
section
variable {L L' : Bool} {ms : List Md} {Ta T n : Nat} {ta : TE} {tA : TA} {ua : UE} {uA : UA} {pf : Pf} {E : XK} {C : Addr} {m : Str}
theorem re_methK (ha : RE L ms Ta ta ua) (hA : RA L ms T tA uA) (hL : (L' || !L) = true := by rfl) : RE L ms (Ta + T) (OO.tMethK C m n (spU L' pf) app2 E ta tA) (fun env q => ua env fun x => InsM C m x ∧ uA env fun us => us.length = n ∧ pf (x :: us) q) := fun F B env σ G H S q Q hu k =>
  ha F (T + B) env σ G H (S.le (by omega)) _ _ hu fun u v G1 H1 hq x1 S1 r1 => by
    obtain ⟨a, dx, fs, rfl, g, hl⟩ := hq.1 _ _ r1
    exact ⟨a, dx, fs, rfl, S1.sm.ins g, hl, hA F B env σ G1 H1 S1 _ _ hq.2 fun us vs G2 H2 hq2 x2 S2 r2 => ⟨r2.length.trans hq2.1, F.lk, G2, u :: us, q, noL hL S2.nl, S2.sm, .cons (r1.mono x2.g) r2, hq2.2, fun u G' H' v hq x r => k u v G' H' hq ((x1.trans x2).trans x.on) (S2.go x) r⟩⟩
theorem rn_methK (ha : RE L ms Ta ta ua) (hA : RA L ms T tA uA) (hL : (L' || !L) = true := by rfl) : RN L ms (Ta + T) (OO.tMethK C m n (spN L' pf) app2 E ta tA) (fun env q => ua env fun x => InsM C m x ∧ uA env fun us => us.length = n ∧ pf (x :: us) q) := fun F B env σ G H S q Q hu k =>
  ha F (T + B) env σ G H (S.le (by omega)) _ _ hu fun u v G1 H1 hq x1 S1 r1 => by
    obtain ⟨a, dx, fs, rfl, g, hl⟩ := hq.1 _ _ r1
    exact ⟨a, dx, fs, rfl, S1.sm.ins g, hl, hA F B env σ G1 H1 S1 _ _ hq.2 fun us vs G2 H2 hq2 x2 S2 r2 => ⟨r2.length.trans hq2.1, F.lk, G2, u :: us, q, noL hL S2.nl, S2.sm, .cons (r1.mono x2.g) r2, hq2.2, fun u G' H' a o hq x hn gn ho r => k u a o G' H' hq ((x1.trans x2).trans x.on) (S2.go x) ((x1.trans x2).f _ hn) gn ho r⟩⟩
end
/-- targets that take a tuple or a list apart -/
def gSq (K : PySem.W.Frag) (n : Nat) (t : TGs) : TG := fun v σ H Q => gTup K n t v σ H Q ∨ gLst K n t v σ H Q
theorem pg_sqK {X : Cx} {pos : Pos} {es : List Expr} {k : Nat} {t : TGs} (K : PySem.W.Frag) (n : Nat) (hc : X.calm = true) (h : PGs X es t)
    (hn : (assignEach es X.env).length = n := by rfl) (hst : (assignEach es X.env).findIdx? (·.1) = none := by rfl) (hK : X.K = K := by rfl) : PG X (.Tuple es k pos) (gSq K n t) := by
  subst hK
  have a := pg_tup (k := k) (pos := pos) hc h hn hst
  have b := pg_lst (k := k) (pos := pos) hc h hn hst
  constructor
  intros
  rename_i z
  rcases z with z | z
  · exact a.run _ _ _ _ _ _ _ (by assumption) (by assumption) z
  · exact b.run _ _ _ _ _ _ _ (by assumption) (by assumption) z
/-- a pair, a tuple or a list -/
def PrAt (G : Hp) (v : V) (p : Str × Int) : Prop := Rp G v (encP p) ∨ Rp G v (.list [.str p.1, .int p.2])
def PrA (G : Hp) (xs : List V) (ps : Pr) : Prop := xs.length = ps.length ∧ ∀ (i : Nat) v p, xs[i]? = some v → ps[i]? = some p → PrAt G v p
theorem prA_of {G : Hp} {xs : List V} {ps : Pr} (h : RpA G xs (ps.map encP)) : PrA G xs ps := by
  refine ⟨by rw [h.length, List.length_map], fun i v p hv hp => ?_⟩
  obtain ⟨d, hd, r⟩ := h.get hv
  rw [List.getElem?_map, hp] at hd
  cases hd
  exact .inl r
theorem prA_lst {G : Hp} {xs : List V} {ps : Pr} (h : RpA G xs (ps.map fun p => .list [.str p.1, .int p.2])) : PrA G xs ps := by
  refine ⟨by rw [h.length, List.length_map], fun i v p hv hp => ?_⟩
  obtain ⟨d, hd, r⟩ := h.get hv
  rw [List.getElem?_map, hp] at hd
  cases hd
  exact .inr r
theorem gsq_of {K : PySem.W.Frag} {G H : Hp} {y : V} {k : Str} {n : Int} {t : TGs} {σ : L2.St} {Q : L2.St → Hp → Prop} (hp : PrAt G y (k, n)) (s : Same G H) (h : t [.str k, .int n] σ H Q) : gSq K 2 t y σ H Q := by
  rcases hp with hp | hp
  · obtain ⟨a, x, z, rfl, g, r1, r2⟩ := of_tup2 hp
    cases Kt.of_str r1
    cases Kt.of_int r2
    exact .inl ⟨a, _, rfl, SqT.of (s _ _ g), rfl, h⟩
  · obtain ⟨a, xs, rfl, g, r⟩ := Kt.of_lst hp
    cases r with
    | cons r1 r =>
      cases r with
      | cons r2 r =>
        cases r
        cases Kt.of_str r1
        cases Kt.of_int r2
        exact .inr ⟨a, _, rfl, SqL.of (s _ _ g), rfl, h⟩
/-- Lot.__init__ for pairs that are tuples or lists -/
def spLotInitXW (K : PySem.W.Frag) (C CB : Addr) : Sp := fun vs H Q E => ∃ (G H0 : Hp) (x dx q : Addr) (xs : List V) (ps : Pr) (Ks : List Str), vs = [.ref x, .ref q] ∧ Same G H0 ∧ Ex No G H0 G H ∧ H0 x = none ∧ H x = some (.ins C dx []) ∧
  (SqL K G q xs ∨ SqT K G q xs) ∧ PrA G xs ps ∧ Ks.length < 64 ∧ (∀ p ∈ ps, p.1 ∈ Ks) ∧ ps.length ≤ 10000 ∧
  ((∀ p ∈ ps, 0 ≤ p.2) → ∀ G' H', Ex No G H0 G' H' → LotAt C G' x (mkLot ps) → Q .non H') ∧
  ∀ (i : Nat) (k : Str) (n : Int), ps[i]? = some (k, n) → n < 0 → (∀ p ∈ ps.take i, 0 ≤ p.2) → ∀ H' d, Ex No G H0 G H' → H0 d = none → H' d = some (.xd [("many", .int n), ("kind", .str k)]) → E (.ref CB) (some d) H'
def spLotInitW (K : PySem.W.Frag) (C : Addr) : Sp := fun vs H Q _ => ∃ (G H0 : Hp) (x dx q : Addr) (xs : List V) (ps : Pr) (Ks : List Str), vs = [.ref x, .ref q] ∧ Same G H0 ∧ Ex No G H0 G H ∧ H0 x = none ∧ H x = some (.ins C dx []) ∧
  (SqL K G q xs ∨ SqT K G q xs) ∧ PrA G xs ps ∧ (∀ p ∈ ps, 0 ≤ p.2) ∧ Ks.length < 64 ∧ (∀ p ∈ ps, p.1 ∈ Ks) ∧ ps.length ≤ 10000 ∧
  ∀ G' H', Ex No G H0 G' H' → LotAt C G' x (mkLot ps) → Q .non H'
/-- Lot(pairs=a list of lists) -/
theorem rn_lotKW {K : PySem.W.Frag} {C : Addr} {E : XK} {ms : List Md} {T : Nat} {te : TE} {ue : UE} (h : RE false ms T te ue) : RN false ms T (tMakeK C 0 1 (spLotInitW K C) app2 E tNil (tCons te tNil)) (fun env q => ue env fun x => ∃ (ps : Pr) (Ks : List Str), x = .lst (ps.map fun p => .lst [.str p.1, .int p.2]) ∧ (∀ p ∈ ps, 0 ≤ p.2) ∧ Ks.length < 64 ∧ (∀ p ∈ ps, p.1 ∈ Ks) ∧ ps.length ≤ 10000 ∧ q (lotU C (mkLot ps))) := fun F B env σ G H S q Q hu k =>
  h F B env σ G H S _ _ hu fun u v G1 H1 hq x1 S1 r1 => by
    obtain ⟨ps, Ks, rfl, h1, h2, h3, h4, hq⟩ := hq
    have sm := S1.sm.same (S1.nl rfl)
    have hd : isD (.lst (ps.map fun p => U.lst [.str p.1, .int p.2])) = true := by
      show isDs _ = true
      rw [isDs_eq, List.all_map, List.all_eq_true]; intro x _; rfl
    have rp := r1.rp hd
    rw [toD, toDs_eq, List.map_map] at rp
    obtain ⟨l, xs, rfl, gl, rl⟩ := Kt.of_lst rp
    refine ⟨rfl, rfl, fun x dx hx hdx hne => ?_⟩
    have y1 : Ex No G1 H1 G1 (upd H1 dx (.own x)) := Ex.hid sm hdx
    have y2 : Ex No G1 (upd H1 dx (.own x)) G1 (upd (upd H1 dx (.own x)) x (.ins C dx [])) := Ex.hid y1.s (by rw [upd_ne hne.symm]; exact hx)
    refine ⟨G1, H1, x, dx, l, xs, ps, Ks, rfl, sm, y1.trans y2, hx, upd_same, .inl (SqL.of gl), prA_lst rl, h1, h2, h3, h4, fun G' H' ex hl => ⟨rfl, ?_⟩⟩
    obtain ⟨G2, o, x2, g2, ho, r⟩ := new_lot S1.sm ex hx hl
    exact k _ x o G2 H' hq (x1.trans x2.on) (S1.go x2) (x1.f _ hx) g2 ho r
/-! a loop that runs at least once: what its body sets stands behind it -/
section
variable {L fr : Bool} {mr ms ms' ms1 ms2 ml : List Md} {Ta Tb Tc T T1 T2 : Nat} {ta tb tc te : TE} {ua ub uc ue : UE} {tA : TA} {uA : UA} {tt tt' : TT} {ut ut' : UT} {ts ts1 ts2 : TS} {us us1 us2 : US}
variable {mx : List Md}
theorem for_run1 (N : Nat) {g : TG} {ug : UG} {is : List Nat} {tb : TS} {ub : US} (hg : RG L ml ms1 is g ug) (hb : RS L fr mr ms1 ms2 Tb tb ub) (l0 : lesM ml ml = true) (l2 : lesM ms2 mx = true) (l3 : lesM mx ml = true) {F : Fr} {B : Nat} {env : List U} {σ : L2.St} {G H : Hp} {items : List U} {J : It}
    (S : Sta F L (N * Tb + B) ml env σ G H) (w : WkU F G J items) (hl : items.length ≤ N) (hne : 0 < items.length) {nx : List U → Prop} {rt : U → Prop} {D : Ends} (hu : forU items ug ub nx rt env)
    (kn : ∀ env' σ' G' H', nx env' → Sta F L B mx env' σ' G' H' → Same G G' → D.nx σ' H')
    (kr : ∀ u v env' σ' G' H', rt u → Sta F L B mr env' σ' G' H' → RtOk F G' H' v u fr → Same G G' → D.rt v H') :
    ∃ W : Nat → Nat → L2.St → Hp → Prop, (∃ m, W 0 m σ H) ∧ ∀ i m σ H, W i m σ H →
      (J.stop i H ∧ D.nx σ H) ∨ (J.go i H ∧ ∃ N : L2.St → Hp → Prop, (∀ σ' H', N σ' H' → ∃ m', m' < m ∧ W (i + 1) m' σ' H') ∧ ∀ x H', J.yld i H x H' → g x σ H' fun σ2 H2 => tb { D with nx := N, ct := N, bk := D.nx } σ2 H2) := by
  obtain ⟨I, I0, Is, Ie⟩ := hu
  let Pv : Nat → L2.St → Hp → Prop := fun i σi Hi => ∃ Gi envi, Sta F L ((N - i) * Tb + B) (if i = 0 then ml else mx) envi σi Gi Hi ∧ Same G Gi ∧ I i envi
  refine ⟨fun i m σi Hi => m = items.length - i ∧ i ≤ items.length ∧ Pv i σi Hi, ⟨items.length, by simp, Nat.zero_le _, G, env, S, Same.refl G, I0⟩, ?_⟩
  rintro i m σi Hi ⟨rfl, hle, Gi, envi, Si0, sG, hI⟩
  have Si : Sta F L ((N - i) * Tb + B) ml envi σi Gi Hi := Si0.weak (by split <;> assumption)
  by_cases hlt : i < items.length
  · refine .inr ⟨w.goes i Hi Gi hlt sG Si.sm Si.ex.h, Pv (i + 1), fun σ' H' p' => ⟨items.length - (i + 1), by omega, rfl, hlt, p'⟩, fun x H2 y => ?_⟩
    obtain ⟨u, G2, eu, x2, r2⟩ := w.yields i Hi Gi x H2 hlt sG Si.sm Si.ex.h y
    have S2 := Si.go x2
    have eN : (N - i) * Tb = Tb + (N - (i + 1)) * Tb := by
      have : N - i = (N - (i + 1)) + 1 := by omega
      rw [this, Nat.add_mul, Nat.one_mul]; omega
    rw [eN] at S2
    -- the frame from here on: what is told now stays told
    refine hg F _ envi σi G2 H2 x u S2 r2 _ _ (Is i u envi eu hI) fun env1 σ1 hq1 S3 _ => ?_
    have key := hb { F with G := G2, H := fun b => if F.H b = none then none else H2 b } ((N - (i + 1)) * Tb + B) env1 σ1 G2 H2 ?_ _ _ { D with nx := Pv (i + 1), ct := Pv (i + 1), bk := D.nx } hq1 ?_ ?_
    · exact key
    · have hle2 : ∀ b o, (if F.H b = none then none else H2 b) = some o → H2 b = some o := fun b o e => by
        by_cases hb : F.H b = none
        · rw [if_pos hb] at e; cases e
        · rw [if_neg hb] at e; exact e
      refine ⟨⟨Same.refl _, fun b o m e => hle2 b o e, S3.sm, fun b o e => .inl e, fun b e => ?_⟩, S3.nl, fun b m => ⟨?_, S3.mg b m⟩, (S3.le (B' := Tb + ((N - (i + 1)) * Tb + B)) (by omega)).bx, S3.l1, S3.l2, fun j m e => ?_, S3.ne⟩
      · show (if F.H b = none then none else H2 b) = none
        by_cases hb : F.H b = none
        · rw [if_pos hb]
        · rw [if_neg hb]; exact e
      · show (if F.H b = none then none else H2 b) ≠ none
        rw [if_neg (S3.mn b m).1]; exact S3.mh b m
      · obtain ⟨v, u', h1, h2, h3⟩ := S3.sl j m e
        refine ⟨v, u', h1, h2, ?_⟩
        cases m with
        | junk => trivial
        | fz => exact h3
        | own => obtain ⟨a, o, e', g', ho, r, n⟩ := h3; exact ⟨a, o, e', g', ho, r, if_pos n⟩
        | box => exact h3
    all_goals
      have back : ∀ {msx : List Md} {envx : List U} {σx : L2.St} {Gx Hx : Hp} {Bx : Nat}, Sta { F with G := G2, H := fun b => if F.H b = none then none else H2 b } L Bx msx envx σx Gx Hx → Sta F L Bx msx envx σx Gx Hx := by
        intro msx envx σx Gx Hx Bx Sx
        have hn : ∀ b, (if F.H b = none then none else H2 b) = none → F.H b = none := fun b e => by
          by_cases hb : F.H b = none
          · exact hb
          · rw [if_neg hb] at e; exact S3.ex.f _ e
        refine ⟨⟨S3.ex.g.trans Sx.ex.g, fun b o m e => ?_, Sx.ex.s, fun b o e => ?_, fun b e => hn b (Sx.ex.f b e)⟩, Sx.nl, S3.mn, Sx.bx, Sx.l1, Sx.l2, fun j m e => ?_, Sx.ne⟩
        · exact Sx.ex.h b o m (by show (if F.H b = none then none else H2 b) = some o; rw [if_neg (by rw [e]; simp)]; exact S3.ex.h b o m e)
        · rcases Sx.ex.n b o e with h | h
          · exact S3.ex.n b o h
          · exact .inr (hn b h)
        · obtain ⟨v, u', h1, h2, h3⟩ := Sx.sl j m e
          refine ⟨v, u', h1, h2, ?_⟩
          cases m with
          | junk => trivial
          | fz => exact h3
          | own => obtain ⟨a, o, e', g', ho, r, n⟩ := h3; exact ⟨a, o, e', g', ho, r, hn a n⟩
          | box => exact h3
    · intro env' σ' G' H' hn S'
      exact ⟨G', env', by rw [if_neg (Nat.succ_ne_zero i)]; exact (back S').weak l2, sG.trans (x2.g.trans S'.ex.g), hn⟩
    · intro u v env' σ' G' H' hr S' r
      refine kr u v env' σ' G' H' hr ((back S').le (by omega)) ?_ (sG.trans (x2.g.trans S'.ex.g))
      cases fr with
      | false => exact r
      | true =>
        obtain ⟨a, o, e, g, ho, r, n⟩ := r
        refine ⟨a, o, e, g, ho, r, ?_⟩
        have n : (if F.H a = none then none else H2 a) = none := n
        by_cases hb : F.H a = none
        · exact hb
        · rw [if_neg hb] at n; exact S3.ex.f _ n
  · have e : i = items.length := by omega
    subst e
    exact .inl ⟨w.stops Hi Gi sG Si.sm Si.ex.h, kn envi σi Gi Hi (Ie envi hI) (by rw [if_neg (by omega)] at Si0; exact Si0.le (by omega)) sG⟩
theorem s_for1 (N : Nat) {wi : TI} {ui : UI} {g : TG} {ug : UG} {is : List Nat} {tb : TS} {ub : US} (hw : RI L ms T wi ui) (hg : RG L ml ms1 is g ug) (hb : RS L fr mr ms1 ms2 Tb tb ub) (l1 : lesM ms ml = true := by rfl) (l0 : lesM ml ml = true := by rfl) (l2 : lesM ms2 mx = true := by rfl) (l3 : lesM mx ml = true := by rfl) :
    RS L fr mr ms mx (T + N * Tb) (tFor wi g tb) (fun nx rt env => ui env fun items => items.length ≤ N ∧ 0 < items.length ∧ forU items ug ub nx rt env) := fun F B env σ G H S nx rt D hu kn kr =>
  hw F (N * Tb + B) env σ G H (S.le (by omega)) _ _ hu fun items J G1 H1 hq x1 S1 w => for_run1 N hg hb l0 l2 l3 (S1.weak l1) w hq.1 hq.2.1 hq.2.2 (fun env' σ' G' H' hn S' _ => kn env' σ' G' H' hn S') (fun u v env' σ' G' H' hr S' r _ => kr u v env' σ' G' H' hr S' r)
end
theorem tally_nn {ps : Pr} (h : ∀ p ∈ ps, 0 ≤ p.2) : ∀ x ∈ tally ps, 0 ≤ x.2 := fun x hx => by
  rw [(tally_vals hx).1]; exact sumK_nn h _
theorem lotD_tally {ps : Pr} (h : ∀ p ∈ ps, 0 ≤ p.2) : lotD (tally ps) = mkLot ps := by
  refine (lotD_ok _).ext (mk_ok h) fun k => ?_
  rw [lk_lotD (tally_nodup ps) (tally_nn h), lk_mk h, tally_look]
  split
  · rfl
  · rename_i hk
    rw [sumK_out (m := ps) (k := k) fun x hx e => hk (e ▸ List.mem_map_of_mem hx)]; rfl
end Va

/-! sets of texts: made of a list, sorted -/
namespace Ss
open PySem PySem.Spec PyProof.Rows L2
/-- the text of a member -/
def txt (e : Int × Value) : Str := match e.2 with
  | .str x _ => x
  | _ => Str.empty
def Tx (w : World) (e : Int × Value) : Prop := ∃ x u, e.2 = Value.str x u ∧ e.1 = hashStr w x
/-- the set of texts at a, ks its members -/
def TS (w : World) (h : Heap) (a : Addr) (ks : List Str) : Prop := ∃ o es ep t, h.get? a = some o ∧ o.ExactSet ∧ o.data = .set es ep t ∧ (∀ e ∈ es.toList, Tx w e) ∧ (es.toList.map txt).Nodup ∧ (∀ k, k ∈ ks ↔ k ∈ es.toList.map txt) ∧ es.size ≤ ks.length ∧ es.size < scanBound ∧ t.fits es.size = true ∧ Ris t.place.toList ∧ (w.params.followText "set-order" = true ∨ t.led = true)
section
variable {P : Program} {w : World} {h h' : Heap} {a : Addr} {ks : List Str}
theorem TS.keep (r : TS w h a ks) (k : ∀ o, h.get? a = some o → h'.get? a = some o) : TS w h' a ks := let ⟨o, es, ep, t, ho, q⟩ := r; ⟨o, es, ep, t, k o ho, q⟩
theorem tx_elems {l : List (Int × Value)} (g : ∀ e ∈ l, Tx w e) : ElemsOf (PySem.strKind P w) l := by
  intro e he
  obtain ⟨x, u, e1, e2⟩ := g e he
  exact ⟨⟨x, e1 ▸ strKind_is P w x u, e2⟩, by rw [e1]; rfl⟩
theorem tx_is {e : Int × Value} (g : Tx w e) (x : Str) : (PySem.strKind P w).is x e.2 = true ↔ txt e = x := by
  obtain ⟨y, u, e1, _⟩ := g
  rw [txt, e1]
  constructor
  · intro z; exact (KeyKind.is_eq_decide (strKind_is P w y u) x ▸ z |> of_decide_eq_true).symm
  · intro z; rw [KeyKind.is_eq_decide (strKind_is P w y u) x]; exact decide_eq_true z.symm
theorem tx_mem {l : List (Int × Value)} (g : ∀ e ∈ l, Tx w e) (x : Str) : x ∈ l.map txt ↔ ∃ e ∈ l, (PySem.strKind P w).is x e.2 = true := by
  constructor
  · intro z
    obtain ⟨e, he, q⟩ := List.mem_map.mp z
    exact ⟨e, he, (tx_is (g e he) x).mpr q⟩
  · rintro ⟨e, he, q⟩
    exact List.mem_map.mpr ⟨e, he, (tx_is (g e he) x).mp q⟩
end
section
variable {P : Program} {w : World} {A : Around} {E : Value → Shared → Prop} {s : Shared} {a : Addr}
theorem ts_tail {give : Bool → Sem Unit} (hg : ∀ (b : Bool) (s1 : Shared) (Q : Unit → Shared → Prop), Q () s1 → wpAny (model P w) A (give b) Q E s1) {o : Obj} {es : Array (Int × Value)} {ep : Nat} {t : SetTable} (ho : s.heap.get? a = some o) (hex : o.ExactSet) (hd : o.data = .set es ep t)
    {fs : Array (Int × Value)} {u : SetTable} {ks : List Str} (g1 : ∀ e ∈ fs.toList, Tx w e) (n1 : (fs.toList.map txt).Nodup) (m1 : ∀ k, k ∈ ks ↔ k ∈ fs.toList.map txt) (z1 : fs.size ≤ ks.length) (b1 : fs.size < scanBound) (f1 : u.fits fs.size = true) (r1 : Ris u.place.toList) (l1 : w.params.followText "set-order" = true ∨ u.led = true) {dm : Bool} {R : Option Bool → Shared → Prop}
    (hR : ∀ h1, Heap.SameBut a s.heap h1 → TS w h1 a ks → R (some true) { s with heap := h1 }) :
    wpAny (model P w) A (storeSet a fs u >>= fun _ => if (!dm && u.tooFull) = true then (give (relayAll u fs (SetTable.grown fs.size)).2.2 >>= fun _ => storeSet a (relayAll u fs (SetTable.grown fs.size)).1 (relayAll u fs (SetTable.grown fs.size)).2.1 >>= fun _ => pure (some true)) else pure (some true)) R E s := by
  refine wpAny_bind (wpAny_storeSet_of ho hd ?_ (fits_of_scanBound b1))
  have at1 := store_at (es' := fs) (t' := u) ho hd
  have sm1 := Heap.SameBut.update s.heap a (Obj.putSet fs u)
  split
  · have p2 := relayAll_perm u fs (SetTable.grown fs.size)
    have f2 := relayAll_fits u fs (SetTable.grown fs.size)
    have r2 := relayAll_ris u fs (SetTable.grown fs.size)
    have l2 := relayAll_led u fs (SetTable.grown fs.size)
    generalize relayAll u fs (SetTable.grown fs.size) = y at p2 f2 r2 l2 ⊢
    obtain ⟨gs, v, gv⟩ := y
    dsimp only at p2 f2 r2 l2 ⊢
    have zz : gs.size = fs.size := by have := p2.length_eq; rwa [Array.length_toList, Array.length_toList] at this
    have b2 : gs.size < scanBound := zz ▸ b1
    refine wpAny_bind (hg _ _ _ (wpAny_bind (wpAny_storeSet_of at1 rfl ?_ (fits_of_scanBound b2))))
    have at2 := store_at (es' := gs) (t' := v) at1 rfl
    refine wpAny_pure (hR _ (sm1.trans (Heap.SameBut.update _ a _)) ⟨_, gs, _, v, at2, hex, rfl, fun e he => g1 e (p2.mem_iff.mp he), (p2.map txt).nodup_iff.mpr n1, fun k => (m1 k).trans (p2.map txt).mem_iff.symm, zz ▸ z1, b2, f2, r2, ?_⟩)
    rcases l1 with q | q
    · exact .inl q
    · exact .inr (l2.trans q)
  · exact wpAny_pure (hR _ sm1 ⟨_, fs, _, u, at1, hex, rfl, g1, n1, m1, z1, b1, f1, r1, l1⟩)
theorem ts_add {k : Str} {tk : Tok} {ks : List Str} {Q : Bool → Shared → Prop} (r : TS w s.heap a ks) (room : ks.length + 1 < scanBound) (hQ : ∀ b h1, Heap.SameBut a s.heap h1 → TS w h1 a (ks ++ [k]) → Q b { s with heap := h1 }) :
    wpAny (model P w) A (setAddHashed a (.str k tk) ((PySem.strKind P w).hash k)) Q E s := by
  obtain ⟨o, es, ep, t, ho, hex, hd, g, nd, hm, hz, hb, hf, hr, hl⟩ := r
  have key : (PySem.strKind P w).is k (.str k tk) = true := strKind_is P w k tk
  have scn : (Value.str k tk).scannable = true := rfl
  have els : ElemsOf (PySem.strKind P w) es.toList := tx_elems g
  unfold setAddHashed setAddHashedIn
  refine wpAny_holding (wpAny_bind (wpAny_setState_of ho hd hf ?_))
  dsimp only
  rw [byScan_of scn hb els]
  simp only [↓reduceIte]
  unfold setAddByScan
  refine wpAny_bind (wpAny_bind (wpAny_rule (wpAny_bind (wpAny_setScan_of key ho hd hf els ?_))))
  cases fi : List.findIdx? (fun e => (PySem.strKind P w).is k e.2) es.toList with
  | some j =>
    dsimp only
    obtain ⟨hj, pj, _⟩ := List.findIdx?_eq_some_iff_getElem.mp fi
    have hin : k ∈ es.toList.map txt := (tx_mem (P := P) g k).mpr ⟨_, List.getElem_mem hj, pj⟩
    refine wpAny_pure (wpAny_pure (hQ _ s.heap (Heap.SameBut.refl a s.heap) ⟨o, es, ep, t, ho, hex, hd, g, nd, fun i => ?_, by rw [List.length_append]; omega, hb, hf, hr, hl⟩))
    rw [List.mem_append, List.mem_singleton, hm i]
    exact ⟨fun z => z.elim id fun e => e ▸ hin, .inl⟩
  | none =>
    dsimp only
    have hno : k ∉ es.toList.map txt := fun z => by
      obtain ⟨e, he, q⟩ := (tx_mem (P := P) g k).mp z
      exact Bool.false_ne_true ((List.findIdx?_eq_none_iff.mp fi e he).symm.trans q)
    have gw : ∀ (b : Bool) {s1 : Shared} {Q1 : Unit → Shared → Prop}, Q1 () s1 → wpAny (model P w) A (match b with | true => rule "set.scan.the-table-gave-way" | false => pure ()) Q1 E s1 := fun b _ _ q => by
      cases b
      · exact wpAny_pure q
      · exact wpAny_rule q
    have p1 := layNew_perm t es ((PySem.strKind P w).hash k) (.str k tk)
    have f1 := layNew_fits t es ((PySem.strKind P w).hash k) (.str k tk)
    have r1 := layNew_ris t es ((PySem.strKind P w).hash k) (.str k tk) hr
    have l1 := layNew_led t es ((PySem.strKind P w).hash k) (.str k tk)
    generalize layNew t es ((PySem.strKind P w).hash k) (.str k tk) = y at p1 f1 r1 l1 ⊢
    obtain ⟨fs, u, dm, gv⟩ := y
    dsimp only at p1 f1 r1 l1 ⊢
    rw [Array.toList_push] at p1
    have p2 : fs.toList.Perm (((PySem.strKind P w).hash k, Value.str k tk) :: es.toList) := p1.trans (List.perm_append_singleton _ _)
    have p3 : (fs.toList.map txt).Perm (k :: es.toList.map txt) := p2.map txt
    have g1 : ∀ e ∈ fs.toList, Tx w e := fun e he => (List.mem_cons.mp (p2.mem_iff.mp he)).elim (fun z => z ▸ ⟨k, tk, rfl, rfl⟩) (g e)
    have n1 : (fs.toList.map txt).Nodup := p3.nodup_iff.mpr (List.nodup_cons.mpr ⟨hno, nd⟩)
    have m1 : ∀ i, i ∈ ks ++ [k] ↔ i ∈ fs.toList.map txt := fun i => by
      rw [p3.mem_iff, List.mem_cons, List.mem_append, List.mem_singleton, hm i]
      exact Or.comm
    have zz : fs.size = es.size + 1 := by have := p2.length_eq; rwa [List.length_cons, Array.length_toList, Array.length_toList] at this
    have z1 : fs.size ≤ (ks ++ [k]).length := by rw [List.length_append, zz]; exact Nat.succ_le_succ hz
    have b1 : fs.size < scanBound := by rw [zz]; omega
    have led : w.params.followText "set-order" = true ∨ u.led = true := hl.imp id (l1.trans ·)
    refine wpAny_bind (gw _ ?_)
    split
    · refine wpAny_bind ?_
      rw [hashByValue_scannable 8 scn]
      refine wpAny_pure (ts_tail ?_ ho hex hd g1 n1 m1 z1 b1 ?_ ?_ ?_ ?_)
      · intro b s1 Q1 q; cases b <;> first | exact wpAny_pure q | exact wpAny_rule q
      · first | (split <;> first | exact f1 | exact SetTable.fits_plain_off f1) | exact f1
      · first | (split <;> exact r1) | exact r1
      · first | (split <;> exact led) | exact led
      · intro h1 sb q; dsimp only; exact wpAny_pure (hQ _ h1 sb q)
    · refine wpAny_bind (wpAny_pure ?_)
      simp only [↓reduceIte]
      refine ts_tail ?_ ho hex hd g1 n1 m1 z1 b1 f1 r1 led ?_
      · intro b s1 Q1 q; cases b <;> first | exact wpAny_pure q | exact wpAny_rule q
      · intro h1 sb q; dsimp only; exact wpAny_pure (hQ _ h1 sb q)
end
section
variable {P : Program} {w : World} {A : Around} {E : Value → Shared → Prop} {s : Shared}
theorem ts_loop {I : Addr} {fp wr : List Addr} {G : Array GenState → Array GenState → Prop} {n : Nat} {Pv : Nat → Value → Prop} {St : Nat → Shared → Prop} {R : Result → Shared → Prop} (W : WalksS P w A.in1 I fp wr G n Pv St) (S : Addr) (hS : S ∉ fp) (xs : List Str) (hn : n = xs.length) (hb : xs.length + 1 < scanBound)
    (hv : ∀ i v, Pv i v → ∃ k t, xs[i]? = some k ∧ v = .str k t) : ∀ (m i : Nat) (s : Shared), n - i = m → i ≤ n → St i s → TS w s.heap S (xs.take i) → (∀ s1, Moved (S :: wr) G s s1 → TS w s1.heap S xs → R (.ok (.ret .none)) s1) → codeAny (model P w) A (.builtin "set.update.loop" ⟨[.ref S, .ref I], []⟩) R s := by
  have away : S ∉ wr := fun h => hS (W.sub _ h)
  have wide : ∀ b ∈ wr, b ∈ S :: wr := fun b => List.mem_cons_of_mem _
  intro m
  induction m with
  | zero =>
    intro i s hm hi hst hT hR
    obtain rfl : i = n := by omega
    refine codeAny_builtin F.entry_set_update_loop ?_
    rw [Around.under_plainId F.plain_set_update_loop _]
    show wpAny _ A.in1 (pyNext (.ref I) >>= _) _ _ s
    refine wpAny_bind (W.done s _ _ hst fun s1 mv => ?_)
    rw [List.take_of_length_le (by omega)] at hT
    exact wpAny_pure (hR s1 (mv.mono wide) (hT.keep fun o e => mv.heap S o away e))
  | succ m ih =>
    intro i s hm hi hst hT hR
    have lt : i < n := by omega
    refine codeAny_builtin F.entry_set_update_loop ?_
    rw [Around.under_plainId F.plain_set_update_loop _]
    show wpAny _ A.in1 (pyNext (.ref I) >>= _) _ _ s
    refine wpAny_bind (W.item i s _ _ lt hst fun v s1 pv st1 mv => ?_)
    obtain ⟨k, u, hk, rfl⟩ := hv i v pv
    have T1 : TS w s1.heap S (xs.take i) := hT.keep fun o e => mv.heap S o away e
    show wpAny _ A.in1 (holding [Value.str k u] (setAdd S (.str k u)) >>= _) _ _ s1
    refine wpAny_bind (wpAny_holding ?_)
    unfold setAdd
    refine wpAny_holding (wpAny_bind ((PySem.strKind P w).pyHash (k := k) (strKind_is _ _ _ _) ?_))
    refine ts_add (s := { s1 with toks := s1.toks + 1 }) T1 (by rw [List.length_take]; omega) fun _ h2 sb T2 => ?_
    have ek : xs.take i ++ [k] = xs.take (i + 1) := by rw [List.take_add_one, hk]; rfl
    rw [ek] at T2
    refine wpAny_pure ⟨plainId_quiet F.plain_set_update_loop _, ih (i + 1) _ (by omega) lt (W.frame _ s1 _ _ st1 (Nat.le_succ _) fun b hb' o e => ?_) T2 fun s2 mv2 T3 => hR s2 (Moved.trans W.gtrans ((mv.mono wide).then_heap (Nat.le_succ _) fun b o hb' e => ?_) mv2) T3⟩
    · exact (sb.2 b fun z => hS (z ▸ hb')).trans e
    · exact (sb.2 b fun z => hb' (z ▸ List.mem_cons_self)).trans e
/-- the object of set() -/
abbrev ob (w : World) : Obj := { cls := .type "set", dict := none, data := .set #[] 0 (.fresh 0 0 (!w.params.followText "set-order")) }
theorem ts_nil {h : Heap} {a : Addr} (ho : h.get? a = some (ob w)) : TS w h a [] := ⟨_, #[], 0, _, ho, ⟨rfl, rfl, rfl⟩, rfl, (fun e he => by simp at he), by simp, by simp, by simp, by decide, rfl, List.Pairwise.nil, by
  cases q : w.params.followText "set-order"
  · exact .inr rfl
  · exact .inl rfl⟩
theorem ts_call {l : Addr} {items : Array Value} (xs : List Str) {Q : Value → Shared → Prop} (hh : A.handled = none) (hl : s.heap.IsList l items) (hx : StrsAre items.toList xs) (hb : xs.length + 1 < scanBound) (h : ∀ (h1 : Heap) (tk : Nat), TS w h1 s.heap.objs.size xs → (∀ b o, s.heap.get? b = some o → h1.get? b = some o) → Q (.ref s.heap.objs.size) { s with heap := h1, toks := tk }) :
    wpAny (model P w) A (call (.type "set") [.ref l]) Q E s := by
  have isz : items.size = xs.length := by rw [← Array.length_toList]; exact StrsAre.length hx
  obtain ⟨c, tl, mro⟩ := F.called_set.mro
  have made := F.called_set.made
  have sub := F.called_set.sub
  refine wpAny_call (codeAny_of_tree ?_)
  show wpAny _ _ (callAny (.type "set") _) _ _ _
  refine wpAny_pure ⟨Code.quiet_builtin _ (by decide +kernel), codeAny_builtin F.entry_type_call ?_⟩
  rw [Around.under_plain (weight_type_call_type "set" [.ref l] []) rfl]
  have c1 := F.called_set.notType
  have c2 := F.called_set.canCreate
  have c3 := F.typeCall_set_1 (.ref l)
  repeat (any_goals (first | assumption | wp_step))
  refine codeAny_mono (code_set_led1 (.ref l) (E := E) (Q₁ := fun y s1 => y = .ref s.heap.objs.size ∧ s1 = { s with heap := s.heap.push (ob w) }) ⟨rfl, rfl⟩) fun r s1 hr => ?_
  cases r with
  | error e => exact hr
  | ok fl =>
    cases fl with
    | ret y =>
      obtain ⟨rfl, rfl⟩ := hr
      have at0 : (s.heap.push (ob w)).get? s.heap.objs.size = some (ob w) := Heap.get?_push_size _ rfl
      have ty0 : Shared.TypeIs { s with heap := s.heap.push (ob w) } (.ref s.heap.objs.size) "set" := ⟨_, at0, rfl⟩
      have i1 := F.called_set.init.lookup
      have i2 := F.called_set.init.bind (.ref s.heap.objs.size)
      repeat (any_goals (first | assumption | wp_step))
      refine codeAny_mono (codeAny_call_builtin (R := wants (fun r s2 => r = .none ∧ ∃ h1 tk, s2 = { s with heap := h1, toks := tk } ∧ TS w h1 s.heap.objs.size xs ∧ ∀ b o, s.heap.get? b = some o → h1.get? b = some o) E) F.called_set.init.plain F.entry_set_init (check_set_init_1 ty0 ?_)) fun r2 s2 hr2 => ?_
      · obtain ⟨ol, hol, hcl, nl, hdl⟩ := hl
        obtain ⟨o1, o2, o3, o4⟩ := ol
        simp only at hcl hdl
        subst hcl; subst hdl
        have at1 : (s.heap.push (ob w)).get? l = some { cls := .type "list", dict := o2, data := .seq items nl, slots := o4 } := Heap.get?_push_of_some _ hol
        have k1 := F.sub_list_set
        have k2 := F.sub_list_frozenset
        have k3 : (Value.type "list" == Value.type "dict") = false := by decide
        have il : (s.heap.push (ob w)).IsList l items := ⟨_, at1, rfl, nl, rfl⟩
        unfold Builtin.«set.__init__» noKeywords Builtin.Frozenset.updateFrom
        generalize pi0 : pyIter = PI
        wp_walk
        subst pi0
        refine wpAny_pyIter_list il ?_
        refine wpAny_bind (wpAny_runValue ?_)
        have ll : l < s.heap.objs.size := Heap.lt_size hol
        have h3 : A.in1.in1.in1.handled = none := by simp [hh]
        have z1 : (s.heap.push (ob w)).objs.size = s.heap.objs.size + 1 := Heap.size_push ..
        have ne1 : l ≠ (s.heap.push (ob w)).objs.size := by rw [z1]; exact Nat.ne_of_lt (Nat.lt_succ_of_lt ll)
        have ne2 : s.heap.objs.size ∉ [(s.heap.push (ob w)).objs.size, l] := by
          rw [z1]
          intro z
          rcases List.mem_cons.mp z with z | z
          · exact absurd z (Nat.ne_of_lt (Nat.lt_succ_self _))
          · exact absurd (List.mem_singleton.mp z) (Nat.ne_of_gt ll)
        have vals : ∀ (i : Nat) (v : Value), items[i]? = some v → ∃ k t, xs[i]? = some k ∧ v = .str k t := fun i v hv => by
          have hi : i < xs.length := isz ▸ (Array.getElem?_eq_some_iff.mp hv).1
          obtain ⟨t, e⟩ := SS.strs_at hx i v (by rw [Array.getElem?_toList]; exact hv)
          refine ⟨xs[i], t, List.getElem?_eq_getElem hi, e.trans ?_⟩
          rw [List.getD_eq_getElem?_getD, List.getElem?_eq_getElem hi]; rfl
        refine ts_loop ((Walks.list h3 _ l ne1 items).toS) s.heap.objs.size ne2 xs isz hb vals (items.size - 0) 0 _ (by omega) (Nat.zero_le _) ⟨⟨_, Heap.get?_push_size _ rfl, rfl, rfl⟩, (il.push _)⟩ (ts_nil (Heap.get?_push_of_some _ at0)) ?_
        intro s3 mv T3
        obtain ⟨h4, g4, d4, t4, o4⟩ := s3
        obtain rfl : g4 = s.gens := mv.gens
        obtain rfl : d4 = s.drawn := mv.drawn
        obtain rfl : o4 = s.os := mv.os
        show wpAny _ _ _ _ _ _
        refine wpAny_pure ?_
        show wpAny _ _ (ret Value.none) _ _ _
        refine wpAny_pure ⟨rfl, h4, t4, rfl, T3, fun b o e => ?_⟩
        have lb : b < s.heap.objs.size := Heap.lt_size e
        refine mv.heap b o (fun z => ?_) (Heap.get?_push_of_some _ (Heap.get?_push_of_some _ e))
        rcases List.mem_cons.mp z with z | z
        · exact absurd z (Nat.ne_of_lt lb)
        · exact absurd lb (by rw [List.mem_singleton.mp z]; show ¬ (s.heap.push (ob w)).objs.size < _; rw [z1]; omega)
      · cases r2 with
        | error e => exact hr2
        | ok fl2 =>
          cases fl2 with
          | ret r =>
            obtain ⟨rfl, h1, tk, rfl, T1, k1⟩ := hr2
            repeat (any_goals (first | assumption | wp_step))
            exact h _ _ T1 k1
          | _ => exact hr2.elim
    | _ => exact hr.elim
end
end Ss

/-! sorted(set(texts)) -/
namespace Ss
open PySem PySem.Spec PyProof.Rows L2
section
variable {P : Program} {w : World} {A : Around} {E : Value → Shared → Prop} {s : Shared} {a : Addr}
theorem txs_of {w : World} : ∀ (l : List (Int × Value)), (∀ e ∈ l, Tx w e) → StrsAre (l.map (·.2)) (l.map txt)
  | [], _ => .nil
  | e :: l, g => by
    obtain ⟨x, u, e1, _⟩ := g e List.mem_cons_self
    have q : txt e = x := by rw [txt, e1]
    rw [List.map_cons, List.map_cons, q, e1]
    exact .cons x u (txs_of l fun y hy => g y (List.mem_cons_of_mem _ hy))
theorem ts_sorted {ks : List Str} {Q : Value → Shared → Prop} (r : TS w s.heap a ks) (hh : A.handled = none) (h64 : ks.length < 64)
    (hQ : ∀ s1 p (out : Array Value) (c : Nat) (ys : List Str), (∀ b o, s.heap.get? b = some o → s1.heap.get? b = some o) → s1.gens = s.gens → s1.os = s.os → s.heap.objs.size ≤ p → s1.heap.get? p = some (seqObj "list" out c) → StrsAre out.toList ys → sortedS ys = true → ys.Nodup → (∀ k, k ∈ ys ↔ k ∈ ks) → Q (.ref p) s1) :
    wpAny (model P w) A (call (.builtin "sorted") [.ref a]) Q E s := by
  obtain ⟨o, es, ep, t, ho, hex, hd, g, nd, hm, hz, hb, hf, hr, hl⟩ := r
  refine Calls.call_function_entry kind_sorted plain_sorted entry_sorted (args_sorted1 _) ?_
  unfold Builtin.«sorted»
  refine wpAny_bind (m := checkCount "sorted" 1 1 _) (wpAny_pure (wpAny_bind (collect_set (A := A.in1) hh ⟨o, ho, hex.1, hd⟩ hf hb hr hl fun s1 vs k1 sz g1 o1 pm => ?_)))
  obtain ⟨zs, hzs, ez⟩ : ∃ zs : List (Int × Value), zs.Perm es.toList ∧ zs.map (·.2) = vs := by
    obtain ⟨zs, q1, q2⟩ := LM.perm_map_inv pm es.toList rfl
    exact ⟨zs, q1, q2.symm⟩
  subst ez
  have sa : StrsAre (zs.map (·.2)) (zs.map txt) := txs_of zs fun e he => g e (hzs.mem_iff.mp he)
  have len : (zs.map (·.2)).length < 64 := by rw [List.length_map, hzs.length_eq, Array.length_toList]; omega
  refine wpAny_bind (wpAny_newList ?_ (by rw [sizeLine_eq]; omega))
  have at1 : (s1.heap.push (seqObj "list" (zs.map (·.2)).toArray 0)).get? s1.heap.objs.size = some (seqObj "list" (zs.map (·.2)).toArray 0) := Heap.get?_push_size _ rfl
  refine wpAny_bind (wpAny_holding (wpAny_call_entry slot_list_sort ⟨_, at1, rfl⟩ entry_list_sort (list_sort_treeK strKind_oneLt at1 sa.keysOf (fun v₁ v₂ rest e => keyKind_strs (by rw [← e]; exact sa)) len fun st p1 p2 => ⟨_, rfl, ?_⟩) (args_list_sort _)))
  obtain ⟨ys, y1, y2, y3⟩ := sorted_out_str sa p1 p2
  obtain ⟨c, hc⟩ := sortedHeap_at (vs := zs.map (·.2)) (out := (arrOf st).map (·.2)) at1
  have y4 : ys.Perm (es.toList.map txt) := y2.trans (hzs.map txt)
  refine wpAny_pure ⟨_, rfl, hQ _ s1.heap.objs.size _ c ys (fun b u e => ?_) g1 o1 sz hc y1 y3 (y4.nodup_iff.mpr nd) fun k => by rw [y4.mem_iff, hm k]⟩
  have e1 := k1 b u e
  have lt := Heap.lt_size e1
  refine (sortedHeap_old (Nat.ne_of_lt lt) ?_).trans (Heap.get?_push_of_some _ e1)
  rw [size_push']; exact Nat.lt_succ_of_lt lt
end
section
variable {X : Cx}
/-- sorted(set(xs)) of a list of texts -/
def rSset (K : PySem.W.Frag) : List V → Hp → VK → Prop := fun vs H Q => ∃ (l : Addr) (xs : List Str), vs = [V.ref l] ∧ SqL K H l (xs.map V.str) ∧ xs.length < 63 ∧ ∀ (ys : List Str) (p : Addr), sortedS ys = true → ys.Nodup → (∀ k, k ∈ ys ↔ k ∈ xs) → H p = none → Q (.ref p) (upd H p (.lst (ys.map V.str)))
theorem nodup_le {α : Type} [DecidableEq α] : ∀ (l m : List α), l.Nodup → (∀ x ∈ l, x ∈ m) → l.length ≤ m.length
  | [], m, _, _ => Nat.zero_le _
  | x :: l, m, hn, hs => by
    obtain ⟨h1, h2⟩ := List.nodup_cons.mp hn
    have hx := hs x List.mem_cons_self
    have := nodup_le l (m.erase x) h2 fun y hy => (List.mem_erase_of_ne (fun e : y = x => h1 (e ▸ hy))).mpr (hs y (List.mem_cons_of_mem _ hy))
    rw [List.length_erase_of_mem hx] at this
    have := List.length_pos_of_mem hx
    rw [List.length_cons]; omega
theorem pe_sset {a : Expr} {ta : TA} {p p2 q pos : Pos} (hc : X.calm = true) (hg : Gl X "sorted") (hm : X.mg "sorted" = none) (hg2 : Gl X "set") (hm2 : X.mg "set" = none) (ha : PA X [a] ta) (na : starEach [a] X.env = (false, eval a X.env) :: starEach [] X.env := by rfl) :
    PE X (.Call (.Name "sorted" p) [.Call (.Name "set" p2) [a] [] q] [] pos) (tCB (rSset X.K) ta) := by
  refine ⟨fun pins s σ H Q I h => ?_⟩
  refine Call_ (ld_blt I hg hm PyProof.Rows.boot_sorted ?_)
  refine PyProof.Rows.callWith_builtin1 (PyProof.Rows.args_cons ?_ rfl) rfl rfl
  refine Call_ (ld_blt I hg2 hm2 PyProof.Rows.boot_set ?_)
  refine PyProof.Rows.callWith_type1 (thn (ha.run q pins s σ H _ I h) fun us s1 ⟨vs, H1, I1, r1, q1⟩ => ?_) na rfl
  obtain ⟨l, xs, rfl, hl, h64, q1⟩ := q1
  rw [Vals.ref1 r1]
  obtain ⟨its, rv, pl, _⟩ := I1.list hl
  refine ts_call xs (I1.ok.hd hc) pl.isList (by simpa using rv.strs) (by unfold scanBound; omega) fun h1 tk T1 k1 => ?_
  have I2 : Inv X pins σ H1 { s1 with heap := h1, toks := tk } := I1.kept k1
  refine PyProof.Rows.args_nil ?_
  refine ts_sorted (s := { s1 with heap := h1, toks := tk }) T1 (I2.ok.hd hc) (by omega) fun s' p' out c ys k g o hp hg' hi hs hn hm' => ?_
  have len : (ys.map V.str).length ≤ sizeLine := by
    have := nodup_le ys xs hn fun x hx => (hm' x).mp hx
    rw [List.length_map, sizeLine_eq]; omega
  have hn' : H1 p' = none := I2.hok.fresh hp
  have J : Inv X pins σ (upd H1 p' (.lst (ys.map V.str))) { ({ s1 with heap := h1, toks := tk } : Shared) with heap := s'.heap, gens := s'.gens, drawn := s'.drawn, toks := s'.toks } := I2.call (ch := []) (Un.laid k hp hn') (I2.hok.laid k hp ⟨len, out.toList, c, vals_of_strs hi, hg'⟩) (by rw [g]; exact I1.bare) (fun _ z => nomatch z)
  have e : s' = { s1 with heap := s'.heap, gens := s'.gens, drawn := s'.drawn, toks := s'.toks } := by
    obtain ⟨a1, a2, a3, a4, a5⟩ := s'
    obtain ⟨b1, b2, b3, b4, b5⟩ := s1
    cases o
    rfl
  rw [e]
  exact ⟨.ref p', _, J, rfl, q1 ys p' hs hn hm' hn'⟩
theorem pe_ssetK (K : PySem.W.Frag) {a : Expr} {ta : TA} {p p2 q pos : Pos} (hc : X.calm = true) (hg : Gl X "sorted") (hm : X.mg "sorted" = none) (hg2 : Gl X "set") (hm2 : X.mg "set" = none) (ha : PA X [a] ta) (hK : X.K = K := by rfl) (na : starEach [a] X.env = (false, eval a X.env) :: starEach [] X.env := by rfl) :
    PE X (.Call (.Name "sorted" p) [.Call (.Name "set" p2) [a] [] q] [] pos) (tCB (rSset K) ta) := hK ▸ pe_sset hc hg hm hg2 hm2 ha na
end
end Ss
namespace Va
open PySem L2 Kt LM DO PyProof.Rows
theorem rc_sset {L : Bool} {K : PySem.W.Frag} : RCN L (Ss.rSset K) (fun us q => ∃ xs : List Str, us = [.lst (xs.map U.str)] ∧ xs.length < 63 ∧ ∀ ys : List Str, sortedS ys = true → ys.Nodup → (∀ k, k ∈ ys ↔ k ∈ xs) → q (.lst (ys.map U.str))) := by
  intro F G H xs us s _ r q Q hu k
  obtain ⟨ns, rfl, hl, hq⟩ := hu
  obtain ⟨v, rfl, h⟩ := r.one
  obtain ⟨a, zs, rfl, ho, ra⟩ := h.lst s
  exact ⟨a, ns, rfl, by rw [← of_strs ra]; exact SqL.of ho, hl, fun ys p hs hd hm hn => k _ p _ G _ (hq ys hs hd hm) (Xt.hid s hn) hn (s.free hn) upd_same (.lst (repA_str ys))⟩
/-- the greater number of each kind -/
def fOr (C : Addr) : Pr → Pr → (U → Prop) → Prop := fun m n q => Ok m ∧ Ok n ∧ m.length + n.length < 63 ∧ ∀ r : Pr, Ok r → (∀ k, lk r k = max (lk m k) (lk n k)) → q (lotU C r)
end Va
namespace Kt
open PySem L2
theorem call_isiK (K : PySem.W.Frag) {X : Cx} (hK : X.K = K := by rfl) : CallR X (.builtin "isinstance") (rIsi K) := hK ▸ call_isi
end Kt

/-! dicts of numbers beside lots: plain lemmas -/
namespace Va
open PySem L2 Kt LM DO
theorem sumK_of {f : Str → Int} : ∀ {ys : List Str}, ys.Nodup → ∀ k, sumK (ys.map fun y => (y, f y)) k = if k ∈ ys then f k else 0
  | [], _, k => by simp [sumK]
  | y :: ys, hn, k => by
    obtain ⟨h1, h2⟩ := List.nodup_cons.mp hn
    rw [List.map_cons, sumK, sumK_of h2]
    by_cases e : y = k
    · subst e; simp [h1]
    · have e2 : ¬ k = y := fun z => e z.symm
      simp [e, e2]
def gD (m : Pr) (k : Str) : Int := (look m k).getD 0
def mpD (f : Str → Int) (ks : List Str) : Pr := ks.map fun k => (k, f k)
theorem mpD_keys (f : Str → Int) (ks : List Str) : (mpD f ks).map (·.1) = ks := by rw [mpD, List.map_map]; exact List.map_id _
theorem sumK_look : ∀ {d : Pr}, (d.map (·.1)).Nodup → ∀ k, sumK d k = gD d k
  | [], _, k => rfl
  | p :: r, h, k => by
    obtain ⟨h1, h2⟩ := List.nodup_cons.mp (show (p.1 :: r.map (·.1)).Nodup from h)
    rw [sumK, sumK_look h2]
    unfold gD
    by_cases e : p.1 = k
    · subst e
      rw [if_pos rfl, look_none h1, show look (p :: r) p.1 = some p.2 from by rw [look]; exact if_pos rfl]; simp
    · rw [if_neg e, show look (p :: r) k = look r k from by rw [look]; exact if_neg e]; simp
theorem gD_mem {d : Pr} (h : (d.map (·.1)).Nodup) {x : Str × Int} (hx : x ∈ d) : x.2 = gD d x.1 := by rw [gD, look_mem h hx]; rfl
theorem gD_in {d : Pr} {k : Str} (h : gD d k ≠ 0) : (k, gD d k) ∈ d := by
  unfold gD at h ⊢
  cases e : look d k with
  | none => rw [e] at h; exact absurd rfl h
  | some v => exact look_some_mem e
theorem lotD_ext {D r : Pr} (hD : (D.map (·.1)).Nodup) (hr : Ok r) (h : ∀ k, lk r k = gD D k) : lotD D = r := by
  refine (lotD_ok D).ext hr fun k => ?_
  rw [lk_lotD hD (fun x hx => by rw [gD_mem hD hx, ← h]; exact hr.lk_nn _) k, h]; rfl
theorem gD_mp {f : Str → Int} {ks : List Str} (hn : ks.Nodup) (k : Str) : gD (mpD f ks) k = if k ∈ ks then f k else 0 := by
  rw [← sumK_look (by rw [mpD_keys]; exact hn), mpD, sumK_of hn]
theorem gD_out {ns : List Str} {m : Pr} (h : ∀ p ∈ m, p.1 ∈ ns) {k : Str} (hk : k ∉ ns) : gD m k = 0 := by
  rw [gD, look_none fun z => ?_]; rfl
  obtain ⟨p, hp, rfl⟩ := List.mem_map.mp z
  exact hk (h p hp)
theorem mp_eq {f : Str → Int} {ns : List Str} {r : Pr} (hn : ns.Nodup) (hr : Ok r) (h : ∀ k, lk r k = f k) (ho : ∀ k, k ∉ ns → f k = 0) : lotD (mpD f ns) = r := by
  refine lotD_ext (by rw [mpD_keys]; exact hn) hr fun k => ?_
  rw [gD_mp hn, h]
  split
  · rfl
  · exact ho k ‹_›
theorem isDL {us : List U} (h : ∀ u ∈ us, isD u = true) : isD (.lst us) = true := by
  show isDs us = true
  rw [isDs_eq, List.all_eq_true]; exact h
theorem fitL {n : Nat} {us : List U} (hl : us.length ≤ 10000) (h : ∀ u ∈ us, Fit n (toD u)) : Fit (n + 1) (toD (.lst us)) := by
  show Fit (n + 1) (.list (toDs us))
  rw [toDs_eq]
  refine fit_list (by rw [List.length_map]; exact hl) fun e he => ?_
  obtain ⟨u, hu, rfl⟩ := List.mem_map.mp he
  exact h u hu
/-! orders -/
theorem within_iff {M N : Pr} (hM : Ok M) (hN : Ok N) : (M.all fun p => decide (p.2 ≤ lk N p.1)) = true ↔ ∀ k, lk M k ≤ lk N k := by
  rw [List.all_eq_true]
  constructor
  · intro h k
    by_cases e : lk M k = 0
    · rw [e]; exact hN.lk_nn k
    · exact of_decide_eq_true (h _ (lk_pos_mem e))
  · intro h p hp
    refine decide_eq_true ?_
    rw [← hM.lk_mem hp]; exact h _
theorem lies_iff {m n : Pr} (hm : (m.map (·.1)).Nodup) (hn : ∀ k, 0 ≤ gD n k) : (m.all fun p => decide (p.2 ≤ (look n p.1).getD 0)) = true ↔ ∀ k, gD m k ≤ gD n k := by
  rw [List.all_eq_true]
  constructor
  · intro h k
    by_cases e : gD m k = 0
    · rw [e]; exact hn k
    · exact of_decide_eq_true (h _ (gD_in e))
  · intro h p hp
    refine decide_eq_true ?_
    rw [gD_mem hm hp]; exact h _
theorem bool_iff {a b : Bool} (h : a = true ↔ b = true) : a = b := by cases a <;> cases b <;> simp_all
theorem within_lies {m n : Pr} (hm : (m.map (·.1)).Nodup) (hn : (n.map (·.1)).Nodup) (h0 : ∀ p ∈ m, 0 ≤ p.2) (h1 : ∀ p ∈ n, 0 ≤ p.2) :
    ((lotD m).all fun p => decide (p.2 ≤ lk (lotD n) p.1)) = m.all fun p => decide (p.2 ≤ (look n p.1).getD 0) := by
  refine bool_iff ((within_iff (lotD_ok m) (lotD_ok n)).trans ?_)
  refine Iff.trans ?_ (lies_iff hm fun k => ?_).symm
  · refine forall_congr' fun k => ?_
    rw [lk_lotD hm h0, lk_lotD hn h1]; rfl
  · show 0 ≤ (look n k).getD 0
    rw [← lk_lotD hn h1]; exact (lotD_ok n).lk_nn k
theorem sumK_neg (n : Pr) (k : Str) : sumK (n.map fun p => (p.1, - p.2)) k = - sumK n k := by
  induction n with
  | nil => rfl
  | cons p r ih =>
    rw [List.map_cons, sumK, sumK, ih]
    split <;> omega
theorem sub_nn {M N : Pr} (hM : Ok M) (h : ∀ k, lk N k ≤ lk M k) : ∀ x ∈ M.map (fun p => ((p.1, p.2 - lk N p.1) : Str × Int)), 0 ≤ x.2 := fun x hx => by
  obtain ⟨p, hp, rfl⟩ := List.mem_map.mp hx
  have h1 := h p.1
  rw [hM.lk_mem hp] at h1
  show 0 ≤ p.2 - lk N p.1
  omega
theorem sub_lk {M N : Pr} (hM : Ok M) (hN : Ok N) (h : ∀ k, lk N k ≤ lk M k) (k : Str) : lk (mkLot (M.map fun p => (p.1, p.2 - lk N p.1))) k = lk M k - lk N k := by
  rw [lk_mk (sub_nn hM h), sumK_map hM (fun k v => v - lk N k) k fun e => by have h1 := h k; have h2 := hN.lk_nn k; omega]
theorem sub_lotD {m n : Pr} (hm : (m.map (·.1)).Nodup) (hn : (n.map (·.1)).Nodup) (h0 : ∀ p ∈ m, 0 ≤ p.2) (h1 : ∀ p ∈ n, 0 ≤ p.2) (h : ∀ k, lk (lotD n) k ≤ lk (lotD m) k) :
    mkLot ((lotD m).map fun p => (p.1, p.2 - lk (lotD n) p.1)) = lotD (tallyFrom (tally (lotD m)) (n.map fun p => (p.1, - p.2))) := by
  refine (lotD_ext (tallyFrom_nodup _ _ (tally_nodup _)) (mk_ok (sub_nn (lotD_ok m) h)) fun k => ?_).symm
  rw [sub_lk (lotD_ok m) (lotD_ok n) h, gD, (tally_look_from _ (tally (lotD m)) k).1, sumK_neg, sumK_look hn, show (look (tally (lotD m)) k).getD 0 = _ from (tally_look_from (lotD m) [] k).1, (lotD_ok m).sumK, lk_lotD hn h1]
  simp [look, gD]; omega
/-- the first one that lacks is the least one that lacks -/
theorem first_lack {m n : Pr} (hm : (m.map (·.1)).Nodup) (hn : (n.map (·.1)).Nodup) (h0 : ∀ p ∈ m, 0 ≤ p.2) (h1 : ∀ p ∈ n, 0 ≤ p.2) {i : Nat} {k k' : Str} {c a : Int}
    (hi : (lotD n)[i]? = some (k, c)) (hc : lk (lotD m) k < c) (hp : ∀ p ∈ (lotD n).take i, p.2 ≤ lk (lotD m) p.1)
    (ha : (k', a) ∈ n) (hl : (look m k').getD 0 < a) (hq : ∀ p ∈ n, slt p.1 k' = true → p.2 ≤ (look m p.1).getD 0) : k' = k ∧ a = c := by
  have em : ∀ k, lk (lotD m) k = (look m k).getD 0 := lk_lotD hm h0
  have hkm : (k, c) ∈ lotD n := List.mem_of_getElem? hi
  have hkn : (k, c) ∈ n := (lotD_mem hn h1 hkm).1
  have ean : a = gD n k' := gD_mem hn ha
  have ecn : c = gD n k := gD_mem hn hkn
  have ekk : k' = k := by
    refine slt_tri ?_ ?_
    · by_cases e : slt k' k = true
      · exfalso
        have hm0 := (lotD_ok m).lk_nn k'
        rw [em] at hm0
        have hlk : lk (lotD n) k' = a := by rw [lk_lotD hn h1, ean]; rfl
        have hin : (k', a) ∈ lotD n := by
          have := lk_pos_mem (m := lotD n) (k := k') (by omega)
          rwa [hlk] at this
        obtain ⟨hlt, he⟩ := List.getElem?_eq_some_iff.mp hi
        have hs := (lotD_ok n).srt
        have ed : lotD n = (lotD n).take i ++ (k, c) :: (lotD n).drop (i + 1) := by
          conv => lhs; rw [← List.take_append_drop i (lotD n), List.drop_eq_getElem_cons hlt, he]
        rw [ed] at hin hs
        rcases List.mem_append.mp hin with h | h
        · have := hp _ h
          rw [em] at this
          dsimp only at this
          omega
        · rcases List.mem_cons.mp h with h | h
          · cases h; rw [slt_irr] at e; cases e
          · have h2 := (List.pairwise_cons.mp (List.pairwise_append.mp hs).2.1).1 _ h
            rw [slt_asym h2] at e; cases e
      · simpa using e
    · by_cases e : slt k k' = true
      · exfalso
        have := hq (k, c) hkn e
        rw [em] at hc
        dsimp only at this
        omega
      · simpa using e
  exact ⟨ekk, by rw [ean, ecn, ekk]⟩
theorem eqv_encP (p q : Str × Int) : PyData.eqv (encP p) (encP q) = decide (p = q) := by
  obtain ⟨k, c⟩ := p
  obtain ⟨k', c'⟩ := q
  refine bool_iff ?_
  simp [encP, PyData.eqv, PyData.eqvAll]
theorem eqv_enc : ∀ (M N : Pr), PyData.eqvAll (M.map encP) (N.map encP) = decide (M = N)
  | [], [] => by simp [PyData.eqvAll]
  | [], _ :: _ => by simp [PyData.eqvAll]
  | _ :: _, [] => by simp [PyData.eqvAll]
  | p :: M, q :: N => by
    rw [List.map_cons, List.map_cons, PyData.eqvAll, eqv_enc M N, eqv_encP]
    refine bool_iff ?_
    simp
theorem eqv_sU (M N : Pr) : PyData.eqv (toD (.tup (sU M))) (toD (.tup (sU N))) = decide (M = N) := by
  rw [toD_sU, toD_sU, PyData.eqv, eqv_enc]
theorem shaped_sU {ps : Pr} (h : ∀ x ∈ ps, PyData.strOk x.1 = true) : SeqAt.shaped (toD (.tup (sU ps))) = true := by
  rw [toD_sU]
  refine (shd_tup (n := 1) fun d hd => ?_).shaped (by decide)
  obtain ⟨x, hx, rfl⟩ := List.mem_map.mp hd
  exact shd_encP (h x hx)
theorem fit_bls {n : Nat} {us : List U} (hl : us.length ≤ 10000) (h : ∀ u ∈ us, ∃ b, u = .bl b) : Fit (n + 2) (toD (.lst us)) := fitL hl fun u hu => by
  obtain ⟨b, rfl⟩ := h u hu
  exact fit_bl b
theorem eqv_rf {d : PyData} (h : SeqAt.shaped d = true) : PyData.eqv d d = true := SeqAt.eqv_refl d (SeqAt.canLay_of_shaped h)
/-- a list of lists -/
def llU (ps : Pr) : U := .lst (ps.map fun p => .lst [.str p.1, .int p.2])
theorem isD_llU (ps : Pr) : isD (llU ps) = true := isDL fun u hu => by
  obtain ⟨p, _, rfl⟩ := List.mem_map.mp hu
  rfl
theorem shaped_llU {ps : Pr} (h : ∀ x ∈ ps, PyData.strOk x.1 = true) : SeqAt.shaped (toD (llU ps)) = true := by
  show SeqAt.shaped (.list (toDs (ps.map fun p => U.lst [.str p.1, .int p.2]))) = true
  rw [toDs_eq]
  refine (shd_list (n := 1) fun d hd => ?_).shaped (by decide)
  obtain ⟨u, hu, rfl⟩ := List.mem_map.mp hd
  obtain ⟨p, hp, rfl⟩ := List.mem_map.mp hu
  refine shd_list (n := 0) fun d hd => ?_
  simp only [toDs, toD, List.mem_cons, List.not_mem_nil, or_false] at hd
  rcases hd with rfl | rfl
  · exact shd_str (h p hp)
  · exact shd_int _
theorem tally_bound {ps : Pr} {ns : List Str} (hl : ps.length ≤ 14) (h : ∀ p ∈ ps, p.1 ∈ ns ∧ 0 ≤ p.2 ∧ p.2 < 100000000000) : ∀ p ∈ tally ps, p.1 ∈ ns ∧ 0 ≤ p.2 ∧ p.2 < 2000000000000 := fun p hp => by
  obtain ⟨h1, h2⟩ := tally_vals hp
  obtain ⟨q, hq, e⟩ := List.mem_map.mp h2
  have h3 := sumK_le (B := 100000000000) (ps := ps) (fun x hx => ⟨(h x hx).2.1, by have := (h x hx).2.2; omega⟩) (by decide) p.1
  have h4 := sumK_nn (m := ps) (fun x hx => (h x hx).2.1) p.1
  have h5 : (100000000000 : Int) * (ps.length : Int) ≤ 100000000000 * 14 := Int.mul_le_mul_of_nonneg_left (by omega) (by decide)
  exact ⟨e ▸ (h q hq).1, by omega, by omega⟩
end Va

/-! an own object == a text, == an object of another own class: both decline -/
namespace OO
open PySem PySem.Spec PyProof.Rows L2
open AutoSeq1 (wpAny_loadPart')
theorem str_eq_declines_ins (x : Str) (t : Tok) (b : Addr) (C dx : Addr) (P : Program) (w : World) :
    MeetsIn P w (Builtin.«str.__eq__» ⟨[.str x t, .ref b], []⟩) (fun _ R s => s.heap.get? b = some (PySem.W.instObj C dx) ∧ R (.ok (.ret .notImplemented)) s) := by
  intro A R s h
  obtain ⟨hb, h⟩ := h
  obtain ⟨hp, g, d, tk, os⟩ := s
  wp_walk using wpAny_loadPart' hb, wpAny_load hb
  exact h
section
variable {X : Cx} {n : Nat} {C f : Addr}
/-- x == 'text' -/
def rEqS (C : Addr) (N : List Str) (tc : TT) : R2 := fun x y H Q => ∃ a z dx fs, x = .ref a ∧ y = .str z ∧ H a = some (.ins C dx fs) ∧ tc (L2.start N [.ref a, .str z]) H (fun b H' => b = true ∧ H' = H) ∧ Q (.bl false) H
theorem op_eqS {N ps : List Str} {c : Expr} {p1 p2 p3 : Pos} {rest : List Stmt} {tc : TT} {name qual : Str} {params : Arguments} {scope : Scope} {dV kV doc pm cdv ct oc : Value} {an od : Option Addr} {osl : Array (Option Value)}
    (lk : X.K.lookup f = some ⟨oc, od, .func (PySem.W.fnOf name qual params (.If c [.Return (some (.Name "NotImplemented" p1)) p2] [] p3 :: rest) scope dV kV doc pm an cdv ct), osl⟩) (hcd : PySem.W.codeIn X.K cdv qual = true) (S : FnScope N ps scope) (hps : ps.length = 2)
    (hr : Room (n + 1) X.A) (hb : Binds X.K (PySem.W.fnOf name qual params (.If c [.Return (some (.Name "NotImplemented" p1)) p2] [] p3 :: rest) scope dV kV doc pm an cdv ct) ps []) (o : Own X.K C "__eq__" f)
    (hg : scope.names.lookup ("NotImplemented" : Str) = some .globalImplicit) (hm : X.mg "NotImplemented" = none) (hv : bootBuiltins "NotImplemented" = some .notImplemented)
    (hc : ∀ (A : Around) (outer : List Env) (s : Shared) (H : Hp), Room n (A.deeper (envOfC qual scope s.heap.objs.size f cdv)) → PT (cxOf CX0 X.prog X.w X.K X.mg X.base N qual scope f cdv A outer s H fun _ _ _ => False).nox c tc)
    (h1 : PySem.W.subIn X.K (.type "str") (.ref C) = some false) : OpR X (compareOp .Eq) (rEqS C N tc) := by
  intro pins s σ H x y v u Q I rx ry hq
  obtain ⟨a, z, dx, fs, rfl, rfl, ha, htc, q⟩ := hq
  cases rx
  obtain ⟨t, rfl⟩ := ry
  have own : wpAny (model X.prog X.w) X.A (call (.ref f) [.ref a, .str z t]) (fun r s' => r = .notImplemented ∧ Inv X pins σ H s') X.xe s := by
    have e0 : Env0 X.prog X.w X.K X.mg X.base X.A X.stack s H := I.env0
    refine wpAny_call (ni_of lk hcd S (vs := [.ref a, .str z]) (us := [.ref a, .str z t]) (k := n) (by rw [hps]; rfl) hr e0 (by
      have := hb s [.ref a, .str z t] I.kIn (by rw [hps]; rfl)
      simpa using this) (.cons rfl (.cons ⟨t, rfl⟩ .nil)) hg hm hv (hc X.A X.stack s H) htc fun s' os ba un hk => ?_)
    obtain ⟨hh, g, d, tk, os'⟩ := s'
    obtain rfl : os' = s.os := os
    exact ⟨rfl, I.call (h' := hh) (g' := g) (d' := d) (t' := tk) (ch := []) un hk ba (fun b z => absurd z (by simp))⟩
  obtain ⟨mA, J, _⟩ := ins_get I.hok ha
  obtain ⟨od', J, _⟩ := J.look
  have KX := I.kIn
  have ty : ∀ s1 : Shared, s1.TypeIs (.str z t) "str" := fun s1 => rfl
  show wpAny (model X.prog X.w) X.A (richCompare .Eq (.ref a) (.str z t)) (EP X pins σ Q) X.xe s
  unfold richCompare
  simp only [oneThing_ref]
  refine wpAny_holding (wpAny_bind (wpAny_cRoomFor hr.units0 ?_))
  refine wpAny_bind (J.type.here (wpAny_bind (wpAny_typeOf (ty s) ?_)))
  have hne : (Value.ref C != Value.type "str") = true := by simp
  simp only [hne, if_true]
  refine wpAny_bind ((PySem.W.looks_subIn KX h1).here ?_)
  simp only [Bool.false_eq_true, if_false, Bool.not_false, if_true]
  have one : wpAny (model X.prog X.w) X.A (tryCompare (.ref a) (cmpInfo .Eq).2.1 (.str z t)) (fun r s' => r = none ∧ Inv X pins σ H s') X.xe s := by
    unfold tryCompare
    refine wpAny_bind (PySem.W.ifBound_K KX J o.at_ o.fn (wpAny_mono own (fun r s1 z => ?_) fun _ _ e => e))
    obtain ⟨rfl, I1⟩ := z
    exact wpAny_pure ⟨rfl, I1⟩
  have two : ∀ s1, Inv X pins σ H s1 → wpAny (model X.prog X.w) X.A (tryCompare (.str z t) (cmpInfo .Eq).2.2 (.ref a)) (fun r s' => r = none ∧ Inv X pins σ H s') X.xe s1 := by
    intro s1 I1
    obtain ⟨mB, J1, _⟩ := ins_get I1.hok ha
    refine wpAny_tryCompare_declines (ty s1) PySem.F.slot_str_eq_refl ?_
    exact call_meetsIn PySem.F.slot_str_eq_refl (ty s1) PySem.F.entry_str_eq (PySem.F.args_str_eq_2 _ _) (str_eq_declines_ins z t a C dx X.prog X.w) ⟨J1.obj, rfl, rfl, I1⟩
  refine wpAny_bind (wpAny_mono one (fun r s1 z => ?_) fun _ _ e => e)
  obtain ⟨rfl, I1⟩ := z
  refine wpAny_bind (wpAny_mono (two s1 I1) (fun r s2 z => ?_) fun _ _ e => e)
  obtain ⟨rfl, I2⟩ := z
  refine wpAny_bind (wpAny_rule ?_)
  refine wpAny_bind ?_
  show wpAny _ _ (isSame (.ref a) (.str z t)) _ _ _
  simp only [isSame]
  exact wpAny_pure (wpAny_pure ⟨.bl false, H, I2, rfl, q⟩)
/-- x == y, x of the class C, y of another class D; both answer NotImplemented by their first tests -/
def rEqO (C D : Addr) (N N' : List Str) (tc tc' : TT) : R2 := fun x y H Q => ∃ a b dx fs dy gs, x = .ref a ∧ y = .ref b ∧ H a = some (.ins C dx fs) ∧ H b = some (.ins D dy gs) ∧ tc (L2.start N [.ref a, .ref b]) H (fun b H' => b = true ∧ H' = H) ∧ tc' (L2.start N' [.ref b, .ref a]) H (fun b H' => b = true ∧ H' = H) ∧ Q (.bl false) H
theorem ni_call {N ps : List Str} {c : Expr} {p1 p2 p3 : Pos} {rest : List Stmt} {tc : TT} {name qual : Str} {params : Arguments} {scope : Scope} {dV kV doc pm cdv ct oc : Value} {an od : Option Addr} {osl : Array (Option Value)}
    (lk : X.K.lookup f = some ⟨oc, od, .func (PySem.W.fnOf name qual params (.If c [.Return (some (.Name "NotImplemented" p1)) p2] [] p3 :: rest) scope dV kV doc pm an cdv ct), osl⟩) (hcd : PySem.W.codeIn X.K cdv qual = true) (S : FnScope N ps scope) (hps : ps.length = 2)
    (hr : Room (n + 1) X.A) (hb : Binds X.K (PySem.W.fnOf name qual params (.If c [.Return (some (.Name "NotImplemented" p1)) p2] [] p3 :: rest) scope dV kV doc pm an cdv ct) ps [])
    (hg : scope.names.lookup ("NotImplemented" : Str) = some .globalImplicit) (hm : X.mg "NotImplemented" = none) (hv : bootBuiltins "NotImplemented" = some .notImplemented)
    (hc : ∀ (A : Around) (outer : List Env) (s : Shared) (H : Hp), Room n (A.deeper (envOfC qual scope s.heap.objs.size f cdv)) → PT (cxOf CX0 X.prog X.w X.K X.mg X.base N qual scope f cdv A outer s H fun _ _ _ => False).nox c tc)
    {pins : List (Addr × Obj)} {s : Shared} {σ : L2.St} {H : Hp} (I : Inv X pins σ H s) {a b : Addr} (htc : tc (L2.start N [.ref a, .ref b]) H (fun b H' => b = true ∧ H' = H)) :
    wpAny (model X.prog X.w) X.A (call (.ref f) [.ref a, .ref b]) (fun r s' => r = .notImplemented ∧ Inv X pins σ H s') X.xe s := by
  have e0 : Env0 X.prog X.w X.K X.mg X.base X.A X.stack s H := I.env0
  refine wpAny_call (ni_of lk hcd S (vs := [.ref a, .ref b]) (us := [.ref a, .ref b]) (k := n) (by rw [hps]; rfl) hr e0 (by
    have := hb s [.ref a, .ref b] I.kIn (by rw [hps]; rfl)
    simpa using this) (.cons rfl (.cons rfl .nil)) hg hm hv (hc X.A X.stack s H) htc fun s' os ba un hk => ?_)
  obtain ⟨hh, g, d, tk, os'⟩ := s'
  obtain rfl : os' = s.os := os
  exact ⟨rfl, I.call (h' := hh) (g' := g) (d' := d) (t' := tk) (ch := []) un hk ba (fun b z => absurd z (by simp))⟩
theorem op_eqO {D f' : Addr} {N N' : List Str} {tc tc' : TT} (hr : Room (n + 1) X.A) (hCD : C ≠ D) (o : Own X.K C "__eq__" f) (o' : Own X.K D "__eq__" f') (h1 : PySem.W.subIn X.K (.ref D) (.ref C) = some false)
    (hc : ∀ {pins : List (Addr × Obj)} {s : Shared} {σ : L2.St} {H : Hp} (I : Inv X pins σ H s) {a b : Addr} (htc : tc (L2.start N [.ref a, .ref b]) H (fun b H' => b = true ∧ H' = H)), wpAny (model X.prog X.w) X.A (call (.ref f) [.ref a, .ref b]) (fun r s' => r = .notImplemented ∧ Inv X pins σ H s') X.xe s)
    (hc' : ∀ {pins : List (Addr × Obj)} {s : Shared} {σ : L2.St} {H : Hp} (I : Inv X pins σ H s) {a b : Addr} (htc : tc' (L2.start N' [.ref a, .ref b]) H (fun b H' => b = true ∧ H' = H)), wpAny (model X.prog X.w) X.A (call (.ref f') [.ref a, .ref b]) (fun r s' => r = .notImplemented ∧ Inv X pins σ H s') X.xe s) :
    OpR X (compareOp .Eq) (rEqO C D N N' tc tc') := by
  intro pins s σ H x y v u Q I rx ry hq
  obtain ⟨a, b, dx, fs, dy, gs, rfl, rfl, ha, hb, htc, htc', q⟩ := hq
  cases rx
  cases ry
  obtain ⟨mA, J, _⟩ := ins_get I.hok ha
  obtain ⟨od', J, _⟩ := J.look
  obtain ⟨mB, J', _⟩ := ins_get I.hok hb
  obtain ⟨od2, J', _⟩ := J'.look
  have KX := I.kIn
  show wpAny (model X.prog X.w) X.A (richCompare .Eq (.ref a) (.ref b)) (EP X pins σ Q) X.xe s
  unfold richCompare
  simp only [oneThing_ref]
  refine wpAny_holding (wpAny_bind (wpAny_cRoomFor hr.units0 ?_))
  refine wpAny_bind (J.type.here (wpAny_bind (J'.type.here ?_)))
  have hne : (Value.ref C != Value.ref D) = true := by simpa using hCD
  simp only [hne, if_true]
  refine wpAny_bind ((PySem.W.looks_subIn KX h1).here ?_)
  simp only [Bool.false_eq_true, if_false, Bool.not_false, if_true]
  have one : wpAny (model X.prog X.w) X.A (tryCompare (.ref a) (cmpInfo .Eq).2.1 (.ref b)) (fun r s' => r = none ∧ Inv X pins σ H s') X.xe s := by
    unfold tryCompare
    refine wpAny_bind (PySem.W.ifBound_K KX J o.at_ o.fn (wpAny_mono (hc I htc) (fun r s1 z => ?_) fun _ _ e => e))
    obtain ⟨rfl, I1⟩ := z
    exact wpAny_pure ⟨rfl, I1⟩
  have two : ∀ s1, Inv X pins σ H s1 → wpAny (model X.prog X.w) X.A (tryCompare (.ref b) (cmpInfo .Eq).2.2 (.ref a)) (fun r s' => r = none ∧ Inv X pins σ H s') X.xe s1 := by
    intro s1 I1
    obtain ⟨mB, J1, _⟩ := ins_get I1.hok hb
    obtain ⟨od3, J1, _⟩ := J1.look
    unfold tryCompare
    refine wpAny_bind (PySem.W.ifBound_K I1.kIn J1 o'.at_ o'.fn (wpAny_mono (hc' I1 htc') (fun r s1 z => ?_) fun _ _ e => e))
    obtain ⟨rfl, I1⟩ := z
    exact wpAny_pure ⟨rfl, I1⟩
  refine wpAny_bind (wpAny_mono one (fun r s1 z => ?_) fun _ _ e => e)
  obtain ⟨rfl, I1⟩ := z
  refine wpAny_bind (wpAny_mono (two s1 I1) (fun r s2 z => ?_) fun _ _ e => e)
  obtain ⟨rfl, I2⟩ := z
  refine wpAny_bind (wpAny_rule ?_)
  obtain ⟨mB, J2, _⟩ := ins_get I2.hok ha
  obtain ⟨mB3, J3, _⟩ := ins_get I2.hok hb
  have hat : a ≠ b := by rintro rfl; rw [ha] at hb; cases hb; exact hCD rfl
  exact wpAny_bind (wpAny_isSame_ref_other hat J2.obj J3.obj (by intro z; cases z) (wpAny_pure ⟨.bl false, H, I2, rfl, q⟩))
end
end OO

/-! try with two clauses, each 'except x as n' -/
namespace Kt
open PySem PySem.Spec PyProof.Rows L2
section
variable {X : Cx} {x n x' n' : Str} {c c' : Value} {i i' : Nat} {body suite suite' : List Stmt} {b₀ b₀' : Stmt} {np pos pos' np' pos'' : Pos} {tb : WX → TS} {ts ts' : Addr → Value → Option Addr → TS} {Wout : WX}
theorem ps_try_asT2 (hex : X.ex = []) (hs : X.stack = X.env :: X.outer) (hf : X.env.frame = some X.env.locals) (hN : X.N.Nodup) (hi : X.N[i]? = some n) (hln : X.env.kindOf n = some .local) (hi' : X.N[i']? = some n') (hln' : X.env.kindOf n' = some .local) (hc : Names X x c) (hc' : Names X x' c') (tk : Takes X Wout)
    (hb : ∀ (W : WX) (pn : List (Addr × Obj)) (xe : Value → Shared → Prop), Takes (X.tr pn xe) W → PassesOwn (model X.prog X.w) X.A X.env xe → PSs (X.tr pn xe) body (tb W))
    (hsu : ∀ (a : Addr) (oe : Obj) (cls : Value) (d : Option Addr) (pn : List (Addr × Obj)), Zc cls d oe → (∃ vs, oe.data = .fields vs) → PSs (X.suite a ((a, oe) :: pn)) (b₀ :: suite) (ts a cls d))
    (hsu' : ∀ (a : Addr) (oe : Obj) (cls : Value) (d : Option Addr) (pn : List (Addr × Obj)), Zc cls d oe → (∃ vs, oe.data = .fields vs) → PSs (X.suite a ((a, oe) :: pn)) (b₀' :: suite') (ts' a cls d)) :
    PS X (.Try body [.ExceptHandler (some (.Name x np)) (some n) (b₀ :: suite) pos', .ExceptHandler (some (.Name x' np')) (some n') (b₀' :: suite') pos''] [] [] pos) (fun D σ H => tb (wAsT X.K c i ts (wAsT X.K c' i' ts' Wout D) D) D σ H) where
  run pins s σ H D I h := by
    have okX := I.ok
    have frX : X.A.frames = some (X.env :: X.outer) := hs ▸ okX.frames
    refine wpAny_Try_except (wpAny_mono ((hb (wAsT X.K c i ts (wAsT X.K c' i' ts' Wout D) D) (X.pn ++ pins) _ ?thrown PassesOwn.looking).run [] s σ H D (I.toTry _) h) ?through fun _ _ z => z)
    case through =>
      intro fl st hfl
      cases fl with
      | next => obtain ⟨σ1, H1, I1, q1⟩ := hfl; exact wpAny_execs_nil ⟨σ1, H1, I1.ofTry okX, q1⟩
      | brk => obtain ⟨σ1, H1, I1, q1⟩ := hfl; exact ⟨σ1, H1, I1.ofTry okX, q1⟩
      | cont => obtain ⟨σ1, H1, I1, q1⟩ := hfl; exact ⟨σ1, H1, I1.ofTry okX, q1⟩
      | ret u => obtain ⟨v1, σ1, H1, I1, r1, q1⟩ := hfl; exact ⟨v1, σ1, H1, I1.ofTry okX, r1, q1⟩
    case thrown =>
      rintro _ st ⟨a, Bg, sI, _, τ, Hx, cls, d, rfl, It, nb, up, sky, out, os, ag, b, fits, yes, no⟩
      have I0 : Inv X pins τ Hx sI := It.ofTry okX
      refine Sky.land Zc.steady frX hf (hs ▸ sky) fun hA flA upA => ?_
      have kA := come_of (s' := st) hs hf I0 nb (up.trans upA) out os ag flA
      obtain ⟨obA, fvA, gA, zA, dA⟩ := flA.there
      have IA := kA.inv.suite gA dA kA.out kA.loc kA.fr
      have asks : ∀ {x : Str} {np : Pos} {c : Value} (hc : Names X x c) {R : Value → Shared → Prop} {F : Value → Shared → Prop}, R c { st with heap := hA } → wpAny (model X.prog X.w) (X.A.mark (some (.ref a))) (eval (.Name x np) X.env) R F { st with heap := hA } := by
        intro x np c hc R F r
        rcases hc with ⟨glob, nodebug, here | ⟨notHere, builtin, notName⟩⟩
        · exact ld_glob (X := X.suite a ((a, obA) :: (X.pn ++ pins))) IA glob here r nodebug
        · exact ld_blt (X := X.suite a ((a, obA) :: (X.pn ++ pins))) IA glob notHere builtin r notName nodebug
      have kind : PySem.W.Looks (model X.prog X.w) hA (typeOf (.ref a)) cls := fun _ _ _ _ kp r => wpAny_typeOf_ref (kp _ _ gA) (zA.1 ▸ r)
      refine wpAny_handleBy_cons (codeAny_handlers_test (asks hc ((PySem.W.exm_one kA.inv.kIn kind fits).here ?_))) nofun
      cases b with
      | false =>
        obtain ⟨b', fits', yes', no'⟩ := no rfl
        refine wpAny_handleBy_cons (codeAny_handlers_test (asks hc' ((PySem.W.exm_one kA.inv.kIn kind fits').here ?_))) nofun
        cases b' with
        | false =>
          refine wpAny_handleBy_nil ?_
          obtain ⟨_, _, _, ob, fv, Tr, _, _, go, _, dob, first, _⟩ := id flA
          have on : wpAny (model X.prog X.w) X.A (setFlight (.ref a) X.env.frame) (fun _ s4 => wpAny (model X.prog X.w) X.A (throw (.ref a) : Sem Flow) (SP X pins D) X.xe s4) X.xe { st with heap := hA } := by
            rw [hf]
            exact HandSPX.setFlight_upZ flA fun hB held upB => wpAny_throw (tk _ _ ⟨a, Bg, sI, pins, τ, Hx, cls, d, rfl, I0, nb, (up.trans upA).trans upB, .inr (.inr (hs.symm ▸ held)), out, os, ag, no' rfl⟩)
          unfold PySem.passOn
          refine wpAny_bind (wpAny_field go dob first ?_)
          rw [if_neg (by simp : ¬ (Value.ref Tr == Value.none) = true)]
          first
            | exact wpAny_bind on
            | exact wpAny_bind (wpAny_pure (wpAny_bind on))
        | true =>
          refine codeAny_handlers_suite_as (HandSPX.lands_againZ flA fun hB flB upB => ?_)
          have kB := kA.again I0 nb ((up.trans upA).trans upB) os ag flB
          obtain ⟨obB, fvB, gB, zB, dB⟩ := flB.there
          refine store_ok (X := X.suite a ((a, obB) :: (X.pn ++ pins))) (v := .ref a) (kB.inv.suite gB dB kB.out kB.loc kB.fr) hN hi' (.inl hln') rfl (fun s5 I5 => ?_) (.inr hln')
          refine wpAny_mono ((hsu' a obB cls d (X.pn ++ pins) zB ⟨_, dB⟩).run [] s5 _ Hx _ I5 (yes' rfl a out)) (fun fl s6 hfl => ?_) fun _ _ z => z.elim
          cases fl with
          | next => obtain ⟨σ6, H6, I6, q6⟩ := hfl; exact keep_end kB hex hN hi' hln' zB dB I6 fun s7 I7 => ⟨_, _, I7, q6⟩
          | brk => obtain ⟨σ6, H6, I6, q6⟩ := hfl; exact gone_ok (I6.unsuite okX) hN hi' hln' fun s7 I7 => ⟨_, _, I7, q6⟩
          | cont => obtain ⟨σ6, H6, I6, q6⟩ := hfl; exact gone_ok (I6.unsuite okX) hN hi' hln' fun s7 I7 => ⟨_, _, I7, q6⟩
          | ret u => obtain ⟨v6, σ6, H6, I6, r6, q6⟩ := hfl; exact gone_ok (I6.unsuite okX) hN hi' hln' fun s7 I7 => ⟨_, _, _, I7, r6, q6⟩
      | true =>
        refine codeAny_handlers_suite_as (HandSPX.lands_againZ flA fun hB flB upB => ?_)
        have kB := kA.again I0 nb ((up.trans upA).trans upB) os ag flB
        obtain ⟨obB, fvB, gB, zB, dB⟩ := flB.there
        refine store_ok (X := X.suite a ((a, obB) :: (X.pn ++ pins))) (v := .ref a) (kB.inv.suite gB dB kB.out kB.loc kB.fr) hN hi (.inl hln) rfl (fun s5 I5 => ?_) (.inr hln)
        refine wpAny_mono ((hsu a obB cls d (X.pn ++ pins) zB ⟨_, dB⟩).run [] s5 _ Hx _ I5 (yes rfl a out)) (fun fl s6 hfl => ?_) fun _ _ z => z.elim
        cases fl with
        | next => obtain ⟨σ6, H6, I6, q6⟩ := hfl; exact keep_end kB hex hN hi hln zB dB I6 fun s7 I7 => ⟨_, _, I7, q6⟩
        | brk => obtain ⟨σ6, H6, I6, q6⟩ := hfl; exact gone_ok (I6.unsuite okX) hN hi hln fun s7 I7 => ⟨_, _, I7, q6⟩
        | cont => obtain ⟨σ6, H6, I6, q6⟩ := hfl; exact gone_ok (I6.unsuite okX) hN hi hln fun s7 I7 => ⟨_, _, I7, q6⟩
        | ret u => obtain ⟨v6, σ6, H6, I6, r6, q6⟩ := hfl; exact gone_ok (I6.unsuite okX) hN hi hln fun s7 I7 => ⟨_, _, _, I7, r6, q6⟩
end
end Kt

/-! objects of own classes with plain fields; what raises, by values; __init__ by values -/
namespace Va
open PySem L2 Kt LM DO PyProof.Rows
/-! ### fields -/
section
variable {G G' : Hp} {vs : List (Str × V)} {fs : List (Str × U)} {f : Str} {u : U} {C : Addr}
theorem RepF.none : ∀ {vs : List (Str × V)} {fs : List (Str × U)}, RepF G vs fs → fs.lookup f = none → vs.lookup f = none
  | _, _, .nil, _ => rfl
  | _, _, .cons h r, e => by
    rw [List.lookup_cons] at e ⊢
    split at e
    · cases e
    · exact r.none e
theorem RepF.length : ∀ {vs : List (Str × V)} {fs : List (Str × U)}, RepF G vs fs → vs.length = fs.length
  | _, _, .nil => rfl
  | _, _, .cons h r => by rw [List.length_cons, List.length_cons, r.length]
/-- a value put into a field -/
def putU' (f : Str) (v : U) : List (Str × U) → List (Str × U)
  | [] => [(f, v)]
  | (g, x) :: r => if g = f then (g, v) :: r else (g, x) :: putU' f v r
theorem RepF.put {v : V} (hv : Rep G v u) : ∀ {vs : List (Str × V)} {fs : List (Str × U)}, RepF G vs fs → RepF G (putF f v vs) (putU' f u fs)
  | _, _, .nil => .cons hv .nil
  | _, _, .cons h r => by
    unfold putF putU'
    split
    · exact .cons hv r
    · exact .cons h (RepF.put hv r)
end
section
variable {G : Hp} {v : V} {a dx C : Addr} {vs : List (Str × V)} {fs : List (Str × U)} {m : Str}
theorem of_ins (h : Rep G v (.ins C fs)) : ∃ a dx vs, v = .ref a ∧ G a = some (.ins C dx vs) ∧ RepF G vs fs := by
  cases h with
  | ins h r => exact ⟨_, _, _, rfl, h, r⟩
theorem insC_ins : InsC C (.ins C fs) := fun G v h => by
  obtain ⟨a, dx, vs, rfl, h, _⟩ := of_ins h
  exact ⟨a, dx, vs, rfl, h⟩
theorem insM_ins (hm : fs.lookup m = none) : InsM C m (.ins C fs) := fun G v h => by
  obtain ⟨a, dx, vs, rfl, h, r⟩ := of_ins h
  exact ⟨a, dx, vs, rfl, h, r.none hm⟩
end
section
variable {L L' : Bool} {ms : List Md} {Ta Tb T : Nat} {ta tb te : TE} {ua ub ue : UE} {tA : TA} {uA : UA} {pf : Pf} {E : XK} {C : Addr} {K : PySem.W.Frag}
/-- x.f -/
theorem re_fld {f : Str} (c : Cls K C) (n : NoAttr K C f) (h : RE L ms T te ue) : RE L ms T (tFld K te f) (fun env q => ue env fun x => ∃ fs u, x = .ins C fs ∧ fs.lookup f = some u ∧ q u) := fun F B env σ G H S q Q hu k =>
  h F B env σ G H S _ _ hu fun u v G' H' hq x S' r => by
    obtain ⟨fs, w, rfl, hl, hq⟩ := hq
    obtain ⟨a, dx, vs, rfl, g, rf⟩ := of_ins r
    obtain ⟨y, hy, ry⟩ := rf.look hl
    exact ⟨a, C, dx, vs, y, rfl, S'.sm.ins g, c, n, hy, k w y G' H' hq x S' ry⟩
end
/-! ### what raises -/
def XOk (H0 G H : Hp) (d : Option Addr) : Option (List (Str × U)) → Prop
  | none => d = none
  | some fs => ∃ a vs, d = some a ∧ H0 a = none ∧ G a = none ∧ H a = some (.xd vs) ∧ RepF G vs fs
abbrev UX := Addr → Option (List (Str × U)) → Prop
abbrev USX := (List U → Prop) → (U → Prop) → UX → List U → Prop
def RSX (L fr : Bool) (mr ms ms' : List Md) (T : Nat) (E : XK) (ts : TS) (us : USX) : Prop :=
  ∀ F B env σ G H, Sta F L (T + B) ms env σ G H → ∀ (nx : List U → Prop) (rt : U → Prop) (xt : UX) (D : Ends), us nx rt xt env →
    (∀ env' σ' G' H', nx env' → Sta F L B ms' env' σ' G' H' → D.nx σ' H') →
    (∀ u v env' σ' G' H', rt u → Sta F L B mr env' σ' G' H' → RtOk F G' H' v u fr → D.rt v H') →
    (∀ C o G' H' d, xt C o → Xt F.M F.lk F.G F.H G' H' → XOk F.H G' H' d o → E (.ref C) d H') → ts D σ H
section
variable {L fr : Bool} {mr ms ms' ms1 ms2 ml : List Md} {Ta Tb Tc T T1 T2 : Nat} {ta tb tc te : TE} {ua ub uc ue : UE} {tA : TA} {uA : UA} {tt tt' : TT} {ut ut' : UT} {ts ts1 ts2 : TS} {us : US} {us1 us2 : USX} {E : XK}
theorem RS.x (h : RS L fr mr ms ms' T ts us) : RSX L fr mr ms ms' T E ts (fun nx rt _ env => us nx rt env) := fun F B env σ G H S nx rt xt D hu kn kr _ => h F B env σ G H S nx rt D hu kn kr
theorem x_seq (h1 : RSX L fr mr ms ms1 T1 E ts1 us1) (h2 : RSX L fr mr ms1 ms2 T2 E ts2 us2) : RSX L fr mr ms ms2 (T1 + T2) E (tSeq ts1 ts2) (fun nx rt xt env => us1 (fun env1 => us2 nx rt xt env1) rt xt env) := fun F B env σ G H S nx rt xt D hu kn kr kx =>
  h1 F (T2 + B) env σ G H (S.le (by omega)) _ _ _ { D with nx := ts2 D } hu (fun env' σ' G' H' hn S' => h2 F B env' σ' G' H' S' nx rt xt D hn kn kr kx) (fun u v env' σ' G' H' hr S' r => kr u v env' σ' G' H' hr (S'.le (by omega)) r) kx
theorem x_if (h : RT L ms Tc tt ut) (h1 : RSX L fr mr ms ms1 T1 E ts1 us1) (h2 : RSX L fr mr ms ms2 T2 E ts2 us2) (l1 : lesM ms1 ml = true := by rfl) (l2 : lesM ms2 ml = true := by rfl) : RSX L fr mr ms ml (Tc + (T1 + T2)) E (tIfS tt ts1 ts2) (fun nx rt xt env => ut env fun b => if b = true then us1 nx rt xt env else us2 nx rt xt env) := fun F B env σ G H S nx rt xt D hu kn kr kx =>
  h F (T1 + T2 + B) env σ G H (S.le (by omega)) _ _ hu fun b G' H' hq x S' => by
    cases b with
    | true => exact ifT rfl (h1 F B env σ G' H' (S'.le (by omega)) nx rt xt D (by simpa using hq) (fun env' σ' G' H' hn S' => kn env' σ' G' H' hn (S'.weak l1)) kr kx)
    | false => exact ifF rfl (h2 F B env σ G' H' (S'.le (by omega)) nx rt xt D (by simpa using hq) (fun env' σ' G' H' hn S' => kn env' σ' G' H' hn (S'.weak l2)) kr kx)
theorem x_ifR (h : RT L ms Tc tt ut) (h1 : RSX L fr mr ms ms1 T1 E ts1 us1) : RSX L fr mr ms ms (Tc + T1) E (tIfS tt ts1 tNext) (fun nx rt xt env => ut env fun b => if b = true then us1 (fun _ => False) rt xt env else nx env) := fun F B env σ G H S nx rt xt D hu kn kr kx =>
  h F (T1 + B) env σ G H (S.le (by omega)) _ _ hu fun b G' H' hq x S' => by
    cases b with
    | true => exact ifT rfl (h1 F B env σ G' H' S' (fun _ => False) rt xt D (by simpa using hq) (fun env' σ' G' H' hn S' => hn.elim) kr kx)
    | false => exact ifF rfl (kn env σ G' H' (by simpa using hq) (S'.le (by omega)))
/-- raise C(..), its __init__ keeping the fields -/
theorem x_raise {C : Addr} {ns : List Str} (h : RA L ms T tA uA) : RSX L fr mr ms ms T E (fun _ σ H => tMkO C (spIni C ns) [] tA σ H fun cls d H' => E cls d H') (fun nx rt xt env => uA env fun us => us.length = ns.length ∧ us.length ≤ 1000 ∧ xt C (some (ns.zip us).reverse)) := fun F B env σ G H S nx rt xt D hu kn kr kx =>
  h F B env σ G H S _ _ hu fun us vs G' H' hq x S' r => by
    obtain ⟨h1, h2, hx⟩ := hq
    refine mk_ini (ns := ns) (by rw [r.length, h1]) (by rw [r.length]; exact h2) fun d hd => kx C _ G' _ (some d) hx (S'.ex.trans (Xt.hid S'.sm hd)) ⟨d, _, rfl, S'.ex.f _ hd, S'.sm.free hd, upd_same, repF_zip r⟩
/-- raise C(), without fields -/
theorem x_raise0 {C : Addr} : RSX L fr mr ms ms 0 E (fun _ σ H => (fun (_ : L2.St) H Q => Q (.ref C) none H) σ H fun cls d H' => E cls d H') (fun nx rt xt env => xt C none) := fun F B env σ G H S nx rt xt D hu kn kr kx => kx C none G H none hu S.ex rfl
/-- a value of a field of a slot's own object -/
theorem s_fput {K : PySem.W.Frag} {C : Addr} {f : Str} (i : Nat) (c : Cls K C) (n : NoAttr K C f) (h : RE L ms T te ue) (hm : ms[i]? = some .own := by rfl) : RS L fr mr ms ms T (sFld K (tVar i) te f) (fun nx rt env => ue env fun x => ∃ fs, gt env i = .ins C fs ∧ fs.length < 1000 ∧ nx (env.set i (.ins C (putU' f x fs)))) := fun F B env σ G H S nx rt D hu kn kr =>
  h F B env σ G H S _ _ hu fun u v G' H' hq x S' r => by
    obtain ⟨fs, eg, hl, hq⟩ := hq
    obtain ⟨a, o, h1, ho, ro, nF, g⟩ := S'.at_own hm
    rw [eg] at ro
    cases ro with
    | ins rf => exact ⟨.ref a, h1, a, C, _, _, rfl, ho, c, n, by rw [rf.length]; exact hl, kn _ _ G' _ hq (S'.chg hm h1 (.ins (rf.put r)))⟩
/-- a field of a slot's own object is read -/
theorem re_fldO {K : PySem.W.Frag} {C : Addr} {f : Str} (i : Nat) (c : Cls K C) (n : NoAttr K C f) (hm : ms[i]? = some .own := by rfl) : RE L ms 0 (tFld K (tVar i) f) (fun env q => ∃ fs u, gt env i = .ins C fs ∧ fs.lookup f = some u ∧ q u) := fun F B env σ G H S q Q hu k => by
  obtain ⟨fs, w, eg, hl, hq⟩ := hu
  obtain ⟨a, o, h1, ho, ro, nF, g⟩ := S.at_own hm
  rw [eg] at ro
  cases ro with
  | ins rf =>
    obtain ⟨y, hy, ry⟩ := rf.look hl
    exact ⟨.ref a, h1, a, C, _, _, y, rfl, ho, c, n, hy, k w y G H hq (Xt.refl S.sm) (S.le (by omega)) ry⟩
/-- what never comes -/
theorem s_never : RS L fr mr ms ms 0 tNever (fun _ _ _ => False) := fun F B env σ G H S nx rt D hu kn kr => hu.elim
end
/-! ### __init__ -/
abbrev PfX := List U → (U → Prop) → UX → Prop
def spIX (L : Bool) (C : Addr) (pf : PfX) : Sp := fun vs H Q E => ∃ (lk : Addr → Prop) (G H0 : Hp) (us : List U) (q : U → Prop) (xt : UX) (x dx : Addr) (ws : List V), vs = .ref x :: ws ∧ (L = false → ∀ b, ¬ lk b) ∧ Sm lk G H0 ∧ Xt No lk G H0 G H ∧ H0 x = none ∧ H x = some (.ins C dx []) ∧ RepA G ws us ∧ pf us q xt ∧
  (∀ u G' H' o, q u → Xt No lk G H0 G' H' → G' x = none → H' x = some o → RepO G' o u → Q .non H') ∧ (∀ D o G' H' d, xt D o → Xt No lk G H0 G' H' → XOk H0 G' H' d o → E (.ref D) d H')
def spUX (L : Bool) (pf : PfX) : Sp := fun vs H Q E => ∃ (lk : Addr → Prop) (G : Hp) (us : List U) (q : U → Prop) (xt : UX), (L = false → ∀ b, ¬ lk b) ∧ Sm lk G H ∧ RepA G vs us ∧ pf us q xt ∧
  (∀ u G' H' v, q u → Xt No lk G H G' H' → Rep G' v u → Q v H') ∧ (∀ D o G' H' d, xt D o → Xt No lk G H G' H' → XOk H G' H' d o → E (.ref D) d H')
def spNX (L : Bool) (pf : PfX) : Sp := fun vs H Q E => ∃ (lk : Addr → Prop) (G : Hp) (us : List U) (q : U → Prop) (xt : UX), (L = false → ∀ b, ¬ lk b) ∧ Sm lk G H ∧ RepA G vs us ∧ pf us q xt ∧
  (∀ u G' H' a o, q u → Xt No lk G H G' H' → H a = none → G' a = none → H' a = some o → RepO G' o u → Q (.ref a) H') ∧ (∀ D o G' H' d, xt D o → Xt No lk G H G' H' → XOk H G' H' d o → E (.ref D) d H')
section
variable {L L' fr : Bool} {mr ms ms' ms1 ms2 ml : List Md} {Ta Tb Tc T T1 T2 : Nat} {ta tb tc te : TE} {ua ub uc ue : UE} {tA tk : TA} {uA : UA} {pf : PfX} {E : XK} {C : Addr}
theorem len_IX {vs : List V} {H : Hp} {Q : VK} {n : Nat} (hl : ∀ us q xt, pf us q xt → us.length = n) (h : spIX L C pf vs H Q E) : vs.length = n + 1 := by
  obtain ⟨lk, G, H0, as, q, xt, x, dx, ws, rfl, nl, sm, x0, hx0, hx, r, hpf, kk, kx⟩ := h
  rw [List.length_cons, r.length, hl _ _ _ hpf]
theorem len_UX {vs : List V} {H : Hp} {Q : VK} {n : Nat} (hl : ∀ us q xt, pf us q xt → us.length = n) (h : spUX L pf vs H Q E) : vs.length = n := by
  obtain ⟨lk, G, as, q, xt, nl, sm, r, hpf, kk, kx⟩ := h
  rw [r.length, hl _ _ _ hpf]
theorem len_NX {vs : List V} {H : Hp} {Q : VK} {n : Nat} (hl : ∀ us q xt, pf us q xt → us.length = n) (h : spNX L pf vs H Q E) : vs.length = n := by
  obtain ⟨lk, G, as, q, xt, nl, sm, r, hpf, kk, kx⟩ := h
  rw [r.length, hl _ _ _ hpf]
theorem run_UX {N : List Str} {n k : Nat} {vs : List V} {H : Hp} {Q : VK} {ts : TS} {us : USX} (h : spUX L pf vs H Q E) (hb : RSX L false (mrU (n + k)) (msU n k) ms' T E ts us) (hn : vs.length = n) (hN : N.length = n + k)
    (hp : ∀ as q xt, pf as q xt → us (fun _ => q .non) q xt (as ++ List.replicate k .non)) : ts { nx := fun _ H' => Q .non H', rt := Q } (start N vs) H := by
  obtain ⟨lk, G, as, q, xt, nl, sm, r, hpf, kk, kx⟩ := h
  have S : Sta ⟨No, lk, none, G, H⟩ L (T + 0) ([] ++ msU n k) ([] ++ (as ++ List.replicate k .non)) (start N ([] ++ vs)) G H :=
    sta_start (F := ⟨No, lk, none, G, H⟩) (Xt.refl sm) nl (fun b m => m.elim) (fun p e => by cases e) (ws := []) (by simpa using hN) r hn rfl rfl (fun i m e => by simp at e)
  exact hb _ 0 _ _ G H S _ _ _ _ (hp as q xt hpf) (fun env' σ' G' H' hq S' => kk .non G' H' .non hq S'.ex .non) (fun u v env' σ' G' H' hq S' r => kk u G' H' v hq S'.ex r) (fun D o G' H' d hx ex xo => kx D o G' H' d hx ex xo)
theorem run_NX {N : List Str} {n k : Nat} {vs : List V} {H : Hp} {Q : VK} {ts : TS} {us : USX} (h : spNX L pf vs H Q E) (hb : RSX L true (mrU (n + k)) (msU n k) ms' T E ts us) (hn : vs.length = n) (hN : N.length = n + k)
    (hp : ∀ as q xt, pf as q xt → us (fun _ => False) q xt (as ++ List.replicate k .non)) : ts { nx := fun _ H' => Q .non H', rt := Q } (start N vs) H := by
  obtain ⟨lk, G, as, q, xt, nl, sm, r, hpf, kk, kx⟩ := h
  have S : Sta ⟨No, lk, none, G, H⟩ L (T + 0) ([] ++ msU n k) ([] ++ (as ++ List.replicate k .non)) (start N ([] ++ vs)) G H :=
    sta_start (F := ⟨No, lk, none, G, H⟩) (Xt.refl sm) nl (fun b m => m.elim) (fun p e => by cases e) (ws := []) (by simpa using hN) r hn rfl rfl (fun i m e => by simp at e)
  exact hb _ 0 _ _ G H S _ _ _ _ (hp as q xt hpf) (fun env' σ' G' H' hq S' => hq.elim) (fun u v env' σ' G' H' hq S' r => by
    obtain ⟨a, o, rfl, g, ho, r, n⟩ := r
    exact kk u G' H' a o hq S'.ex n g ho r) (fun D o G' H' d hx ex xo => kx D o G' H' d hx ex xo)
/-- C(..): a new object -/
theorem make_IX {lk : Addr → Prop} {G H : Hp} {vs : List V} {us : List U} {q : U → Prop} {xt : UX} {Q : VK} (nl : L = false → ∀ b, ¬ lk b) (sm : Sm lk G H) (r : RepA G vs us) (hp : pf us q xt)
    (k : ∀ u x G' H' o, q u → Xt No lk G H G' H' → H x = none → G' x = none → H' x = some o → RepO G' o u → Q (.ref x) H') (kx : ∀ D o G' H' d, xt D o → Xt No lk G H G' H' → XOk H G' H' d o → E (.ref D) d H') :
    ∀ x dx, H x = none → H dx = none → dx ≠ x → spIX L C pf (.ref x :: vs) (upd (upd H dx (.own x)) x (.ins C dx [])) (fun v H' => v = .non ∧ Q (.ref x) H') E := by
  intro x dx hx hdx hne
  have y1 : Xt No lk G H G (upd H dx (.own x)) := Xt.hid sm hdx
  have y2 : Xt No lk G (upd H dx (.own x)) G (upd (upd H dx (.own x)) x (.ins C dx [])) := Xt.hid y1.s (by rw [upd_ne hne.symm]; exact hx)
  exact ⟨lk, G, H, us, q, xt, x, dx, vs, rfl, nl, sm, y1.trans y2, hx, upd_same, r, hp, fun u G' H' o hq z g ho ro => ⟨rfl, k u x G' H' o hq z hx g ho ro⟩, kx⟩
def noX : UX := fun _ _ => False
theorem rn_make (hA : RA L ms T tA uA) (hL : (L' || !L) = true := by rfl) : RN L ms T (tMake C (spIX L' C pf) [] E tA) (fun env q => uA env fun us => pf us q noX) := fun F B env σ G H S q Q hu k =>
  hA F B env σ G H S _ _ hu fun us vs G1 H1 hq x1 S1 r1 => by
    show ∀ x dx, H1 x = none → H1 dx = none → dx ≠ x → spIX L' C pf (.ref x :: (vs ++ [])) _ _ _
    rw [List.append_nil]
    exact make_IX (noL hL S1.nl) S1.sm r1 hq (fun u x G' H' o hq z hx g ho ro => k u x o G' H' hq (x1.trans z.on) (S1.go z) (x1.f _ hx) g ho ro) (fun D o G' H' d hx => hx.elim)
theorem re_callX (ha : RA L ms T tA uA) (hL : (L' || !L) = true := by rfl) : RE L ms T (tCall (spUX L' pf) [] E tA) (fun env q => uA env fun us => pf us q noX) := fun F B env σ G H S q Q hu k =>
  ha F B env σ G H S _ _ hu fun us vs G1 H1 hq x1 S1 r1 => ⟨F.lk, G1, us, q, noX, noL hL S1.nl, S1.sm, by rw [List.append_nil]; exact r1, hq, fun u G' H' v hq x r => k u v G' H' hq (x1.trans x.on) (S1.go x) r, fun D o G' H' d hx => hx.elim⟩
theorem rn_callX (ha : RA L ms T tA uA) (hL : (L' || !L) = true := by rfl) : RN L ms T (tCall (spNX L' pf) [] E tA) (fun env q => uA env fun us => pf us q noX) := fun F B env σ G H S q Q hu k =>
  ha F B env σ G H S _ _ hu fun us vs G1 H1 hq x1 S1 r1 => ⟨F.lk, G1, us, q, noX, noL hL S1.nl, S1.sm, by rw [List.append_nil]; exact r1, hq, fun u G' H' a o hq x hn gn ho r => k u a o G' H' hq (x1.trans x.on) (S1.go x) (x1.f _ hn) gn ho r, fun D o G' H' d hx => hx.elim⟩
/-! ### isinstance of an own object -/
theorem re_isO {K : PySem.W.Frag} {c : V} (h : RE L ms T te ue) : RE L ms T (tCB (rIsi K) (tCons te (tCons (tC c) tNil))) (fun env q => ue env fun x => ∃ D cv b, InsC D x ∧ TyC K D ∧ ClsV c cv ∧ PySem.W.kitOne K (.ref D) cv = some b ∧ q (.bl b)) := fun F B env σ G H S q Q hu k =>
  h F B env σ G H S _ _ hu fun u v G1 H1 hq x1 S1 r1 => by
    obtain ⟨D, cv, b, hx, he, hc, hk, hq⟩ := hq
    obtain ⟨a, dx, fs, rfl, g⟩ := hx _ _ r1
    exact ⟨.ref a, c, .ref D, cv, b, rfl, hc, he.of (S1.sm.ins g), hk, k _ _ G1 H1 hq x1 S1 (.bl _)⟩
/-! ### what is shown and changed afterwards -/
mutual
/-- no part of an object of the class C -/
def noC (C : Addr) : U → Bool
  | .lst xs => noCs C xs
  | .tup xs => noCs C xs
  | .ins D fs => !(D == C) && noCf C fs
  | .dic _ => false
  | .obj _ => false
  | _ => true
def noCs (C : Addr) : List U → Bool
  | [] => true
  | x :: r => noC C x && noCs C r
def noCf (C : Addr) : List (Str × U) → Bool
  | [] => true
  | (_, x) :: r => noC C x && noCf C r
end
end
def del1 (G : Hp) (a : Addr) : Hp := fun b => if b = a then none else G b
mutual
theorem Rep.del1 {G : Hp} {a C dx : Addr} {vs : List (Str × V)} (ha : G a = some (.ins C dx vs)) : ∀ {v : V} {u : U}, Rep G v u → noC C u = true → Rep (del1 G a) v u
  | _, _, .non, _ => .non
  | _, _, .bl b, _ => .bl b
  | _, _, .int i, _ => .int i
  | _, _, .str x, _ => .str x
  | _, _, .lst (a := b) h r, e => .lst (by show (if b = a then none else G b) = _; rw [if_neg (by rintro rfl; rw [ha] at h; cases h)]; exact h) (RepA.del1 ha r e)
  | _, _, .tup (a := b) h r, e => .tup (by show (if b = a then none else G b) = _; rw [if_neg (by rintro rfl; rw [ha] at h; cases h)]; exact h) (RepA.del1 ha r e)
  | _, _, .dic _ _, e => by cases e
  | _, _, .ins (a := b) (C := D) h r, e => by
    simp only [noC, Bool.and_eq_true, Bool.not_eq_true', beq_eq_false_iff_ne] at e
    exact .ins (by show (if b = a then none else G b) = _; rw [if_neg (by rintro rfl; rw [ha] at h; cases h; exact e.1 rfl)]; exact h) (RepF.del1 ha r e.2)
  | _, _, .obj _ _, e => by cases e
theorem RepA.del1 {G : Hp} {a C dx : Addr} {vs : List (Str × V)} (ha : G a = some (.ins C dx vs)) : ∀ {v : List V} {u : List U}, RepA G v u → noCs C u = true → RepA (del1 G a) v u
  | _, _, .nil, _ => .nil
  | _, _, .cons h r, e => by
    simp only [noCs, Bool.and_eq_true] at e
    exact .cons (Rep.del1 ha h e.1) (RepA.del1 ha r e.2)
theorem RepF.del1 {G : Hp} {a C dx : Addr} {vs : List (Str × V)} (ha : G a = some (.ins C dx vs)) : ∀ {v : List (Str × V)} {u : List (Str × U)}, RepF G v u → noCf C u = true → RepF (del1 G a) v u
  | _, _, .nil, _ => .nil
  | _, _, .cons h r, e => by
    simp only [noCf, Bool.and_eq_true] at e
    exact .cons (Rep.del1 ha h e.1) (RepF.del1 ha r e.2)
end
/-- a slot's own object of the class C shown: it is the slot's own still, if the answer has no part of that class -/
theorem re_keepC {L : Bool} {ms : List Md} {T : Nat} {te : TE} {ue : UE} {C : Addr} (i : Nat) (h : RE L (ms.set i .fz) T te ue) (hm : ms[i]? = some .own := by rfl) : RE L ms T te (fun env q => InsC C (gt env i) ∧ ue env fun x => noC C x = true ∧ q x) := fun F B env σ G H S q Q hu k => by
  obtain ⟨hC, hu⟩ := hu
  obtain ⟨v, u, h1, h2, a, o, rfl, g, ho, r, n⟩ := S.sl i _ hm
  rw [gt_at h2] at hC
  have hi : i < ms.length := (List.getElem?_eq_some_iff.mp hm).1
  have S1 : Sta F L (T + B) (ms.set i .junk) env (σ.set i (some (.ref a))) G H := S.set_junk
  have es : σ.set i (some (.ref a)) = σ := by
    apply List.ext_getElem?
    intro j
    by_cases e : i = j
    · subst e; rw [List.getElem?_set_self (by rw [S.l1]; exact hi), h1]
    · rw [List.getElem?_set_ne e]
  rw [es] at S1
  have S2 := S1.tell ho g n (fun j hj z => by
    by_cases e : i = j
    · subst e; rw [List.getElem?_set_self hi] at hj; cases hj
    · rw [List.getElem?_set_ne e] at hj
      exact e (S.ne i j a hm hj h1 z))
  have ra : Rep (upd G a o) (.ref a) u := (r.mono (same_new g)).rep upd_same
  have S3 := S2.fz (i := i) ra
  have ee : env.set i u = env := by
    apply List.ext_getElem?
    intro j
    by_cases e : i = j
    · subst e; rw [List.getElem?_set_self (by rw [S.l2]; exact hi), h2]
    · rw [List.getElem?_set_ne e]
  rw [es, ee, List.set_set] at S3
  obtain ⟨a', dx, vs, ea, ha⟩ := hC _ _ ra
  cases ea
  refine h F B env σ _ H S3 _ _ hu fun x y G' H' hx xt S' ry => ?_
  obtain ⟨hno, hq⟩ := hx
  have ha' : G' a = some (.ins C dx vs) := xt.g _ _ ha
  have sg : Same G (del1 G' a) := fun b o e => by
    show (if b = a then none else G' b) = _
    rw [if_neg (ne_of_none e g)]
    exact xt.g b o (same_new g b o e)
  have x0 : Xt F.M F.lk G H (del1 G' a) H' := ⟨sg, xt.h, fun b o e => by
    by_cases hb : b = a
    · subst hb; simp [del1] at e
    · simp [del1, hb] at e; exact xt.s b o e, fun b o e => by
    by_cases hb : b = a
    · subst hb; simp [del1] at e
    · simp [del1, hb] at e
      rcases xt.n b o e with h | h
      · rw [upd_ne hb] at h; exact .inl h
      · exact .inr h, xt.f⟩
  refine k x y (del1 G' a) H' hq x0 ⟨S.ex.trans x0, S.nl, S.mn, S'.bx, S.l1, S.l2, fun j m hj => ?_, S.ne⟩ (ry.del1 ha' hno)
  obtain ⟨v, w, e1, e2, hs⟩ := S.sl j m hj
  refine ⟨v, w, e1, e2, ?_⟩
  cases m with
  | junk => trivial
  | fz =>
    obtain ⟨z, ez, rz⟩ := hs
    exact ⟨z, ez, rz.mono sg⟩
  | own =>
    obtain ⟨a2, o2, e, g2, ho2, r2, n2⟩ := hs
    refine ⟨a2, o2, e, ?_, xt.h _ _ (fun z => (S.mn _ z).1 n2) ho2, r2.mono sg, n2⟩
    by_cases hb : a2 = a
    · subst hb; simp [del1]
    · simp only [del1, if_neg hb]
      refine xt.un (by rw [upd_ne hb]; exact g2) (by rw [ho2]; simp)
  | box => exact hs
end Va

namespace DO
open PySem L2 LM
mutual
def gtD : PyData → PyData → Bool
  | .int i, .int j => decide (j < i)
  | .str x, .str y => slt y x
  | .tuple xs, .tuple ys => gtA xs ys
  | _, _ => false
def gtA : List PyData → List PyData → Bool
  | [], _ => false
  | _ :: _, [] => true
  | x :: xs, y :: ys => if PyData.eqv x y = true then gtA xs ys else gtD x y
end
mutual
def geD : PyData → PyData → Bool
  | .int i, .int j => decide (j ≤ i)
  | .str x, .str y => !slt x y
  | .tuple xs, .tuple ys => geA xs ys
  | _, _ => false
def geA : List PyData → List PyData → Bool
  | [], [] => true
  | [], _ :: _ => false
  | _ :: _, [] => true
  | x :: xs, y :: ys => if PyData.eqv x y = true then geA xs ys else geD x y
end
theorem lex_gt : ∀ xs ys : List PyData, Ob.lexAt (eqJ xs ys) (fun j => gtD (xs.getD j .none) (ys.getD j .none)) (decide (xs.length > ys.length)) 0 (min xs.length ys.length) = gtA xs ys
  | [], ys => by simp [Ob.lexAt, gtA]
  | x :: xs, [] => by simp [Ob.lexAt, gtA]
  | x :: xs, y :: ys => by
    have e : min (x :: xs).length (y :: ys).length = min xs.length ys.length + 1 := by simp only [List.length_cons]; omega
    rw [e, Ob.lexAt_succ, lexAt_shift, gtA]
    have ih := lex_gt xs ys
    have e2 : decide ((x :: xs).length > (y :: ys).length) = decide (xs.length > ys.length) := by simp
    rw [e2]
    show (if PyData.eqv x y = true then _ else gtD x y) = _
    congr 1
theorem lex_ge : ∀ xs ys : List PyData, Ob.lexAt (eqJ xs ys) (fun j => geD (xs.getD j .none) (ys.getD j .none)) (decide (xs.length ≥ ys.length)) 0 (min xs.length ys.length) = geA xs ys
  | [], [] => by simp [Ob.lexAt, geA]
  | [], y :: ys => by simp [Ob.lexAt, geA]
  | x :: xs, [] => by simp [Ob.lexAt, geA]
  | x :: xs, y :: ys => by
    have e : min (x :: xs).length (y :: ys).length = min xs.length ys.length + 1 := by simp only [List.length_cons]; omega
    rw [e, Ob.lexAt_succ, lexAt_shift, geA]
    have ih := lex_ge xs ys
    have e2 : decide ((x :: xs).length ≥ (y :: ys).length) = decide (xs.length ≥ ys.length) := by simp
    rw [e2]
    show (if PyData.eqv x y = true then _ else geD x y) = _
    congr 1
theorem rc_data2 : ∀ (n : Nat) (d e : PyData) (A : Around) (s : Shared) (v u : Value) (as bs : List Addr), d.depth ≤ n → Reads s.heap v d as → Reads s.heap u e bs → d.canLay0 = true → e.canLay0 = true → cmpD d e = true → A.units + n + 1 < cLine →
    Ob.RcOp .GtE A s v u (geD d e) ∧ Ob.RcOp .Gt A s v u (gtD d e) := by
  intro n
  induction n with
  | zero =>
    intro d e A s v u as bs hn r1 r2 c1 c2 hc hu
    cases d <;> cases e <;> simp only [cmpD, Bool.false_eq_true] at hc
    · cases r1; cases r2
      exact ⟨Ob.RcOp.ge_int _ _ _ _, Ob.RcOp.gt_int _ _ _ _⟩
    · cases r1; cases r2
      refine ⟨fun prog w E Q q => PySem.P.ge_str ?_, fun prog w E Q q => PySem.P.gt_str ?_⟩
      · rw [geD, ← slt_dec] at q; exact q
      · rw [gtD, ← slt_dec] at q; exact q
    · simp [PyData.depth] at hn
  | succ n ih =>
    intro d e A s v u as bs hn r1 r2 c1 c2 hc hu
    cases d <;> cases e <;> simp only [cmpD, Bool.false_eq_true] at hc
    · cases r1; cases r2
      exact ⟨Ob.RcOp.ge_int _ _ _ _, Ob.RcOp.gt_int _ _ _ _⟩
    · cases r1; cases r2
      refine ⟨fun prog w E Q q => PySem.P.ge_str ?_, fun prog w E Q q => PySem.P.gt_str ?_⟩
      · rw [geD, ← slt_dec] at q; exact q
      · rw [gtD, ← slt_dec] at q; exact q
    · rename_i xs ys
      obtain ⟨a, vs, as', rfl, t1, ra1⟩ := isTup_of r1
      obtain ⟨b, ws, bs', rfl, t2, ra2⟩ := isTup_of r2
      have l1 := readsAll_len ra1
      have l2 := readsAll_len ra2
      rw [Array.length_toList] at l1 l2
      have dn : PyData.depthAll xs ≤ n := by simp [PyData.depth] at hn; omega
      have k1 : PyData.canLayAll0 xs = true := c1
      have k2 : PyData.canLayAll0 ys = true := c2
      have one : ∀ j (h1 : j < vs.size) (h2 : j < ws.size), SeqAt.EqAt A.in1 s vs[j] ws[j] (eqJ xs ys j) ∧ Ob.RcOp .GtE A.in1 s vs[j] ws[j] (geD (xs.getD j .none) (ys.getD j .none)) ∧ Ob.RcOp .Gt A.in1 s vs[j] ws[j] (gtD (xs.getD j .none) (ys.getD j .none)) := by
        intro j h1 h2
        obtain ⟨q1, s1⟩ := readsAll_at (j := j) (by rw [Array.length_toList]; exact h1) ra1
        obtain ⟨q2, s2⟩ := readsAll_at (j := j) (by rw [Array.length_toList]; exact h2) ra2
        rw [Array.getElem_toList] at s1 s2
        have dd := depthAll_at (ds := xs) (j := j)
        refine ⟨SeqAt.eqAt_reads _ _ _ _ _ _ _ _ s1 s2 (canAll_at k1) (canAll_at k2) ?_, ih _ _ _ _ _ _ _ _ (by omega) s1 s2 (canAll_at k1) (canAll_at k2) (cmpA_at hc (by omega) (by omega)) ?_⟩
        · rw [in1_units]; omega
        · rw [in1_units]; omega
      constructor
      · have := Ob.RcOp.tuples_ge t1 t2 (by omega) (fun j h1 h2 => (one j h1 h2).1) (fun j h1 h2 _ => (one j h1 h2).2.1)
        rw [l1, l2, lex_ge] at this
        exact this
      · have := Ob.RcOp.tuples_gt t1 t2 (by omega) (fun j h1 h2 => (one j h1 h2).1) (fun j h1 h2 _ => (one j h1 h2).2.2)
        rw [l1, l2, lex_gt] at this
        exact this
theorem op_geP {X : Cx} (K : PySem.W.Frag) (hu : X.A.units + 66 < cLine) (hK : X.K = K := by rfl) : OpR X (compareOp .GtE) (rOrd geD K) := by
  subst hK
  intro pins s σ H x y v u Q I rx ry h
  obtain ⟨d, e, hd, he, sd, se, hc, q⟩ := h
  obtain ⟨as, r1⟩ := Dp.reads I d x v hd rx
  obtain ⟨bs, r2⟩ := Dp.reads I e y u he ry
  have s1 := Bool.and_eq_true_iff.mp sd
  have s2 := Bool.and_eq_true_iff.mp se
  exact (rc_data2 64 d e X.A s v u as bs (of_decide_eq_true s1.2) r1 r2 s1.1 s2.1 hc (by omega)).1 X.prog X.w X.xe (EP X pins σ Q) ⟨.bl _, H, I, rfl, q⟩
theorem op_gtP {X : Cx} (K : PySem.W.Frag) (hu : X.A.units + 66 < cLine) (hK : X.K = K := by rfl) : OpR X (compareOp .Gt) (rOrd gtD K) := by
  subst hK
  intro pins s σ H x y v u Q I rx ry h
  obtain ⟨d, e, hd, he, sd, se, hc, q⟩ := h
  obtain ⟨as, r1⟩ := Dp.reads I d x v hd rx
  obtain ⟨bs, r2⟩ := Dp.reads I e y u he ry
  have s1 := Bool.and_eq_true_iff.mp sd
  have s2 := Bool.and_eq_true_iff.mp se
  exact (rc_data2 64 d e X.A s v u as bs (of_decide_eq_true s1.2) r1 r2 s1.1 s2.1 hc (by omega)).2 X.prog X.w X.xe (EP X pins σ Q) ⟨.bl _, H, I, rfl, q⟩
end DO
namespace Va
open PySem L2 Kt LM DO PyProof.Rows
section
variable {L L' fr : Bool} {mr ms ms' ms1 ms2 ml : List Md} {Ta Tb Tc T T1 T2 : Nat} {ta tb tc te to : TE} {ua ub uc ue uo : UE} {tA tk : TA} {uA : UA} {pf : Pf} {E : XK} {C : Addr} {K : PySem.W.Frag}
/-- l[i] = v, l a slot's own list -/
theorem s_lput (i : Nat) (hv : RE L ms Ta ta ua) (hk : RE L ms Tb tb ub) (hm : ms[i]? = some .own := by rfl) : RS L fr mr ms ms (Ta + Tb) (tAsg ta (gSub (tVar i) tb rSetL)) (fun nx rt env => ua env fun x => ub env fun y => ∃ us k j, gt env i = .lst us ∧ y = .int k ∧ ixN us.length k = some j ∧ nx (env.set i (.lst (us.set j x)))) := fun F B env σ G H S nx rt D hu kn kr =>
  hv F (Tb + B) env σ G H (S.le (by omega)) _ _ hu fun u v G1 H1 hq x1 S1 r1 => by
    obtain ⟨a, o, h1, ho, r, n, g⟩ := S1.at_own hm
    refine ⟨.ref a, h1, hk F B env σ G1 H1 S1 _ _ hq fun w y G2 H2 hq2 x2 S2 r2 => ?_⟩
    obtain ⟨us, kk, j, ex, rfl, ej, hq⟩ := hq2
    rw [ex] at r
    cases r with
    | lst r =>
      have ho' : H2 a = some (.lst _) := x2.h _ _ (fun m => (S.mn _ m).1 n) ho
      have hset : ∀ {vs : List V} {us : List U} (j : Nat), RepA G2 vs us → RepA G2 (vs.set j v) (us.set j u) := by
        intro vs us j r
        induction j generalizing vs us with
        | zero => cases r with | nil => exact .nil | cons h r => exact .cons (r1.mono x2.g) r
        | succ j ih => cases r with | nil => exact .nil | cons h r => exact .cons h (ih r)
      exact ⟨a, _, kk, j, rfl, of_int r2, ho', by rw [r.length]; exact ej, kn _ _ G2 _ hq (S2.chg hm h1 (.lst (hset j (r.mono x2.g))))⟩
/-- t[lo:hi], a part of a tuple -/
theorem rn_slT {tl th : TO} {ul uh : List U → (Option Int → Prop) → Prop} (ha : RV L ms Ta ta ua) (hl : RP L ms Tb tl ul) (hh : RP L ms Tc th uh) :
    RN L ms (Ta + (Tb + Tc)) (tSl (rSlT K) ta tl th) (fun env q => ua env fun x => ul env fun lo => uh env fun hi => ∃ us, x = .tup us ∧ ¬ (HT.sIx us.length 0 lo = 0 ∧ HT.sIx us.length us.length hi = us.length) ∧ q (.tup (cutU us lo hi))) := fun F B env σ G H S q Q hu k =>
  ha F (Tb + Tc + B) env σ G H (S.le (by omega)) _ _ hu fun u v G1 H1 hq x1 S1 r1 => hl F (Tc + B) env σ G1 H1 (S1.le (by omega)) _ _ hq fun lo G2 H2 hq2 x2 S2 =>
    hh F B env σ G2 H2 S2 _ _ hq2 fun hi G3 H3 hq3 x3 S3 => by
      obtain ⟨us, rfl, hne, hq9⟩ := hq3
      obtain ⟨a, xs, rfl, ho, ra⟩ := ((r1.go S1 x2).go S2 x3).tup S3.sm
      refine ⟨a, xs, rfl, SqT.of ho, by rw [ra.length]; exact hne, fun p hp => ?_⟩
      have x4 : Xt No F.lk G3 H3 G3 (upd H3 p (.tup (cutV xs lo hi))) := Xt.hid S3.sm hp
      exact k _ p _ G3 _ hq9 ((x1.trans x2).trans (x3.trans x4.on)) (S3.go x4) ((x1.trans x2).f _ (x3.f _ hp)) (S3.sm.free hp) upd_same (.tup (cut_rep ra lo hi))
theorem rc_str : RC L (fun xs H Q => ∃ i, xs = [V.int i] ∧ i.natAbs.log2 < 1920 ∧ Q (.str (toString i)) H) (fun us q => ∃ i : Int, us = [.int i] ∧ i.natAbs.log2 < 1920 ∧ q (.str (toString i))) := by
  intro F G H xs us s _ r q Q hu k
  obtain ⟨i, rfl, hz, hq⟩ := hu
  cases r with
  | cons h r =>
    cases r
    exact ⟨i, by rw [h.int], hz, k _ _ G H hq (Xt.refl s) (.str _)⟩
theorem re_join (ho : RE L ms Ta to uo) (he : RE L ms Tb te ue) : RE L ms (Ta + Tb) (tM1 (fun x xs H Q => ∃ a p, ∃ ys : List Str, x = .str a ∧ xs = [.ref p] ∧ (SqL K H p (ys.map V.str) ∨ SqT K H p (ys.map V.str)) ∧
      (ys.map (·.length)).sum + ys.length * a.length ≤ 16777216 ∧ Q (.str (PySem.Txt.join a ys)) H) to te) (fun env q => uo env fun x => ∃ a, x = .str a ∧ ue env fun y => ∃ ys : List Str, (y = .lst (ys.map U.str) ∨ y = .tup (ys.map U.str)) ∧ (ys.map (·.length)).sum + ys.length * a.length ≤ 16777216 ∧ q (.str (PySem.Txt.join a ys))) := fun F B env σ G H S q Q hu k =>
  ho F (Tb + B) env σ G H (S.le (by omega)) _ _ hu fun u v G1 H1 hq x1 S1 r1 => by
    obtain ⟨a, rfl, hq⟩ := hq
    refine ⟨⟨a, of_str r1⟩, he F B env σ G1 H1 S1 _ _ hq fun w y G2 H2 hq2 x2 S2 r2 => ?_⟩
    obtain ⟨ys, hy, hz, hq⟩ := hq2
    rcases hy with rfl | rfl
    · obtain ⟨p, xs, rfl, g, ra⟩ := Va.of_lst r2
      exact ⟨a, p, ys, of_str r1, rfl, .inl (by rw [← of_strs ra]; exact SqL.of (S2.sm.get g (by intro _ z; cases z))), hz, k _ _ G2 H2 hq (x1.trans x2) S2 (.str _)⟩
    · obtain ⟨p, xs, rfl, g, ra⟩ := Va.of_tup r2
      exact ⟨a, p, ys, of_str r1, rfl, .inr (by rw [← of_strs ra]; exact SqT.of (S2.sm.get g (by intro _ z; cases z))), hz, k _ _ G2 H2 hq (x1.trans x2) S2 (.str _)⟩
/-! texts put together -/
theorem re_fmt (h : RE L ms T te ue) : RE L ms T (tFmt te) (fun env q => ue env fun x => (∃ y : Str, x = .str y ∧ y.length ≤ sizeLine ∧ q (.str y)) ∨ ∃ i : Int, x = .int i ∧ i.natAbs.log2 < 1920 ∧ q (.str (toString i))) := fun F B env σ G H S q Q hu k =>
  h F B env σ G H S _ _ hu fun u v G1 H1 hq x1 S1 r1 => by
    rcases hq with ⟨y, rfl, hz, hq⟩ | ⟨i, rfl, hz, hq⟩
    · exact .inl ⟨y, of_str r1, hz, k _ _ G1 H1 hq x1 S1 (.str _)⟩
    · exact .inr ⟨i, of_int r1, hz, k _ _ G1 H1 hq x1 S1 (.str _)⟩
def RJ (L : Bool) (ms : List Md) (T : Nat) (ts : List TE) (uj : Str → List U → (Str → Prop) → Prop) : Prop :=
  ∀ F B env σ G H acc, Sta F L (T + B) ms env σ G H → ∀ (q : Str → Prop) (Q : Str → Hp → Prop), uj acc env q →
    (∀ u G' H', q u → Xt F.M F.lk G H G' H' → Sta F L B ms env σ G' H' → Q u H') → tJs ts acc σ H Q
theorem rj_nil : RJ L ms 0 [] (fun acc _ q => q acc) := fun F B env σ G H acc S q Q hu k => k acc G H hu (Xt.refl S.sm) (S.le (by omega))
theorem rj_cons {ts : List TE} {uj : Str → List U → (Str → Prop) → Prop} (h : RE L ms Ta te ue) (r : RJ L ms Tb ts uj) : RJ L ms (Ta + Tb) (te :: ts) (fun acc env q => ue env fun x => ∃ y : Str, x = .str y ∧ (acc ++ y).length ≤ sizeLine ∧ uj (acc ++ y) env q) := fun F B env σ G H acc S q Q hu k =>
  h F (Tb + B) env σ G H (S.le (by omega)) _ _ hu fun u v G1 H1 hq x1 S1 r1 => by
    obtain ⟨y, rfl, hz, hq⟩ := hq
    exact ⟨y, of_str r1, hz, r F B env σ G1 H1 _ S1 _ _ hq fun u G' H' hq x2 S' => k u G' H' hq (x1.trans x2) S'⟩
theorem re_joined {ts : List TE} {uj : Str → List U → (Str → Prop) → Prop} (h : RJ L ms T ts uj) : RE L ms T (fun σ H Q => tJs ts Str.empty σ H fun out H1 => Q (.str out) H1) (fun env q => uj Str.empty env fun x => q (.str x)) := fun F B env σ G H S q Q hu k =>
  h F B env σ G H _ S _ _ hu fun u G' H' hq x S' => k _ _ G' H' hq x S' (.str _)
/-! declining == -/
theorem re_eqS {N : List Str} {tc : TT} (htc : ∀ (H : Hp) (a : Addr) (z : Str), tc (L2.start N [.ref a, .str z]) H fun b H' => b = true ∧ H' = H) (ha : RE L ms Ta ta ua) (hb : RE L ms Tb tb ub) :
    RE L ms (Ta + Tb) (tOp (OO.rEqS C N tc) ta tb) (fun env q => ua env fun x => ub env fun y => InsC C x ∧ (∃ z, y = .str z) ∧ q (.bl false)) :=
  re_two ha hb fun F G H x y u w s nl r1 r2 q Q hu k => by
    obtain ⟨h1, ⟨z, rfl⟩, hp⟩ := hu
    obtain ⟨a, dx, fs, rfl, g⟩ := h1 _ _ r1
    exact ⟨a, z, dx, fs, rfl, Va.of_str r2, s.ins g, htc H a z, k _ _ G H hp (Xt.refl s) (.bl _)⟩
theorem re_eqO {D : Addr} {N N' : List Str} {tc tc' : TT} (htc : ∀ (H : Hp) (a b dy : Addr) (gs : List (Str × V)), H b = some (.ins D dy gs) → tc (L2.start N [.ref a, .ref b]) H fun b H' => b = true ∧ H' = H)
    (htc' : ∀ (H : Hp) (a b dy : Addr) (gs : List (Str × V)), H b = some (.ins C dy gs) → tc' (L2.start N' [.ref a, .ref b]) H fun b H' => b = true ∧ H' = H) (ha : RE L ms Ta ta ua) (hb : RE L ms Tb tb ub) :
    RE L ms (Ta + Tb) (tOp (OO.rEqO C D N N' tc tc') ta tb) (fun env q => ua env fun x => ub env fun y => InsC C x ∧ InsC D y ∧ q (.bl false)) :=
  re_two ha hb fun F G H x y u w s nl r1 r2 q Q hu k => by
    obtain ⟨h1, h2, hp⟩ := hu
    obtain ⟨a, dx, fs, rfl, g⟩ := h1 _ _ r1
    obtain ⟨b, dy, gs, rfl, g2⟩ := h2 _ _ r2
    exact ⟨a, b, dx, fs, dy, gs, rfl, rfl, s.ins g, s.ins g2, htc H a b dy gs (s.ins g2), htc' H b a dx fs (s.ins g), k _ _ G H hp (Xt.refl s) (.bl _)⟩
/-- a, b = a list or a tuple -/
theorem rg_sq {n : Nat} {gs : TGs} {ugs : UGs} {is : List Nat} (hs : RGs L ms ms1 is gs ugs) : RG L ms ms1 is (gSq K n gs) (fun u env q => ∃ us, (u = .tup us ∨ u = .lst us) ∧ us.length = n ∧ ugs us env q) := fun F B env σ G H v u S r q Q hu k => by
  obtain ⟨us, hx, hn, hq⟩ := hu
  rcases hx with rfl | rfl
  · obtain ⟨a, xs, rfl, g, ra⟩ := Va.of_tup r
    exact .inl ⟨a, xs, rfl, SqT.of (S.sm.get g (by intro _ z; cases z)), by rw [ra.length, hn], hs F B env σ G H _ _ S ra q Q hq k⟩
  · obtain ⟨a, xs, rfl, g, ra⟩ := Va.of_lst r
    exact .inr ⟨a, xs, rfl, SqL.of (S.sm.get g (by intro _ z; cases z)), by rw [ra.length, hn], hs F B env σ G H _ _ S ra q Q hq k⟩
end
/-! ### methods that change their object -/
def spM (ret : Bool) (pf : Pf) : Sp := fun vs H Q _ => ∃ (lk : Addr → Prop) (G : Hp) (us : List U) (u0 : U) (q : U → Prop) (a : Addr) (o : HO) (ws : List V), vs = .ref a :: ws ∧ (∀ b, ¬ lk b) ∧ Sm lk G H ∧ G a = none ∧ H a = some o ∧ RepO G o u0 ∧ RepA G ws us ∧ pf (u0 :: us) q ∧
  ∀ u G' H' o', q u → Xt (On a) lk G H G' H' → G' a = none → H' a = some o' → RepO G' o' u → Q (if ret = true then .ref a else .non) H'
theorem len_M {ret : Bool} {pf : Pf} {n : Nat} {vs : List V} {H : Hp} {Q : VK} {E : XK} (hl : ∀ us q, pf us q → us.length = n) (h : spM ret pf vs H Q E) : vs.length = n := by
  obtain ⟨lk, G, us, u0, q, a, o, ws, rfl, nl, sm, ga, ha, ro, r, hp, k⟩ := h
  have := hl _ _ hp
  rw [List.length_cons] at this ⊢
  rw [r.length]; exact this
section
variable {F : Fr} {L fr : Bool} {B : Nat} {mr ms : List Md} {env : List U} {σ : L2.St} {G H G' H' : Hp} {Ta Tb T : Nat} {ta tb te : TE} {ua ub ue : UE} {pf : Pf} {E : XK} {C : Addr}
theorem Sta.chgX (S : Sta F L B ms env σ G H) {i : Nat} {a : Addr} {o : HO} {u : U} (hm : ms[i]? = some .own) (h1 : σ[i]? = some (some (.ref a))) (x : Xt (On a) F.lk G H G' H') (g' : G' a = none) (ho' : H' a = some o) (r : RepO G' o u) : Sta F L B ms (env.set i u) σ G' H' := by
  obtain ⟨v, u0, e1, e2, a', o0, rfl, g, ho, r0, n⟩ := S.sl i _ hm
  rw [h1] at e1; cases e1
  have hi : i < ms.length := (List.getElem?_eq_some_iff.mp hm).1
  have nb : ∀ {b : Addr} {o : HO}, F.H b = some o → b ≠ a := fun {b o} e => ne_of_none e n
  have ex : Xt F.M F.lk F.G F.H G' H' := ⟨S.ex.g.trans x.g, fun b o m e => x.h b o (nb e) (S.ex.h b o m e), x.s, fun b o e => by
    rcases x.n b o e with h | h
    · exact S.ex.n b o h
    · exact .inr (S.ex.f b h), fun b e => S.ex.f b (x.f b e)⟩
  refine ⟨ex, S.nl, S.mn, fun p e => ?_, S.l1, by simp [S.l2], fun j m e => ?_, S.ne⟩
  · obtain ⟨hm, c, b, l⟩ := S.bx p e
    have hp : p ≠ a := by rintro rfl; exact (S.mn p hm).1 n
    exact ⟨hm, c, b.is fun o h => x.h _ _ hp h, l⟩
  · obtain ⟨v, w, f1, f2, f3⟩ := S.sl j m e
    by_cases hj : i = j
    · subst hj
      rw [hm] at e; cases e
      exact ⟨_, u, h1, by rw [List.getElem?_set_self (by rw [S.l2]; exact hi)], a, o, rfl, g', ho', r, n⟩
    · refine ⟨v, w, f1, by rw [List.getElem?_set_ne hj]; exact f2, ?_⟩
      cases m with
      | junk => trivial
      | fz => obtain ⟨y, e, r⟩ := f3; exact ⟨y, e, r.mono x.g⟩
      | own =>
        obtain ⟨a2, o2, rfl, g2, ho2, r2, n2⟩ := f3
        have hne : a2 ≠ a := by rintro rfl; exact hj (S.ne i j a2 hm e h1 f1)
        exact ⟨a2, o2, rfl, x.un g2 (by rw [ho2]; simp), x.h _ _ hne ho2, r2.mono x.g, n2⟩
      | box => exact f3
/-- an own object's class, not told of -/
theorem InsC.own {u : U} {o : HO} {a : Addr} (h : InsC C u) (g : G a = none) (r : RepO G o u) : ∃ dx fs, o = .ins C dx fs := by
  obtain ⟨a', dx, fs, e, h2⟩ := h _ _ ((r.mono (same_new g)).rep upd_same)
  cases e
  rw [upd_same] at h2
  cases h2
  exact ⟨dx, fs, rfl⟩
/-- x[k] = v, x a slot's own object of the class C -/
theorem s_setO (i : Nat) (hv : RE false ms Ta ta ua) (hk : RE false ms Tb tb ub) (hm : ms[i]? = some .own := by rfl) : RS false fr mr ms ms (Ta + Tb) (tAsg ta (gSub (tVar i) tb (OO.rSetO C (spM false pf) E))) (fun nx rt env => ua env fun x => ub env fun y => InsC C (gt env i) ∧ pf [gt env i, y, x] fun u => nx (env.set i u)) := fun F B env σ G H S nx rt D hu kn kr =>
  hv F (Tb + B) env σ G H (S.le (by omega)) _ _ hu fun u v G1 H1 hq x1 S1 r1 => by
    obtain ⟨a, o, h1, ho, r, n, g⟩ := S1.at_own hm
    refine ⟨.ref a, h1, hk F B env σ G1 H1 S1 _ _ hq fun w y G2 H2 hq2 x2 S2 r2 => ?_⟩
    obtain ⟨hC, hp⟩ := hq2
    obtain ⟨a', o', h1', ho', r', n', g'⟩ := S2.at_own hm
    rw [h1] at h1'; cases h1'
    obtain ⟨dx, fs, rfl⟩ := hC.own g' r'
    exact ⟨a, dx, fs, rfl, ho', F.lk, G2, [w, u], _, _, a, _, [y, v], rfl, S2.nl rfl, S2.sm, g', ho', r', .cons r2 (.cons (r1.mono x2.g) .nil), hp, fun u G' H' o' hq x g ho r => kn _ _ G' H' hq (S2.chgX hm h1 x g ho r)⟩
/-- x op= y, x a slot's own object of the class C -/
theorem s_augO (i : Nat) (h : RE false ms T te ue) (hm : ms[i]? = some .own := by rfl) : RS false fr mr ms ms T (tAug i te (OO.rIn1 C (spM true pf) E)) (fun nx rt env => ue env fun y => InsC C (gt env i) ∧ pf [gt env i, y] fun u => nx (env.set i u)) := fun F B env σ G H S nx rt D hu kn kr => by
  obtain ⟨a, o, h1, ho, r, n, g⟩ := S.at_own hm
  refine ⟨.ref a, h1, h F B env σ G H S _ _ hu fun w y G2 H2 hq2 x2 S2 r2 => ?_⟩
  obtain ⟨hC, hp⟩ := hq2
  obtain ⟨a', o', h1', ho', r', n', g'⟩ := S2.at_own hm
  rw [h1] at h1'; cases h1'
  obtain ⟨dx, fs, rfl⟩ := hC.own g' r'
  refine ⟨a, dx, fs, rfl, ho', F.lk, G2, [w], _, _, a, _, [y], rfl, S2.nl rfl, S2.sm, g', ho', r', .cons r2 .nil, hp, fun u G' H' o' hq x g ho r => ?_⟩
  have es : σ.set i (some (.ref a)) = σ := by
    apply List.ext_getElem?
    intro j
    by_cases e : i = j
    · subst e; rw [List.getElem?_set_self (by rw [S.l1]; exact (List.getElem?_eq_some_iff.mp hm).1), h1]
    · rw [List.getElem?_set_ne e]
  show D.nx (σ.set i (some (.ref a))) H'
  rw [es]
  exact kn _ _ G' H' hq (S2.chgX hm h1 x g ho r)
end
end Va
namespace Kt
open PySem L2
/-- what the written part says of a property -/
structure PrpF (K : PySem.W.Frag) (C : Addr) (m qual : Str) (st : Stmt) (ps : List Str) (p f : Addr) (fd : FuncData) : Prop where
  F : FunA K m qual st f fd
  b : Binds K fd ps []
  P : PropOf K C m p f
theorem prp_of {K : PySem.W.Frag} {C f p : Addr} {m qual : Str} {st : Stmt} {ps : List Str} {oc : Value} {od an : Option Addr} {osl : Array (Option Value)} {kV doc pm cdv ct : Value} {rest : List Value}
    (a : PySem.W.findIn K (.ref C) m = some (some (.ref p))) (g : PySem.W.specialIn K (.ref p) "__get__" = some (some (.builtin "property.__get__"))) (t : PySem.W.takesIn K (.ref p) = some true) (r : PySem.W.recIn K p "property" = some (.ref f :: rest))
    (l : K.lookup f = some ⟨oc, od, .func (PySem.W.fnOf m qual (defArgs st) (defBody st) (defScope st) .none kV doc pm an cdv ct), osl⟩)
    (c : PySem.W.codeIn K cdv qual = true) (k : PySem.W.keepIn K (.ref f) = true)
    (hb : ∀ (kV doc pm : Value) (an : Option Addr) (cdv ct : Value) (us : List Value), us.length = ps.length → bindArgs (PySem.W.fnOf m qual (defArgs st) (defBody st) (defScope st) .none kV doc pm an cdv ct) ⟨us, []⟩ = pure (ps.zip us)) :
    PrpF K C m qual st ps p f (PySem.W.fnOf m qual (defArgs st) (defBody st) (defScope st) .none kV doc pm an cdv ct) :=
  ⟨⟨⟨oc, od, .none, kV, doc, pm, an, cdv, ct, osl, rfl, l, c⟩, k⟩, .all (hb kV doc pm an cdv ct), ⟨a, g, t, _, r⟩⟩
section
variable {X : Cx} {n : Nat} {C f : Addr} {fd : FuncData} {qual : Str} {st : Stmt} {N ps : List Str} {c : Expr} {p1 p2 p3 : Pos} {rest : List Stmt} {tc : TT}
theorem met_eqS (h : MetF X.K C "__eq__" qual st ps f fd) (S : FnScope N ps (defScope st)) (ns : PySem.W.subIn X.K (.type "str") (.ref C) = some false) (hps : ps.length = 2)
    (hbd : defBody st = .If c [.Return (some (.Name "NotImplemented" p1)) p2] [] p3 :: rest) (hr : Room (n + 1) X.A)
    (hg : (defScope st).names.lookup ("NotImplemented" : Str) = some .globalImplicit) (hm : X.mg "NotImplemented" = none) (hv : bootBuiltins "NotImplemented" = some .notImplemented)
    (hc : ∀ (cdv : Value) (A : Around) (outer : List Env) (s : Shared) (H : Hp), Room n (A.deeper (PyProof.Rows.envOfC qual (defScope st) s.heap.objs.size f cdv)) → PT (cxOf CX0 X.prog X.w X.K X.mg X.base N qual (defScope st) f cdv A outer s H fun _ _ _ => False).nox c tc) : OpR X (compareOp .Eq) (OO.rEqS C N tc) := by
  obtain ⟨oc, od, dV, kV, doc, pm, an, cdv, ct, osl, e, lk, hcd⟩ := h.F.ex
  have hb := h.b
  rw [e] at lk hb
  rw [hbd] at lk hb
  exact OO.op_eqS lk hcd S hps hr hb h.own hg hm hv (hc cdv) ns
theorem met_ni (h : MetF X.K C "__eq__" qual st ps f fd) (S : FnScope N ps (defScope st)) (hps : ps.length = 2)
    (hbd : defBody st = .If c [.Return (some (.Name "NotImplemented" p1)) p2] [] p3 :: rest) (hr : Room (n + 1) X.A)
    (hg : (defScope st).names.lookup ("NotImplemented" : Str) = some .globalImplicit) (hm : X.mg "NotImplemented" = none) (hv : bootBuiltins "NotImplemented" = some .notImplemented)
    (hc : ∀ (cdv : Value) (A : Around) (outer : List Env) (s : Shared) (H : Hp), Room n (A.deeper (PyProof.Rows.envOfC qual (defScope st) s.heap.objs.size f cdv)) → PT (cxOf CX0 X.prog X.w X.K X.mg X.base N qual (defScope st) f cdv A outer s H fun _ _ _ => False).nox c tc)
    {pins : List (Addr × Obj)} {s : Shared} {σ : L2.St} {H : Hp} (I : Inv X pins σ H s) {a b : Addr} (htc : tc (L2.start N [.ref a, .ref b]) H (fun b H' => b = true ∧ H' = H)) :
    wpAny (model X.prog X.w) X.A (call (.ref f) [.ref a, .ref b]) (fun r s' => r = .notImplemented ∧ Inv X pins σ H s') X.xe s := by
  obtain ⟨oc, od, dV, kV, doc, pm, an, cdv, ct, osl, e, lk, hcd⟩ := h.F.ex
  have hb := h.b
  rw [e] at lk hb
  rw [hbd] at lk hb
  exact OO.ni_call lk hcd S hps hr hb hg hm hv (hc cdv) I htc
end
end Kt
namespace Kt
open PySem PySem.Spec PyProof.Rows L2
section
variable {X : Cx}
/-- y = {k: v for ..} -/
theorem ps_setDc {i : Nat} {y : Str} {py : Pos} {kx vx tg iter : Expr} {ifs : List Expr} {scope : Scope} {own : List (Str × Nat)} {pos spos : Pos} {wi : TI} {g : TG} {tt : TT} {tk tv : TE} (hc : X.calm = true) (hN : X.N.Nodup) (hy : X.N[i]? = some y) (hyl : X.env.scope.names.lookup y = some .local)
    (hsw : swapsWith (.DictComp kx vx [⟨tg, iter, ifs, 0⟩] scope pos) (some (.Name y py)) spos.line X.env = pure true) (hi : PI X tg iter wi) (ok : BlkOk X.N X.env.scope scope own)
    (hg : ∀ (s : Shared) (H : Hp) (C : Addr) (cl : List (Str × Addr)) (fp : List Addr), PG (X.blk s H scope (compEnvC scope cl C X.env) fp) tg g) (ht : ∀ (s : Shared) (H : Hp) (C : Addr) (cl : List (Str × Addr)) (fp : List Addr), PTs (X.blk s H scope (compEnvC scope cl C X.env) fp) ifs tt)
    (hk : ∀ (s : Shared) (H : Hp) (C : Addr) (cl : List (Str × Addr)) (fp : List Addr), PE (X.blk s H scope (compEnvC scope cl C X.env) fp) kx tk)
    (he : ∀ (s : Shared) (H : Hp) (C : Addr) (cl : List (Str × Addr)) (fp : List Addr), PE (X.blk s H scope (compEnvC scope cl C X.env) fp) vx tv) (hs : ∀ x, foldedSetIterable iter X.env x = pure x := by intro _; rfl) :
    PS X (.Assign [.Name y py] (.DictComp kx vx [⟨tg, iter, ifs, 0⟩] scope pos) spos) (tAsg (tDc wi g tt tk tv (own.map (·.2))) (gName i)) := by
  refine ⟨fun pins s σ H D I h => ?_⟩
  rw [exec_Assign_Name_used _ _ _ _ hsw]
  refine wpAny_bind (wpAny_standAt (wpAny_bind ?_))
  show wpAny _ X.A (do let _ ← comprehension (.DictComp kx vx [⟨tg, iter, ifs, 0⟩] scope pos) scope X.env (firstIterPos [⟨tg, iter, ifs, 0⟩] pos) newDict false (eval iter X.env) (some (assign (.Name y py) X.env))) _ _ s
  have h : tDc wi g tt tk tv (own.map (·.2)) σ H (fun x H1 => gName i x σ H1 D.nx) := h
  refine wpAny_bind (thn (dc_core (Qf := fun _ s' => SP X pins D .next s') hc hN I hi ok hg ht hk he hs h fun L C s' m H' I' q hn f => ?_) fun _ s' hq => wpAny_pure (wpAny_pure hq))
  show wpAny _ _ (assign (.Name y py) X.env (.ref L)) _ _ _
  refine wpAny_assign_Name (store_ok2 (v := V.ref L) I' hN hy (.inl hyl) rfl (fun s2 I2 ⟨a, sb, ha⟩ => ?_) (.inr hyl))
  obtain ⟨f0, f1, f2, f3, f4, f5⟩ := f
  have haC : C ≠ a := by
    rcases ha with z | z
    · rw [z]; exact f1
    · exact fun e => f4 y a z e.symm
  refine ⟨m, hn.sameBut sb haC, fun h3 sb3 => ?_⟩
  exact ⟨_, H', I2.turned (t' := s2.toks) (fun b o hb e => (sb3.2 b hb).trans e) f0 f1 f3 f4 f5, q⟩
theorem sw_trueD {kx vx : Expr} {gs : List Comprehension} {scope : Scope} {pos py : Pos} {y : Str} {l : Nat} {env : Env} (hk : env.scope.kind = .function) (hy : env.scope.names.lookup y = some .local) (hl : (py.line == pos.line) = true)
    (ha : (scope.names.any fun (n, k) => n == y && (k == .local || k == .cell)) = false) : swapsWith (.DictComp kx vx gs scope pos) (some (.Name y py)) l env = pure true := by
  have ky : env.kindOf y = some .local := hy
  have hb : env.blockKind = .function := by unfold Env.blockKind; rw [hk]; rfl
  unfold swapsWith
  simp only [hb, ky, ha, Expr.pos, hl]
  rfl
end
end Kt


/-! Openings by values -/
namespace Va
open PySem L2 Kt LM DO PyProof.Rows
theorem repO_lotN {C dx D : Addr} {G : Hp} {d m : Pr} (h2 : G D = some (.dK (encD d))) (hp : d.Perm m) (ho : Ok m) (hl : m.length < 64) : RepO G (.ins C dx [("own_many", .ref D)]) (lotU C m) :=
  .obj (fun G1 G2 v s ⟨a, e, h⟩ => ⟨a, e, h.mono s⟩) fun G' b s e => ⟨b, rfl, dx, D, d, e, s _ _ h2, hp, ho, hl⟩
/-- the text of a lot's pairs -/
def wordP (p : Str × Int) : Str := ((Str.empty ++ (toString p.2 : Str)) ++ (" " : Str)) ++ p.1
def textL (m : Pr) : Str := if m = [] then "-" else PySem.Txt.join " " (m.map wordP)
theorem num_len {i : Int} (h : i.natAbs.log2 < 1900) : (Str.ofString (toString i)).length ≤ 1901 := by
  have e := int_text_length_le (k := 1900) (by decide) h
  rw [PySem.ofString_length]; exact e
theorem wordP_len {p : Str × Int} (h : p.2.natAbs.log2 < 1900) (hk : p.1.length ≤ 1000) : (wordP p).length ≤ 3000 := by
  have := num_len h
  rw [wordP, Str.length_append, Str.length_append, Str.length_append]
  have e1 : (Str.empty).length = 0 := rfl
  have e2 : (Str.ofString " ").length = 1 := rfl
  rw [e1, e2]; omega
theorem sum_le_mul {l : List Nat} {b : Nat} (h : ∀ x ∈ l, x ≤ b) : l.sum ≤ l.length * b := by
  induction l with
  | nil => simp
  | cons x r ih =>
    have h1 := h x (by simp)
    have h2 := ih fun y hy => h y (by simp [hy])
    rw [List.sum_cons, List.length_cons, Nat.add_mul]; omega
theorem words_sum {m : Pr} (hb : ∀ p ∈ m, p.2.natAbs.log2 < 1900 ∧ p.1.length ≤ 1000) (hl : m.length < 64) : ((m.map wordP).map (·.length)).sum + (m.map wordP).length * 1 ≤ 16777216 := by
  have h1 := sum_le_mul (l := (m.map wordP).map (·.length)) (b := 3000) fun x hx => by
    obtain ⟨y, hy, rfl⟩ := List.mem_map.mp hx
    obtain ⟨p, hp, rfl⟩ := List.mem_map.mp hy
    exact wordP_len (hb p hp).1 (hb p hp).2
  rw [List.length_map, List.length_map] at h1
  rw [List.length_map]
  have : m.length * 3000 ≤ 64 * 3000 := Nat.mul_le_mul_right _ (by omega)
  omega
theorem textL_len {m : Pr} (hb : ∀ p ∈ m, p.2.natAbs.log2 < 1900 ∧ p.1.length ≤ 1000) (hl : m.length < 64) : (textL m).length ≤ 300000 := by
  unfold textL
  split
  · decide
  · show (Builtin.Str.glued (Str.ofString " ") (m.map wordP)).length ≤ _
    rw [size_glued]
    have h1 := sum_le_mul (l := (m.map wordP).map (·.length)) (b := 3000) fun x hx => by
      obtain ⟨y, hy, rfl⟩ := List.mem_map.mp hx
      obtain ⟨p, hp, rfl⟩ := List.mem_map.mp hy
      exact wordP_len (hb p hp).1 (hb p hp).2
    rw [List.length_map, List.length_map] at h1
    rw [List.length_map]
    have e2 : (Str.ofString " ").length = 1 := rfl
    have : m.length * 3000 ≤ 64 * 3000 := Nat.mul_le_mul_right _ (by omega)
    rw [e2]; omega
/-- len(x.own_many) -/
theorem re_lotLen {K : PySem.W.Frag} {C : Addr} {ms : List Md} {T : Nat} {te : TE} {ue : UE} (c : Cls K C) (n : NoAttr K C "own_many") (h : RE false ms T te ue) : RE false ms T (tCB (fun xs H Q => ∃ a kvs, xs = [V.ref a] ∧ H a = some (HO.dK kvs) ∧ Q (V.int kvs.length) H) (tCons (tFld K te "own_many") tNil)) (fun env q => ue env fun x => ∃ m, x = lotU C m ∧ (Ok m → m.length < 64 → q (.int m.length))) := fun F B env σ G H S q Q hu k =>
  h F B env σ G H S _ _ hu fun u v G' H' hq x S' r => by
    obtain ⟨m, rfl, hq⟩ := hq
    obtain ⟨a, rfl, dx, dd, d, h1, h2, hp, ho, hl⟩ := of_lotU r
    have sm := S'.sm.same (S'.nl rfl)
    refine ⟨a, C, dx, _, _, rfl, sm _ _ h1, c, n, rfl, dd, _, rfl, sm _ _ h2, ?_⟩
    rw [show (encD d).length = m.length by rw [LM.encD, List.length_map]; exact hp.length_eq]
    exact k _ _ G' H' (hq ho hl) x S' (.int _)
/-- a dict without one key, and with it again -/
def setD (d : Pr) (k : Str) (i : Int) : Pr := (d.filter fun p => decide (p.1 ≠ k)) ++ (if 0 < i then [(k, i)] else [])
theorem setD_keys {d : Pr} {k : Str} {i : Int} (hn : (d.map (·.1)).Nodup) : ((setD d k i).map (·.1)).Nodup := by
  rw [setD, List.map_append, List.nodup_append]
  refine ⟨((List.filter_sublist (l := d)).map _).nodup hn, ?_, fun x hx y hy e => ?_⟩
  · split <;> simp
  · obtain ⟨p, hp, rfl⟩ := List.mem_map.mp hx
    have h1 := of_decide_eq_true (List.mem_filter.mp hp).2
    split at hy
    · simp at hy; exact h1 (e.trans hy)
    · simp at hy
theorem look_filter (d : Pr) (k j : Str) : look (d.filter fun p => decide (p.1 ≠ k)) j = if j = k then none else look d j := by
  induction d with
  | nil => simp [look]
  | cons p r ih =>
    rw [List.filter_cons]
    by_cases e : p.1 = k
    · rw [if_neg (by simp [e]), ih]
      split
      · rfl
      · rename_i h; rw [look, if_neg (by rw [e]; exact fun z => h z.symm)]
    · rw [if_pos (by simp [e]), look, look, ih]
      by_cases e2 : p.1 = j
      · subst e2; simp [e]
      · simp [e2]
theorem setD_lot {d m : Pr} (hp : d.Perm m) (hm : Ok m) {k : Str} {i : Int} (hi : 0 ≤ i) : (setD d k i).Perm (lotD (setD d k i)) ∧ ∀ j, lk (lotD (setD d k i)) j = if j = k then i else lk m j := by
  have hn : (d.map (·.1)).Nodup := (hp.map _).nodup_iff.mpr hm.keys_nodup
  have hpos : ∀ x ∈ setD d k i, 0 < x.2 := fun x hx => by
    rcases List.mem_append.mp hx with h | h
    · exact hm.pos x (hp.mem_iff.mp (List.mem_filter.mp h).1)
    · split at h
      · rw [List.mem_singleton.mp h]; assumption
      · cases h
  refine ⟨?_, fun j => ?_⟩
  · have := (lotD_perm (setD_keys (k := k) (i := i) hn)).symm
    rwa [List.filter_eq_self.mpr fun x hx => decide_eq_true (hpos x hx)] at this
  · rw [lk_lotD (setD_keys hn) (fun x hx => Int.le_of_lt (hpos x hx)), setD, look_app, look_filter]
    by_cases e : j = k
    · subst e
      rw [if_pos rfl, if_pos rfl]
      by_cases hi2 : 0 < i
      · rw [if_pos hi2]; simp [look]
      · rw [if_neg hi2]; simp [look]; omega
    · rw [if_neg e, if_neg e, ← perm_lookD hp hm]
      have : look (if 0 < i then [(k, i)] else []) j = none := by
        split
        · simp only [look]; rw [if_neg (fun z : k = j => e z.symm)]
        · rfl
      rw [this, Option.or_none]
def keyU' (k : Str) (m : Pr) : U := .tup [.str k, .tup (sU m)]
def opU (C : Addr) (k : Str) (m : Pr) : U := .ins C [("kind", .str k), ("own_key", keyU' k m)]
/-- Opening(kind, contents) -/
def pfOpI (CO CL CH CR : Addr) : PfX := fun us q xt => ∃ (k : Str) (m : Pr), us = [.str k, lotU CL m] ∧ (Ok m → m.length < 64 → m ≠ [] → lk m k = 0 → q (opU CO k m)) ∧ (m = [] → xt CH (some [("kind", .str k)])) ∧ (Ok m → m.length < 64 → m ≠ [] → lk m k ≠ 0 → xt CR (some [("ring", .tup [.str k])]))
theorem hl_OpI {CO CL CH CR : Addr} : ∀ us q xt, pfOpI CO CL CH CR us q xt → us.length = 2 := by rintro us q xt ⟨k, m, rfl, _⟩; rfl
/-- an Opening and nothing else -/
def pfO1 (C : Addr) (f : Str → Pr → (U → Prop) → Prop) : Pf := fun us q => ∃ k m, us = [opU C k m] ∧ f k m q
theorem hl_O1 {C : Addr} {f : Str → Pr → (U → Prop) → Prop} : ∀ us q, pfO1 C f us q → us.length = 1 := by rintro us q ⟨k, m, rfl, _⟩; rfl
def pfO2 (C : Addr) (f : PyData → PyData → Bool) : Pf := fun us q => ∃ k m k' m', us = [opU C k m, opU C k' m'] ∧ SeqAt.shaped (toD (keyU' k m)) = true ∧ SeqAt.shaped (toD (keyU' k' m')) = true ∧ q (.bl (f (toD (keyU' k m)) (toD (keyU' k' m'))))
theorem hl_O2 {C : Addr} {f : PyData → PyData → Bool} : ∀ us q, pfO2 C f us q → us.length = 2 := by rintro us q ⟨k, m, k', m', rfl, _⟩; rfl
theorem isD_key (k : Str) (m : Pr) : isD (keyU' k m) = true := by
  show isDs [_, _] = true
  rw [isDs_eq]; simp [isD_sU]; rfl
theorem shaped_key {k : Str} {m : Pr} (hk : PyData.strOk k = true) (h : ∀ x ∈ m, PyData.strOk x.1 = true) : SeqAt.shaped (toD (keyU' k m)) = true := by
  show SeqAt.shaped (.tuple (toDs [.str k, .tup (sU m)])) = true
  rw [toDs_eq]
  refine (shd_tup (n := 2) fun d hd => ?_).shaped (by decide)
  simp only [List.map_cons, List.map_nil, List.mem_cons, List.not_mem_nil, or_false] at hd
  rcases hd with rfl | rfl
  · exact shd_str hk
  · rw [toD_sU]
    refine shd_tup (n := 1) fun d hd => ?_
    obtain ⟨x, hx, rfl⟩ := List.mem_map.mp hd
    exact shd_encP (h x hx)
theorem cmp_sU : ∀ (m n : Pr), cmpA (m.map encP) (n.map encP) = true
  | [], n => by cases n <;> rfl
  | p :: m, [] => rfl
  | p :: m, q :: n => by rw [List.map_cons, List.map_cons, cmpA, cmp_encP, cmp_sU m n]; rfl
theorem cmp_key (k : Str) (m : Pr) (k' : Str) (m' : Pr) : cmpD (toD (keyU' k m)) (toD (keyU' k' m')) = true := by
  show cmpA (toDs [.str k, .tup (sU m)]) (toDs [.str k', .tup (sU m')]) = true
  rw [toDs_eq, toDs_eq]
  simp only [List.map_cons, List.map_nil, toD_sU]
  simp [toD, cmpA, cmpD, cmp_sU]
theorem toD_key (k : Str) (m : Pr) : toD (keyU' k m) = .tuple [.str k, .tuple (m.map encP)] := by
  show PyData.tuple (toDs [.str k, .tup (sU m)]) = _
  rw [toDs_eq]; simp [toD_sU]; rfl
theorem eqv_key (k : Str) (m : Pr) (k' : Str) (m' : Pr) : PyData.eqv (toD (keyU' k m)) (toD (keyU' k' m')) = decide (k = k' ∧ m = m') := by
  rw [toD_key, toD_key]
  refine bool_iff ?_
  simp [PyData.eqv, PyData.eqvAll, eqv_enc]
end Va

/-! calls whose exceptions keep the slots; try by values -/
namespace Kt
open PySem PySem.Spec PyProof.Rows L2
/-- .. at these slots -/
def PassS (CX : CXT) (X : Cx) (σ : L2.St) (E : XK) : Prop := ∀ (pins : List (Addr × Obj)) (H : Hp) (s : Shared) (e : Value) (s' : Shared), Inv X pins σ H s → CX X.stack H s E e s' → X.xe e s'
section
variable {X : Cx} {CX : CXT} {k n : Nat} {f C : Addr} {fd : FuncData} {ps ks : List Str} {sp : Sp} {dvs : List V} {ds : List Value} {E : XK} {ES : L2.St → XK} {x m : Str} {p pos apos : Pos} {e o : Expr} {es : List Expr} {kws : List Keyword} {ta : TE} {t tk : TA} {g : List Value → List Value → List Value} {gV : List V → List V → List V}
theorem passS {W : WX} (tk : Takes X W) (σ : L2.St) : PassS (L2.CX X.prog X.w) X σ (fun cls d H => W cls d σ H) := fun _ _ _ e s' I c => tk e s' (XE.of_call I (fun _ _ _ h => h) c)
theorem run_makeS {pins : List (Addr × Obj)} {σ : L2.St} {H : Hp} {s : Shared} {Q : VK} {us : List Value} {vs : List V} (M : Mk X.K C f) (F : FnOk X.prog X.w X.K X.mg X.base CX k f fd ps sp) (hr : Room (k + 1) X.A) (hb : Binds X.K fd ps ds) (hd : Vals dvs ds)
    (hx : PassS CX X σ E) (I : Inv X pins σ H s) (r : Vals vs us)
    (h : ∀ x dx, H x = none → H dx = none → dx ≠ x → sp (.ref x :: (vs ++ dvs)) (upd (upd H dx (.own x)) x (.ins C dx [])) (fun v H2 => v = .non ∧ Q (.ref x) H2) E) :
    wpAny (model X.prog X.w) X.A (call (.ref C) us) (EP X pins σ Q) X.xe s := by
  have hq := h (s.heap.objs.size + 1) s.heap.objs.size (I.hok.fresh (Nat.le_succ _)) (I.hok.fresh (Nat.le_refl _)) (Nat.ne_of_lt (Nat.lt_succ_self _))
  have I2 := Inv.made (C := C) I
  have r2 : Vals (V.ref (s.heap.objs.size + 1) :: (vs ++ dvs)) (Value.ref (s.heap.objs.size + 1) :: (us ++ ds)) := .cons rfl (r.append hd)
  have hl : (Value.ref (s.heap.objs.size + 1) :: us ++ ds).length = ps.length := by
    have e := r2.length
    rw [F.len _ _ _ _ hq] at e
    exact e.symm
  refine wpAny_call (make_map (f := f) I.kIn M.makes M.init (beq_iff_eq.mp M.fn) (codeAny_mono (F.run _ X.stack _ _ ⟨Value.ref (s.heap.objs.size + 1) :: us, []⟩ (Value.ref (s.heap.objs.size + 1) :: (us ++ ds)) _ _ E (hr.make C us [])
    (I2.env0.make C us []) (hb _ (Value.ref (s.heap.objs.size + 1) :: us) I2.kIn hl) r2 hq) fun r s' hq' => ?_))
  cases r with
  | error e => exact hx pins _ _ e s' I2 hq'
  | ok fl =>
    cases fl with
    | ret u =>
      obtain ⟨v, H', I3, rv, ev, q3⟩ := I2.after hq'
      subst ev
      exact ⟨rv, ⟨V.ref (s.heap.objs.size + 1), H', I3, rfl, q3⟩⟩
    | next => exact False.elim hq'
    | brk => exact False.elim hq'
    | cont => exact False.elim hq'
theorem run_makeKS {pins : List (Addr × Obj)} {σ : L2.St} {H : Hp} {s : Shared} {Q : VK} {us ws : List Value} {vs zs : List V} (M : Mk X.K C f) (F : FnOk X.prog X.w X.K X.mg X.base CX k f fd ps sp) (hr : Room (k + 1) X.A) (hb : KBn X.K fd ps (n + 1) ks g gV) (hx : PassS CX X σ E)
    (I : Inv X pins σ H s) (r : Vals vs us) (rz : Vals zs ws) (l1 : vs.length = n) (l2 : zs.length = ks.length)
    (h : ∀ x dx, H x = none → H dx = none → dx ≠ x → sp (gV (.ref x :: vs) zs) (upd (upd H dx (.own x)) x (.ins C dx [])) (fun v H2 => v = .non ∧ Q (.ref x) H2) E) :
    wpAny (model X.prog X.w) X.A (call (.ref C) us (ks.zip ws)) (EP X pins σ Q) X.xe s := by
  have hq := h (s.heap.objs.size + 1) s.heap.objs.size (I.hok.fresh (Nat.le_succ _)) (I.hok.fresh (Nat.le_refl _)) (Nat.ne_of_lt (Nat.lt_succ_self _))
  have I2 := Inv.made (C := C) I
  have r1 : Vals (V.ref (s.heap.objs.size + 1) :: vs) (Value.ref (s.heap.objs.size + 1) :: us) := .cons rfl r
  have r2 := hb.rel r1 rz
  have n1 : (Value.ref (s.heap.objs.size + 1) :: us).length = n + 1 := by
    rw [List.length_cons, ← r.length, l1]
  refine wpAny_call (make_map (f := f) I.kIn M.makes M.init (beq_iff_eq.mp M.fn) (codeAny_mono (F.run _ X.stack _ _ ⟨Value.ref (s.heap.objs.size + 1) :: us, ks.zip ws⟩ (g (Value.ref (s.heap.objs.size + 1) :: us) ws) _ _ E (hr.make C us (ks.zip ws))
    (I2.env0.make C us (ks.zip ws)) (hb.to _ (Value.ref (s.heap.objs.size + 1) :: us) ws I2.kIn n1 (rz.length.symm.trans l2)) r2 hq) fun r s' hq' => ?_))
  cases r with
  | error e => exact hx pins _ _ e s' I2 hq'
  | ok fl =>
    cases fl with
    | ret u =>
      obtain ⟨v, H', I3, rv, ev, q3⟩ := I2.after hq'
      subst ev
      exact ⟨rv, ⟨V.ref (s.heap.objs.size + 1), H', I3, rfl, q3⟩⟩
    | next => exact False.elim hq'
    | brk => exact False.elim hq'
    | cont => exact False.elim hq'
def tMakeS (C : Addr) (sp : Sp) (dvs : List V) (E : L2.St → XK) (t : TA) : TE := fun σ H Q => tMake C sp dvs (E σ) t σ H Q
def tMakeKS (C : Addr) (n m : Nat) (sp : Sp) (gV : List V → List V → List V) (E : L2.St → XK) (t tk : TA) : TE := fun σ H Q => tMakeK C n m sp gV (E σ) t tk σ H Q
theorem pe_makeS (M : Mk X.K C f) (F : FnOk X.prog X.w X.K X.mg X.base CX k f fd ps sp) (hr : Room (k + 1) X.A) (hg : Gl X x) (hm : X.mg x = some (.ref C)) (hb : Binds X.K fd ps ds) (hd : Vals dvs ds) (hx : ∀ σ, PassS CX X σ (ES σ))
    (ha : PA X (e :: es) t) (hdb : (x == ("__debug__" : Str)) = false := by decide) (he : starEach (e :: es) X.env = (false, eval e X.env) :: starEach es X.env := by rfl) (hpl : (backTo pos (starEach es X.env)).any (·.1) = false := by rfl) :
    PE X (.Call (.Name x p) (e :: es) [] pos) (tMakeS C sp dvs ES t) := by
  refine ⟨fun pins s σ H Q I h => ?_⟩
  refine wpAny_Call_Name_kw (ld_glob I hg hm ?_ hdb)
  refine PySem.W.callWith_K (h₀ := X.base) I.ok.mod.kin M.kp (thn (ha.run pos pins s σ H _ I h) fun us s1 ⟨vs, H1, I1, r, q⟩ => ⟨I1.kIn, ?_⟩) he hpl
  exact run_makeS M F hr hb hd (hx σ) I1 r q
theorem pe_makeK0S (M : Mk X.K C f) (F : FnOk X.prog X.w X.K X.mg X.base CX k f fd ps sp) (hr : Room (k + 1) X.A) (hg : Gl X x) (hm : X.mg x = some (.ref C)) (hb : KBn X.K fd ps 1 ks g gV) (hx : ∀ σ, PassS CX X σ (ES σ)) (hkw : PK X kws tk)
    (hall : (backToKw pos (keywordEach kws X.env)).all (·.1.isSome) = true := by rfl) (hks : (backToKw pos (keywordEach kws X.env)).filterMap (·.1) = ks := by rfl) (hdb : (x == ("__debug__" : Str)) = false := by decide)
    (hpl : ((backTo pos (starEach [] X.env)).any (·.1) || (backToKw pos (keywordEach kws X.env)).any (·.1.isNone)) = false := by rfl) :
    PE X (.Call (.Name x p) [] kws pos) (tMakeKS C 0 ks.length sp gV ES tNil tk) := by
  refine ⟨fun pins s σ H Q I h => ?_⟩
  refine wpAny_Call_Name_kw (ld_glob I hg hm ?_ hdb)
  refine PySem.W.callWith_KW0 (h₀ := X.base) I.ok.mod.kin M.kp hall ?_ hpl
  refine thn (hkw.run pos pins s σ H _ I h) fun ws s2 ⟨zs, H2, I2, rz, l1, l2, q2⟩ => ⟨I2.kIn, ?_⟩
  rw [hks]
  exact run_makeKS (us := []) (vs := []) M F hr hb (hx σ) I2 .nil rz rfl l2 q2
theorem run_fnS {pins : List (Addr × Obj)} {σ : L2.St} {H : Hp} {s : Shared} {Q : VK} {us : List Value} {vs : List V} (F : FnOk X.prog X.w X.K X.mg X.base CX k f fd ps sp) (hr : Room k X.A) (hb : Binds X.K fd ps ds) (hd : Vals dvs ds) (hx : PassS CX X σ E)
    (I : Inv X pins σ H s) (r : Vals vs us) (h : sp (vs ++ dvs) H Q E) : wpAny (model X.prog X.w) X.A (call (.ref f) us) (EP X pins σ Q) X.xe s := by
  have r2 : Vals (vs ++ dvs) (us ++ ds) := r.append hd
  have hl : (us ++ ds).length = ps.length := by rw [← r2.length]; exact F.len _ _ _ _ h
  refine wpAny_call (codeAny_mono (F.run X.A X.stack s H ⟨us, []⟩ (us ++ ds) (vs ++ dvs) Q E hr I.env0 (hb s us I.kIn hl) r2 h) fun r s' hq => ?_)
  cases r with
  | error e => exact hx pins H s e s' I hq
  | ok fl =>
    cases fl with
    | ret u => exact I.after hq
    | next => exact False.elim hq
    | brk => exact False.elim hq
    | cont => exact False.elim hq
end
end Kt
namespace Va
open PySem L2 Kt LM DO PyProof.Rows
/-! ### bodies of try -/
abbrev UXT := Addr → Option (List (Str × U)) → List U → Prop
abbrev UST := (List U → Prop) → (U → Prop) → UXT → List U → Prop
def RST (L fr : Bool) (mr msx ms ms' : List Md) (T : Nat) (W : WX) (ts : TS) (us : UST) : Prop :=
  ∀ F B env σ G H, Sta F L (T + B) ms env σ G H → ∀ (nx : List U → Prop) (rt : U → Prop) (xt : UXT) (D : Ends), us nx rt xt env →
    (∀ env' σ' G' H', nx env' → Sta F L B ms' env' σ' G' H' → D.nx σ' H') →
    (∀ u v env' σ' G' H', rt u → Sta F L B mr env' σ' G' H' → RtOk F G' H' v u fr → D.rt v H') →
    (∀ C o env' σ' G' H' d, xt C o env' → Sta F L B msx env' σ' G' H' → XOk F.H G' H' d o → (∀ a, d = some a → ∀ j : Nat, msx[j]? = some .own → σ'[j]? ≠ some (some (.ref a))) → W (.ref C) d σ' H') → ts D σ H
section
variable {L L' fr : Bool} {mr msx ms ms' ms1 ms2 ml : List Md} {Ta Tb Tc T T1 T2 : Nat} {ta tb tc te : TE} {ua ub uc ue : UE} {tA tk : TA} {uA : UA} {tt : TT} {ut : UT} {ts ts1 ts2 : TS} {us : US} {us1 us2 : UST} {W : WX} {pf : PfX} {C : Addr}
theorem RS.t (h : RS L fr mr ms ms' T ts us) : RST L fr mr msx ms ms' T W ts (fun nx rt _ env => us nx rt env) := fun F B env σ G H S nx rt xt D hu kn kr _ => h F B env σ G H S nx rt D hu kn kr
theorem t_seq (h1 : RST L fr mr msx ms ms1 T1 W ts1 us1) (h2 : RST L fr mr msx ms1 ms2 T2 W ts2 us2) : RST L fr mr msx ms ms2 (T1 + T2) W (tSeq ts1 ts2) (fun nx rt xt env => us1 (fun env1 => us2 nx rt xt env1) rt xt env) := fun F B env σ G H S nx rt xt D hu kn kr kx =>
  h1 F (T2 + B) env σ G H (S.le (by omega)) _ _ _ { D with nx := ts2 D } hu (fun env' σ' G' H' hn S' => h2 F B env' σ' G' H' S' nx rt xt D hn kn kr kx) (fun u v env' σ' G' H' hr S' r => kr u v env' σ' G' H' hr (S'.le (by omega)) r) (fun C o env' σ' G' H' d hx S' xo hn => kx C o env' σ' G' H' d hx (S'.le (by omega)) xo hn)
theorem t_if (h : RT L ms Tc tt ut) (h1 : RST L fr mr msx ms ms1 T1 W ts1 us1) (h2 : RST L fr mr msx ms ms2 T2 W ts2 us2) (l1 : lesM ms1 ml = true := by rfl) (l2 : lesM ms2 ml = true := by rfl) : RST L fr mr msx ms ml (Tc + (T1 + T2)) W (tIfS tt ts1 ts2) (fun nx rt xt env => ut env fun b => if b = true then us1 nx rt xt env else us2 nx rt xt env) := fun F B env σ G H S nx rt xt D hu kn kr kx =>
  h F (T1 + T2 + B) env σ G H (S.le (by omega)) _ _ hu fun b G' H' hq x S' => by
    cases b with
    | true => exact ifT rfl (h1 F B env σ G' H' (S'.le (by omega)) nx rt xt D (by simpa using hq) (fun env' σ' G' H' hn S' => kn env' σ' G' H' hn (S'.weak l1)) kr kx)
    | false => exact ifF rfl (h2 F B env σ G' H' (S'.le (by omega)) nx rt xt D (by simpa using hq) (fun env' σ' G' H' hn S' => kn env' σ' G' H' hn (S'.weak l2)) kr kx)
/-- x = C(..), told of at once -/
theorem make_T {F : Fr} {B : Nat} {env : List U} {σ : L2.St} {G H : Hp} {i : Nat} {vs : List V} {us : List U} {nx : List U → Prop} {xt : UXT} {D : Ends} (S : Sta F L B ms env σ G H) (r : RepA G vs us) (hL : (L' || !L) = true) (lx : lesM ms msx = true) (hp : pf us (fun u => nx (env.set i u)) (fun C o => xt C o env))
    (kn : ∀ env' σ' G' H', nx env' → Sta F L B (ms.set i .fz) env' σ' G' H' → D.nx σ' H')
    (kx : ∀ C o env' σ' G' H' d, xt C o env' → Sta F L B msx env' σ' G' H' → XOk F.H G' H' d o → (∀ a, d = some a → ∀ j : Nat, msx[j]? = some .own → σ'[j]? ≠ some (some (.ref a))) → W (.ref C) d σ' H') :
    ∀ x dx, H x = none → H dx = none → dx ≠ x → spIX L' C pf (.ref x :: vs) (upd (upd H dx (.own x)) x (.ins C dx [])) (fun v H' => v = .non ∧ gName i (.ref x) σ H' D.nx) (fun cls d H => W cls d σ H) := by
  refine make_IX (Q := fun v H' => gName i v σ H' D.nx) (noL hL S.nl) S.sm r hp (fun u x G' H' o hq z hx g ho ro => ?_) (fun Dd o G' H' d hx z xo => ?_)
  · have hF : F.H x = none := S.ex.f _ hx
    have S1 := S.go z
    have S2 := S1.tell ho g hF (S.new_ne hx)
    exact kn _ _ _ H' hq (S2.fz ((ro.mono (same_new g)).rep upd_same))
  · refine kx Dd o env σ G' H' d hx ((S.go z).weak lx) ?_ ?_
    · cases o with
      | none => exact xo
      | some fs =>
        obtain ⟨a, ws, e, h0, g, h, rf⟩ := xo
        exact ⟨a, ws, e, S.ex.f _ h0, g, h, rf⟩
    · intro a ea j hj
      cases o with
      | none => rw [show d = none from xo] at ea; cases ea
      | some fs =>
        obtain ⟨a', ws, e, h0, _⟩ := xo
        rw [ea] at e; cases e
        exact (S.weak lx).new_ne h0 j hj
theorem t_make (i : Nat) (hA : RA L ms T tA uA) (hL : (L' || !L) = true := by rfl) (lx : lesM ms msx = true := by rfl) : RST L fr mr msx ms (ms.set i .fz) T W (tAsg (tMakeS C (spIX L' C pf) [] (fun σ cls d H => W cls d σ H) tA) (gName i)) (fun nx rt xt env => uA env fun us => pf us (fun u => nx (env.set i u)) (fun C o => xt C o env)) := fun F B env σ G H S nx rt xt D hu kn kr kx =>
  hA F B env σ G H S _ _ hu fun us vs G1 H1 hq x1 S1 r1 => by
    show ∀ x dx, H1 x = none → H1 dx = none → dx ≠ x → spIX L' C pf (.ref x :: (vs ++ [])) _ _ _
    rw [List.append_nil]
    exact make_T S1 r1 hL lx hq kn kx
/-- .. by two keywords, the second one first -/
theorem t_makeS (i : Nat) (hA : RA L ms T tA uA) {gV : List V → List V → List V} (hg : ∀ s x y, gV [s] [x, y] = [s, y, x] := by intros; rfl) (hL : (L' || !L) = true := by rfl) (lx : lesM ms msx = true := by rfl) : RST L fr mr msx ms (ms.set i .fz) T W (tAsg (tMakeKS C 0 2 (spIX L' C pf) gV (fun σ cls d H => W cls d σ H) tNil tA) (gName i)) (fun nx rt xt env => uA env fun us => ∃ x y, us = [x, y] ∧ pf [y, x] (fun u => nx (env.set i u)) (fun C o => xt C o env)) := fun F B env σ G H S nx rt xt D hu kn kr kx =>
  hA F B env σ G H S _ _ hu fun us vs G1 H1 hq x1 S1 r1 => by
    obtain ⟨x, y, rfl, hp⟩ := hq
    cases r1 with
    | cons ra r1 =>
      cases r1 with
      | cons rb r1 =>
        cases r1
        refine ⟨rfl, rfl, ?_⟩
        have := make_T (W := W) (C := C) (i := i) S1 (.cons rb (.cons ra .nil)) hL lx hp kn kx
        intro z dx h1 h2 h3
        rw [hg]
        exact this z dx h1 h2 h3
end
/-- a caught exception that is kept: the slot j from now on -/
theorem caught {F : Fr} {L : Bool} {B : Nat} {msx ml : List Md} {env : List U} {σ : L2.St} {G H : Hp} {C a dd : Addr} {vs : List (Str × V)} {fs : List (Str × U)} {i j : Nat} (S : Sta F L B msx env σ G H) (ha : H a = none) (hd0 : F.H dd = none) (gd : G dd = none) (hd : H dd = some (.xd vs)) (rf : RepF G vs fs)
    (hn : ∀ k : Nat, msx[k]? = some .own → σ[k]? ≠ some (some (.ref dd))) (hij : i ≠ j) (l : lesM ((msx.set j .fz).set i .junk) ml = true) :
    ∃ G2, Sta F L B ml (env.set j (xdU C fs)) (((σ.set i (some (.ref a))).set j (some (.ref a))).set i none) G2 (upd H a (exT a (.ref C) (some dd))) := by
  have S1 := S.tell hd gd hd0 hn
  have x2 : Xt No F.lk (upd G dd (.xd vs)) H (upd (upd G dd (.xd vs)) a (exT a (.ref C) (some dd))) (upd H a (exT a (.ref C) (some dd))) := Xt.new S1.sm ha
  have S2 := S1.go x2
  have S3 := S2.fz (i := j) (rep_xdU (C := C) upd_same (x2.g _ _ upd_same) ((rf.mono (same_new gd)).mono x2.g))
  have S4 : Sta F L B ((msx.set j .fz).set i .junk) (env.set j (xdU C fs)) ((σ.set j (some (.ref a))).set i none) _ _ := S3.set_junk
  have es : ((σ.set i (some (.ref a))).set j (some (.ref a))).set i none = (σ.set j (some (.ref a))).set i none := by
    rw [List.set_comm _ _ hij, List.set_set]
  rw [es]
  exact ⟨_, S4.weak l⟩
section
variable {L fr : Bool} {mr msx ms ms1 ml : List Md} {T : Nat} {tb : WX → TS} {ub : UST} {K : PySem.W.Frag} {c c' : Value}
/-- try: .. except X as e: x = e -/
theorem s_try1 (i j : Nat) (hij : i ≠ j) (hb : ∀ W, RST L fr mr msx ms ms1 T W (tb W) ub) (l1 : lesM ms1 ml = true := by rfl) (l2 : lesM ((msx.set j .fz).set i .junk) ml = true := by rfl) (hi : (decide (i < msx.length)) = true := by rfl) :
    RS L fr mr ms ml T (fun D σ H => tb (wAsT K c i (fun _ _ _ => tAsg (tVar i) (gName j)) (fun _ _ _ _ => False) D) D σ H) (fun nx rt env => ub nx rt (fun C o env' => ∃ fs, o = some fs ∧ PySem.W.exmOne K (.ref C) c = some true ∧ nx (env'.set j (xdU C fs))) env) := fun F B env σ G H S nx rt D hu kn kr => by
  refine hb _ F B env σ G H S nx rt _ D hu (fun env' σ' G' H' hn S' => kn env' σ' G' H' hn (S'.weak l1)) kr (fun C o env' σ' G' H' d hx S' xo hn => ?_)
  obtain ⟨fs, rfl, hm, hq⟩ := hx
  obtain ⟨dd, vs, rfl, h0, g, h, rf⟩ := xo
  refine ⟨true, hm, fun _ a ha => ?_, fun z => by cases z⟩
  refine ⟨.ref a, by rw [List.getElem?_set_self (by rw [S'.l1]; exact of_decide_eq_true hi)], ?_⟩
  obtain ⟨G2, S2⟩ := caught (C := C) S' ha h0 g h rf (hn dd rfl) hij l2
  exact kn _ _ G2 _ hq S2
/-- .. with two clauses -/
theorem s_try2 (i j i' j' : Nat) (hij : i ≠ j) (hij' : i' ≠ j') (hb : ∀ W, RST L fr mr msx ms ms1 T W (tb W) ub) (l1 : lesM ms1 ml = true := by rfl) (l2 : lesM ((msx.set j .fz).set i .junk) ml = true := by rfl) (l3 : lesM ((msx.set j' .fz).set i' .junk) ml = true := by rfl)
    (hi : (decide (i < msx.length)) = true := by rfl) (hi' : (decide (i' < msx.length)) = true := by rfl) :
    RS L fr mr ms ml T (fun D σ H => tb (wAsT K c i (fun _ _ _ => tAsg (tVar i) (gName j)) (wAsT K c' i' (fun _ _ _ => tAsg (tVar i') (gName j')) (fun _ _ _ _ => False) D) D) D σ H)
      (fun nx rt env => ub nx rt (fun C o env' => ∃ fs, o = some fs ∧ ((PySem.W.exmOne K (.ref C) c = some true ∧ nx (env'.set j (xdU C fs))) ∨ (PySem.W.exmOne K (.ref C) c = some false ∧ PySem.W.exmOne K (.ref C) c' = some true ∧ nx (env'.set j' (xdU C fs))))) env) := fun F B env σ G H S nx rt D hu kn kr => by
  refine hb _ F B env σ G H S nx rt _ D hu (fun env' σ' G' H' hn S' => kn env' σ' G' H' hn (S'.weak l1)) kr (fun C o env' σ' G' H' d hx S' xo hn => ?_)
  obtain ⟨fs, rfl, hx⟩ := hx
  obtain ⟨dd, vs, rfl, h0, g, h, rf⟩ := xo
  rcases hx with ⟨hm, hq⟩ | ⟨hm, hm', hq⟩
  · refine ⟨true, hm, fun _ a ha => ?_, fun z => by cases z⟩
    refine ⟨.ref a, by rw [List.getElem?_set_self (by rw [S'.l1]; exact of_decide_eq_true hi)], ?_⟩
    obtain ⟨G2, S2⟩ := caught (C := C) S' ha h0 g h rf (hn dd rfl) hij l2
    exact kn _ _ G2 _ hq S2
  · refine ⟨false, hm, (fun z => by cases z), fun _ => ⟨true, hm', fun _ a ha => ?_, fun z => by cases z⟩⟩
    refine ⟨.ref a, by rw [List.getElem?_set_self (by rw [S'.l1]; exact of_decide_eq_true hi')], ?_⟩
    obtain ⟨G2, S2⟩ := caught (C := C) S' ha h0 g h rf (hn dd rfl) hij' l3
    exact kn _ _ G2 _ hq S2
end
/-! ### a, b = .., .. by a tuple, the second one new and the slot's own -/
section
variable {L fr : Bool} {mr ms : List Md} {Ta Tb : Nat} {ta tb : TE} {ua ub : UE} {K : PySem.W.Frag}
theorem asgFN_core (i j : Nat) (hij : i ≠ j) (ha : RE L ms Ta ta ua) (hb : RN L ms Tb tb ub) {F : Fr} {B : Nat} {env : List U} {σ : L2.St} {G H : Hp} (S : Sta F L (Ta + Tb + B) ms env σ G H) {nx : List U → Prop} {D : Ends} (hu : ua env fun x => ub env fun y => nx ((env.set i x).set j y))
    (kn : ∀ env' σ' G' H', nx env' → Sta F L B ((ms.set i .fz).set j .own) env' σ' G' H' → D.nx σ' H') {g : TG} (hg : ∀ (p : Addr) (v w : V) (σ : L2.St) (H : Hp), H p = some (.tup [v, w]) → D.nx ((σ.set i (some v)).set j (some w)) H → g (.ref p) σ H D.nx) : tAsg (tTup (tCons ta (tCons tb tNil))) g D σ H :=
  ha F (Tb + B) env σ G H (S.le (by omega)) _ _ hu fun u v G1 H1 hq x1 S1 r1 => hb F B env σ G1 H1 S1 _ _ hq fun w a o G2 H2 hq2 x2 S2 hn gn ho r2 => by
    refine ⟨szL (by simp), fun p hp => ?_⟩
    have x3 : Xt No F.lk G2 H2 G2 (upd H2 p (.tup [v, .ref a])) := Xt.hid S2.sm hp
    have S3 := S2.go x3
    refine hg p v (.ref a) σ _ upd_same (kn _ _ G2 _ hq2 ((S3.fz (i := i) (r1.mono x2.g)).own gn (x3.h _ _ (fun z => z) ho) r2 (S1.ex.f _ hn) (fun k hk => ?_)))
    by_cases e : i = k
    · subst e
      have hi : i < ms.length := by have := (List.getElem?_eq_some_iff.mp hk).1; simpa using this
      rw [List.getElem?_set_self hi] at hk; cases hk
    · rw [List.getElem?_set_ne e] at hk ⊢
      exact S1.new_ne hn k hk
theorem s_asgFN (i j : Nat) (hij : i ≠ j) (ha : RE L ms Ta ta ua) (hb : RN L ms Tb tb ub) : RS L fr mr ms ((ms.set i .fz).set j .own) (Ta + Tb) (tAsg (tTup (tCons ta (tCons tb tNil))) (gTup K 2 (gCons (gName i) (gCons (gName j) gNil)))) (fun nx rt env => ua env fun x => ub env fun y => nx ((env.set i x).set j y)) := fun F B env σ G H S nx rt D hu kn kr =>
  asgFN_core i j hij ha hb S hu kn fun p v w σ H h q => ⟨p, _, rfl, SqT.of h, rfl, _, _, rfl, _, _, rfl, rfl, q⟩
theorem s_asgFNq (i j : Nat) (hij : i ≠ j) (ha : RE L ms Ta ta ua) (hb : RN L ms Tb tb ub) : RS L fr mr ms ((ms.set i .fz).set j .own) (Ta + Tb) (tAsg (tTup (tCons ta (tCons tb tNil))) (gSq K 2 (gCons (gName i) (gCons (gName j) gNil)))) (fun nx rt env => ua env fun x => ub env fun y => nx ((env.set i x).set j y)) := fun F B env σ G H S nx rt D hu kn kr =>
  asgFN_core i j hij ha hb S hu kn fun p v w σ H h q => .inl ⟨p, _, rfl, SqT.of h, rfl, _, _, rfl, _, _, rfl, rfl, q⟩
end
/-! ### one kind's keys -/
theorem ok_one {k : Str} {i : Int} (h : 0 < i) : Ok [(k, i)] := ⟨by simp, fun x hx => by rw [List.mem_singleton.mp hx]; exact h⟩
theorem mk_one {k : Str} {i : Int} (h : 0 < i) : mkLot [(k, i)] = [(k, i)] := mk_self (ok_one h)
theorem eqv_str (x y : Str) : PyData.eqv (.str x) (.str y) = decide (x = y) := by
  refine bool_iff ?_
  simp [PyData.eqv]
theorem eqv_int (x y : Int) : PyData.eqv (.int x) (.int y) = decide (x = y) := by
  refine bool_iff ?_
  simp [PyData.eqv]
theorem lt_one (k j : Str) (a b : Int) : ltD (toD (keyU' k [(j, a)])) (toD (keyU' k [(j, b)])) = decide (a < b) := by
  rw [toD_key, toD_key]
  simp only [ltD, ltA, List.map_cons, List.map_nil, encP, eqv_str]
  simp only [PyData.eqv, PyData.eqvAll, ltD, ltA, eqv_str, eqv_int]
  by_cases h : a = b
  · subst h; simp
  · simp [h]
theorem le_one (k j : Str) (a b : Int) : leD (toD (keyU' k [(j, a)])) (toD (keyU' k [(j, b)])) = decide (a ≤ b) := by
  rw [toD_key, toD_key]
  simp only [leD, leA, List.map_cons, List.map_nil, encP, eqv_str]
  simp only [PyData.eqv, PyData.eqvAll, leD, leA, eqv_str, eqv_int]
  by_cases h : a = b
  · subst h; simp
  · simp [h]
/-! ### is None, of objects too -/
def NonN (x : U) : Prop := ∀ G v, Rep G v x → v ≠ .non
def IsNX (x : U) (b : Bool) : Prop := Va.isN x = some b ∨ (b = false ∧ NonN x)
theorem nonN_xd {C : Addr} {fs : List (Str × U)} : NonN (xdU C fs) := fun G v h => by obtain ⟨a, dd, vs, rfl, _⟩ := of_xdU h; simp
theorem nonN_x0 {C : Addr} : NonN (x0U C) := fun G v h => by obtain ⟨a, rfl, _⟩ := of_x0U h; simp
theorem nonN_lot {C : Addr} {m : Pr} : NonN (lotU C m) := fun G v h => by obtain ⟨a, rfl, _⟩ := of_lotU h; simp
theorem isNX_of {L : Bool} {F : Fr} {G H : Hp} {x : V} {u : U} {b : Bool} (h : Vw F G H x u) (e : IsNX u b) : decide (x = .non) = b := by
  rcases e with e | ⟨rfl, e⟩
  · exact h.isN e
  · rcases h with h | ⟨a, o, rfl, ho, r, _⟩
    · exact decide_eq_false (e _ _ h)
    · rfl
theorem ro_isNX {L : Bool} : RO L (fun x y H Q => y = .non ∧ Q (.bl (decide (x = .non))) H) (fun x y q => y = .non ∧ ∃ b, IsNX x b ∧ q (.bl b)) := by
  intro F G H x y u w s _ r1 r2 q Q hu k
  obtain ⟨rfl, b, e, hq⟩ := hu
  refine ⟨r2.non, ?_⟩
  rw [isNX_of (L := L) r1 e]
  exact k _ _ G H hq (Xt.refl s) (.bl _)
theorem ro_notNX {L : Bool} : RO L (fun x y H Q => y = .non ∧ Q (.bl (!decide (x = .non))) H) (fun x y q => y = .non ∧ ∃ b, IsNX x b ∧ q (.bl (!b))) := by
  intro F G H x y u w s _ r1 r2 q Q hu k
  obtain ⟨rfl, b, e, hq⟩ := hu
  refine ⟨r2.non, ?_⟩
  rw [isNX_of (L := L) r1 e]
  exact k _ _ G H hq (Xt.refl s) (.bl _)
theorem empty_app (x : Str) : Str.empty ++ x = x := by
  apply str_ext
  show (Str.empty.cps ++ x.cps).toList = _
  rw [Array.toList_append]; rfl
theorem wordP_eq (p : Str × Int) : wordP p = (Str.ofString (toString p.2) ++ Str.ofString " ") ++ p.1 := by rw [wordP, empty_app]
/-! ### x in a list of texts -/
theorem fl_strs (ks : List Str) : (ks.map U.str).filterMap fl = ks.map V.str := by
  induction ks with
  | nil => rfl
  | cons k r ih => rw [List.map_cons, List.filterMap_cons]; simp only [fl]; rw [ih]; rfl
theorem flat_strs (ks : List Str) : ((ks.map U.str).all fun u => (fl u).isSome) = true := by
  rw [List.all_eq_true]
  intro x hx
  obtain ⟨k, _, rfl⟩ := List.mem_map.mp hx
  rfl
theorem in_strs (k : Str) (ks : List Str) : inV (.str k) (ks.map V.str) = decide (k ∈ ks) := by
  refine bool_iff ?_
  rw [inV, List.any_eq_true, decide_eq_true_iff]
  constructor
  · rintro ⟨x, hx, e⟩
    obtain ⟨j, hj, rfl⟩ := List.mem_map.mp hx
    have : j = k := by simpa [eqV] using e
    exact this ▸ hj
  · intro h
    exact ⟨_, List.mem_map_of_mem h, by simp [eqV]⟩
end Va
namespace Kt
open PySem L2
theorem met_eqO {X : Cx} {n : Nat} {C f D f' : Addr} {fd fd' : FuncData} {qual qual' : Str} {st st' : Stmt} {N ps N' ps' : List Str} {c c' : Expr} {p1 p2 p3 p1' p2' p3' : Pos} {rest rest' : List Stmt} {tc tc' : TT} (hr : Room (n + 1) X.A) (hm : X.mg "NotImplemented" = none) (hv : bootBuiltins "NotImplemented" = some .notImplemented) (df : C ≠ D) (sb : PySem.W.subIn X.K (.ref D) (.ref C) = some false)
    (h : MetF X.K C "__eq__" qual st ps f fd) (S : FnScope N ps (defScope st)) (hps : ps.length = 2)
    (hbd : defBody st = .If c [.Return (some (.Name "NotImplemented" p1)) p2] [] p3 :: rest)
    (hg : (defScope st).names.lookup ("NotImplemented" : Str) = some .globalImplicit)
    (hc : ∀ (cdv : Value) (A : Around) (outer : List Env) (s : Shared) (H : Hp), Room n (A.deeper (PyProof.Rows.envOfC qual (defScope st) s.heap.objs.size f cdv)) → PT (cxOf CX0 X.prog X.w X.K X.mg X.base N qual (defScope st) f cdv A outer s H fun _ _ _ => False).nox c tc)
    (h' : MetF X.K D "__eq__" qual' st' ps' f' fd') (S' : FnScope N' ps' (defScope st')) (hps' : ps'.length = 2)
    (hbd' : defBody st' = .If c' [.Return (some (.Name "NotImplemented" p1')) p2'] [] p3' :: rest')
    (hg' : (defScope st').names.lookup ("NotImplemented" : Str) = some .globalImplicit)
    (hc' : ∀ (cdv : Value) (A : Around) (outer : List Env) (s : Shared) (H : Hp), Room n (A.deeper (PyProof.Rows.envOfC qual' (defScope st') s.heap.objs.size f' cdv)) → PT (cxOf CX0 X.prog X.w X.K X.mg X.base N' qual' (defScope st') f' cdv A outer s H fun _ _ _ => False).nox c' tc') :
    OpR X (compareOp .Eq) (OO.rEqO C D N N' tc tc') :=
  OO.op_eqO hr df h.own h'.own sb (fun {pins s σ H} I {a b} htc => met_ni h S hps hbd hr hg hm hv hc I htc) (fun {pins s σ H} I {a b} htc => met_ni h' S' hps' hbd' hr hg' hm hv hc' I htc)
end Kt

namespace LW
open PySem L2 Kt LM DO Va
def top (i : Nat) : Stmt := PySem.Challenge.pw_onceopened_k50_openings_one_by_one.main.body.getD i (.Pass ⟨0, 0, 0, 0⟩)
abbrev s_cells : Stmt := top 23
abbrev N_cells : List Str := ["_law_script", "_law_most_so", "_law_cells_here", "_law_k", "_law_cell", "_law_at_so"]
theorem sc_cells : FnScope N_cells ["_law_script", "_law_most_so"] (defScope s_cells) := ⟨rfl, rfl, rfl, by decide +kernel, rfl, by decide +kernel, by decide +kernel⟩
abbrev s_take : Stmt := top 22
abbrev N_take : List Str := ["_law_box_here", "_law_below", "_law_drawn", "_law_once", "_law_far", "_law_twice"]
theorem sc_take : FnScope N_take ["_law_box_here", "_law_below"] (defScope s_take) := ⟨rfl, rfl, rfl, by decide +kernel, rfl, by decide +kernel, by decide +kernel⟩
abbrev s_of : Stmt := top 24
abbrev N_of : List Str := ["_law_box_here", "_law_some"]
theorem sc_of : FnScope N_of ["_law_box_here", "_law_some"] (defScope s_of) := ⟨rfl, rfl, rfl, by decide +kernel, rfl, by decide +kernel, by decide +kernel⟩
abbrev s_names : Stmt := top 28
abbrev N_names : List Str := ["_law_box_here", "_law_some", "_law_letters", "_law_base", "_law_k", "_law_far", "_law_place", "_law_near", "_law_first_so", "_law_step", "_law_done", "_law_size_so", "_law_word", "_law_turn", "_law_at_so", "_law_sign_so"]
theorem sc_names : FnScope N_names ["_law_box_here", "_law_some"] (defScope s_names) := ⟨rfl, rfl, rfl, by decide +kernel, rfl, by decide +kernel, by decide +kernel⟩
abbrev s_Lot_len : Stmt := inClass (top 14) 2
abbrev N_Lot_len : List Str := ["self"]
theorem sc_Lot_len : FnScope N_Lot_len ["self"] (defScope s_Lot_len) := ⟨rfl, rfl, rfl, by decide +kernel, rfl, by decide +kernel, by decide +kernel⟩
abbrev s_Hollow_init : Stmt := inClass (top 3) 0
abbrev N_Hollow_init : List Str := ["self", "kind", "__class__"]
theorem sc_Hollow_init : NdefX.NScope N_Hollow_init ["self", "kind"] ["__class__"] (defScope s_Hollow_init) := NdefX.nscope_by (by decide +kernel)
abbrev s_Lot_contains : Stmt := inClass (top 14) 4
abbrev N_Lot_contains : List Str := ["self", "kind"]
theorem sc_Lot_contains : FnScope N_Lot_contains ["self", "kind"] (defScope s_Lot_contains) := ⟨rfl, rfl, rfl, by decide +kernel, rfl, by decide +kernel, by decide +kernel⟩
abbrev s_Ringed_init : Stmt := inClass (top 4) 0
abbrev N_Ringed_init : List Str := ["self", "ring", "__class__"]
theorem sc_Ringed_init : NdefX.NScope N_Ringed_init ["self", "ring"] ["__class__"] (defScope s_Ringed_init) := NdefX.nscope_by (by decide +kernel)
abbrev s_Lot_pairs : Stmt := inClass (top 14) 20
abbrev N_Lot_pairs : List Str := ["self", "kind"]
theorem sc_Lot_pairs : FnScope N_Lot_pairs ["self"] (defScope s_Lot_pairs) := ⟨rfl, rfl, rfl, by decide +kernel, rfl, by decide +kernel, by decide +kernel⟩
abbrev s_Opening_init : Stmt := inClass (top 19) 0
abbrev N_Opening_init : List Str := ["self", "kind", "contents"]
theorem sc_Opening_init : FnScope N_Opening_init ["self", "kind", "contents"] (defScope s_Opening_init) := ⟨rfl, rfl, rfl, by decide +kernel, rfl, by decide +kernel, by decide +kernel⟩
abbrev s_Lot_init : Stmt := inClass (top 14) 0
abbrev N_Lot_init : List Str := ["self", "pairs", "found", "kind", "many"]
theorem sc_Lot_init : FnScope N_Lot_init ["self", "pairs"] (defScope s_Lot_init) := ⟨rfl, rfl, rfl, by decide +kernel, rfl, by decide +kernel, by decide +kernel⟩
abbrev s_Opening_le : Stmt := inClass (top 19) 8
abbrev N_Opening_le : List Str := ["self", "other"]
theorem sc_Opening_le : FnScope N_Opening_le ["self", "other"] (defScope s_Opening_le) := ⟨rfl, rfl, rfl, by decide +kernel, rfl, by decide +kernel, by decide +kernel⟩
abbrev s_Opening_lt : Stmt := inClass (top 19) 7
abbrev N_Opening_lt : List Str := ["self", "other"]
theorem sc_Opening_lt : FnScope N_Opening_lt ["self", "other"] (defScope s_Opening_lt) := ⟨rfl, rfl, rfl, by decide +kernel, rfl, by decide +kernel, by decide +kernel⟩
abbrev s_Opening_eq : Stmt := inClass (top 19) 6
abbrev N_Opening_eq : List Str := ["self", "other"]
theorem sc_Opening_eq : FnScope N_Opening_eq ["self", "other"] (defScope s_Opening_eq) := ⟨rfl, rfl, rfl, by decide +kernel, rfl, by decide +kernel, by decide +kernel⟩
abbrev s_same : Stmt := top 25
abbrev N_same : List Str := ["_law_got", "_law_due_here", "_law_mine", "_law_its", "_law_own"]
theorem sc_same : FnScope N_same ["_law_got", "_law_due_here"] (defScope s_same) := ⟨rfl, rfl, rfl, by decide +kernel, rfl, by decide +kernel, by decide +kernel⟩
abbrev s_one : Stmt := top 31
abbrev N_one : List Str := ["_law_kind_so", "_law_lot_so", "_law_near", "_law_made", "_law_hollow_so", "_law_ringed_so", "error_a", "error_b", "_law_told"]
theorem sc_one : FnScope N_one ["_law_kind_so", "_law_lot_so", "_law_near"] (defScope s_one) := ⟨rfl, rfl, rfl, by decide +kernel, rfl, by decide +kernel, by decide +kernel⟩
abbrev s_rising : Stmt := top 26
abbrev N_rising : List Str := ["_law_rows_so", "_law_done", "_law_row", "_law_at_so", "_law_own"]
theorem sc_rising : FnScope N_rising ["_law_rows_so"] (defScope s_rising) := ⟨rfl, rfl, rfl, by decide +kernel, rfl, by decide +kernel, by decide +kernel⟩
abbrev s_pairs : Stmt := top 29
abbrev N_pairs : List Str := ["_law_numbers_so", "_law_done", "_law_own"]
theorem sc_pairs : FnScope N_pairs ["_law_numbers_so"] (defScope s_pairs) := ⟨rfl, rfl, rfl, by decide +kernel, rfl, by decide +kernel, by decide +kernel⟩
abbrev s_counted : Stmt := top 30
abbrev N_counted : List Str := ["_law_pairs_so", "_law_done", "_law_own", "_law_far"]
theorem sc_counted : FnScope N_counted ["_law_pairs_so"] (defScope s_counted) := ⟨rfl, rfl, rfl, by decide +kernel, rfl, by decide +kernel, by decide +kernel⟩
abbrev s_mixed : Stmt := top 27
abbrev N_mixed : List Str := ["_law_box_here", "_law_rows_so", "_law_rest", "_law_done", "_law_turn", "_law_at_so"]
theorem sc_mixed : FnScope N_mixed ["_law_box_here", "_law_rows_so"] (defScope s_mixed) := ⟨rfl, rfl, rfl, by decide +kernel, rfl, by decide +kernel, by decide +kernel⟩
abbrev s_due : Stmt := top 32
abbrev N_due : List Str := ["_law_kind_so", "_law_inner", "_law_own", "_law_far"]
theorem sc_due : FnScope N_due ["_law_kind_so", "_law_inner"] (defScope s_due) := ⟨rfl, rfl, rfl, by decide +kernel, rfl, by decide +kernel, by decide +kernel⟩
abbrev s_Lot_setitem : Stmt := inClass (top 14) 6
abbrev N_Lot_setitem : List Str := ["self", "kind", "many", "kept", "name"]
theorem sc_Lot_setitem : FnScope N_Lot_setitem ["self", "kind", "many"] (defScope s_Lot_setitem) := ⟨rfl, rfl, rfl, by decide +kernel, rfl, by decide +kernel, by decide +kernel⟩
abbrev s_Lot_add : Stmt := inClass (top 14) 8
abbrev N_Lot_add : List Str := ["self", "other"]
theorem sc_Lot_add : FnScope N_Lot_add ["self", "other"] (defScope s_Lot_add) := ⟨rfl, rfl, rfl, by decide +kernel, rfl, by decide +kernel, by decide +kernel⟩
abbrev s_Lot_iadd : Stmt := inClass (top 14) 16
abbrev N_Lot_iadd : List Str := ["self", "other"]
theorem sc_Lot_iadd : FnScope N_Lot_iadd ["self", "other"] (defScope s_Lot_iadd) := ⟨rfl, rfl, rfl, by decide +kernel, rfl, by decide +kernel, by decide +kernel⟩
abbrev s_Opening_contents : Stmt := inClass (top 19) 1
abbrev N_Opening_contents : List Str := ["self"]
theorem sc_Opening_contents : FnScope N_Opening_contents ["self"] (defScope s_Opening_contents) := ⟨rfl, rfl, rfl, by decide +kernel, rfl, by decide +kernel, by decide +kernel⟩
abbrev s_Lot_eq : Stmt := inClass (top 14) 7
abbrev N_Lot_eq : List Str := ["self", "other"]
theorem sc_Lot_eq : FnScope N_Lot_eq ["self", "other"] (defScope s_Lot_eq) := ⟨rfl, rfl, rfl, by decide +kernel, rfl, by decide +kernel, by decide +kernel⟩
abbrev s_Lot_text : Stmt := inClass (top 14) 21
abbrev N_Lot_text : List Str := ["self", "kind", "many"]
theorem sc_Lot_text : FnScope N_Lot_text ["self"] (defScope s_Lot_text) := ⟨rfl, rfl, rfl, by decide +kernel, rfl, by decide +kernel, by decide +kernel⟩
abbrev s_Opening_text : Stmt := inClass (top 19) 5
abbrev N_Opening_text : List Str := ["self"]
theorem sc_Opening_text : FnScope N_Opening_text ["self"] (defScope s_Opening_text) := ⟨rfl, rfl, rfl, by decide +kernel, rfl, by decide +kernel, by decide +kernel⟩
abbrev s_shown : Stmt := top 33
abbrev N_shown : List Str := ["_law_made", "_law_kind_so", "_law_inner", "_law_lot_so", "_law_words", "_law_own", "_law_far", "_law_got", "_law_near"]
theorem sc_shown : FnScope N_shown ["_law_made", "_law_kind_so", "_law_inner"] (defScope s_shown) := ⟨rfl, rfl, rfl, by decide +kernel, rfl, by decide +kernel, by decide +kernel⟩
abbrev s_Opening_ge : Stmt := inClass (top 19) 10
abbrev N_Opening_ge : List Str := ["self", "other"]
theorem sc_Opening_ge : FnScope N_Opening_ge ["self", "other"] (defScope s_Opening_ge) := ⟨rfl, rfl, rfl, by decide +kernel, rfl, by decide +kernel, by decide +kernel⟩
abbrev s_Opening_gt : Stmt := inClass (top 19) 9
abbrev N_Opening_gt : List Str := ["self", "other"]
theorem sc_Opening_gt : FnScope N_Opening_gt ["self", "other"] (defScope s_Opening_gt) := ⟨rfl, rfl, rfl, by decide +kernel, rfl, by decide +kernel, by decide +kernel⟩
abbrev s_right : Stmt := top 34
abbrev N_right : List Str := ["_law_box_here", "_law_names_here", "_law_done", "_law_near", "_law_far", "_law_got", "_law_made", "_law_told", "_law_turn", "_law_kind_so", "_law_own_so", "_law_some", "_law_own", "_law_inner", "_law_row", "_law_lot_so", "_law_first_so", "_law_last_so", "_law_one_so", "_law_two_so"]
theorem sc_right : FnScope N_right ["_law_box_here"] (defScope s_right) := ⟨rfl, rfl, rfl, by decide +kernel, rfl, by decide +kernel, by decide +kernel⟩
abbrev s_box : Stmt := top 21
abbrev N_box : List Str := ["_law_script", "_law_k", "_law_cell"]
theorem sc_box : FnScope N_box ["_law_script", "_law_k"] (defScope s_box) := ⟨rfl, rfl, rfl, by decide +kernel, rfl, by decide +kernel, by decide +kernel⟩
abbrev s_law : Stmt := top 35
abbrev N_law : List Str := ["_law_script", "_law_cells_here", "_law_k"]
theorem sc_law : FnScope N_law ["_law_script"] (defScope s_law) := ⟨rfl, rfl, rfl, by decide +kernel, rfl, by decide +kernel, by decide +kernel⟩
abbrev P : Program := PySem.Challenge.pw_onceopened_k50_openings_one_by_one
theorem P_top : (P.main.scope.names.lookup ("super" : Str)).isSome = false := by decide +kernel
structure Ads where
  Hollow : Addr
  Lot : Addr
  Opening : Addr
  Ringed : Addr
  cells : Addr
  cells' : FuncData
  take : Addr
  take' : FuncData
  of : Addr
  of' : FuncData
  names : Addr
  names' : FuncData
  Lot_len : Addr
  Lot_len' : FuncData
  Hollow_init : Addr
  Hollow_init' : FuncData
  Lot_contains : Addr
  Lot_contains' : FuncData
  Ringed_init : Addr
  Ringed_init' : FuncData
  Lot_pairs : Addr
  Lot_pairs' : FuncData
  Opening_init : Addr
  Opening_init' : FuncData
  Lot_init : Addr
  Lot_init' : FuncData
  Opening_le : Addr
  Opening_le' : FuncData
  Opening_lt : Addr
  Opening_lt' : FuncData
  Opening_eq : Addr
  Opening_eq' : FuncData
  same : Addr
  same' : FuncData
  one : Addr
  one' : FuncData
  rising : Addr
  rising' : FuncData
  pairs : Addr
  pairs' : FuncData
  counted : Addr
  counted' : FuncData
  mixed : Addr
  mixed' : FuncData
  due : Addr
  due' : FuncData
  Lot_setitem : Addr
  Lot_setitem' : FuncData
  Lot_add : Addr
  Lot_add' : FuncData
  Lot_iadd : Addr
  Lot_iadd' : FuncData
  Opening_contents : Addr
  Opening_contents' : FuncData
  Opening_contents_p : Addr
  Lot_eq : Addr
  Lot_eq' : FuncData
  Lot_text : Addr
  Lot_text' : FuncData
  Opening_text : Addr
  Opening_text' : FuncData
  shown : Addr
  shown' : FuncData
  Opening_ge : Addr
  Opening_ge' : FuncData
  Opening_gt : Addr
  Opening_gt' : FuncData
  right : Addr
  right' : FuncData
  box : Addr
  box' : FuncData
  law : Addr
  law' : FuncData
structure Txt (K : PySem.W.Frag) (mg : Str → Option Value) (A : Ads) : Prop where
  b_NotImplemented : mg "NotImplemented" = none
  b_ValueError : mg "ValueError" = none
  b_abs : mg "abs" = none
  b_all : mg "all" = none
  b_bool : mg "bool" = none
  b_dict : mg "dict" = none
  b_enumerate : mg "enumerate" = none
  b_int : mg "int" = none
  b_isinstance : mg "isinstance" = none
  b_len : mg "len" = none
  b_list : mg "list" = none
  b_range : mg "range" = none
  b_sorted : mg "sorted" = none
  b_str : mg "str" = none
  b_super : mg "super" = none
  b_tuple : mg "tuple" = none
  b_zip : mg "zip" = none
  g_EQUALS : ∃ t, mg "EQUALS" = some (.str " = " t)
  g_NONE : ∃ t, mg "NONE" = some (.str "-" t)
  Hollow : ExdF K mg "Hollow" A.Hollow
  Lot : ClsF K mg "Lot" A.Lot
  Opening : ClsF K mg "Opening" A.Opening
  Ringed : ExdF K mg "Ringed" A.Ringed
  is_Hollow_Ringed_false : PySem.W.kitOne K (.ref A.Hollow) (.ref A.Ringed) = some false
  is_Hollow_ValueError_true : PySem.W.kitOne K (.ref A.Hollow) (.type "ValueError") = some true
  is_Lot_Opening_false : PySem.W.kitOne K (.ref A.Lot) (.ref A.Opening) = some false
  is_Opening_Lot_false : PySem.W.kitOne K (.ref A.Opening) (.ref A.Lot) = some false
  is_Ringed_Hollow_false : PySem.W.kitOne K (.ref A.Ringed) (.ref A.Hollow) = some false
  is_Ringed_ValueError_true : PySem.W.kitOne K (.ref A.Ringed) (.type "ValueError") = some true
  no_Hollow_kind : NoAttr K A.Hollow "kind"
  no_Lot_own_many : NoAttr K A.Lot "own_many"
  no_Opening_kind : NoAttr K A.Opening "kind"
  no_Opening_own_key : NoAttr K A.Opening "own_key"
  no_Ringed_ring : NoAttr K A.Ringed "ring"
  ty_Lot : TyC K A.Lot
  ty_Opening : TyC K A.Opening
  nt_Opening : NoTup K A.Opening
  nstr_Opening : PySem.W.subIn K (.type "str") (.ref A.Opening) = some false
  kstr_Opening : PySem.W.kitOne K (.type "str") (.ref A.Opening) = some false
  sub_Lot_Opening : PySem.W.subIn K (.ref A.Lot) (.ref A.Opening) = some false
  df_Opening_Lot : A.Opening ≠ A.Lot
  ex_Ringed_Hollow_false : PySem.W.exmOne K (.ref A.Ringed) (.ref A.Hollow) = some false
  cells : DefF K mg "_law_cells" s_cells ["_law_script", "_law_most_so"] A.cells A.cells'
  take : DefF K mg "_law_take" s_take ["_law_box_here", "_law_below"] A.take A.take'
  of : DefF K mg "_law_of" s_of ["_law_box_here", "_law_some"] A.of A.of'
  names : DefF K mg "_law_names" s_names ["_law_box_here", "_law_some"] A.names A.names'
  Lot_len : MetF K A.Lot "__len__" "Lot.__len__" s_Lot_len ["self"] A.Lot_len A.Lot_len'
  Hollow_init : ExiF P K mg "Hollow.__init__" s_Hollow_init ["self", "kind"] A.Hollow A.Hollow_init A.Hollow_init'
  Lot_contains : MetF K A.Lot "__contains__" "Lot.__contains__" s_Lot_contains ["self", "kind"] A.Lot_contains A.Lot_contains'
  Ringed_init : ExiF P K mg "Ringed.__init__" s_Ringed_init ["self", "ring"] A.Ringed A.Ringed_init A.Ringed_init'
  Lot_pairs : MetF K A.Lot "pairs" "Lot.pairs" s_Lot_pairs ["self"] A.Lot_pairs A.Lot_pairs'
  Opening_init : MetF K A.Opening "__init__" "Opening.__init__" s_Opening_init ["self", "kind", "contents"] A.Opening_init A.Opening_init'
  Lot_init : MetF K A.Lot "__init__" "Lot.__init__" s_Lot_init ["self", "pairs"] A.Lot_init A.Lot_init'
  Opening_le : MetF K A.Opening "__le__" "Opening.__le__" s_Opening_le ["self", "other"] A.Opening_le A.Opening_le'
  Opening_lt : MetF K A.Opening "__lt__" "Opening.__lt__" s_Opening_lt ["self", "other"] A.Opening_lt A.Opening_lt'
  Opening_eq : MetF K A.Opening "__eq__" "Opening.__eq__" s_Opening_eq ["self", "other"] A.Opening_eq A.Opening_eq'
  same : DefF K mg "_law_same" s_same ["_law_got", "_law_due_here"] A.same A.same'
  one : DefF K mg "_law_one" s_one ["_law_kind_so", "_law_lot_so", "_law_near"] A.one A.one'
  rising : DefF K mg "_law_rising" s_rising ["_law_rows_so"] A.rising A.rising'
  pairs : DefF K mg "_law_pairs" s_pairs ["_law_numbers_so"] A.pairs A.pairs'
  counted : DefF K mg "_law_counted" s_counted ["_law_pairs_so"] A.counted A.counted'
  mixed : DefF K mg "_law_mixed" s_mixed ["_law_box_here", "_law_rows_so"] A.mixed A.mixed'
  due : DefF K mg "_law_due" s_due ["_law_kind_so", "_law_inner"] A.due A.due'
  Lot_setitem : MetF K A.Lot "__setitem__" "Lot.__setitem__" s_Lot_setitem ["self", "kind", "many"] A.Lot_setitem A.Lot_setitem'
  Lot_add : MetF K A.Lot "__add__" "Lot.__add__" s_Lot_add ["self", "other"] A.Lot_add A.Lot_add'
  Lot_iadd : MetF K A.Lot "__iadd__" "Lot.__iadd__" s_Lot_iadd ["self", "other"] A.Lot_iadd A.Lot_iadd'
  Opening_contents : PrpF K A.Opening "contents" "Opening.contents" s_Opening_contents ["self"] A.Opening_contents_p A.Opening_contents A.Opening_contents'
  Lot_eq : MetF K A.Lot "__eq__" "Lot.__eq__" s_Lot_eq ["self", "other"] A.Lot_eq A.Lot_eq'
  Lot_text : MetF K A.Lot "text" "Lot.text" s_Lot_text ["self"] A.Lot_text A.Lot_text'
  Opening_text : MetF K A.Opening "text" "Opening.text" s_Opening_text ["self"] A.Opening_text A.Opening_text'
  shown : DefF K mg "_law_shown" s_shown ["_law_made", "_law_kind_so", "_law_inner"] A.shown A.shown'
  Opening_ge : MetF K A.Opening "__ge__" "Opening.__ge__" s_Opening_ge ["self", "other"] A.Opening_ge A.Opening_ge'
  Opening_gt : MetF K A.Opening "__gt__" "Opening.__gt__" s_Opening_gt ["self", "other"] A.Opening_gt A.Opening_gt'
  right : DefF K mg "_law_right" s_right ["_law_box_here"] A.right A.right'
  box : DefF K mg "_law_box" s_box ["_law_script", "_law_k"] A.box A.box'
  law : DefF K mg "law" s_law ["_law_script"] A.law A.law'
  Opening_init_K_contents_kind : KBn K A.Opening_init' ["self", "kind", "contents"] 1 ["contents", "kind"] swp swp
end LW

namespace LW
open PySem L2 Kt LM DO Va
section
variable {w : World} {K : PySem.W.Frag} {mg : Str → Option Value} {base : Heap} {A : Ads}
theorem ok_cells (T : Txt K mg A) : FnOk P w K mg base CX0 1 A.cells A.cells' ["_law_script", "_law_most_so"] (spCells K) := by
  refine T.cells.F.ok sc_cells (fun vs H Q E h => ?_) (fun cdv Ar outer s H vs Q E hr h => ?_)
  · obtain ⟨a, ns, m, rfl, _⟩ := h
    rfl
  · obtain ⟨a, ns, m, rfl, ha, hn, hm, hm2, k⟩ := h
    refine ⟨_, pss_cons (ps_set (i := 2) sc_cells.nd rfl (Or.inl rfl) (pe_orTK K (pe_callTy (call_list_ofK K) (by rfl) T.b_list (by decide +kernel) (pa_cons (pe_slice (sl_listK K) (pv 0) po_none (po_some (pv 1))) pa_nil)) (pe_one (pe_lst (pa_cons (pe_int) pa_nil)))))
      (pss_cons (ps_for PassesOwn.never rfl (pi_enumK K rfl T.b_enumerate (pa_cons (pe_slice (sl_listK K) (pv 0) (po_some (pv 1)) (po_some (pe_int))) pa_nil)) (pg_tupK K 2 rfl (pgs_cons (pg_name (i := 3) sc_cells.nd rfl (Or.inl rfl)) (pgs_cons (pg_name (i := 4) sc_cells.nd rfl (Or.inl rfl)) pgs_nil)))
        (pss_cons (ps_set (i := 5) sc_cells.nd rfl (Or.inl rfl) (pe_op op_mod (pe_callTy call_int1 (by rfl) T.b_int (by decide +kernel) (pa_cons (pv 3) pa_nil)) (pv 1)))
      (pss_one (ps_asg (pe_op op_add (pe_ix (ix_listK K) (pv 2) (pv 5) (fun _ _ => rfl)) (pe_op op_mul (pv 4) (pe_op op_add (pv 3) (pe_int)))) (pg_sub (pv 2) (pv 5) set_list)))))
      (pss_one (ps_ret (pv 2)))), ?_⟩
    refine ⟨_, rfl, _, rfl, _, rfl, a, _, rfl, ha, fun q hq => ?_⟩
    generalize e1 : upd H q _ = H1
    obtain ⟨x1, _, h1⟩ := ex_hid (M := No) (Same.refl H) hq e1
    refine ⟨q, _, rfl, .inl (SqL.of h1), fun l hl => ?_⟩
    generalize e2 : upd H1 l _ = H2
    obtain ⟨x2, _, h2⟩ := ex_hid (M := No) (Same.refl H1) hl e2
    have lH : H l = none := x1.f _ hl
    rw [cut_to, ← List.map_take] at h2
    refine ⟨_, .inl ⟨_, SqL.of h2, rfl⟩, ?_⟩
    refine if2 (fun he => ?_) (fun he => ?_)
    · have s2 : Same H H2 := fun b o e => x2.s _ _ (x1.s _ _ e)
      refine ⟨_, rfl, _, rfl, _, rfl, _, rfl, a, _, rfl, s2.seq ha, fun q3 hq3 => ?_⟩
      generalize e3 : upd H2 q3 _ = H3
      obtain ⟨x3, _, h3⟩ := ex_hid (M := No) (Same.refl H2) hq3 e3
      have h3b := cut_mid (ns.map V.int) m 63 (by omega)
      have h3c : H3 q3 = some (.lst (((ns.drop m).take (63 - m)).map V.int)) := by
        rw [h3, List.map_take, List.map_drop]; exact congrArg (fun z => some (HO.lst z)) h3b
      have hl3 : H3 l = some (.lst ((ns.take m).map V.int)) := x3.same _ _ h2
      refine ⟨q3, _, rfl, SqL.of h3c, ?_⟩
      have nlq : q3 ≠ l := (ne_of_none h2 hq3).symm
      refine for_it (walk_enum (K := K) (a := q3) (xs := ((ns.drop m).take (63 - m)).map V.int))
        (fun i σ H' => Same H H' ∧ (∃ (cs : List Int) (v3 v4 v5 : Option V), σ = [some (.ref a), some (.int m), some (.ref l), v3, v4, v5] ∧ H' l = some (.lst (cs.map V.int)) ∧ cs.length = (ns.take m).length) ∧ H' q3 = some (.lst (((ns.drop m).take (63 - m)).map V.int)))
        ⟨s2.trans x3.s, ⟨_, none, none, none, rfl, hl3, rfl⟩, h3c⟩ (fun i σ H' _ h => SqL.of h.2.2) ?_ ?_
      · rintro i x σ Ha Hb hi ⟨sH, ⟨cs, v3, v4, v5, rfl, hlc, hlen⟩, hq3'⟩ ⟨t, y1, y2, rfl, ht, rfl, hy1, hy2⟩
        cases hy1
        obtain ⟨v, hv, rfl⟩ := map_at hy2
        generalize e4 : upd Ha t _ = Hc
        obtain ⟨x4, _, h4⟩ := ex_hid (M := No) (Same.refl Ha) ht e4
        rw [List.length_map] at hi
        have hb : i < 63 ∧ m ≤ ns.length := by
          rw [List.length_take, List.length_drop] at hi
          omega
        have hlm : cs.length = m := by rw [hlen, List.length_take]; omega
        refine ⟨t, _, rfl, SqT.of h4, rfl, _, _, rfl, _, _, rfl, rfl, ?_⟩
        refine ⟨_, rfl, .inl ⟨_, rfl, _, rfl, _, _, rfl, rfl, by show (0 : Int) < (m : Int); omega, ?_⟩⟩
        have hr0 := mod_in (i := (i : Int)) (m := (m : Int)) (by omega)
        obtain ⟨j, v0, ej, hat, hj, hjl⟩ := atI_ix (xs := cs.map V.int) (r := (i : Int) % (m : Int)) hr0.1 (by rw [List.length_map]; omega)
        obtain ⟨u0, _, rfl⟩ := map_at hj
        have hl4 : Hc l = some (.lst (cs.map V.int)) := x4.same _ _ hlc
        refine ⟨_, rfl, _, rfl, l, _, _, _, rfl, rfl, SqL.of hl4, hat, _, rfl, _, rfl, _, _, rfl, rfl, _, _, rfl, rfl, .inr ⟨by omega, by omega⟩, _, _, rfl, rfl, ?_⟩
        have hix : ixN (cs.map V.int).length ((i : Int) % (m : Int)) = some j := by
          unfold ixN
          rw [if_pos hr0.1, if_pos (by rw [List.length_map]; omega)]
          congr 1
          omega
        refine ⟨_, rfl, _, rfl, l, _, _, _, rfl, rfl, hl4, hix, ?_⟩
        have nl : H l = none := lH
        refine ⟨same_put (sH.trans x4.s) nl, ⟨cs.set j (u0 + v * ((i : Int) + 2)), _, _, _, rfl, ?_, by rw [List.length_set]; exact hlen⟩, ?_⟩
        · rw [upd_same, List.map_set]
        · rw [upd_ne nlq]; exact x4.same _ _ hq3'
      · rintro σ Ha ⟨sH, ⟨cs, v3, v4, v5, rfl, hlc, hlen⟩, _⟩
        refine ⟨_, rfl, ?_⟩
        exact k Ha l cs (ex_of_same sH) hlc (by rw [hlen, List.length_take]; omega)
    · refine ⟨sz rfl, fun l2 hl2 => ?_⟩
      generalize e5 : upd H2 l2 _ = H5
      obtain ⟨x5, _, h5⟩ := ex_hid (M := No) (Same.refl H2) hl2 e5
      have s5 : Same H H5 := fun b o e => x5.s _ _ (x2.s _ _ (x1.s _ _ e))
      have hz : ns.take m = [] := by
        cases e : ns.take m with
        | nil => rfl
        | cons y r => rw [e] at he; simp at he
      have hns : ns = [] := by
        cases ns with
        | nil => rfl
        | cons y r => cases m with
          | zero => omega
          | succ m => simp at hz
      subst hns
      refine ⟨_, rfl, _, rfl, _, rfl, _, rfl, a, _, rfl, s5.seq ha, fun q3 hq3 => ?_⟩
      generalize e3 : upd H5 q3 _ = H3
      obtain ⟨x3, _, h3⟩ := ex_hid (M := No) (Same.refl H5) hq3 e3
      have h3c : H3 q3 = some (.lst []) := by
        rw [h3]; simp [cutV]
      refine ⟨q3, _, rfl, SqL.of h3c, ?_⟩
      refine for_it (walk_enum (K := K) (a := q3) (xs := []))
        (fun i σ H' => H' = H3 ∧ σ = [some (.ref a), some (.int m), some (.ref l2), none, none, none])
        ⟨rfl, rfl⟩ (fun i σ H' _ h => by rw [h.1]; exact SqL.of h3c) ?_ ?_
      · rintro i x σ Ha Hb hi
        exact absurd hi (Nat.not_lt_zero _)
      · rintro σ Ha ⟨rfl, rfl⟩
        refine ⟨_, rfl, ?_⟩
        exact k Ha l2 [0] (ex_of_same (s5.trans x3.s)) (x3.same _ _ h5) (by simp)

end
end LW

namespace LW
open PySem L2 Kt LM DO Va
section
variable {w : World} {K : PySem.W.Frag} {mg : Str → Option Value} {base : Heap} {A : Ads}
theorem ok_take (T : Txt K mg A) : FnOk P w K mg base CX0 1 A.take A.take' ["_law_box_here", "_law_below"] spTake := by
  refine T.take.F.ok sc_take (fun vs H Q E h => ?_) (fun cdv Ar outer s H vs Q E hr h => ?_)
  · obtain ⟨G, p, m, c, rfl, _⟩ := h
    rfl
  · obtain ⟨G, p, m, c, rfl, S, hc1, hm, hm2, k⟩ := h
    obtain ⟨a, b, ha, hc, hp⟩ := S.b
    refine ⟨_, pss_cons (ps_if (pt_cmpR op_gt (pe_ix (ix_listK K) (pv 0) (pe_int) (fun _ _ => rfl)) (pe_int) (nomark _)) (pss_cons (ps_set (i := 2) sc_take.nd rfl (Or.inl rfl) (pe_op op_mod (pe_callTy call_int1 (by rfl) T.b_int (by decide +kernel) (pa_cons (pe_ix (ix_listK K) (pv 0) (pe_int) (fun _ _ => rfl)) pa_nil)) (pv 1)))
      (pss_cons (ps_asg (pe_op op_fdivW (pe_ix (ix_listK K) (pv 0) (pe_int) (fun _ _ => rfl)) (pv 1)) (pg_sub (pv 0) (pe_int) set_list))
      (pss_one (ps_ret (pv 2))))) (pss_nil))
      (pss_cons (ps_asg (pe_op op_add (pe_ix (ix_listK K) (pv 0) (pe_int) (fun _ _ => rfl)) (pe_int)) (pg_sub (pv 0) (pe_int) set_list))
      (pss_cons (ps_set (i := 3) sc_take.nd rfl (Or.inl rfl) (pe_op op_mod (pe_callTy call_int1 (by rfl) T.b_int (by decide +kernel) (pa_cons (pe_op op_mul (pe_op op_add (pe_ix (ix_listK K) (pv 0) (pe_int) (fun _ _ => rfl)) (pe_op op_mul (pe_int) (pe_ix (ix_listK K) (pv 0) (pe_int) (fun _ _ => rfl)))) (pe_op op_add (pe_int) (pe_ix (ix_listK K) (pv 0) (pe_int) (fun _ _ => rfl)))) pa_nil)) (pe_int)))
      (pss_cons (ps_set (i := 4) sc_take.nd rfl (Or.inl rfl) (pe_op op_add (pe_op op_mod (pe_callTy call_int1 (by rfl) T.b_int (by decide +kernel) (pa_cons (pv 3) pa_nil)) (pe_int)) (pe_int)))
      (pss_cons (ps_set (i := 5) sc_take.nd rfl (Or.inl rfl) (pe_op op_mod (pe_callTy call_int1 (by rfl) T.b_int (by decide +kernel) (pa_cons (pe_op op_mul (pe_op op_add (pe_op op_add (pv 3) (pe_ix (ix_listK K) (pv 0) (pe_int) (fun _ _ => rfl))) (pe_op op_fdivW (pe_ix (ix_listK K) (pv 0) (pe_int) (fun _ _ => rfl)) (pe_int))) (pv 4)) pa_nil)) (pe_int)))
      (pss_one (ps_ret (pe_op op_mod (pe_callTy call_int1 (by rfl) T.b_int (by decide +kernel) (pa_cons (pe_op op_fdivW (pe_op op_mod (pe_callTy call_int1 (by rfl) T.b_int (by decide +kernel) (pa_cons (pe_op op_add (pe_op op_mul (pv 5) (pe_int)) (pv 3)) pa_nil)) (pe_int)) (pe_int)) pa_nil)) (pv 1)))))))), ?_⟩
    refine ⟨_, rfl, p, _, _, _, rfl, rfl, SqL.of hp, rfl, _, _, rfl, rfl, _, rfl, ?_⟩
    refine ite2 (fun q => ?_) (fun q => ?_)
    · have ha0 : 0 < a := of_decide_eq_true q
      refine ⟨_, rfl, p, _, _, _, rfl, rfl, SqL.of hp, rfl, .inl ⟨_, rfl, _, rfl, _, _, rfl, rfl, hm, ?_⟩⟩
      refine ⟨_, rfl, p, _, _, _, rfl, rfl, SqL.of hp, rfl, _, rfl, _, _, rfl, rfl, div_ok hm hm2, ?_⟩
      refine ⟨_, rfl, p, _, _, _, rfl, rfl, hp, rfl, ?_⟩
      refine ⟨_, rfl, ?_⟩
      generalize e2 : upd H p _ = H2
      obtain ⟨x2, S2, _⟩ := sx_box S (Int.ediv_nonneg ha (Int.le_of_lt hm)) hc e2
      exact k _ _ c x2 S2 (by omega) (mod_in hm).1 (mod_in hm).2
    · refine ⟨_, rfl, p, _, _, _, rfl, rfl, SqL.of hp, rfl, _, _, rfl, rfl, ?_⟩
      refine ⟨_, rfl, p, _, _, _, rfl, rfl, hp, rfl, ?_⟩
      generalize e2 : upd H p _ = H2
      obtain ⟨x2, S2, hp2⟩ := sx_box (i := a) (j := b) (k := c + 1) S ha (by omega) e2
      refine ⟨_, rfl, p, _, _, _, rfl, rfl, SqL.of hp2, rfl, _, rfl, p, _, _, _, rfl, rfl, SqL.of hp2, rfl, _, _, rfl, rfl, .inl ⟨by decide, by decide⟩, _, _, rfl, rfl, ?_⟩
      refine ⟨_, rfl, p, _, _, _, rfl, rfl, SqL.of hp2, rfl, _, _, rfl, rfl, _, _, rfl, rfl, .inr ⟨by omega, by omega⟩, .inl ⟨_, rfl, _, _, rfl, rfl, p0 rfl, ?_⟩⟩
      refine ⟨_, rfl, .inl ⟨_, rfl, _, _, rfl, rfl, p0 rfl, _, _, rfl, rfl, ?_⟩⟩
      have z := mod_in (i := (b + 48271 * (c + 1)) * (39373 + (c + 1)) % 2147483647) (m := 40009) (by decide)
      refine ⟨_, rfl, _, rfl, p, _, _, _, rfl, rfl, SqL.of hp2, rfl, _, _, rfl, rfl, _, rfl, p, _, _, _, rfl, rfl, SqL.of hp2, rfl, _, _, rfl, rfl, div_ok (by decide) (by decide), _, _, rfl, rfl, ?_⟩
      refine ⟨_, rfl, _, _, rfl, rfl, .inr ⟨by omega, by omega⟩, .inl ⟨_, rfl, _, _, rfl, rfl, p0 rfl, ?_⟩⟩
      refine ⟨_, rfl, _, _, rfl, rfl, .inr ⟨by decide, by decide⟩, _, rfl, _, _, rfl, rfl, .inl ⟨_, rfl, _, _, rfl, rfl, p0 rfl, _, _, rfl, rfl, div_ok (by decide) (by decide), .inl ⟨_, rfl, _, rfl, _, _, rfl, rfl, hm, ?_⟩⟩⟩
      exact k _ _ _ x2 S2 (by omega) (mod_in hm).1 (mod_in hm).2

end
end LW

namespace LW
open PySem L2 Kt LM DO Va
section
variable {w : World} {K : PySem.W.Frag} {mg : Str → Option Value} {base : Heap} {A : Ads}
theorem ok_of (T : Txt K mg A) : FnOk P w K mg base CX0 3 A.of A.of' ["_law_box_here", "_law_some"] spOf := by
  refine T.of.F.ok sc_of (fun vs H Q E h => ?_) (fun cdv Ar outer s H vs Q E hr h => ?_)
  · obtain ⟨G, p, l, xs, c, rfl, _⟩ := h
    rfl
  · obtain ⟨G, p, l, xs, c, rfl, S, hc, hl, h0, h1, k⟩ := h
    refine ⟨_, pss_one (ps_ret (pe_ix (ix_listK K) (pv 1) (pe_call (ok_take T) (hr.mono (by decide)) rfl T.take.g T.take.F.kp T.take.b .nil pass0 (pa_cons (pv 0) (pa_cons (pe_callB (call_len_seqK K) (by rfl) T.b_len (by decide +kernel) (pa_cons (pv 1) pa_nil)) pa_nil))) (fun _ _ => rfl))), ?_⟩
    refine ⟨_, rfl, _, rfl, _, rfl, l, xs, rfl, .inl (SqL.of (S.s _ _ hl)), G, p, _, c, rfl, S, hc, by omega, by omega, fun H' r c' x S' hc' hr0 hr1 => ?_⟩
    obtain ⟨v, hv, hm⟩ := atI_in hr0 hr1
    exact ⟨l, xs, r, v, rfl, rfl, SqL.of (S'.s _ _ hl), hv, k H' v c' x S' hc' hm⟩
theorem okV_of (T : Txt K mg A) : FnOk P w K mg base CX0 3 A.of A.of' ["_law_box_here", "_law_some"] (spB true 1 pfOf) := by
  refine T.of.F.ok sc_of (fun vs H Q E h => len_B hl_of h) (fun cdv Ar outer s H vs Q E hr h => ?_)
  refine ⟨_, pss_one (ps_ret (pe_ix (ix_listK K) (pv 1) (pe_call (FnOk.imp (sp' := spB true 1 pfTake) (ok_take T) fun _ _ _ _ h => cv_take h) (hr.mono (by decide)) rfl T.take.g T.take.F.kp T.take.b .nil pass0 (pa_cons (pv 0) (pa_cons (pe_callB (call_len_seqK K) (by rfl) T.b_len (by decide +kernel) (pa_cons (pv 1) pa_nil)) pa_nil))) (fun _ _ => rfl))), ?_⟩
  refine run_B (n := 1) (k := 0) h
    (s_ret (re_op ro_ixL (RE.rv (re_v 1)) (RE.rv (re_callB 0 (ra_cons (re_cb rc_len (va_cons (RE.rv (re_v 1)) va_nil)) ra_nil))))) (by decide) (len_B hl_of h) rfl ?_
  rintro as q ⟨xs, rfl, h0, h1, hq⟩
  refine ⟨_, xs, rfl, rfl, _, rfl, by omega, by omega, fun r hr0 hr1 => ?_⟩
  obtain ⟨v, hv, hm⟩ := atI_in hr0 hr1
  exact ⟨xs, r, v, rfl, rfl, hv, hq v hm⟩

end
end LW

namespace LW
open PySem L2 Kt LM DO Va
section
variable {w : World} {K : PySem.W.Frag} {mg : Str → Option Value} {base : Heap} {A : Ads}
theorem ok_names (T : Txt K mg A) : FnOk P w K mg base CX0 5 A.names A.names' ["_law_box_here", "_law_some"] spNames := by
  refine T.names.F.ok sc_names (fun vs H Q E h => ?_) (fun cdv Ar outer s H vs Q E hr h => ?_)
  · obtain ⟨G, p, c, n, rfl, _⟩ := h
    rfl
  · obtain ⟨G, p, c, n, rfl, S, hc, hn, k⟩ := h
    refine ⟨_, pss_cons (ps_set (i := 2) sc_names.nd rfl (Or.inr rfl) (pe_str))
      (pss_cons (ps_set (i := 3) sc_names.nd rfl (Or.inl rfl) (pe_join (pe_str) (pe_lc (own := [("_law_k", 4)]) (g := (gName 4)) rfl sc_names.nd (pi_range1 rfl T.b_range (pa_cons (pe_int) pa_nil)) (blkOk_by (own := [("_law_k", 4)]) (N := N_names) (sc := defScope s_names) (by decide +kernel)) (fun _ _ _ _ _ => pg_name (i := 4) sc_names.nd rfl (Or.inl rfl)) (fun _ _ _ _ _ => pts_nil) (fun _ _ _ _ _ => by exact pe_ix ix_str (pv 2) (pe_call (ok_take T) (hr.mono (by decide)) rfl T.take.g T.take.F.kp T.take.b .nil pass0 (pa_cons (pv 0) (pa_cons (pe_int) pa_nil))) (fun _ _ => rfl)))))
      (pss_cons (ps_par3 (i := 5) (j := 6) (l := 7) rfl sc_names.nd rfl rfl rfl (by decide) (by decide) (by decide) rfl rfl rfl (pa_cons (pe_op op_add (pe_int) (pe_call (ok_take T) (hr.mono (by decide)) rfl T.take.g T.take.F.kp T.take.b .nil pass0 (pa_cons (pv 0) (pa_cons (pe_int) pa_nil)))) (pa_cons (pe_call (ok_take T) (hr.mono (by decide)) rfl T.take.g T.take.F.kp T.take.b .nil pass0 (pa_cons (pv 0) (pa_cons (pe_int) pa_nil))) (pa_cons (pe_call (ok_take T) (hr.mono (by decide)) rfl T.take.g T.take.F.kp T.take.b .nil pass0 (pa_cons (pv 0) (pa_cons (pe_int) pa_nil))) pa_nil))) (by rfl))
      (pss_cons (ps_set (i := 8) sc_names.nd rfl (Or.inl rfl) (pe_call (ok_take T) (hr.mono (by decide)) rfl T.take.g T.take.F.kp T.take.b .nil pass0 (pa_cons (pv 0) (pa_cons (pe_int) pa_nil))))
      (pss_cons (ps_set (i := 9) sc_names.nd rfl (Or.inl rfl) (pe_call (ok_of T) (hr.mono (by decide)) rfl T.of.g T.of.F.kp T.of.b .nil pass0 (pa_cons (pv 0) (pa_cons (pe_lst (pa_cons (pe_int) (pa_cons (pe_int) (pa_cons (pe_int) (pa_cons (pe_int) (pa_cons (pe_int) (pa_cons (pe_int) (pa_cons (pe_int) (pa_cons (pe_int) (pa_cons (pe_int) (pa_cons (pe_int) (pa_cons (pe_int) (pa_cons (pe_int) pa_nil))))))))))))) pa_nil))))
      (pss_cons (ps_set (i := 10) sc_names.nd rfl (Or.inl rfl) (pe_lst pa_nil))
      (pss_cons (ps_for PassesOwn.never rfl (pi_range1 rfl T.b_range (pa_cons (pv 1) pa_nil)) (pg_name (i := 4) sc_names.nd rfl (Or.inl rfl))
        (C8.pss_cut (ps_set (i := 11) sc_names.nd rfl (Or.inl rfl) (pe_ifExp (pt_cmpR op_eq (pv 7) (pe_int) (nomark _)) (pv 5) (pe_op op_add (pe_int) (pe_call (ok_take T) (hr.mono (by decide)) rfl T.take.g T.take.F.kp T.take.b .nil pass0 (pa_cons (pv 0) (pa_cons (pe_int) pa_nil))))))
      (pss_cons (ps_set (i := 12) sc_names.nd rfl (Or.inl rfl) (pe_slice sl_str (pv 3) po_none (po_some (pv 11))))
      (C8.pss_cut (ps_if (pt_cmpR op_gt (pv 7) (pe_int) (nomark _)) (pss_one (ps_set (i := 12) sc_names.nd rfl (Or.inl rfl) (pe_join (pe_str) (pe_lc (own := [("_law_turn", 13)]) (g := (gName 13)) rfl sc_names.nd (pi_range1 rfl T.b_range (pa_cons (pv 11) pa_nil)) (blkOk_by (own := [("_law_turn", 13)]) (N := N_names) (sc := defScope s_names) (by decide +kernel)) (fun _ _ _ _ _ => pg_name (i := 13) sc_names.nd rfl (Or.inl rfl)) (fun _ _ _ _ _ => pts_nil) (fun _ _ _ _ _ => by exact pe_ix ix_str (pv 2) (pe_call (ok_take T) (hr.mono (by decide)) rfl T.take.g T.take.F.kp T.take.b .nil pass0 (pa_cons (pv 0) (pa_cons (pe_int) pa_nil))) (fun _ _ => rfl)))))) (pss_nil))
      (pss_cons (ps_set (i := 14) sc_names.nd rfl (Or.inl rfl) (pe_op op_mod (pe_callTy call_int1 (by rfl) T.b_int (by decide +kernel) (pa_cons (pv 6) pa_nil)) (pv 11)))
      (pss_cons (ps_set (i := 15) sc_names.nd rfl (Or.inl rfl) (pe_ix ix_str (pv 2) (pe_op op_mod (pe_callTy call_int1 (by rfl) T.b_int (by decide +kernel) (pa_cons (pe_op op_add (pv 8) (pe_op op_mul (pv 9) (pv 4))) pa_nil)) (pe_int)) (fun _ _ => rfl)))
      (pss_one (ps_expr (pe_bmK K PySem.F.plainAttrs_list PySem.F.slot_list_append PySem.F.type_list_append mt_append (pv 10) (pa_cons (pe_op op_add_str (pe_op op_add_str (pe_slice sl_str (pv 12) po_none (po_some (pv 14))) (pv 15)) (pe_slice sl_str (pv 12) (po_some (pe_op op_add (pv 14) (pe_int))) po_none)) pa_nil))))))))))
      (pss_one (ps_ret (pv 10))))))))), ?_⟩
    -- base
    refine ⟨⟨_, rfl⟩, _, rfl, by decide, by decide, fun D hD => ?_⟩
    have gD : G D = none := S.s.free hD
    have nDp : D ≠ p := S.ne' hD
    refine lc_range (lo := 0) (n := 8) (fun i H' => ∃ (cs : List Nat) (c' : Int), Ex (On p) G H G H' ∧ Sx G H' p c' ∧ c' ≤ c + i ∧ H' D = some (.lst ((cs.map sgn).map V.str)) ∧ cs.length = i ∧ ∀ z ∈ cs, 97 ≤ z ∧ z ≤ 122)
      ⟨[], c, Ex.hid S.s hD, S.put gD nDp, by omega, upd_same, rfl, fun z hz => by cases hz⟩ ?_ ?_
    · rintro i Ha hi ⟨cs, c', x1, S1, hc1, hDa, hl, hlet⟩
      refine ⟨rfl, _, rfl, _, rfl, G, p, _, c', rfl, S1, by omega, by decide, by decide, fun H2 r c2 x2 S2 hc2 hr0 hr1 => ?_⟩
      refine ⟨_, _, _, rfl, rfl, letters_len, letter_at hr0 hr1, _, x2.h _ _ nDp hDa, szl (by rw [List.length_map, List.length_map]; omega), cs ++ [97 + r.toNat], c2, (x1.trans x2).put gD (.inr hD) (by rw [x2.h _ _ nDp hDa]; simp), S2.put gD nDp, by omega, ?_, by rw [List.length_append, hl]; rfl, fun z hz => ?_⟩
      · rw [upd_same, List.map_append, List.map_append]; rfl
      · rcases List.mem_append.mp hz with hz | hz
        · exact hlet z hz
        · rw [List.mem_singleton.mp hz]; omega
    rintro Ha ⟨bs, c1, x1, S1, hc1, hDa, hbl, hbs⟩
    refine ⟨_, D, bs.map sgn, rfl, rfl, .inl (SqL.of hDa), ?_, ?_⟩
    · have e : ((bs.map sgn).map (·.length)).sum = 8 := by
        rw [List.map_map]
        have : bs.map ((·.length) ∘ sgn) = List.replicate 8 1 := by
          rw [List.eq_replicate_iff]
          refine ⟨by rw [List.length_map]; exact hbl, fun z hz => ?_⟩
          obtain ⟨y, _, rfl⟩ := List.mem_map.mp hz
          rfl
        rw [this]; rfl
      rw [e, List.length_map]
      show 8 + bs.length * 0 ≤ 16777216
      omega
    have hbase := join_codes bs
    generalize Txt.join (Str.ofString "") (bs.map sgn) = base' at hbase ⊢
    -- far, place, near
    refine ⟨_, rfl, G, p, _, c1, rfl, S1, by omega, by decide, by decide, fun H2 far c2 x2 S2 hc2 hf0 hf1 => ?_⟩
    refine ⟨_, _, rfl, rfl, _, rfl, G, p, _, c2, rfl, S2, by omega, by decide, by decide, fun H3 place c3 x3 S3 hc3 hp0 hp1 => ?_⟩
    refine ⟨_, rfl, G, p, _, c3, rfl, S3, by omega, by decide, by decide, fun H4 near c4 x4 S4 hc4 hn0 hn1 => ?_⟩
    refine ⟨_, _, _, rfl, ?_⟩
    -- first
    refine ⟨_, rfl, G, p, _, c4, rfl, S4, by omega, by decide, by decide, fun H5 first c5 x5 S5 hc5 hs0 hs1 => ?_⟩
    -- step
    refine ⟨_, rfl, sz rfl, fun l6 h6 => ?_⟩
    generalize e6 : upd H5 l6 _ = H6
    obtain ⟨G6, x6, S6, g6⟩ := sx_new S5 h6 e6
    refine ⟨G6, p, l6, steps.map V.int, c5, rfl, S6, by omega, g6, by decide, by decide, fun H7 sv c7 x7 S7 hc7 hsv => ?_⟩
    obtain ⟨step, hstep, rfl⟩ := List.mem_map.mp hsv
    have hsb : 0 ≤ step ∧ step < 26 := (by decide : ∀ s ∈ steps, 0 ≤ s ∧ s < 26) step hstep
    -- done
    refine ⟨Nat.zero_le _, fun L hL => ?_⟩
    generalize e8 : upd H7 L _ = H8
    obtain ⟨x8, S8, gL, nLp, hL8⟩ := sx_hid S7 hL e8
    have x08 : Ex (On p) G H G6 H8 := x1.trans (x2.trans (x3.trans (x4.trans (x5.trans (x6.trans (x7.trans x8))))))
    have L0 : H L = none := (x1.trans (x2.trans (x3.trans (x4.trans (x5.trans (x6.trans x7)))))).f _ hL
    refine ⟨_, rfl, _, rfl, by omega, by omega, ?_⟩
    refine for_range (lo := 0) (n := ((n : Nat) : Int).toNat) (fun i σ H' => ∃ (v4 v11 v12 v13 v14 v15 : Option V) (ns : List Str) (c' : Int), σ = [some (.ref p), some (.int n), some (.str letters), some (.str base'), v4, some (.int (1 + far)), some (.int place), some (.int near), some (.int first), some (.int step), some (.ref L), v11, v12, v13, v14, v15] ∧
        Ex (On p) G H G6 H' ∧ Sx G6 H' p c' ∧ c' ≤ c + 20 + 10 * i ∧ H' L = some (.lst (ns.map V.str)) ∧ ns.length = i ∧ ∀ j x, ns[j]? = some x → Wd place first step j x)
      ⟨_, _, _, _, _, _, [], c7, rfl, x08, S8, by omega, hL8, rfl, fun j x h => by simp at h⟩ ?_ ?_
    · rintro i σ Ha hi ⟨v4, v11, v12, v13, v14, v15, ns, c', rfl, xa, Sa, hca, hLa, hnl, hW⟩
      rw [Int.toNat_natCast] at hi
      -- size
      refine ⟨fun σ' H' => ∃ (sz : Nat) (c2 : Int), σ' = [some (.ref p), some (.int n), some (.str letters), some (.str base'), some (.int (0 + i)), some (.int (1 + far)), some (.int place), some (.int near), some (.int first), some (.int step), some (.ref L), some (.int sz), v12, v13, v14, v15] ∧ 0 < sz ∧ sz ≤ 8 ∧ (near = 0 → (sz : Int) = 1 + far) ∧ Ex (On p) G H G6 H' ∧ Sx G6 H' p c2 ∧ c2 ≤ c' + 1 ∧ H' L = some (.lst (ns.map V.str)), ?_, ?_⟩
      · refine ⟨_, rfl, rfl, _, rfl, ?_⟩
        refine if2 (fun hz => ?_) (fun hz => ?_)
        · have hz0 : near = 0 := by have := of_decide_eq_true hz; injection this
          refine ⟨_, rfl, (1 + far).toNat, c', ?_, by omega, by omega, fun _ => by omega, xa, Sa, by omega, hLa⟩
          rw [show (((1 + far).toNat : Nat) : Int) = 1 + far by omega]
          rfl
        · refine ⟨_, rfl, G6, p, _, c', rfl, Sa, by omega, by decide, by decide, fun H2 r c2 x2 S2 hc2 hr0 hr1 => ?_⟩
          refine ⟨_, _, rfl, rfl, (1 + r).toNat, c2, ?_, by omega, by omega, fun h0 => absurd (decide_eq_true (congrArg V.int h0)) (by rw [hz]; simp), xa.trans x2, S2, by omega, x2.h _ _ nLp hLa⟩
          rw [show (((1 + r).toNat : Nat) : Int) = 1 + r by omega]
          rfl
      rintro σ' Hb ⟨sz', c2, rfl, hsz0, hsz8, hszf, xb, Sb, hc2, hLb⟩
      -- word
      refine ⟨_, rfl, _, rfl, _, rfl, _, rfl, ?_, ?_⟩
      · show base'.cps.size ≤ sizeLine
        rw [← Array.length_toList, hbase, hbl]
        decide
      have hw1 := (cutS_codes base' sz').1
      refine ⟨fun σ' H' => ∃ (wd : Str) (v13 : Option V) (c3 : Int), σ' = [some (.ref p), some (.int n), some (.str letters), some (.str base'), some (.int (0 + i)), some (.int (1 + far)), some (.int place), some (.int near), some (.int first), some (.int step), some (.ref L), some (.int sz'), some (.str wd), v13, v14, v15] ∧ wd.cps.toList.length = sz' ∧ (∀ z ∈ wd.cps.toList, 97 ≤ z ∧ z ≤ 122) ∧ Ex (On p) G H G6 H' ∧ Sx G6 H' p c3 ∧ c3 ≤ c' + 9 ∧ H' L = some (.lst (ns.map V.str)), ?_, ?_⟩
      · refine ⟨_, rfl, _, _, rfl, rfl, _, rfl, ?_⟩
        refine if2 (fun hz => ?_) (fun hz => ?_)
        · refine ⟨⟨_, rfl⟩, _, rfl, _, rfl, by omega, by omega, fun D2 hD2 => ?_⟩
          have gD2 : G6 D2 = none := Sb.s.free hD2
          have nDp2 : D2 ≠ p := Sb.ne' hD2
          have nDL : D2 ≠ L := (ne_of_none hLb hD2).symm
          refine lc_range (lo := 0) (n := ((sz' : Nat) : Int).toNat) (fun i H' => ∃ (cs : List Nat) (c' : Int), Ex (On p) G6 Hb G6 H' ∧ Sx G6 H' p c' ∧ c' ≤ c2 + i ∧ H' D2 = some (.lst ((cs.map sgn).map V.str)) ∧ H' L = some (.lst (ns.map V.str)) ∧ cs.length = i ∧ ∀ z ∈ cs, 97 ≤ z ∧ z ≤ 122)
            ⟨[], c2, Ex.hid Sb.s hD2, Sb.put gD2 nDp2, by omega, upd_same, by rw [upd_ne nDL.symm]; exact hLb, rfl, fun z hz => by cases hz⟩ ?_ ?_
          · rintro i Hc hi2 ⟨cs, c', x1, S1, hc1, hDa, hLc, hl, hlet⟩
            rw [Int.toNat_natCast] at hi2
            refine ⟨rfl, _, rfl, _, rfl, G6, p, _, c', rfl, S1, by omega, by decide, by decide, fun H2 r c2 x2 S2 hc2 hr0 hr1 => ?_⟩
            refine ⟨_, _, _, rfl, rfl, letters_len, letter_at hr0 hr1, _, x2.h _ _ nDp2 hDa, szl (by rw [List.length_map, List.length_map]; omega), cs ++ [97 + r.toNat], c2, (x1.trans x2).put gD2 (.inr hD2) (by rw [x2.h _ _ nDp2 hDa]; simp), S2.put gD2 nDp2, by omega, ?_, by rw [upd_ne nDL.symm]; exact x2.h _ _ nLp hLc, by rw [List.length_append, hl]; rfl, fun z hz => ?_⟩
            · rw [upd_same, List.map_append, List.map_append]; rfl
            · rcases List.mem_append.mp hz with hz | hz
              · exact hlet z hz
              · rw [List.mem_singleton.mp hz]; omega
          · rintro Hc ⟨cs, c3, x1, S1, hc1, hDa, hLc, hl, hlet⟩
            rw [Int.toNat_natCast] at hl hc1
            refine ⟨_, D2, cs.map sgn, rfl, rfl, .inl (SqL.of hDa), ?_, ?_⟩
            · have e : ((cs.map sgn).map (·.length)).sum = cs.length := by
                rw [List.map_map]
                have : cs.map ((·.length) ∘ sgn) = List.replicate cs.length 1 := by
                  rw [List.eq_replicate_iff]
                  refine ⟨by rw [List.length_map], fun z hz => ?_⟩
                  obtain ⟨y, _, rfl⟩ := List.mem_map.mp hz
                  rfl
                rw [this, List.sum_replicate_nat, Nat.mul_one]
              rw [e, List.length_map]
              show cs.length + cs.length * 0 ≤ 16777216
              omega
            · have hj := join_codes cs
              exact ⟨_, _, c3, rfl, by rw [hj, hl], by rw [hj]; exact hlet, xb.trans x1, S1, by omega, hLc⟩
        · have hz0 : near = 0 := by have := of_decide_eq_false hz; omega
          have hf := hszf hz0
          refine ⟨_, _, c2, rfl, by rw [hw1, List.length_take, hbase, hbl]; omega, fun z hz => ?_, xb, Sb, by omega, hLb⟩
          rw [hw1] at hz
          rw [hbase] at hz
          exact hbs z (List.mem_of_mem_take hz)
      rintro σ' Hc ⟨wd, v13', c3, rfl, hwl, hwlet, xc, Sc, hc3, hLc⟩
      -- at
      refine ⟨_, rfl, .inl ⟨_, rfl, _, rfl, _, _, rfl, rfl, by show (0 : Int) < (sz' : Int); omega, ?_⟩⟩
      have hat := mod_in (i := place) (m := (sz' : Int)) (by omega)
      obtain ⟨at_, hat2⟩ : ∃ a : Nat, place % (sz' : Int) = (a : Int) := ⟨(place % (sz' : Int)).toNat, by omega⟩
      dsimp only
      rw [hat2]
      have hal : at_ < sz' := by omega
      -- sign
      have hsg := mod_in (i := first + step * (0 + (i : Int))) (m := 26) (by decide)
      refine ⟨_, rfl, _, rfl, _, rfl, _, rfl, _, _, rfl, rfl, .inl ⟨by omega, by omega⟩, _, _, rfl, rfl, .inl ⟨_, rfl, _, _, rfl, rfl, p0 rfl, ?_⟩⟩
      refine ⟨_, _, _, rfl, rfl, letters_len, letter_at hsg.1 hsg.2, ?_⟩
      -- done.append(..)
      have hc1 := (cutS_codes wd at_).1
      have hc2' := (cutS_codes wd (at_ + 1)).2
      have wlen : wd.length = sz' := by rw [← hwl]; exact (Array.length_toList ..).symm
      have len1 : (cutS wd none (some ((at_ : Nat) : Int))).length = at_ := by
        show (cutS wd none (some ((at_ : Nat) : Int))).cps.size = at_
        rw [← Array.length_toList, hc1, List.length_take, hwl]; omega
      refine ⟨_, rfl, .inl ⟨rfl, _, SqL.of hLc⟩, _, rfl, _, rfl, _, rfl, _, rfl, szL (by omega), _, rfl, _, _, rfl, rfl, szL (by rw [len1]; show at_ + 1 ≤ _; omega), ?_⟩
      refine ⟨_, rfl, _, rfl, _, _, rfl, rfl, _, rfl, _, rfl, szL (by omega), _, _, rfl, rfl, ?_, ?_⟩
      · refine szL ?_
        have l2 : (cutS wd (some ((at_ : Int) + 1)) none).length ≤ 8 := by
          show (cutS wd (some (((at_ + 1 : Nat)) : Int)) none).cps.size ≤ 8
          rw [← Array.length_toList, hc2', List.length_drop, hwl]; omega
        have l3 : (cutS wd none (some ((at_ : Nat) : Int)) ++ (⟨#[97 + ((first + step * (0 + (i : Int))) % 26).toNat]⟩ : Str)).length = at_ + 1 := by
          show (cutS wd none (some ((at_ : Nat) : Int)) ++ (⟨#[97 + ((first + step * (0 + (i : Int))) % 26).toNat]⟩ : Str)).cps.size = at_ + 1
          rw [← Array.length_toList]
          rw [show (cutS wd none (some ((at_ : Nat) : Int)) ++ (⟨#[97 + ((first + step * (0 + (i : Int))) % 26).toNat]⟩ : Str)).cps.toList = _ from TL.tl_append _ _, List.length_append]
          show (cutS wd none (some ((at_ : Nat) : Int))).cps.toList.length + 1 = at_ + 1
          rw [hc1, List.length_take, hwl]
          omega
        rw [l3]
        omega
      generalize ew : (cutS wd none (some ((at_ : Nat) : Int)) ++ (⟨#[97 + ((first + step * (0 + (i : Int))) % 26).toNat]⟩ : Str) ++ cutS wd (some ((at_ : Int) + 1)) none) = new
      have hnew : new.cps.toList = wd.cps.toList.take at_ ++ (97 + ((first + step * (i : Int)) % 26).toNat) :: wd.cps.toList.drop (at_ + 1) := by
        rw [← ew]
        refine (TL.tl_append _ _).trans ?_
        rw [TL.tl_append]
        show ((cutS wd none (some ((at_ : Nat) : Int))).cps.toList ++ [97 + ((first + step * (0 + (i : Int))) % 26).toNat]) ++ (cutS wd (some (((at_ + 1 : Nat)) : Int)) none).cps.toList = _
        rw [hc1, hc2', Int.zero_add, List.append_assoc]; rfl
      have hnl2 : new.cps.toList.length = sz' := by
        rw [hnew, List.length_append, List.length_cons, List.length_take, List.length_drop, hwl]; omega
      have gL' : G6 L = none := gL
      refine ⟨L, _, _, rfl, rfl, hLc, szl (by rw [List.length_map]; omega), ?_⟩
      refine ⟨_, _, _, _, _, _, ns ++ [new], c3, rfl, xc.put gL' (.inr L0) (by rw [hLc]; simp), Sc.put gL' nLp, by omega, ?_, by rw [List.length_append, hnl]; rfl, fun j x hj => ?_⟩
      · rw [upd_same, List.map_append]; rfl
      · by_cases hji : j < ns.length
        · rw [List.getElem?_append_left hji] at hj
          exact hW j x hj
        · rw [List.getElem?_append_right (by omega)] at hj
          have hj0 : j - ns.length = 0 := by
            rcases Nat.eq_zero_or_pos (j - ns.length) with h | h
            · exact h
            · rw [List.getElem?_eq_none (by simp; omega)] at hj; cases hj
          rw [hj0] at hj
          cases hj
          have ej : j = i := by omega
          subst ej
          refine ⟨⟨by omega, by omega, fun z hz => ?_⟩, ?_⟩
          · rw [hnew] at hz
            rcases List.mem_append.mp hz with hz | hz
            · exact hwlet z (List.mem_of_mem_take hz)
            · rcases List.mem_cons.mp hz with rfl | hz
              · have := mod_in (i := first + step * (j : Int)) (m := 26) (by decide)
                omega
              · exact hwlet z (List.mem_of_mem_drop hz)
          · rw [hnl2, hat2, Int.toNat_natCast, hnew, List.getElem?_append_right (by rw [List.length_take]; omega)]
            rw [List.length_take, hwl, Nat.min_eq_left (by omega), Nat.sub_self]
            rfl
    · rintro σ Ha ⟨v4, v11, v12, v13, v14, v15, ns, c', rfl, xa, Sa, hca, hLa, hnl, hW⟩
      rw [Int.toNat_natCast] at hca hnl
      have x9 := xa.tell hLa (S.s.free L0) L0
      refine ⟨_, rfl, k _ Ha c' L ns x9 (Sa.tell hLa gL nLp) (by omega) upd_same hnl (fun x hx => ?_) (wd_nodup hstep (by omega) hW)⟩
      obtain ⟨j, hj, e⟩ := List.getElem_of_mem hx
      exact (hW j x (e ▸ List.getElem?_eq_getElem hj)).1

end
end LW

namespace LW
open PySem L2 Kt LM DO Va
section
variable {w : World} {K : PySem.W.Frag} {mg : Str → Option Value} {base : Heap} {A : Ads}
theorem ok_Lot_len (T : Txt K mg A) : FnOk P w K mg base CX0 1 A.Lot_len A.Lot_len' ["self"] (spLotLen A.Lot) := by
  refine T.Lot_len.F.ok sc_Lot_len (fun vs H Q E h => ?_) (fun cdv Ar outer s H vs Q E hr h => ?_)
  · obtain ⟨G, a, m, rfl, _⟩ := h
    rfl
  · obtain ⟨G, a, m, rfl, S, ⟨dx, dd, d, h1, h2, hp, ho, hl⟩, k⟩ := h
    refine ⟨_, pss_one (ps_ret (pe_callB call_lenD (by rfl) T.b_len (by decide +kernel) (pa_cons (pe_fldK K (pv 0) rfl) pa_nil))), ?_⟩
    refine ⟨_, rfl, a, A.Lot, dx, _, _, rfl, S _ _ h1, T.Lot.cl, T.no_Lot_own_many, rfl, dd, _, rfl, S _ _ h2, ?_⟩
    have e : (encD d).length = m.length := by rw [encD, List.length_map, hp.length_eq]
    show Q (.int ((encD d).length : Nat)) H
    rw [e]
    exact k

end
end LW

namespace LW
open PySem L2 Kt LM DO Va
section
variable {w : World} {K : PySem.W.Frag} {mg : Str → Option Value} {base : Heap} {A : Ads}
theorem ok_Hollow_init (T : Txt K mg A) : FnOk P w K mg base CX0 1 A.Hollow_init A.Hollow_init' ["self", "kind"] (spIni A.Hollow ["kind"]) := by
  refine T.Hollow_init.F.ok sc_Hollow_init rfl rfl rfl rfl rfl (fun vs H Q E h => ?_) (fun cda cc Ar outer s H vs Q E h => ?_)
  · obtain ⟨a, ys, rfl, hl, _⟩ := h
    rw [List.length_cons, hl]; rfl
  · obtain ⟨a, ys, rfl, hl, ha, k⟩ := h
    match ys, hl with
    | [y1], _ =>
      refine ⟨a, _, _, rfl, ha, (pa_cons (pv 1) pa_nil), pss_one (ps_ost (pv 0) (pv 1)), ?_⟩
      refine ⟨_, rfl, by simp, ha, ?_⟩
      refine ⟨_, rfl, _, rfl, a, A.Hollow, rfl, T.Hollow.T, T.no_Hollow_kind, .inl ⟨ha, fun dx hd hne => ?_⟩⟩
      exact k dx hd hne

end
end LW

namespace LW
open PySem L2 Kt LM DO Va
section
variable {w : World} {K : PySem.W.Frag} {mg : Str → Option Value} {base : Heap} {A : Ads}
theorem ok_Lot_contains (T : Txt K mg A) : FnOk P w K mg base CX0 1 A.Lot_contains A.Lot_contains' ["self", "kind"] (spLotHas A.Lot) := by
  refine T.Lot_contains.F.ok sc_Lot_contains (fun vs H Q E h => ?_) (fun cdv Ar outer s H vs Q E hr h => ?_)
  · obtain ⟨G, a, m, k, rfl, _⟩ := h
    rfl
  · obtain ⟨G, a, m, j, rfl, S, ⟨dx, dd, d, h1, h2, hp, ho, hl⟩, k⟩ := h
    refine ⟨_, pss_one (ps_ret (pe_cmp (pc_din (hu_of hr) (pv 1) (pe_fldK K (pv 0) rfl)))), ?_⟩
    refine ⟨_, rfl, _, rfl, a, A.Lot, dx, _, _, rfl, S _ _ h1, T.Lot.cl, T.no_Lot_own_many, rfl, dd, _, rfl, DGet.k (k := Sum.inr j) (S _ _ h2), ?_⟩
    have e : (valV (encD d) (Sum.inr j)).isSome = decide (0 < lk m j) := by
      rw [val_enc, perm_look hp ho]
      have := ho.lk_nn j
      by_cases z : lk m j = 0
      · rw [if_pos z, z]; rfl
      · rw [if_neg z, decide_eq_true (by omega : 0 < lk m j)]; rfl
    rw [e]
    exact k

end
end LW

namespace LW
open PySem L2 Kt LM DO Va
section
variable {w : World} {K : PySem.W.Frag} {mg : Str → Option Value} {base : Heap} {A : Ads}
theorem ok_Ringed_init (T : Txt K mg A) : FnOk P w K mg base CX0 1 A.Ringed_init A.Ringed_init' ["self", "ring"] (spIni A.Ringed ["ring"]) := by
  refine T.Ringed_init.F.ok sc_Ringed_init rfl rfl rfl rfl rfl (fun vs H Q E h => ?_) (fun cda cc Ar outer s H vs Q E h => ?_)
  · obtain ⟨a, ys, rfl, hl, _⟩ := h
    rw [List.length_cons, hl]; rfl
  · obtain ⟨a, ys, rfl, hl, ha, k⟩ := h
    match ys, hl with
    | [y1], _ =>
      refine ⟨a, _, _, rfl, ha, (pa_cons (pv 1) pa_nil), pss_one (ps_ost (pv 0) (pv 1)), ?_⟩
      refine ⟨_, rfl, by simp, ha, ?_⟩
      refine ⟨_, rfl, _, rfl, a, A.Ringed, rfl, T.Ringed.T, T.no_Ringed_ring, .inl ⟨ha, fun dx hd hne => ?_⟩⟩
      exact k dx hd hne

end
end LW

namespace LW
open PySem L2 Kt LM DO Va
section
variable {w : World} {K : PySem.W.Frag} {mg : Str → Option Value} {base : Heap} {A : Ads}
theorem ok_Lot_pairs (T : Txt K mg A) : FnOk P w K mg base CX0 1 A.Lot_pairs A.Lot_pairs' ["self"] (spLotPairs A.Lot) := by
  refine T.Lot_pairs.F.ok sc_Lot_pairs (fun vs H Q E h => ?_) (fun cdv Ar outer s H vs Q E hr h => ?_)
  · obtain ⟨G, a, m, rfl, _⟩ := h
    rfl
  · obtain ⟨G, a, m, rfl, S, ⟨dx, dd, d, h1, h2, hp, ho, hl⟩, k⟩ := h
    refine ⟨_, pss_one (ps_ret (pe_callTy (call_tuple_ofK K) (by rfl) T.b_tuple (by decide +kernel) (pa_cons (pe_lc (own := [("kind", 1)]) (g := (gName 1)) rfl sc_Lot_pairs.nd (pi_listK K (pe_callB (call_sortedD rfl) (by rfl) T.b_sorted (by decide +kernel) (pa_cons (pe_fldK K (pv 0) rfl) pa_nil))) (blkOk_by (own := [("kind", 1)]) (N := N_Lot_pairs) (sc := defScope s_Lot_pairs) (by decide +kernel)) (fun _ _ _ _ _ => pg_name (i := 1) sc_Lot_pairs.nd rfl (Or.inl rfl)) (fun _ _ _ _ _ => pts_nil) (fun _ _ _ _ _ => by exact pe_tup (pa_cons (pv 1) (pa_cons (pe_dget (hu_of hr) (pe_fldK K (pv 0) rfl) (pv 1) (fun _ _ => rfl)) pa_nil)))) pa_nil))), ?_⟩
    have hkeys : (encD d).map (·.1) = (d.map (·.1)).map Sum.inr := by rw [encD, List.map_map, List.map_map]; rfl
    refine ⟨_, rfl, a, A.Lot, dx, _, _, rfl, S _ _ h1, T.Lot.cl, T.no_Lot_own_many, rfl, dd, _, d.map (·.1), rfl, .inl (S _ _ h2), hkeys, by rw [List.length_map, hp.length_eq]; exact hl, fun ys q hperm hsrt hq => ?_⟩
    have ey : ys = m.map (·.1) := sorted_keys ho (hperm.trans (hp.map _)) hsrt
    subst ey
    generalize e1 : upd H q _ = H1
    obtain ⟨G1, x1, g1⟩ := ex_new (M := No) S hq e1
    refine ⟨q, rfl, ⟨_, SqL.of (x1.s _ _ g1)⟩, fun D hD => ?_⟩
    have D1 : G1 D = none := x1.s.free hD
    refine lc_it (walk_list (K := K) (a := q) (xs := (m.map (·.1)).map V.str)) (fun i H' => ∃ (G2 : Hp) (acc : List V), Ex No G1 H1 G2 H' ∧ G2 D = none ∧ H' D = some (.lst acc) ∧ RpA G2 acc ((m.take i).map encP))
      ⟨G1, [], (Ex.hid x1.s hD), D1, upd_same, .nil⟩ (fun i H' _ h => by obtain ⟨G2, acc, x2, _⟩ := h; exact SqL.of (x2.s _ _ (x2.g _ _ g1))) ?_ ?_
    · rintro i y Ha Hb hi ⟨G2, acc, x2, D2, hDa, ra⟩ ⟨rfl, hy⟩
      obtain ⟨kd, hk, rfl⟩ := map_at hy
      obtain ⟨⟨kd', n⟩, hp1, rfl⟩ := map_at hk
      have hm := List.mem_of_getElem? hp1
      have hv : valV (encD d) (Sum.inr kd) = some (.int n) := by
        rw [val_enc, perm_look hp ho, ho.lk_mem hm, if_neg]; rfl
        have := ho.pos _ hm
        show ¬ n = 0
        have : 0 < n := this
        omega
      have g2 : Hb dd = some (.dK (encD d)) := x2.s _ _ (x2.g _ _ (x1.g _ _ h2))
      refine ⟨rfl, _, rfl, _, rfl, a, A.Lot, dx, _, _, rfl, x2.s _ _ (x2.g _ _ (x1.g _ _ h1)), T.Lot.cl, T.no_Lot_own_many, rfl, _, rfl, dd, _, rfl, hv ▸ DGet.k (k := Sum.inr kd) g2, sz rfl, fun t ht => ?_⟩
      generalize e3 : upd Hb t _ = H3
      obtain ⟨G3, x3, g3⟩ := ex_new (M := No) x2.s ht e3
      have D3 : G3 D = none := x3.un D2 (by rw [hDa]; simp)
      refine ⟨acc, x3.same _ _ hDa, szl ?_, G3, acc ++ [.ref t], (x2.trans x3).put D3 (.inr hD) (by rw [x3.same _ _ hDa]; simp), D3, upd_same, ?_⟩
      · have := ra.length
        rw [List.length_map, List.length_take] at this
        omega
      · have et : m.take (i + 1) = m.take i ++ [(kd, n)] := by rw [List.take_add_one, hp1]; rfl
        rw [et, List.map_append]
        exact (ra.mono x3.g).app (.cons (.tup g3 (.cons (.str _) (.cons (.int _) .nil))) .nil)
    · rintro Ha ⟨G2, acc, x2, D2, hDa, ra⟩
      rw [List.length_map, List.length_map, List.take_of_length_le (Nat.le_refl _)] at ra
      refine ⟨D, acc, rfl, .inl ⟨SqL.of hDa, fun t ht => ?_⟩⟩
      generalize e3 : upd Ha t _ = H3
      obtain ⟨G3, x3, g3⟩ := ex_new (M := No) x2.s ht e3
      exact k G3 H3 _ (x1.trans (x2.trans x3)) (.tup g3 (ra.mono x3.g))

end
end LW

namespace LW
open PySem L2 Kt LM DO Va
section
variable {w : World} {K : PySem.W.Frag} {mg : Str → Option Value} {base : Heap} {A : Ads}
theorem ok_Opening_init (T : Txt K mg A) : FnOk P w K mg base (L2.CX P w) 3 A.Opening_init A.Opening_init' ["self", "kind", "contents"] (spIX false A.Opening (pfOpI A.Opening A.Lot A.Hollow A.Ringed)) := by
  refine T.Opening_init.F.okX sc_Opening_init (fun vs H Q E h => len_IX hl_OpI h) (fun cdv Ar outer s H vs Q E hr h => ?_)
  refine ⟨_, pss_cons (ps_if (pt_cmpR op_eq (pe_callB (OO.call_lenO (ok_Lot_len T) (hr.mono (by decide)) T.Lot_len.b pass0 T.Lot_len.own) (by rfl) T.b_len (by decide +kernel) (pa_cons (pv 2) pa_nil)) (pe_int) (nomark _)) (pss_one (ps_raise rfl (takes_of rfl rfl rfl rfl) (pmk_oex T.Hollow.T T.Hollow_init.iC T.Hollow_init.tI (ok_Hollow_init T) (hr.mono (by decide)) T.Hollow_init.b .nil pass0 rfl T.Hollow.g (pa_cons (pv 1) pa_nil)))) (pss_nil))
      (pss_cons (ps_if (pt_cmpR (OO.op_inO (ok_Lot_contains T) (hr.mono (by decide)) T.Lot_contains.b pass0 T.Lot_contains.own) (pv 1) (pv 2) (by rfl)) (pss_one (ps_raise rfl (takes_of rfl rfl rfl rfl) (pmk_oex T.Ringed.T T.Ringed_init.iC T.Ringed_init.tI (ok_Ringed_init T) (hr.mono (by decide)) T.Ringed_init.b .nil pass0 rfl T.Ringed.g (pa_cons (pe_tup (pa_cons (pv 1) pa_nil)) pa_nil)))) (pss_nil))
      (pss_cons (ps_fld (pv 0) (pv 1) rfl)
      (pss_one (ps_fld (pv 0) (pe_tup (pa_cons (pv 1) (pa_cons (pe_meth0 (pv 2) T.Lot.cl T.Lot_pairs.me (ok_Lot_pairs T) (hr.mono (by decide)) T.Lot_pairs.b .nil pass0) pa_nil))) rfl)))), ?_⟩
  obtain ⟨lk', G, H0, us, q, xt, x, dx, ws, rfl, nl, sm, x0, hx0, hx, r, ⟨kd, m, rfl, k1, k2, k3⟩, kk, kx⟩ := h
  cases r with
  | cons r1 r =>
    cases r with
    | cons r2 r =>
      cases r
      cases Va.of_str r1
      obtain ⟨b, rfl, hb⟩ := of_lotU r2
      have S : Same G H := x0.s.same (nl rfl)
      have gx : G x = none := sm.free hx0
      obtain ⟨dy, gs, h2⟩ := id hb.ins
      have l2 := hb.len
      have okm := hb.ok
      refine ⟨_, rfl, b, dy, _, rfl, S _ _ h2, G, b, m, rfl, S, hb, _, rfl, by omega, by omega, rfl, _, rfl, ?_⟩
      refine if2 (fun he => ?_) (fun he => ?_)
      · have e0 : m = [] := by
          have := of_decide_eq_true he
          injection this with this
          exact List.length_eq_zero_iff.mp (by omega)
        exact ⟨_, rfl, mk_ini (ns := ["kind"]) rfl (by simp) fun d hd => kx _ _ G _ (some d) (k2 e0) (x0.trans (Xt.hid x0.s hd)) ⟨d, _, rfl, x0.f _ hd, x0.s.free hd, upd_same, .cons (.str _) .nil⟩⟩
      · have e0 : m ≠ [] := by
          rintro rfl
          exact of_decide_eq_false he rfl
        refine ⟨_, rfl, _, rfl, b, dy, _, rfl, S _ _ h2, G, b, m, kd, rfl, S, hb, _, rfl, _, rfl, ?_⟩
        refine if2 (fun hp => ?_) (fun hp => ?_)
        · have hp : 0 < lk m kd := of_decide_eq_true hp
          refine ⟨_, rfl, sz rfl, fun t ht => ?_⟩
          have x1 : Xt No lk' G H (upd G t (.tup [.str kd])) (upd H t (.tup [.str kd])) := Xt.new x0.s ht
          exact mk_ini (ns := ["ring"]) rfl (by simp) fun d hd => kx _ _ _ _ (some d) (k3 okm l2 e0 (by omega)) (x0.trans (x1.trans (Xt.hid x1.s hd))) ⟨d, _, rfl, (x0.trans x1).f _ hd, x1.s.free hd, upd_same, .cons (.tup upd_same (.cons (.str _) .nil)) .nil⟩
        · have hz : lk m kd = 0 := by
            have h3 := of_decide_eq_false hp
            have h4 := okm.lk_nn kd
            omega
          refine ⟨_, rfl, _, rfl, x, A.Opening, dx, [], rfl, hx, T.Opening.cl, T.no_Opening_kind, by simp, ?_⟩
          generalize e1 : upd H x _ = H1
          have y1 : Xt No lk' G H0 G H1 := e1 ▸ x0.put gx (.inr hx0) (by rw [hx]; simp)
          have hx1 : H1 x = some (.ins A.Opening dx [("kind", .str kd)]) := by rw [← e1]; exact upd_same
          have S1 : Same G H1 := y1.s.same (nl rfl)
          refine ⟨_, rfl, _, rfl, b, dy, _, rfl, S1 _ _ h2, hb.noat h2 (by decide +kernel), G, b, m, rfl, S1, hb, fun G2 H2 v x2 r2 => ?_⟩
          obtain ⟨G3, x3, s3⟩ := toX y1.s x2
          have r3 : Rep G3 v (.tup (sU m)) := by
            have := (rep_emb r2).mono s3
            rw [emb_pairs] at this
            exact this
          have hx2 : H2 x = some (.ins A.Opening dx [("kind", .str kd)]) := x3.h _ _ (fun z => z) hx1
          have g3 : G3 x = none := x3.un gx (by rw [hx1]; simp)
          refine ⟨sz rfl, fun t ht => ?_⟩
          generalize e4 : upd H2 t _ = H4
          have x4 : Xt No lk' G3 H2 (upd G3 t (.tup [.str kd, v])) H4 := e4 ▸ Xt.new x3.s ht
          have hx4 : H4 x = some (.ins A.Opening dx [("kind", .str kd)]) := x4.h _ _ (fun z => z) hx2
          have g4 : upd G3 t (.tup [.str kd, v]) x = none := x4.un g3 (by rw [hx2]; simp)
          refine ⟨_, rfl, x, A.Opening, dx, _, rfl, hx4, T.Opening.cl, T.no_Opening_own_key, by simp, ?_⟩
          refine kk (opU A.Opening kd m) (upd G3 t (.tup [.str kd, v])) _ _ (k1 okm l2 e0 hz) ((y1.trans (x3.trans x4)).put g4 (.inr hx0) (by rw [hx4]; simp)) g4 upd_same (.ins ?_)
          exact .cons (.str _) (.cons (.tup upd_same (.cons (.str _) (.cons (r3.mono x4.g) .nil))) .nil)

end
end LW

namespace LW
open PySem L2 Kt LM DO Va
section
variable {w : World} {K : PySem.W.Frag} {mg : Str → Option Value} {base : Heap} {A : Ads}
theorem ok_Lot_init (T : Txt K mg A) : FnOk P w K mg base CX0 1 A.Lot_init A.Lot_init' ["self", "pairs"] (spLotInit K A.Lot) := by
  refine T.Lot_init.F.ok sc_Lot_init (fun vs H Q E h => ?_) (fun cdv Ar outer s H vs Q E hr h => ?_)
  · obtain ⟨G, H0, x, dx, q, xs, ps, Ks, rfl, _⟩ := h
    rfl
  · obtain ⟨G, H0, x, dx, q, xs, ps, Ks, rfl, s0, x0, hx0, hx, hq, hxs, hnn, hK, hKs, hlen, k⟩ := h
    refine ⟨_, pss_cons (ps_set (i := 2) sc_Lot_init.nd rfl (Or.inr rfl) (pe_dnewK))
      (pss_cons (ps_for PassesOwn.never rfl (pi_seqK K (pv 1)) (pg_tupK K 2 rfl (pgs_cons (pg_name (i := 3) sc_Lot_init.nd rfl (Or.inl rfl)) (pgs_cons (pg_name (i := 4) sc_Lot_init.nd rfl (Or.inl rfl)) pgs_nil)))
        (pss_cons (ps_if (pt_cmpR op_lt (pv 4) (pe_int) (nomark _)) (pss_one (ps_never)) (pss_nil))
      (pss_one (ps_dput (hu_of hr) (pv 2) (pv 3) (pe_op op_add (pe_dget2 (hu_of hr) (pv 2) (pv 3) (pe_int) ⟨rfl, rfl, rfl, rfl⟩) (pv 4)) rfl))))
      (pss_one (ps_fld (pv 0) (pe_lock (pe_dc (own := [("kind", 3)]) (g := (gName 3)) rfl sc_Lot_init.nd (pi_keys (pv 2)) (blkOk_by (own := [("kind", 3)]) (N := N_Lot_init) (sc := defScope s_Lot_init) (by decide +kernel)) (fun _ _ _ _ _ => pg_name (i := 3) sc_Lot_init.nd rfl (Or.inl rfl)) (fun _ _ _ _ _ => pts_one (pt_cmpR op_gt (pe_dget (hu_of hr) (pv 2) (pv 3) (fun _ _ => rfl)) (pe_int) (nomark _))) (fun _ _ _ _ _ => by exact pv 3) (fun _ _ _ _ _ => by exact pe_dget (hu_of hr) (pv 2) (pv 3) (fun _ _ => rfl)))) rfl))), ?_⟩
    intro f hf
    generalize e1 : upd H f _ = H1
    obtain ⟨x1, gf, hf1⟩ := ex_hid (M := No) x0.s hf e1
    have f0 : H0 f = none := x0.f _ hf
    have gx : G x = none := s0.free hx0
    have nfx : f ≠ x := (ne_of_none hx hf).symm
    have hx1 : H1 x = some (.ins A.Lot dx []) := x1.same _ _ hx
    have xl := hxs.length
    rw [List.length_map] at xl
    refine ⟨_, rfl, q, G, xs, rfl, x1.s, hq, fun J wJ => ?_⟩
    refine for_it wJ (fun i σ H' => ∃ (v3 v4 : Option V), σ = [some (.ref x), some (.ref q), some (.ref f), v3, v4] ∧ Ex No G H0 G H' ∧ H' x = some (.ins A.Lot dx []) ∧ H' f = some (.dK (encD (tally (ps.take i)))))
      ⟨none, none, rfl, x0.trans x1, hx1, hf1⟩ (fun i σ H' _ h => by obtain ⟨_, _, _, h, _⟩ := h; exact h.s) ?_ ?_
    · rintro i y σ Ha Hb hi ⟨v3, v4, rfl, xa, hxa, hfa⟩ ⟨rfl, hy⟩
      obtain ⟨d, hd, hr1⟩ := hxs.get hy
      obtain ⟨⟨kd, n⟩, hp, rfl⟩ := map_at hd
      obtain ⟨t, v1, v2, rfl, ht, r1, r2⟩ := of_tup2 hr1
      cases of_str r1
      cases of_int r2
      have hn : 0 ≤ n := hnn _ (List.mem_of_getElem? hp)
      refine ⟨t, _, rfl, SqT.of (xa.s _ _ ht), rfl, _, _, rfl, _, _, rfl, rfl, ?_⟩
      refine ⟨_, rfl, _, _, rfl, rfl, _, rfl, ?_⟩
      refine ifF (decide_eq_false (by omega)) ?_
      refine ⟨_, rfl, f, rfl, .inl ⟨_, .inl hfa⟩, _, rfl, _, DGet.k (k := Sum.inr kd) hfa, ?_⟩
      have ev : (valV (encD (tally (ps.take i))) (Sum.inr kd)).getD (.int 0) = .int ((look (tally (ps.take i)) kd).getD 0) := by
        rw [val_enc]; cases look (tally (ps.take i)) kd <;> rfl
      refine ⟨_, rfl, _, _, ev, rfl, ?_⟩
      have hl := tally_length (ps.take i)
      refine ⟨_, rfl, _, rfl, f, _, rfl, DPut.k (k := Sum.inr kd) hfa (szl (by rw [encD, List.length_map]; rw [List.length_take] at hl; omega)), ?_⟩
      refine ⟨_, _, rfl, xa.put gf (.inr f0) (by rw [hfa]; simp), by rw [upd_ne nfx.symm]; exact hxa, ?_⟩
      rw [upd_same, put_enc, ← tally_take hp]
    · rintro σ Ha ⟨v3, v4, rfl, xa, hxa, hfa⟩
      rw [xl, List.take_of_length_le (Nat.le_refl _)] at hfa
      -- the dict of what is above 0
      refine ⟨f, _, hfa, trivial, fun od => ?_⟩
      generalize e2 : upd Ha f _ = H2
      have hf2 : H2 f = some (.frz od (.dK (encD (tally ps)))) := by rw [← e2]; exact upd_same
      have hx2 : H2 x = some (.ins A.Lot dx []) := by rw [← e2, upd_ne nfx.symm]; exact hxa
      have back2 : upd H2 f (.dK (encD (tally ps))) = Ha := by
        rw [← e2, upd_upd]; funext b; unfold upd; split
        · rename_i hb; rw [hb, hfa]
        · rfl
      refine ⟨_, rfl, f, od, rfl, .inl ⟨_, hf2, fun D hD => ?_⟩⟩
      have nDf : D ≠ f := (ne_of_none hf2 hD).symm
      have hDa : Ha D = none := by rw [← e2, upd_ne nDf] at hD; exact hD
      have kl : (encD (tally ps)).length = (tally ps).length := by rw [encD, List.length_map]
      have tl := tally_length ps
      refine dc_it (walk_keys (kvs := encD (tally ps))) (fun i H' => (∀ b, b ≠ D → H' b = H2 b) ∧ H' D = some (.dK (encD (((tally ps).take i).filter fun p => decide (0 < p.2)))))
        ⟨fun b hb => upd_ne hb, upd_same⟩ (fun i H' _ h => by rw [h.1 _ nDf.symm]; exact hf2) ?_ ?_
      · rintro i y Hb Hc hi ⟨hB, hDb⟩ ⟨rfl, kk, vv, hk, rfl⟩
        obtain ⟨⟨kd, n⟩, hp, ep⟩ := map_at hk
        cases ep
        have hfb : Hc f = some (.frz od (.dK (encD (tally ps)))) := by rw [hB _ nDf.symm]; exact hf2
        have hg : DGet Hc f (.str kd) (some (.int n)) := .inl ⟨_, Sum.inr kd, .inr ⟨od, hfb⟩, rfl, by
          rw [val_enc, look_mem (tally_nodup ps) (List.mem_of_getElem? hp)]; rfl⟩
        refine ⟨rfl, _, rfl, _, rfl, f, _, rfl, hg, _, _, rfl, rfl, _, rfl, ?_⟩
        have et : (tally ps).take (i + 1) = (tally ps).take i ++ [(kd, n)] := by rw [List.take_add_one, hp]; rfl
        refine if2 (fun hpos => ?_) (fun hpos => ?_)
        · have hpos : 0 < n := of_decide_eq_true hpos
          refine ⟨_, rfl, _, rfl, _, rfl, f, _, rfl, hg, _, Sum.inr kd, rfl, hDb, szl ?_, fun b hb => ?_, ?_⟩
          · rw [encD, List.length_map]
            have := List.length_filter_le (fun p : Str × Int => decide (0 < p.2)) ((tally ps).take i)
            rw [List.length_take] at this
            omega
          · rw [upd_ne hb]; exact hB b hb
          · rw [upd_same, put_enc, et, List.filter_append]
            have : putD (((tally ps).take i).filter fun p => decide (0 < p.2)) kd n = (((tally ps).take i).filter fun p => decide (0 < p.2)) ++ [(kd, n)] := by
              unfold putD
              rw [if_neg]
              intro hm
              obtain ⟨p, hp1, hp2⟩ := List.mem_map.mp hm
              have hp3 := (List.mem_filter.mp hp1).1
              have hnd := tally_nodup ps
              have hi' : i < (tally ps).length := (List.getElem?_eq_some_iff.mp hp).1
              have e3 : tally ps = (tally ps).take i ++ (kd, n) :: (tally ps).drop (i + 1) := by
                have : (tally ps).drop i = (kd, n) :: (tally ps).drop (i + 1) := by
                  rw [List.drop_eq_getElem_cons hi', (List.getElem?_eq_some_iff.mp hp).2]
                rw [← this, List.take_append_drop]
              rw [e3, List.map_append, List.nodup_append] at hnd
              exact hnd.2.2 p.1 (List.mem_map_of_mem hp3) kd (by simp) hp2
            rw [this]
            simp [hpos]
        · have hpos : ¬ 0 < n := of_decide_eq_false hpos
          refine ⟨hB, ?_⟩
          rw [hDb, et, List.filter_append]
          simp [hpos]
      · rintro Hb ⟨hB, hDb⟩
        rw [kl, List.take_of_length_le (Nat.le_refl _)] at hDb
        have nDx : D ≠ x := (ne_of_none hx2 hD).symm
        refine ⟨by rw [hB _ nDf.symm]; exact hf2, ?_⟩
        -- unlocked
        have e3 : upd Hb f (.dK (encD (tally ps))) = upd Ha D (.dK (encD ((tally ps).filter fun p => decide (0 < p.2)))) := by
          funext b
          unfold upd
          by_cases hb : b = f
          · subst hb; rw [if_pos rfl, if_neg nDf.symm, hfa]
          · rw [if_neg hb]
            by_cases hb2 : b = D
            · subst hb2; rw [if_pos rfl, hDb]
            · rw [if_neg hb2, hB b hb2, ← e2, upd_ne hb]
        rw [e3]
        generalize e4 : upd Ha D _ = H4
        obtain ⟨x4, gD, hD4⟩ := ex_hid (M := No) xa.s hDa e4
        have hx4 : H4 x = some (.ins A.Lot dx []) := x4.same _ _ hxa
        refine ⟨_, rfl, x, A.Lot, dx, _, rfl, hx4, T.Lot.cl, T.no_Lot_own_many, by decide, ?_⟩
        generalize e5 : upd H4 x _ = H5
        have x5 : Ex No G H0 G H5 := e5 ▸ (xa.trans x4).put gx (.inr hx0) (by rw [hx4]; simp)
        have hx5 : H5 x = some (.ins A.Lot dx [("own_many", .ref D)]) := by rw [← e5]; exact upd_same
        have hD5 : H5 D = some (.dK (encD ((tally ps).filter fun p => decide (0 < p.2)))) := by rw [← e5, upd_ne nDx]; exact hD4
        have D0 : H0 D = none := xa.f _ hDa
        have x6 := x5.tell hD5 (s0.free D0) D0
        have x7 := x6.tell hx5 gx hx0
        refine k _ _ x7 ⟨dx, D, _, upd_same, ?_, tally_perm hnn, mk_ok hnn, Nat.lt_of_le_of_lt (mk_len hnn hKs) hK⟩
        rw [upd_ne nDx, upd_same]

end
end LW

namespace LW
open PySem L2 Kt LM DO Va
section
variable {w : World} {K : PySem.W.Frag} {mg : Str → Option Value} {base : Heap} {A : Ads}
theorem ok_Opening_le (T : Txt K mg A) : FnOk P w K mg base CX0 1 A.Opening_le A.Opening_le' ["self", "other"] (spU false (pfO2 A.Opening leD)) := by
  refine T.Opening_le.F.ok sc_Opening_le (fun vs H Q E h => len_U hl_O2 h) (fun cdv Ar outer s H vs Q E hr h => ?_)
  refine ⟨_, pss_cons (ps_if (pt_not (pt_val (pe_callB call_isi (by rfl) T.b_isinstance (by decide +kernel) (pa_cons (pv 1) (pa_cons (pe_glob (v := .ref A.Opening) rfl T.Opening.g rfl) pa_nil))))) (pss_one (ps_never)) (pss_nil))
      (pss_one (ps_ret (pe_cmpR (DO.op_leP K (DO.room66 hr)) (pe_fldK K (pv 0) rfl) (pe_fldK K (pv 1) rfl) (nomark _)))), ?_⟩
  refine run_U (n := 2) (k := 0) h
    (s_seq (s_ifR (rt_not (rt_B (re_isO (re_v 1)))) s_never)
      (s_ret (re_op ro_ord (RE.rv (re_fld T.Opening.cl T.no_Opening_own_key (re_v 0))) (RE.rv (re_fld T.Opening.cl T.no_Opening_own_key (re_v 1)))))) (len_U hl_O2 h) rfl ?_
  rintro as q ⟨k, m, k', m', rfl, s1, s2, hq⟩
  refine ⟨A.Opening, _, true, insC_ins, T.ty_Opening, .own _, kit_self, true, rfl, ifF rfl ?_⟩
  exact ⟨_, _, rfl, rfl, _, _, rfl, rfl, isD_key _ _, isD_key _ _, s1, s2, cmp_key _ _ _ _, hq⟩

end
end LW

namespace LW
open PySem L2 Kt LM DO Va
section
variable {w : World} {K : PySem.W.Frag} {mg : Str → Option Value} {base : Heap} {A : Ads}
theorem ok_Opening_lt (T : Txt K mg A) : FnOk P w K mg base CX0 1 A.Opening_lt A.Opening_lt' ["self", "other"] (spU false (pfO2 A.Opening ltD)) := by
  refine T.Opening_lt.F.ok sc_Opening_lt (fun vs H Q E h => len_U hl_O2 h) (fun cdv Ar outer s H vs Q E hr h => ?_)
  refine ⟨_, pss_cons (ps_if (pt_not (pt_val (pe_callB call_isi (by rfl) T.b_isinstance (by decide +kernel) (pa_cons (pv 1) (pa_cons (pe_glob (v := .ref A.Opening) rfl T.Opening.g rfl) pa_nil))))) (pss_one (ps_never)) (pss_nil))
      (pss_one (ps_ret (pe_cmpR (DO.op_ltP K (DO.room66 hr)) (pe_fldK K (pv 0) rfl) (pe_fldK K (pv 1) rfl) (nomark _)))), ?_⟩
  refine run_U (n := 2) (k := 0) h
    (s_seq (s_ifR (rt_not (rt_B (re_isO (re_v 1)))) s_never)
      (s_ret (re_op ro_ord (RE.rv (re_fld T.Opening.cl T.no_Opening_own_key (re_v 0))) (RE.rv (re_fld T.Opening.cl T.no_Opening_own_key (re_v 1)))))) (len_U hl_O2 h) rfl ?_
  rintro as q ⟨k, m, k', m', rfl, s1, s2, hq⟩
  refine ⟨A.Opening, _, true, insC_ins, T.ty_Opening, .own _, kit_self, true, rfl, ifF rfl ?_⟩
  exact ⟨_, _, rfl, rfl, _, _, rfl, rfl, isD_key _ _, isD_key _ _, s1, s2, cmp_key _ _ _ _, hq⟩

end
end LW

namespace LW
open PySem L2 Kt LM DO Va
section
variable {w : World} {K : PySem.W.Frag} {mg : Str → Option Value} {base : Heap} {A : Ads}
theorem ok_Opening_eq (T : Txt K mg A) : FnOk P w K mg base CX0 1 A.Opening_eq A.Opening_eq' ["self", "other"] (spU false (pfO2 A.Opening PyData.eqv)) := by
  refine T.Opening_eq.F.ok sc_Opening_eq (fun vs H Q E h => len_U hl_O2 h) (fun cdv Ar outer s H vs Q E hr h => ?_)
  refine ⟨_, pss_cons (ps_if (pt_not (pt_val (pe_callB call_isi (by rfl) T.b_isinstance (by decide +kernel) (pa_cons (pv 1) (pa_cons (pe_glob (v := .ref A.Opening) rfl T.Opening.g rfl) pa_nil))))) (pss_one (ps_never)) (pss_nil))
      (pss_one (ps_ret (pe_cmpR (op_eqDK K (by exact hr.units)) (pe_fldK K (pv 0) rfl) (pe_fldK K (pv 1) rfl) (nomark _)))), ?_⟩
  refine run_U (n := 2) (k := 0) h
    (s_seq (s_ifR (rt_not (rt_B (re_isO (re_v 1)))) s_never)
      (s_ret (re_op ro_eqD (RE.rv (re_fld T.Opening.cl T.no_Opening_own_key (re_v 0))) (RE.rv (re_fld T.Opening.cl T.no_Opening_own_key (re_v 1)))))) (len_U hl_O2 h) rfl ?_
  rintro as q ⟨k, m, k', m', rfl, s1, s2, hq⟩
  refine ⟨A.Opening, _, true, insC_ins, T.ty_Opening, .own _, kit_self, true, rfl, ifF rfl ?_⟩
  exact ⟨_, _, rfl, rfl, _, _, rfl, rfl, isD_key _ _, isD_key _ _, s1, s2, hq⟩

end
end LW

namespace LW
open PySem L2 Kt LM DO Va
section
variable {w : World} {K : PySem.W.Frag} {mg : Str → Option Value} {base : Heap} {A : Ads}
theorem same_step (T : Txt K mg A) {F : PyData → Prop} {k : Nat} (GR : FnOk P w K mg base CX0 k A.same A.same' ["_law_got", "_law_due_here"] (spSame F)) :
    FnOk P w K mg base CX0 (k + 2) A.same A.same' ["_law_got", "_law_due_here"] (spSame fun d => Flat d ∨ ∃ ds, (d = .list ds ∨ d = .tuple ds) ∧ ds.length ≤ 10000 ∧ ∀ e ∈ ds, F e) := by
  refine T.same.F.ok sc_same (fun vs H Q E h => ?_) (fun cdv Ar outer s H vs Q E hr h => ?_)
  · obtain ⟨G, x, y, d, rfl, _⟩ := h
    rfl
  · obtain ⟨G, x, y, d, rfl, S, rx, ry, hf, k⟩ := h
    refine ⟨_, pss_cons (ps_if (pt_val (pe_callB call_isiT (by rfl) T.b_isinstance (by decide +kernel) (pa_cons (pv 1) (pa_cons (pe_tup (pa_cons (pe_bltn (v := .ty "list") (by rfl) T.b_list (by decide +kernel) rfl) (pa_cons (pe_bltn (v := .ty "tuple") (by rfl) T.b_tuple (by decide +kernel) rfl) pa_nil))) pa_nil)))) (pss_cons (ps_if (PW.pt (pw_or (pt_cmpR op_ne (pe_callB call_isi (by rfl) T.b_isinstance (by decide +kernel) (pa_cons (pv 0) (pa_cons (pe_bltn (v := .ty "list") (by rfl) T.b_list (by decide +kernel) rfl) pa_nil))) (pe_callB call_isi (by rfl) T.b_isinstance (by decide +kernel) (pa_cons (pv 1) (pa_cons (pe_bltn (v := .ty "list") (by rfl) T.b_list (by decide +kernel) rfl) pa_nil))) (nomark _)) (pw_or1 (pt_cmpR op_ne (pe_callB call_isi (by rfl) T.b_isinstance (by decide +kernel) (pa_cons (pv 0) (pa_cons (pe_bltn (v := .ty "tuple") (by rfl) T.b_tuple (by decide +kernel) rfl) pa_nil))) (pe_callB call_isi (by rfl) T.b_isinstance (by decide +kernel) (pa_cons (pv 1) (pa_cons (pe_bltn (v := .ty "tuple") (by rfl) T.b_tuple (by decide +kernel) rfl) pa_nil))) (nomark _))))) (pss_one (ps_ret (pe_bl))) (pss_nil))
      (pss_one (ps_ret (pe_and (pe_cmpR op_eq (pe_callB (call_len_seqK K) (by rfl) T.b_len (by decide +kernel) (pa_cons (pv 0) pa_nil)) (pe_callB (call_len_seqK K) (by rfl) T.b_len (by decide +kernel) (pa_cons (pv 1) pa_nil)) (nomark _)) (pe_one (pe_callB (cr_allK K rfl) (by rfl) T.b_all (by decide +kernel) (pa_cons (pe_lc (own := [("_law_mine", 2), ("_law_its", 3)]) (g := _) rfl sc_same.nd (RZ.pi_zipA rfl T.b_zip (pa_cons (pv 0) (pa_cons (pv 1) pa_nil))) (blkOk_by (own := [("_law_mine", 2), ("_law_its", 3)]) (N := N_same) (sc := defScope s_same) (by decide +kernel)) (fun _ _ _ _ _ => pg_tupK K 2 rfl (pgs_cons (pg_name (i := 2) sc_same.nd rfl (Or.inl rfl)) (pgs_cons (pg_name (i := 3) sc_same.nd rfl (Or.inl rfl)) pgs_nil))) (fun _ _ _ _ _ => pts_nil) (fun _ _ _ _ _ => by exact pe_call GR (hr.mono (by omega)) rfl T.same.g T.same.F.kp T.same.b .nil pass0 (pa_cons (pv 2) (pa_cons (pv 3) pa_nil)))) pa_nil))))))) (pss_nil))
      (pss_cons (ps_if (pt_val (pe_callB call_isi (by rfl) T.b_isinstance (by decide +kernel) (pa_cons (pv 1) (pa_cons (pe_bltn (v := .ty "dict") (by rfl) T.b_dict (by decide +kernel) rfl) pa_nil)))) (pss_cons (ps_never)
      (pss_one (ps_never))) (pss_nil))
      (pss_cons (ps_if (PW.pt (pw_or (pt_cmpR op_isN (pv 1) (pe_non) (nomark _)) (pw_or1 (pt_val (pe_callB call_isiT (by rfl) T.b_isinstance (by decide +kernel) (pa_cons (pv 1) (pa_cons (pe_tup (pa_cons (pe_bltn (v := .ty "bool") (by rfl) T.b_bool (by decide +kernel) rfl) (pa_cons (pe_bltn (v := .ty "str") (by rfl) T.b_str (by decide +kernel) rfl) pa_nil))) pa_nil))))))) (pss_one (ps_ret (pe_and (pe_cmpR op_eq (pv 0) (pv 1) (nomark _)) (pe_and (pe_cmpR op_eq (pe_callB call_isi (by rfl) T.b_isinstance (by decide +kernel) (pa_cons (pv 0) (pa_cons (pe_bltn (v := .ty "bool") (by rfl) T.b_bool (by decide +kernel) rfl) pa_nil))) (pe_callB call_isi (by rfl) T.b_isinstance (by decide +kernel) (pa_cons (pv 1) (pa_cons (pe_bltn (v := .ty "bool") (by rfl) T.b_bool (by decide +kernel) rfl) pa_nil))) (nomark _)) (pe_one (pe_cmpR op_eq (pe_cmpR op_isN (pv 0) (pe_non) (nomark _)) (pe_cmpR op_isN (pv 1) (pe_non) (nomark _)) (nomark _))))))) (pss_nil))
      (pss_one (ps_ret (pe_and (pe_callB call_isi (by rfl) T.b_isinstance (by decide +kernel) (pa_cons (pv 0) (pa_cons (pe_bltn (v := .ty "int") (by rfl) T.b_int (by decide +kernel) rfl) pa_nil))) (pe_and (pe_not (pe_callB call_isi (by rfl) T.b_isinstance (by decide +kernel) (pa_cons (pv 0) (pa_cons (pe_bltn (v := .ty "bool") (by rfl) T.b_bool (by decide +kernel) rfl) pa_nil)))) (pe_one (pe_cmpR op_eq (pv 0) (pv 1) (nomark _))))))))), ?_⟩
    refine ⟨_, rfl, sz rfl, fun t ht => ?_⟩
    generalize e1 : upd H t _ = H1
    obtain ⟨x1, g1, h1⟩ := ex_hid (M := No) S ht e1
    have t1 := ty_of (K := K) rx x1.s
    have t2 := ty_of (K := K) ry x1.s
    have fin : ∀ H', Ex No G H1 G H' → Q (.bl true) H' := fun H' x2 => k H' (x1.trans x2)
    have p1 : Paired ClsV [V.ty "list", V.ty "tuple"] [.type "list", .type "tuple"] := .cons (.ty _) (.cons (.ty _) .nil)
    have p2 : Paired ClsV [V.ty "bool", V.ty "str"] [.type "bool", .type "str"] := .cons (.ty _) (.cons (.ty _) .nil)
    rcases hf with hf | ⟨ds, hd, hl, hF⟩
    · rcases hf with rfl | ⟨b, rfl⟩ | ⟨i, rfl⟩ | ⟨z, rfl⟩
      · cases rx; cases ry
        refine ⟨_, t, _, _, _, _, rfl, h1, p1, t2, kit2 (r1 := false) (r2 := false) (by decide +kernel) (by decide +kernel), _, rfl, ifF rfl ?_⟩
        refine ⟨_, rfl, _, _, _, _, _, rfl, .ty _, t2, kit_ty (r := false) (by decide +kernel), _, rfl, ifF rfl ?_⟩
        refine ⟨_, rfl, rfl, _, rfl, ifT rfl (ifT rfl ?_)⟩
        refine ⟨_, rfl, _, rfl, rfl, _, rfl, ifT (decide_eq_true rfl) ?_⟩
        refine ⟨_, rfl, _, _, _, _, _, rfl, .ty _, t1, kit_ty (r := false) (by decide +kernel), _, rfl, _, _, _, _, _, rfl, .ty _, t2, kit_ty (r := false) (by decide +kernel), rfl, _, rfl, ifT rfl ?_⟩
        refine ⟨_, rfl, rfl, _, rfl, rfl, rfl, ?_⟩
        exact fin _ (Ex.refl x1.s)
      · cases rx; cases ry
        change TyX K H1 _ (.type "bool") at t1 t2
        refine ⟨_, t, _, _, _, _, rfl, h1, p1, t2, kit2 (r1 := false) (r2 := false) (by decide +kernel) (by decide +kernel), _, rfl, ifF rfl ?_⟩
        refine ⟨_, rfl, _, _, _, _, _, rfl, .ty _, t2, kit_ty (r := false) (by decide +kernel), _, rfl, ifF rfl ?_⟩
        refine ⟨_, rfl, rfl, _, rfl, ifF rfl ⟨_, rfl, sz rfl, fun t' ht' => ?_⟩⟩
        generalize e2 : upd H1 t' _ = H2
        obtain ⟨x2, g2, h2⟩ := ex_hid (M := No) x1.s ht' e2
        have t1 : TyX K H2 (.bl b) (.type "bool") := ty_of (K := K) (Rp.bl (G := G) _) x2.s
        refine ⟨_, t', _, _, _, _, rfl, h2, p2, t1, kit2 (r1 := true) (r2 := false) (by decide +kernel) (by decide +kernel), _, rfl, ifT rfl ?_⟩
        refine ⟨_, rfl, _, rfl, rfl, _, rfl, ifT (decide_eq_true rfl) ?_⟩
        refine ⟨_, rfl, _, _, _, _, _, rfl, .ty _, t1, kit_ty (r := true) (by decide +kernel), _, rfl, _, _, _, _, _, rfl, .ty _, t1, kit_ty (r := true) (by decide +kernel), rfl, _, rfl, ifT rfl ?_⟩
        refine ⟨_, rfl, rfl, _, rfl, rfl, rfl, ?_⟩
        exact fin _ x2
      · cases rx; cases ry
        change TyX K H1 _ (.type "int") at t1 t2
        refine ⟨_, t, _, _, _, _, rfl, h1, p1, t2, kit2 (r1 := false) (r2 := false) (by decide +kernel) (by decide +kernel), _, rfl, ifF rfl ?_⟩
        refine ⟨_, rfl, _, _, _, _, _, rfl, .ty _, t2, kit_ty (r := false) (by decide +kernel), _, rfl, ifF rfl ?_⟩
        refine ⟨_, rfl, rfl, _, rfl, ifF rfl ⟨_, rfl, sz rfl, fun t' ht' => ?_⟩⟩
        generalize e2 : upd H1 t' _ = H2
        obtain ⟨x2, g2, h2⟩ := ex_hid (M := No) x1.s ht' e2
        have t1 : TyX K H2 (.int i) (.type "int") := ty_of (K := K) (Rp.int (G := G) i) x2.s
        refine ⟨_, t', _, _, _, _, rfl, h2, p2, t1, kit2 (r1 := false) (r2 := false) (by decide +kernel) (by decide +kernel), _, rfl, ifF rfl ?_⟩
        refine ⟨_, rfl, _, _, _, _, _, rfl, .ty _, t1, kit_ty (r := true) (by decide +kernel), _, rfl, ifT rfl ?_⟩
        refine ⟨_, rfl, _, _, _, _, _, rfl, .ty _, t1, kit_ty (r := false) (by decide +kernel), _, rfl, _, rfl, ifT rfl ?_⟩
        refine ⟨_, rfl, _, rfl, rfl, ?_⟩
        rw [decide_eq_true rfl]
        exact fin _ x2
      · cases rx; cases ry
        change TyX K H1 _ (.type "str") at t1 t2
        refine ⟨_, t, _, _, _, _, rfl, h1, p1, t2, kit2 (r1 := false) (r2 := false) (by decide +kernel) (by decide +kernel), _, rfl, ifF rfl ?_⟩
        refine ⟨_, rfl, _, _, _, _, _, rfl, .ty _, t2, kit_ty (r := false) (by decide +kernel), _, rfl, ifF rfl ?_⟩
        refine ⟨_, rfl, rfl, _, rfl, ifF rfl ⟨_, rfl, sz rfl, fun t' ht' => ?_⟩⟩
        generalize e2 : upd H1 t' _ = H2
        obtain ⟨x2, g2, h2⟩ := ex_hid (M := No) x1.s ht' e2
        have t1 : TyX K H2 (.str z) (.type "str") := ty_of (K := K) (Rp.str (G := G) _) x2.s
        refine ⟨_, t', _, _, _, _, rfl, h2, p2, t1, kit2 (r1 := false) (r2 := true) (by decide +kernel) (by decide +kernel), _, rfl, ifT rfl ?_⟩
        refine ⟨_, rfl, _, rfl, rfl, _, rfl, ifT (decide_eq_true rfl) ?_⟩
        refine ⟨_, rfl, _, _, _, _, _, rfl, .ty _, t1, kit_ty (r := false) (by decide +kernel), _, rfl, _, _, _, _, _, rfl, .ty _, t1, kit_ty (r := false) (by decide +kernel), rfl, _, rfl, ifT rfl ?_⟩
        refine ⟨_, rfl, rfl, _, rfl, rfl, rfl, ?_⟩
        exact fin _ x2
    · rcases hd with rfl | rfl
      · obtain ⟨a, xs, rfl, ga, ra⟩ := of_lst rx
        obtain ⟨b, ys, rfl, gb, rb⟩ := of_lst ry
        change TyX K H1 _ (.type "list") at t1 t2
        have la := ra.length
        have lb := rb.length
        have sa := SqL.of (K := K) (x1.s _ _ ga)
        have sb := SqL.of (K := K) (x1.s _ _ gb)
        refine ⟨_, t, _, _, _, _, rfl, h1, p1, t2, kit2 (r1 := true) (r2 := false) (by decide +kernel) (by decide +kernel), _, rfl, ifT rfl ?_⟩
        refine ⟨_, rfl, _, _, _, _, _, rfl, .ty _, t1, kit_ty (r := true) (by decide +kernel), _, rfl, _, _, _, _, _, rfl, .ty _, t2, kit_ty (r := true) (by decide +kernel), rfl, _, rfl, ifF rfl ?_⟩
        refine ⟨_, rfl, _, _, _, _, _, rfl, .ty _, t1, kit_ty (r := false) (by decide +kernel), _, rfl, _, _, _, _, _, rfl, .ty _, t2, kit_ty (r := false) (by decide +kernel), rfl, _, rfl, ifF rfl ?_⟩
        refine ⟨_, rfl, a, _, rfl, .inl sa, _, rfl, b, _, rfl, .inl sb, rfl, _, rfl, ifT (decide_eq_true (by rw [la, lb])) ?_⟩
        refine ⟨_, rfl, _, rfl, a, b, xs, ys, rfl, .inl ⟨sa, sb, fun D hD => ?_⟩⟩
        have gD : G D = none := x1.s.free hD
        refine lc_it (walk_zip (K := K) (a := a) (b := b) (xs := xs) (ys := ys) (n := ds.length) (by omega)) (fun i H' => Ex No G H1 G H' ∧ H' D = some (.lst (List.replicate i (.bl true)))) ⟨Ex.hid x1.s hD, upd_same⟩
          (fun i H' _ h => ⟨SqL.of (h.1.s _ _ ga), SqL.of (h.1.s _ _ gb)⟩) ?_ ?_
        · rintro i y Ha Hb hi ⟨xa, hDa⟩ ⟨tt, u, v, rfl, htt, rfl, hu, hv⟩
          generalize e3 : upd Ha tt _ = H3
          obtain ⟨x3, g3, h3⟩ := ex_hid (M := No) xa.s htt e3
          obtain ⟨d, hd, r1⟩ := ra.get hu
          obtain ⟨d', hd', r2⟩ := rb.get hv
          rw [hd] at hd'
          cases hd'
          refine ⟨tt, _, rfl, SqT.of h3, rfl, _, _, rfl, _, _, rfl, rfl, rfl, _, rfl, _, rfl, G, u, v, d, rfl, x3.s, r1, r2, hF d (List.mem_of_getElem? hd), fun H4 x4 => ?_⟩
          have x14 := xa.trans (x3.trans x4)
          have hD4 : H4 D = some (.lst (List.replicate i (.bl true))) := x4.same _ _ (x3.same _ _ hDa)
          refine ⟨_, hD4, szl (by rw [List.length_replicate]; omega), x14.put gD (.inr hD) (by rw [hD4]; simp), ?_⟩
          rw [upd_same, List.replicate_succ']
        · rintro H' ⟨xa, hDa⟩
          refine ⟨D, List.replicate ds.length true, rfl, SqL.of (by rw [hDa, List.map_replicate]), ?_⟩
          have e : (List.replicate ds.length true).all id = true := by simp
          rw [e]
          exact fin _ xa
      · obtain ⟨a, xs, rfl, ga, ra⟩ := of_tup rx
        obtain ⟨b, ys, rfl, gb, rb⟩ := of_tup ry
        change TyX K H1 _ (.type "tuple") at t1 t2
        have la := ra.length
        have lb := rb.length
        have sa := SqT.of (K := K) (x1.s _ _ ga)
        have sb := SqT.of (K := K) (x1.s _ _ gb)
        refine ⟨_, t, _, _, _, _, rfl, h1, p1, t2, kit2 (r1 := false) (r2 := true) (by decide +kernel) (by decide +kernel), _, rfl, ifT rfl ?_⟩
        refine ⟨_, rfl, _, _, _, _, _, rfl, .ty _, t1, kit_ty (r := false) (by decide +kernel), _, rfl, _, _, _, _, _, rfl, .ty _, t2, kit_ty (r := false) (by decide +kernel), rfl, _, rfl, ifF rfl ?_⟩
        refine ⟨_, rfl, _, _, _, _, _, rfl, .ty _, t1, kit_ty (r := true) (by decide +kernel), _, rfl, _, _, _, _, _, rfl, .ty _, t2, kit_ty (r := true) (by decide +kernel), rfl, _, rfl, ifF rfl ?_⟩
        refine ⟨_, rfl, a, _, rfl, .inr sa, _, rfl, b, _, rfl, .inr sb, rfl, _, rfl, ifT (decide_eq_true (by rw [la, lb])) ?_⟩
        refine ⟨_, rfl, _, rfl, a, b, xs, ys, rfl, .inr ⟨sa, sb, fun D hD => ?_⟩⟩
        have gD : G D = none := x1.s.free hD
        refine lc_it (walk_zipT (K := K) (a := a) (b := b) (xs := xs) (ys := ys) (n := ds.length) (by omega)) (fun i H' => Ex No G H1 G H' ∧ H' D = some (.lst (List.replicate i (.bl true)))) ⟨Ex.hid x1.s hD, upd_same⟩
          (fun i H' _ h => ⟨SqT.of (h.1.s _ _ ga), SqT.of (h.1.s _ _ gb)⟩) ?_ ?_
        · rintro i y Ha Hb hi ⟨xa, hDa⟩ ⟨tt, u, v, rfl, htt, rfl, hu, hv⟩
          generalize e3 : upd Ha tt _ = H3
          obtain ⟨x3, g3, h3⟩ := ex_hid (M := No) xa.s htt e3
          obtain ⟨d, hd, r1⟩ := ra.get hu
          obtain ⟨d', hd', r2⟩ := rb.get hv
          rw [hd] at hd'
          cases hd'
          refine ⟨tt, _, rfl, SqT.of h3, rfl, _, _, rfl, _, _, rfl, rfl, rfl, _, rfl, _, rfl, G, u, v, d, rfl, x3.s, r1, r2, hF d (List.mem_of_getElem? hd), fun H4 x4 => ?_⟩
          have x14 := xa.trans (x3.trans x4)
          have hD4 : H4 D = some (.lst (List.replicate i (.bl true))) := x4.same _ _ (x3.same _ _ hDa)
          refine ⟨_, hD4, szl (by rw [List.length_replicate]; omega), x14.put gD (.inr hD) (by rw [hD4]; simp), ?_⟩
          rw [upd_same, List.replicate_succ']
        · rintro H' ⟨xa, hDa⟩
          refine ⟨D, List.replicate ds.length true, rfl, SqL.of (by rw [hDa, List.map_replicate]), ?_⟩
          have e : (List.replicate ds.length true).all id = true := by simp
          rw [e]
          exact fin _ xa
theorem same_all (T : Txt K mg A) : ∀ n, FnOk P w K mg base CX0 (2 * n) A.same A.same' ["_law_got", "_law_due_here"] (spSame (Fit n))
  | 0 => ⟨fun _ _ _ _ h => by obtain ⟨_, _, _, _, _, _, _, _, h, _⟩ := h; exact h.elim, fun _ _ _ _ _ _ _ _ _ _ _ _ _ h => by obtain ⟨_, _, _, _, _, _, _, _, h, _⟩ := h; exact h.elim⟩
  | n + 1 => same_step T (same_all T n)
theorem ok_same (T : Txt K mg A) : FnOk P w K mg base CX0 14 A.same A.same' ["_law_got", "_law_due_here"] (spSame (Fit 7)) := same_all T 7

end
end LW

namespace LW
open PySem L2 Kt LM DO Va
section
variable {w : World} {K : PySem.W.Frag} {mg : Str → Option Value} {base : Heap} {A : Ads}
/-- what is made, and what is raised -/
def pfOne (CO CL : Addr) : Pf := fun us q => ∃ (k : Str) (m : Pr) (n : Int), us = [.str k, lotU CL m, .int n] ∧
  (m = [] → q (.lst [.non, .lst [.lst [.str k, .bl true, .bl false], .non]])) ∧
  (Ok m → m.length < 64 → m ≠ [] → lk m k ≠ 0 → q (.lst [.non, .lst [.non, .lst [.tup [.str k], .bl true, .bl false]]])) ∧
  (Ok m → m.length < 64 → m ≠ [] → lk m k = 0 → q (.lst [opU CO k m, .lst [.non, .non]]))
theorem hl_one {CO CL : Addr} : ∀ us q, pfOne CO CL us q → us.length = 3 := by rintro us q ⟨k, m, n, rfl, _⟩; rfl
theorem ok_one (T : Txt K mg A) : FnOk P w K mg base CX0 5 A.one A.one' ["_law_kind_so", "_law_lot_so", "_law_near"] (spU false (pfOne A.Opening A.Lot)) := by
  refine T.one.F.ok sc_one (fun vs H Q E h => len_U hl_one h) (fun cdv Ar outer s H vs Q E hr h => ?_)
  refine ⟨_, pss_cons (ps_asg (pe_tup (pa_cons (pe_non) (pa_cons (pe_non) (pa_cons (pe_non) pa_nil)))) (pg_tupK K 3 rfl (pgs_cons (pg_name (i := 3) sc_one.nd rfl (Or.inl rfl)) (pgs_cons (pg_name (i := 4) sc_one.nd rfl (Or.inl rfl)) (pgs_cons (pg_name (i := 5) sc_one.nd rfl (Or.inl rfl)) pgs_nil)))))
      (pss_cons (ps_try_asT2 (i := 6) (i' := 7) rfl rfl rfl sc_one.nd rfl rfl rfl rfl ⟨rfl, by decide, .inl T.Hollow.g⟩ ⟨rfl, by decide, .inl T.Ringed.g⟩ takes_no (fun W pn xe tk po => by exact pss_one (ps_if (pt_cmpR op_eq (pv 2) (pe_int) (nomark _)) (pss_one (ps_set (i := 3) sc_one.nd rfl (Or.inl rfl) (pe_makeS (T.Opening_init.mk_ T.Opening) (ok_Opening_init T) (hr.mono (by decide)) rfl T.Opening.g T.Opening_init.b .nil (fun σ => passS tk σ) (pa_cons (pv 0) (pa_cons (pv 1) pa_nil))))) (pss_one (ps_set (i := 3) sc_one.nd rfl (Or.inl rfl) (pe_makeK0S (T.Opening_init.mk_ T.Opening) (ok_Opening_init T) (hr.mono (by decide)) rfl T.Opening.g T.Opening_init_K_contents_kind (fun σ => passS tk σ) (pk_cons (pv 1) (pk_cons (pv 0) pk_nil))))))) (fun a oe cls d pn z hd => by exact pss_one (ps_set (i := 4) sc_one.nd rfl (Or.inl rfl) (pv 6))) (fun a oe cls d pn z hd => by exact pss_one (ps_set (i := 5) sc_one.nd rfl (Or.inl rfl) (pv 7))))
      (pss_cons (ps_set (i := 8) sc_one.nd rfl (Or.inl rfl) (pe_lst (pa_cons (pe_non) (pa_cons (pe_non) pa_nil))))
      (pss_cons (ps_if (pt_cmpR op_notN (pv 4) (pe_non) (nomark _)) (pss_one (ps_asg (pe_lst (pa_cons (pe_xfA (K := K) (pv 4)) (pa_cons (pe_callB (call_isX K) (by rfl) T.b_isinstance (by decide +kernel) (pa_cons (pv 4) (pa_cons (pe_bltn (v := .ty "ValueError") (by rfl) T.b_ValueError (by decide +kernel) rfl) pa_nil))) (pa_cons (pe_callB (call_isX K) (by rfl) T.b_isinstance (by decide +kernel) (pa_cons (pv 4) (pa_cons (pe_glob (v := .ref A.Ringed) rfl T.Ringed.g rfl) pa_nil))) pa_nil)))) (pg_sub (pv 8) (pe_int) set_list))) (pss_nil))
      (pss_cons (ps_if (pt_cmpR op_notN (pv 5) (pe_non) (nomark _)) (pss_one (ps_asg (pe_lst (pa_cons (pe_xfA (K := K) (pv 5)) (pa_cons (pe_callB (call_isX K) (by rfl) T.b_isinstance (by decide +kernel) (pa_cons (pv 5) (pa_cons (pe_bltn (v := .ty "ValueError") (by rfl) T.b_ValueError (by decide +kernel) rfl) pa_nil))) (pa_cons (pe_callB (call_isX K) (by rfl) T.b_isinstance (by decide +kernel) (pa_cons (pv 5) (pa_cons (pe_glob (v := .ref A.Hollow) rfl T.Hollow.g rfl) pa_nil))) pa_nil)))) (pg_sub (pv 8) (pe_int) set_list))) (pss_nil))
      (pss_one (ps_ret (pe_lst (pa_cons (pv 3) (pa_cons (pv 8) pa_nil))))))))), ?_⟩
  refine run_U (n := 3) (k := 6) h
    (s_seq (s_asg (RN.re (rn_tup (ra_cons re_non (ra_cons re_non (ra_cons re_non ra_nil))))) (rg_tup (rgs_cons rg_name (rgs_cons rg_name (rgs_cons rg_name rgs_nil)))))
      (s_seq (s_try2 (msx := [.fz, .fz, .fz, .fz, .fz, .fz, .junk, .junk, .junk]) (ml := [.fz, .fz, .fz, .fz, .fz, .fz, .junk, .junk, .junk]) 6 4 7 5 (by decide) (by decide) (fun W => (t_if (ml := [.fz, .fz, .fz, .fz, .fz, .fz, .junk, .junk, .junk]) (rt_test (re_op ro_eq (RE.rv (re_v 2)) (RE.rv re_int))) (t_make 3 (ra_cons (re_v 0) (ra_cons (re_v 1) ra_nil))) (t_makeS 3 (ra_cons (re_v 1) (ra_cons (re_v 0) ra_nil))))))
      (s_seq (s_own 8 (rn_lst (ra_cons re_non (ra_cons re_non ra_nil))))
      (s_seq (s_if (ml := [.fz, .fz, .fz, .fz, .fz, .fz, .junk, .junk, .own]) (rt_test (re_op ro_notNX (RE.rv (re_v 4)) (RE.rv re_non))) (s_lput 8 (RN.re (rn_lst (ra_cons (re_xf (re_v 4)) (ra_cons (re_isX (re_v 4)) (ra_cons (re_isX (re_v 4)) ra_nil))))) re_int) s_next)
      (s_seq (s_if (ml := [.fz, .fz, .fz, .fz, .fz, .fz, .junk, .junk, .own]) (rt_test (re_op ro_notNX (RE.rv (re_v 5)) (RE.rv re_non))) (s_lput 8 (RN.re (rn_lst (ra_cons (re_xf (re_v 5)) (ra_cons (re_isX (re_v 5)) (ra_cons (re_isX (re_v 5)) ra_nil))))) re_int) s_next)
      (s_frz 8 (s_ret (RN.re (rn_lst (ra_cons (re_v 3) (ra_cons (re_v 8) ra_nil))))))))))) (len_U hl_one h) rfl ?_
  rintro as q ⟨k, m, n, rfl, h1, h2, h3⟩
  refine ⟨szz rfl, _, rfl, rfl, _, _, rfl, _, _, rfl, _, _, rfl, rfl, _, rfl, _, rfl, if2 (fun _ => ?_) (fun _ => ?_)⟩
  · refine ⟨k, m, rfl, fun ho hl hne hz => ?_, fun he => ?_, fun ho hl hne hz => ?_⟩
    · have hq := h3 ho hl hne hz
      exact ⟨szz rfl, rfl, true, .inl rfl, _, rfl, ifF rfl ⟨rfl, true, .inl rfl, _, rfl, ifF rfl ⟨szz rfl, hq⟩⟩⟩
    · have hq := h1 he
      refine ⟨_, rfl, .inl ⟨T.Hollow.em, szz rfl, rfl, false, .inr ⟨rfl, nonN_xd⟩, _, rfl, ifT rfl ?_⟩⟩
      refine ⟨_, _, _, rfl, T.Hollow.xf, T.no_Hollow_kind, rfl, A.Hollow, _, true, .inl ⟨_, rfl⟩, T.Hollow.c, .ty _, T.is_Hollow_ValueError_true, A.Hollow, _, false, .inl ⟨_, rfl⟩, T.Hollow.c, .own _, T.is_Hollow_Ringed_false, szz rfl, _, 0, 0, rfl, rfl, rfl, ?_⟩
      exact ⟨rfl, true, .inl rfl, _, rfl, ifF rfl ⟨szz rfl, hq⟩⟩
    · have hq := h2 ho hl hne hz
      refine ⟨_, rfl, .inr ⟨T.ex_Ringed_Hollow_false, T.Ringed.em, szz rfl, rfl, true, .inl rfl, _, rfl, ifF rfl ⟨rfl, false, .inr ⟨rfl, nonN_xd⟩, _, rfl, ifT rfl ?_⟩⟩⟩
      refine ⟨_, _, _, rfl, T.Ringed.xf, T.no_Ringed_ring, rfl, A.Ringed, _, true, .inl ⟨_, rfl⟩, T.Ringed.c, .ty _, T.is_Ringed_ValueError_true, A.Ringed, _, false, .inl ⟨_, rfl⟩, T.Ringed.c, .own _, T.is_Ringed_Hollow_false, szz rfl, _, 1, 1, rfl, rfl, rfl, ?_⟩
      exact ⟨szz rfl, hq⟩
  · refine ⟨_, _, rfl, k, m, rfl, fun ho hl hne hz => ?_, fun he => ?_, fun ho hl hne hz => ?_⟩
    · have hq := h3 ho hl hne hz
      exact ⟨szz rfl, rfl, true, .inl rfl, _, rfl, ifF rfl ⟨rfl, true, .inl rfl, _, rfl, ifF rfl ⟨szz rfl, hq⟩⟩⟩
    · have hq := h1 he
      refine ⟨_, rfl, .inl ⟨T.Hollow.em, szz rfl, rfl, false, .inr ⟨rfl, nonN_xd⟩, _, rfl, ifT rfl ?_⟩⟩
      refine ⟨_, _, _, rfl, T.Hollow.xf, T.no_Hollow_kind, rfl, A.Hollow, _, true, .inl ⟨_, rfl⟩, T.Hollow.c, .ty _, T.is_Hollow_ValueError_true, A.Hollow, _, false, .inl ⟨_, rfl⟩, T.Hollow.c, .own _, T.is_Hollow_Ringed_false, szz rfl, _, 0, 0, rfl, rfl, rfl, ?_⟩
      exact ⟨rfl, true, .inl rfl, _, rfl, ifF rfl ⟨szz rfl, hq⟩⟩
    · have hq := h2 ho hl hne hz
      refine ⟨_, rfl, .inr ⟨T.ex_Ringed_Hollow_false, T.Ringed.em, szz rfl, rfl, true, .inl rfl, _, rfl, ifF rfl ⟨rfl, false, .inr ⟨rfl, nonN_xd⟩, _, rfl, ifT rfl ?_⟩⟩⟩
      refine ⟨_, _, _, rfl, T.Ringed.xf, T.no_Ringed_ring, rfl, A.Ringed, _, true, .inl ⟨_, rfl⟩, T.Ringed.c, .ty _, T.is_Ringed_ValueError_true, A.Ringed, _, false, .inl ⟨_, rfl⟩, T.Ringed.c, .own _, T.is_Ringed_Hollow_false, szz rfl, _, 1, 1, rfl, rfl, rfl, ?_⟩
      exact ⟨szz rfl, hq⟩

end
end LW

namespace LW
open PySem L2 Kt LM DO Va
section
variable {w : World} {K : PySem.W.Frag} {mg : Str → Option Value} {base : Heap} {A : Ads}
theorem ok_rising (T : Txt K mg A) : FnOk P w K mg base CX0 1 A.rising A.rising' ["_law_rows_so"] spRising := by
  refine T.rising.F.ok sc_rising (fun vs H Q E h => ?_) (fun cdv Ar outer s H vs Q E hr h => ?_)
  · obtain ⟨G, v, ds, rfl, _⟩ := h
    rfl
  · obtain ⟨G, v, ds, rfl, S, hv, hsh, hcm, hlen, k⟩ := h
    refine ⟨_, pss_cons (ps_set (i := 1) sc_rising.nd rfl (Or.inl rfl) (pe_lst pa_nil))
      (pss_cons (ps_for PassesOwn.never rfl (pi_seqK K (pv 0)) (pg_name (i := 2) sc_rising.nd rfl (Or.inr rfl))
        (pss_cons (ps_set (i := 3) sc_rising.nd rfl (Or.inl rfl) (pe_callB (call_len_seqK K) (by rfl) T.b_len (by decide +kernel) (pa_cons (pe_lc (own := [("_law_own", 4)]) (g := (gName 4)) rfl sc_rising.nd (pi_listK K (pv 1)) (blkOk_by (own := [("_law_own", 4)]) (N := N_rising) (sc := defScope s_rising) (by decide +kernel)) (fun _ _ _ _ _ => pg_name (i := 4) sc_rising.nd rfl (Or.inl rfl)) (fun _ _ _ _ _ => pts_one (pt_cmpR (DO.op_leP K (DO.room66 hr)) (pv 4) (pv 2) (nomark _))) (fun _ _ _ _ _ => by exact pe_int)) pa_nil)))
      (pss_one (ps_set (i := 1) sc_rising.nd rfl (Or.inl rfl) (pe_op op_cat (pe_op op_cat (pe_slice (sl_listK K) (pv 1) po_none (po_some (pv 3))) (pe_lst (pa_cons (pv 2) pa_nil))) (pe_slice (sl_listK K) (pv 1) (po_some (pv 3)) po_none))))))
      (pss_one (ps_ret (pv 1)))), ?_⟩
    obtain ⟨q, xs, rfl, hq, rq⟩ : ∃ q xs, v = .ref q ∧ (SqL K G q xs ∨ SqT K G q xs) ∧ RpA G xs ds := by
      rcases hv with h | h
      · obtain ⟨q, xs, e, g, r⟩ := of_lst h; exact ⟨q, xs, e, .inl (SqL.of g), r⟩
      · obtain ⟨q, xs, e, g, r⟩ := of_tup h; exact ⟨q, xs, e, .inr (SqT.of g), r⟩
    have lx := rq.length
    refine ⟨Nat.zero_le _, fun l0 hl0 => ?_⟩
    generalize e1 : upd H l0 _ = H1
    obtain ⟨G1, x1, g1⟩ := ex_new (M := No) S hl0 e1
    refine ⟨_, rfl, q, G, xs, rfl, x1.g.trans x1.s, hq, fun J wJ => ?_⟩
    refine for_it wJ (fun i σ H' => ∃ (v2 v3 v4 : Option V) (u : V) (G2 : Hp), σ = [some (.ref q), some u, v2, v3, v4] ∧ Ex No G H G2 H' ∧ Rp G2 u (.list (risD (ds.take i))))
      ⟨_, _, _, _, G1, rfl, x1, .lst g1 .nil⟩ (fun i σ H' _ h => by obtain ⟨_, _, _, _, G2, _, x2, _⟩ := h; exact x2.g.trans x2.s) ?_ ?_
    · rintro i y σ Ha Hb hi ⟨v2, v3, v4, u, G2, rfl, x2, r2⟩ ⟨rfl, hy⟩
      obtain ⟨d, hd, rd⟩ := rq.get hy
      have hdm : d ∈ ds := List.mem_of_getElem? hd
      have rd2 := rd.mono x2.g
      obtain ⟨l, ys, rfl, gl, rl⟩ := of_lst r2
      have hperm := risD_perm (ds.take i)
      have hin : ∀ e ∈ risD (ds.take i), e ∈ ds := fun e he => List.mem_of_mem_take (hperm.mem_iff.mp he)
      have ll := rl.length
      rw [hperm.length_eq, List.length_take] at ll
      -- at = len([1 for own in done if own <= row])
      refine ⟨_, rfl, l, rfl, ⟨_, SqL.of (x2.s _ _ gl)⟩, fun D hD => ?_⟩
      have D2 : G2 D = none := x2.s.free hD
      refine lc_it (walk_list (K := K) (a := l) (xs := ys)) (fun j H' => Ex No G2 Hb G2 H' ∧ H' D = some (.lst (List.replicate (((risD (ds.take i)).take j).filter fun e => leD e d).length (.int 1))))
        ⟨Ex.hid x2.s hD, upd_same⟩ (fun j H' _ h => SqL.of (h.1.s _ _ gl)) ?_ ?_
      · rintro j z Hc Hd hj ⟨x3, hDc⟩ ⟨rfl, hz⟩
        obtain ⟨e, he, re⟩ := rl.get hz
        have hem : e ∈ ds := hin e (List.mem_of_getElem? he)
        have et : (risD (ds.take i)).take (j + 1) = (risD (ds.take i)).take j ++ [e] := by rw [List.take_add_one, he]; rfl
        refine ⟨rfl, _, rfl, _, rfl, e, d, (re.mono x3.s).dp, (rd2.mono x3.s).dp, hsh e hem, hsh d hdm, hcm e hem d hdm, _, rfl, ?_⟩
        refine if2 (fun hb => ?_) (fun hb => ?_)
        · refine ⟨_, hDc, szl ?_, x3.put D2 (.inr hD) (by rw [hDc]; simp), ?_⟩
          · rw [List.length_replicate]
            have := List.length_filter_le (fun e => leD e d) ((risD (ds.take i)).take j)
            rw [List.length_take] at this
            rw [hperm.length_eq, List.length_take] at this
            omega
          · rw [upd_same, et, List.filter_append, List.length_append]
            simp only [List.filter_cons, hb, if_true, List.filter_nil, List.length_singleton]
            rw [List.replicate_succ']
        · refine ⟨x3, ?_⟩
          rw [hDc, et, List.filter_append]
          simp [hb]
      · rintro Hc ⟨x3, hDc⟩
        have lyl : ys.length = (risD (ds.take i)).length := by rw [ll, hperm.length_eq, List.length_take]
        rw [lyl, List.take_of_length_le (Nat.le_refl _)] at hDc
        refine ⟨D, _, rfl, .inl (SqL.of hDc), ?_⟩
        rw [List.length_replicate]
        have cn := List.length_filter_le (fun e => leD e d) (risD (ds.take i))
        generalize hcnt : ((risD (ds.take i)).filter fun e => leD e d).length = cnt at *
        -- done[:at] + [row] + done[at:]
        refine ⟨_, rfl, _, rfl, _, rfl, l, _, rfl, SqL.of (x3.s _ _ gl), fun a4 h4 => ?_⟩
        generalize e4 : upd Hc a4 _ = H4
        obtain ⟨G4, x4, g4⟩ := ex_new (M := No) x3.s h4 e4
        rw [cut_to] at g4
        refine ⟨_, rfl, sz rfl, fun a5 h5 => ?_⟩
        generalize e5 : upd H4 a5 _ = H5
        obtain ⟨G5, x5, g5⟩ := ex_new (M := No) x4.s h5 e5
        refine ⟨a4, a5, _, _, rfl, rfl, x5.s _ _ (x5.g _ _ g4), x5.s _ _ g5, szL (by rw [List.length_take]; simp; omega), fun a6 h6 => ?_⟩
        generalize e6 : upd H5 a6 _ = H6
        obtain ⟨G6, x6, g6⟩ := ex_new (M := No) x5.s h6 e6
        refine ⟨_, rfl, _, rfl, _, rfl, l, _, rfl, SqL.of (x6.s _ _ (x6.g _ _ (x5.g _ _ (x4.g _ _ gl)))), fun a7 h7 => ?_⟩
        generalize e7 : upd H6 a7 _ = H7
        obtain ⟨G7, x7, g7⟩ := ex_new (M := No) x6.s h7 e7
        rw [cut_from] at g7
        refine ⟨a6, a7, _, _, rfl, rfl, x7.s _ _ (x7.g _ _ g6), x7.s _ _ g7, szL (by rw [List.length_append, List.length_take, List.length_drop]; simp; omega), fun a8 h8 => ?_⟩
        generalize e8 : upd H7 a8 _ = H8
        obtain ⟨G8, x8, g8⟩ := ex_new (M := No) x7.s h8 e8
        have x48 : Ex No G2 Hb G8 H8 := x3.trans (x4.trans (x5.trans (x6.trans (x7.trans x8))))
        refine ⟨_, _, _, _, G8, rfl, x2.trans x48, .lst g8 ?_⟩
        rw [risD_take hd]
        unfold insD
        rw [hcnt]
        have rl8 := rl.mono x48.g
        exact ((rl8.take cnt).app (.cons (rd2.mono x48.g) .nil)).app (rl8.drop cnt)
    · rintro σ Ha ⟨v2, v3, v4, u, G2, rfl, x2, r2⟩
      rw [lx, List.take_of_length_le (Nat.le_refl _)] at r2
      exact ⟨_, rfl, k G2 Ha u x2 r2⟩

end
end LW

namespace LW
open PySem L2 Kt LM DO Va
section
variable {w : World} {K : PySem.W.Frag} {mg : Str → Option Value} {base : Heap} {A : Ads}
theorem ok_pairs (T : Txt K mg A) : FnOk P w K mg base CX0 3 A.pairs A.pairs' ["_law_numbers_so"] spPairs := by
  refine T.pairs.F.ok sc_pairs (fun vs H Q E h => ?_) (fun cdv Ar outer s H vs Q E hr h => ?_)
  · obtain ⟨G, a, d, rfl, _⟩ := h
    rfl
  · obtain ⟨G, a, d, rfl, S, ha, hn, hl, hsh, k⟩ := h
    refine ⟨_, pss_cons (ps_lock (ps_setLc (i := 1) (own := [("_law_own", 2)]) (g := (gName 2)) rfl sc_pairs.nd rfl rfl (sw_true rfl rfl rfl (by decide +kernel)) (pi_keys (pv 0)) (blkOk_by (own := [("_law_own", 2)]) (N := N_pairs) (sc := defScope s_pairs) (by decide +kernel)) (fun _ _ _ _ _ => pg_name (i := 2) sc_pairs.nd rfl (Or.inl rfl)) (fun _ _ _ _ _ => pts_one (pt_cmpR op_gt (pe_dget (hu_of hr) (pv 0) (pv 2) (fun _ _ => rfl)) (pe_int) (nomark _))) (fun _ _ _ _ _ => by exact pe_tup (pa_cons (pv 2) (pa_cons (pe_dget (hu_of hr) (pv 0) (pv 2) (fun _ _ => rfl)) pa_nil)))))
      (pss_one (ps_ret (pe_callTy (call_tuple_ofK K) (by rfl) T.b_tuple (by decide +kernel) (pa_cons (pe_call (ok_rising T) (hr.mono (by decide)) rfl T.rising.g T.rising.F.kp T.rising.b .nil pass0 (pa_cons (pv 1) pa_nil)) pa_nil)))), ?_⟩
    have hfa := S _ _ ha
    refine ⟨a, _, hfa, trivial, fun od => ?_⟩
    generalize e2 : upd H a _ = H2
    have hf2 : H2 a = some (.frz od (.dK (encD d))) := by rw [← e2]; exact upd_same
    refine ⟨_, rfl, a, od, rfl, .inl ⟨_, hf2, fun D hD => ?_⟩⟩
    have nDa : D ≠ a := (ne_of_none hf2 hD).symm
    have hDH : H D = none := by rw [← e2, upd_ne nDa] at hD; exact hD
    have kl : (encD d).length = d.length := by rw [encD, List.length_map]
    -- new tuples: a heap that keeps all of H but a, the dict, locked at a, the list at D
    refine lc_it (walk_keys (kvs := encD d)) (fun i H' => ∃ (G1 Hu : Hp) (acc : List V), Ex No G H G1 Hu ∧ Hu D = none ∧ H' = upd (upd Hu a (.frz od (.dK (encD d)))) D (.lst acc) ∧ RpA G1 acc (((d.take i).filter fun p => decide (0 < p.2)).map encP))
      ⟨G, H, [], Ex.refl S, hDH, by rw [e2], .nil⟩ (fun i H' _ h => by
        obtain ⟨G1, Hu, acc, _, _, e, _⟩ := h
        rw [e, upd_ne nDa.symm, upd_same]) ?_ ?_
    · rintro i y Hb Hc hi ⟨G1, Hu, acc, x1, hDu, eH, ra⟩ ⟨rfl, kk, vv, hk, rfl⟩
      obtain ⟨⟨kd, n⟩, hp, ep⟩ := map_at hk
      cases ep
      have hm := List.mem_of_getElem? hp
      have hfb : Hc a = some (.frz od (.dK (encD d))) := by rw [eH, upd_ne nDa.symm, upd_same]
      have hg : DGet Hc a (.str kd) (some (.int n)) := .inl ⟨_, Sum.inr kd, .inr ⟨od, hfb⟩, rfl, by
        rw [val_enc, look_mem hn hm]; rfl⟩
      have et : d.take (i + 1) = d.take i ++ [(kd, n)] := by rw [List.take_add_one, hp]; rfl
      refine ⟨rfl, _, rfl, _, rfl, a, _, rfl, hg, _, _, rfl, rfl, _, rfl, ?_⟩
      refine if2 (fun hpos => ?_) (fun hpos => ?_)
      · have hpos : 0 < n := of_decide_eq_true hpos
        refine ⟨_, rfl, _, rfl, _, rfl, a, _, rfl, hg, sz rfl, fun t ht => ?_⟩
        have ntD : t ≠ D := by
          rintro rfl
          rw [eH, upd_same] at ht
          cases ht
        have nta : t ≠ a := by
          rintro rfl
          rw [hfb] at ht
          cases ht
        have htu : Hu t = none := by
          rw [eH, upd_ne ntD, upd_ne nta] at ht
          exact ht
        obtain ⟨G2, x2, g2⟩ := ex_new (M := No) (o := .tup [.str kd, .int n]) x1.s htu rfl
        refine ⟨acc, ?_, szl ?_, G2, upd Hu t (.tup [.str kd, .int n]), acc ++ [.ref t], x1.trans x2, ?_, ?_, ?_⟩
        · rw [upd_ne ntD.symm, eH, upd_same]
        · have := ra.length
          rw [List.length_map] at this
          have h2 := List.length_filter_le (fun p : Str × Int => decide (0 < p.2)) (d.take i)
          rw [List.length_take] at h2
          omega
        · rw [upd_ne ntD.symm]; exact hDu
        · rw [eH]
          funext b
          unfold upd
          by_cases h1 : b = D
          · simp [h1]
          · by_cases h2 : b = t
            · subst h2; simp [h1, nta]; rfl
            · simp [h1, h2]
        · rw [et, List.filter_append, List.map_append]
          simp only [List.filter_cons, hpos, decide_true, if_true, List.filter_nil, List.map_cons, List.map_nil]
          exact (ra.mono x2.g).app (.cons (.tup g2 (.cons (.str _) (.cons (.int _) .nil))) .nil)
      · have hpos : ¬ 0 < n := of_decide_eq_false hpos
        refine ⟨G1, Hu, acc, x1, hDu, eH, ?_⟩
        rw [et, List.filter_append]
        simp only [List.filter_cons, hpos, decide_false, List.filter_nil, List.append_nil, Bool.false_eq_true, if_false]
        exact ra
    · rintro Hb ⟨G1, Hu, acc, x1, hDu, rfl, ra⟩
      rw [kl, List.take_of_length_le (Nat.le_refl _)] at ra
      have hau : Hu a = some (.dK (encD d)) := x1.same _ _ hfa
      refine ⟨by rw [upd_ne nDa.symm, upd_same], ?_⟩
      have e3 : upd (upd (upd Hu a (.frz od (.dK (encD d)))) D (.lst acc)) a (.dK (encD d)) = upd Hu D (.lst acc) := by
        funext b
        unfold upd
        by_cases h1 : b = a
        · subst h1; simp [nDa.symm, hau]
        · simp [h1]
      rw [e3]
      generalize e4 : upd Hu D _ = H4
      obtain ⟨G4, x4, g4⟩ := ex_new (M := No) x1.s hDu e4
      have x14 := x1.trans x4
      have ra4 := ra.mono x4.g
      have hsub : ∀ x ∈ d.filter (fun p => decide (0 < p.2)), x ∈ d := fun x hx => (List.mem_filter.mp hx).1
      refine ⟨_, rfl, G4, .ref D, _, rfl, x14.s, .inl (.lst g4 ra4), fun e he => ?_, fun e he f hf => ?_, ?_, fun G5 H5 v5 x5 r5 => ?_⟩
      · obtain ⟨x, hx, rfl⟩ := List.mem_map.mp he
        exact hsh x (hsub x hx)
      · obtain ⟨x, hx, rfl⟩ := List.mem_map.mp he
        obtain ⟨y, hy, rfl⟩ := List.mem_map.mp hf
        exact cmp_encP x y
      · rw [List.length_map]
        exact Nat.le_trans (List.length_filter_le _ _) hl
      · rw [ris_pairs (List.Nodup.sublist (List.filter_sublist.map _) hn) (fun x hx => of_decide_eq_true (List.mem_filter.mp hx).2)] at r5
        obtain ⟨l5, ys, rfl, g5, r5'⟩ := of_lst r5
        refine ⟨l5, ys, rfl, .inl ⟨SqL.of (x5.s _ _ g5), fun t ht => ?_⟩⟩
        generalize e6 : upd H5 t _ = H6
        obtain ⟨G6, x6, g6⟩ := ex_new (M := No) x5.s ht e6
        exact k G6 H6 _ (x14.trans (x5.trans x6)) (.tup g6 (r5'.mono x6.g))

end
end LW

namespace LW
open PySem L2 Kt LM DO Va
section
variable {w : World} {K : PySem.W.Frag} {mg : Str → Option Value} {base : Heap} {A : Ads}
theorem ok_counted (T : Txt K mg A) : FnOk P w K mg base CX0 1 A.counted A.counted' ["_law_pairs_so"] spCounted := by
  refine T.counted.F.ok sc_counted (fun vs H Q E h => ?_) (fun cdv Ar outer s H vs Q E hr h => ?_)
  · obtain ⟨G, v, ps, rfl, _⟩ := h
    rfl
  · obtain ⟨G, v, ps, rfl, S, hv, hlen, k⟩ := h
    refine ⟨_, pss_cons (ps_set (i := 1) sc_counted.nd rfl (Or.inl rfl) (pe_dnewK))
      (pss_cons (ps_for PassesOwn.never rfl (pi_seqK K (pv 0)) (pg_tupK K 2 rfl (pgs_cons (pg_name (i := 2) sc_counted.nd rfl (Or.inl rfl)) (pgs_cons (pg_name (i := 3) sc_counted.nd rfl (Or.inl rfl)) pgs_nil)))
        (pss_one (ps_dput (hu_of hr) (pv 1) (pv 2) (pe_op op_add (pe_dget2 (hu_of hr) (pv 1) (pv 2) (pe_int) ⟨rfl, rfl, rfl, rfl⟩) (pv 3)) rfl)))
      (pss_one (ps_ret (pv 1)))), ?_⟩
    obtain ⟨q, xs, rfl, hq, rq⟩ : ∃ q xs, v = .ref q ∧ (SqL K G q xs ∨ SqT K G q xs) ∧ RpA G xs (ps.map encP) := by
      rcases hv with h | h
      · obtain ⟨q, xs, e, g, r⟩ := of_lst h; exact ⟨q, xs, e, .inl (SqL.of g), r⟩
      · obtain ⟨q, xs, e, g, r⟩ := of_tup h; exact ⟨q, xs, e, .inr (SqT.of g), r⟩
    have lx := rq.length
    rw [List.length_map] at lx
    intro f hf
    generalize e1 : upd H f _ = H1
    obtain ⟨x1, gf, hf1⟩ := ex_hid (M := No) S hf e1
    refine ⟨_, rfl, q, G, xs, rfl, x1.s, hq, fun J wJ => ?_⟩
    refine for_it wJ (fun i σ H' => ∃ (v2 v3 : Option V), σ = [some (.ref q), some (.ref f), v2, v3] ∧ Ex No G H G H' ∧ H' f = some (.dK (encD (tally (ps.take i)))))
      ⟨none, none, rfl, x1, hf1⟩ (fun i σ H' _ h => by obtain ⟨_, _, _, h, _⟩ := h; exact h.s) ?_ ?_
    · rintro i y σ Ha Hb hi ⟨v3, v4, rfl, xa, hfa⟩ ⟨rfl, hy⟩
      obtain ⟨d, hd, hr1⟩ := rq.get hy
      obtain ⟨⟨kd, n⟩, hp, rfl⟩ := map_at hd
      obtain ⟨t, v1, v2, rfl, ht, r1, r2⟩ := of_tup2 hr1
      cases of_str r1
      cases of_int r2
      refine ⟨t, _, rfl, SqT.of (xa.s _ _ ht), rfl, _, _, rfl, _, _, rfl, rfl, ?_⟩
      refine ⟨_, rfl, f, rfl, .inl ⟨_, .inl hfa⟩, _, rfl, _, DGet.k (k := Sum.inr kd) hfa, ?_⟩
      have ev : (valV (encD (tally (ps.take i))) (Sum.inr kd)).getD (.int 0) = .int ((look (tally (ps.take i)) kd).getD 0) := by
        rw [val_enc]; cases look (tally (ps.take i)) kd <;> rfl
      refine ⟨_, rfl, _, _, ev, rfl, ?_⟩
      have hl := tally_length (ps.take i)
      refine ⟨_, rfl, _, rfl, f, _, rfl, DPut.k (k := Sum.inr kd) hfa (szl (by rw [encD, List.length_map]; rw [List.length_take] at hl; omega)), ?_⟩
      refine ⟨_, _, rfl, xa.put gf (.inr hf) (by rw [hfa]; simp), ?_⟩
      rw [upd_same, put_enc, ← tally_take hp]
    · rintro σ Ha ⟨v3, v4, rfl, xa, hfa⟩
      rw [lx, List.take_of_length_le (Nat.le_refl _)] at hfa
      exact ⟨_, rfl, k Ha f xa hf hfa⟩

end
end LW

namespace LW
open PySem L2 Kt LM DO Va
section
variable {w : World} {K : PySem.W.Frag} {mg : Str → Option Value} {base : Heap} {A : Ads}
theorem ok_mixed (T : Txt K mg A) : FnOk P w K mg base CX0 3 A.mixed A.mixed' ["_law_box_here", "_law_rows_so"] (spB true 1000 pfMixed) := by
  refine T.mixed.F.ok sc_mixed (fun vs H Q E h => len_B hl_mixed h) (fun cdv Ar outer s H vs Q E hr h => ?_)
  refine ⟨_, pss_cons (ps_par (i := 2) (j := 3) rfl sc_mixed.nd rfl rfl (by decide) rfl rfl (pa_cons (pe_callTy (call_list_ofK K) (by rfl) T.b_list (by decide +kernel) (pa_cons (pv 1) pa_nil)) (pa_cons (pe_lst pa_nil) pa_nil)) (by rfl))
      (pss_cons (ps_for PassesOwn.never rfl (pi_range1 rfl T.b_range (pa_cons (pe_callB (call_len_seqK K) (by rfl) T.b_len (by decide +kernel) (pa_cons (pv 1) pa_nil)) pa_nil)) (pg_name (i := 4) sc_mixed.nd rfl (Or.inl rfl))
        (pss_cons (ps_set (i := 5) sc_mixed.nd rfl (Or.inl rfl) (pe_call (FnOk.imp (sp' := spB true 1 pfTake) (ok_take T) fun _ _ _ _ h => cv_take h) (hr.mono (by decide)) rfl T.take.g T.take.F.kp T.take.b .nil pass0 (pa_cons (pv 0) (pa_cons (pe_callB (call_len_seqK K) (by rfl) T.b_len (by decide +kernel) (pa_cons (pv 2) pa_nil)) pa_nil))))
      (pss_cons (ps_expr (pe_bmK K PySem.F.plainAttrs_list PySem.F.slot_list_append PySem.F.type_list_append mt_append (pv 3) (pa_cons (pe_ix (ix_listK K) (pv 2) (pv 5) (fun _ _ => rfl)) pa_nil)))
      (pss_one (ps_set (i := 2) sc_mixed.nd rfl (Or.inl rfl) (pe_op op_cat (pe_slice (sl_listK K) (pv 2) po_none (po_some (pv 5))) (pe_slice (sl_listK K) (pv 2) (po_some (pe_op op_add (pv 5) (pe_int))) po_none)))))))
      (pss_one (ps_ret (pv 3)))), ?_⟩
  refine run_B (n := 1) (k := 4) h
    (s_seq (s_parFN 2 3 (by decide) (RN.re (rn_cb rc_list (va_cons (RE.rv (re_v 1)) va_nil))) (rn_lst ra_nil))
      (s_seq (s_for (ml := [.box, .fz, .fz, .own, .junk, .junk]) 1000 (ri_rng1 (re_cb rc_len (va_cons (RE.rv (re_v 1)) va_nil))) rg_name
        (s_seq (s_set 5 (re_callB 0 (ra_cons (re_cb rc_len (va_cons (RE.rv (re_v 2)) va_nil)) ra_nil)))
      (s_seq (s_append 3 (re_op ro_ixL (RE.rv (re_v 2)) (RE.rv (re_v 5))))
      (s_set 2 (RN.re (rn_op ro_cat (RE.rv (RN.re (rn_slL (RE.rv (re_v 2)) rp_none (rp_some (re_v 5))))) (RE.rv (RN.re (rn_slL (RE.rv (re_v 2)) (rp_some (re_op ro_add (RE.rv (re_v 5)) (RE.rv re_int))) rp_none)))))))))
      (s_frz 3 (s_ret (re_v 3))))) (by decide) (len_B hl_mixed h) rfl ?_
  rintro as q ⟨u, xs, rfl, hu, hl, hq⟩
  refine ⟨_, xs, rfl, hu, by decide, ?_⟩
  refine ⟨_, xs, rfl, hu, _, rfl, by omega, by omega, ?_⟩
  refine ⟨by rw [intsU_len]; omega, fun i env => ∃ rest done v4 v5, env = [.non, u, .lst rest, .lst done, v4, v5] ∧ (done ++ rest).Perm xs ∧ done.length = i, ⟨xs, [], _, _, rfl, .refl _, rfl⟩, ?_, ?_⟩
  · rintro i x env hx ⟨rest, done, v4, v5, rfl, hp, hd⟩
    obtain ⟨hi, rfl⟩ := intsU_at hx
    have hr := hp.length_eq
    rw [List.length_append] at hr
    refine ⟨_, rest, rfl, rfl, _, rfl, by omega, by omega, fun r h0 h1 => ?_⟩
    obtain ⟨n, v, rfl, hv, hv2, hn⟩ := atI_ix h0 h1
    refine ⟨done, rfl, by omega, rest, _, v, rfl, rfl, hv, ?_⟩
    refine ⟨_, rfl, rest, rfl, _, _, rfl, rfl, _, rfl, rest, rfl, _, _, rfl, rfl, ?_, ?_⟩
    · rw [cutU_to, show ((n : Int) + 1) = ((n + 1 : Nat) : Int) by omega, cutU_from, List.length_take, List.length_drop]; omega
    · rw [cutU_to, show ((n : Int) + 1) = ((n + 1 : Nat) : Int) by omega, cutU_from]
      refine ⟨_, _, _, _, rfl, ?_, by simp [hd]⟩
      refine List.Perm.trans ?_ hp
      rw [List.append_assoc]
      refine List.Perm.append_left _ ?_
      obtain ⟨h3, rfl⟩ := List.getElem?_eq_some_iff.mp hv2
      have e : rest = rest.take n ++ rest[n] :: rest.drop (n + 1) := by rw [← List.drop_eq_getElem_cons h3, List.take_append_drop]
      conv => rhs; rw [e]
      rw [List.singleton_append]; exact List.perm_middle.symm
  · rintro env ⟨rest, done, v4, v5, rfl, hp, hd⟩
    rw [intsU_len] at hd
    have hr := hp.length_eq
    rw [List.length_append] at hr
    have : rest = [] := List.length_eq_zero_iff.mp (by omega)
    subst this
    rw [List.append_nil] at hp
    exact hq done hp

end
end LW

namespace LW
open PySem L2 Kt LM DO Va
section
variable {w : World} {K : PySem.W.Frag} {mg : Str → Option Value} {base : Heap} {A : Ads}
def pfDue : Pf := fun us q => ∃ (k : Str) (m : Pr), us = [.str k, .tup (sU m)] ∧ m.length < 64 ∧ (∀ x ∈ m, PyData.strOk x.1 = true) ∧
  (m = [] → q (.lst [.lst [.str k, .bl true, .bl false], .non])) ∧
  (m ≠ [] → k ∈ m.map (·.1) → q (.lst [.non, .lst [.tup [.str k], .bl true, .bl false]])) ∧
  (m ≠ [] → k ∉ m.map (·.1) → q (.lst [.non, .non]))
theorem hl_due : ∀ us q, pfDue us q → us.length = 2 := by rintro us q ⟨k, m, rfl, _⟩; rfl
theorem ok_due (T : Txt K mg A) : FnOk P w K mg base CX0 1 A.due A.due' ["_law_kind_so", "_law_inner"] (spU false pfDue) := by
  refine T.due.F.ok sc_due (fun vs H Q E h => len_U hl_due h) (fun cdv Ar outer s H vs Q E hr h => ?_)
  refine ⟨_, pss_cons (ps_if (pt_cmpR (op_eqDK K (by exact hr.units)) (pv 1) (pe_tup pa_nil) (nomark _)) (pss_one (ps_ret (pe_lst (pa_cons (pe_lst (pa_cons (pv 0) (pa_cons (pe_bl) (pa_cons (pe_bl) pa_nil)))) (pa_cons (pe_non) pa_nil))))) (pss_nil))
      (pss_cons (ps_if (pt_cmpR (op_in_seqK K) (pv 0) (pe_lc (own := [("_law_own", 2), ("_law_far", 3)]) (g := _) rfl sc_due.nd (pi_tupK K (pv 1)) (blkOk_by (own := [("_law_own", 2), ("_law_far", 3)]) (N := N_due) (sc := defScope s_due) (by decide +kernel)) (fun _ _ _ _ _ => pg_tupK K 2 rfl (pgs_cons (pg_name (i := 2) sc_due.nd rfl (Or.inl rfl)) (pgs_cons (pg_name (i := 3) sc_due.nd rfl (Or.inl rfl)) pgs_nil))) (fun _ _ _ _ _ => pts_nil) (fun _ _ _ _ _ => by exact pv 2)) (by rfl)) (pss_one (ps_ret (pe_lst (pa_cons (pe_non) (pa_cons (pe_lst (pa_cons (pe_tup (pa_cons (pv 0) pa_nil)) (pa_cons (pe_bl) (pa_cons (pe_bl) pa_nil)))) pa_nil))))) (pss_nil))
      (pss_one (ps_ret (pe_lst (pa_cons (pe_non) (pa_cons (pe_non) pa_nil)))))), ?_⟩
  refine run_U (n := 2) (k := 2) h
    (s_seq (s_ifR (rt_test (re_op ro_eqD (RE.rv (re_v 1)) (RE.rv (RN.re (rn_tup ra_nil))))) (s_ret (RN.re (rn_lst (ra_cons (RN.re (rn_lst (ra_cons (re_v 0) (ra_cons re_bl (ra_cons re_bl ra_nil))))) (ra_cons re_non ra_nil))))))
      (s_seq (s_ifR (rt_test (re_op ro_in (RE.rv (re_v 0)) (RE.rv (RN.re (rn_lc 1000 (ri_tup (re_v 1)) (rg_tup (rgs_cons rg_name (rgs_cons rg_name rgs_nil))) rt_yes (re_v 2)))))) (s_ret (RN.re (rn_lst (ra_cons re_non (ra_cons (RN.re (rn_lst (ra_cons (RN.re (rn_tup (ra_cons (re_v 0) ra_nil))) (ra_cons re_bl (ra_cons re_bl ra_nil))))) ra_nil))))))
      (s_ret (RN.re (rn_lst (ra_cons re_non (ra_cons re_non ra_nil))))))) (len_U hl_due h) rfl ?_
  rintro as q ⟨k, m, rfl, hl, hs, h1, h2, h3⟩
  refine ⟨szz rfl, isD_sU m, rfl, shaped_sU hs, rfl, _, rfl, if2 (fun he => ?_) (fun he => ?_)⟩
  · have he : PyData.eqv (toD (.tup (sU m))) (toD (.tup (sU []))) = true := he
    rw [eqv_sU] at he
    exact ⟨szz rfl, szz rfl, h1 (of_decide_eq_true he)⟩
  · have he : PyData.eqv (toD (.tup (sU m))) (toD (.tup (sU []))) = false := he
    rw [eqv_sU] at he
    have hne := of_decide_eq_false he
    refine ⟨_, rfl, by rw [sU, List.length_map]; omega, lc_idx (l := m) (f := pU) (fun p => .str p.1) ?_ ?_⟩
    · intro i p hp Q N hQ
      exact ⟨_, rfl, rfl, _, _, rfl, _, _, rfl, rfl, ifT rfl hQ⟩
    rw [show (m.map fun p => U.str p.1) = (m.map (·.1)).map U.str by rw [List.map_map]; rfl]
    refine ⟨_, _, rfl, rfl, flat_strs _, _, rfl, ?_⟩
    rw [fl_strs, in_strs]
    refine if2 (fun hk => ?_) (fun hk => ?_)
    · exact ⟨szz rfl, szz rfl, szz rfl, h2 hne (of_decide_eq_true hk)⟩
    · exact ⟨szz rfl, h3 hne (of_decide_eq_false hk)⟩

end
end LW

namespace LW
open PySem L2 Kt LM DO Va
section
variable {w : World} {K : PySem.W.Frag} {mg : Str → Option Value} {base : Heap} {A : Ads}
def pfSetL (C : Addr) : Pf := fun us q => ∃ (m : Pr) (k : Str) (i : Int), us = [lotU C m, .str k, .int i] ∧ 0 ≤ i ∧ m.length < 63 ∧ ∀ r : Pr, Ok r → (∀ j, lk r j = if j = k then i else lk m j) → q (lotU C r)
theorem hl_setL {C : Addr} : ∀ us q, pfSetL C us q → us.length = 3 := by rintro us q ⟨m, k, i, rfl, _⟩; rfl
theorem ok_Lot_setitem (T : Txt K mg A) : FnOk P w K mg base CX0 1 A.Lot_setitem A.Lot_setitem' ["self", "kind", "many"] (spM false (pfSetL A.Lot)) := by
  refine T.Lot_setitem.F.ok sc_Lot_setitem (fun vs H Q E h => len_M hl_setL h) (fun cdv Ar outer s H vs Q E hr h => ?_)
  refine ⟨_, pss_cons (ps_if (pt_cmpR op_lt (pv 2) (pe_int) (nomark _)) (pss_one (ps_never)) (pss_nil))
      (pss_cons (ps_lock (ps_setDc (i := 3) (own := [("name", 4)]) (g := (gName 4)) rfl sc_Lot_setitem.nd rfl rfl (sw_trueD rfl rfl rfl (by decide +kernel)) (pi_keys (pe_fldK K (pv 0) rfl)) (blkOk_by (own := [("name", 4)]) (N := N_Lot_setitem) (sc := defScope s_Lot_setitem) (by decide +kernel)) (fun _ _ _ _ _ => pg_name (i := 4) sc_Lot_setitem.nd rfl (Or.inl rfl)) (fun _ _ _ _ _ => pts_one (pt_cmpR op_ne (pv 4) (pv 1) (nomark _))) (fun _ _ _ _ _ => by exact pv 4) (fun _ _ _ _ _ => by exact pe_dget (hu_of hr) (pe_fldK K (pv 0) rfl) (pv 4) (fun _ _ => rfl))))
      (pss_cons (ps_if (pt_cmpR op_gt (pv 2) (pe_int) (nomark _)) (pss_one (ps_dput (hu_of hr) (pv 3) (pv 1) (pv 2) rfl)) (pss_nil))
      (pss_one (ps_fld (pv 0) (pv 3) rfl)))), ?_⟩
  obtain ⟨lk', G, us, u0, q, a, o, ws, rfl, nl, sm, ga, ha, ro, r, ⟨m, kd, i, e, hi, hl, hq⟩, kk⟩ := h
  cases e
  cases r with
  | cons r1 r =>
    cases r with
    | cons r2 r =>
      cases r
      cases Va.of_str r1
      cases Va.of_int r2
      have S : Same G H := sm.same nl
      obtain ⟨a', ea, dx, dd, d, h1, h2, hp, ho, hm⟩ := of_lotU ((ro.mono (same_new ga)).rep upd_same)
      cases ea
      rw [upd_same] at h1
      cases h1
      have nad : dd ≠ a := by rintro rfl; rw [upd_same] at h2; cases h2
      rw [upd_ne nad] at h2
      have hfa := S _ _ h2
      have hn : (d.map (·.1)).Nodup := (hp.map _).nodup_iff.mpr ho.keys_nodup
      have hdl := hp.length_eq
      refine ⟨_, rfl, _, _, rfl, rfl, _, rfl, ifF (decide_eq_false (by omega)) ?_⟩
      refine ⟨dd, _, hfa, trivial, fun od => ?_⟩
      generalize e2 : upd H dd _ = H2
      have hf2 : H2 dd = some (.frz od (.dK (encD d))) := by rw [← e2]; exact upd_same
      have ha2 : H2 a = some (.ins A.Lot dx [("own_many", .ref dd)]) := by rw [← e2, upd_ne nad.symm]; exact ha
      refine ⟨_, rfl, a, A.Lot, dx, _, _, rfl, ha2, T.Lot.cl, T.no_Lot_own_many, rfl, dd, od, rfl, .inl ⟨_, hf2, fun D hD => ?_⟩⟩
      have nDd : D ≠ dd := (ne_of_none hf2 hD).symm
      have nDa : D ≠ a := (ne_of_none ha2 hD).symm
      have hDH : H D = none := by rw [← e2, upd_ne nDd] at hD; exact hD
      have kl : (encD d).length = d.length := by rw [encD, List.length_map]
      refine dc_it (walk_keys (kvs := encD d)) (fun j H' => (∀ b, b ≠ D → H' b = H2 b) ∧ H' D = some (.dK (encD ((d.take j).filter fun p => decide (p.1 ≠ kd)))))
        ⟨fun b hb => upd_ne hb, upd_same⟩ (fun j H' _ h => by rw [h.1 _ nDd.symm]; exact hf2) ?_ ?_
      · rintro j y Hb Hc hj ⟨hB, hDb⟩ ⟨rfl, kk, vv, hk, rfl⟩
        obtain ⟨⟨kd', n⟩, hp1, ep⟩ := map_at hk
        cases ep
        have hfb : Hc dd = some (.frz od (.dK (encD d))) := by rw [hB _ nDd.symm]; exact hf2
        have hab : Hc a = some (.ins A.Lot dx [("own_many", .ref dd)]) := by rw [hB _ nDa.symm]; exact ha2
        have hg : DGet Hc dd (.str kd') (some (.int n)) := .inl ⟨_, Sum.inr kd', .inr ⟨od, hfb⟩, rfl, by
          rw [val_enc, look_mem hn (List.mem_of_getElem? hp1)]; rfl⟩
        have et : d.take (j + 1) = d.take j ++ [(kd', n)] := by rw [List.take_add_one, hp1]; rfl
        refine ⟨rfl, _, rfl, _, rfl, rfl, _, rfl, ?_⟩
        refine if2 (fun hne => ?_) (fun hne => ?_)
        · have hne : kd' ≠ kd := by
            rintro rfl
            have hne : (!decide (V.str kd' = V.str kd')) = true := hne
            simp at hne
          refine ⟨_, rfl, _, rfl, a, A.Lot, dx, _, _, rfl, hab, T.Lot.cl, T.no_Lot_own_many, rfl, _, rfl, dd, _, rfl, hg, _, Sum.inr kd', rfl, hDb, szl ?_, fun b hb => ?_, ?_⟩
          · rw [encD, List.length_map]
            have := List.length_filter_le (fun p : Str × Int => decide (p.1 ≠ kd)) (d.take j)
            rw [List.length_take] at this
            omega
          · rw [upd_ne hb]; exact hB b hb
          · rw [upd_same, put_enc, et, List.filter_append, putD_new]
            · rw [List.filter_cons, if_pos (by simp [hne])]; rfl
            · intro hm
              obtain ⟨p, hp2, e⟩ := List.mem_map.mp hm
              have h3 := (List.mem_filter.mp hp2).1
              rw [← List.take_append_drop j d] at hn
              have h4 := List.drop_eq_getElem_cons (List.getElem?_eq_some_iff.mp hp1).1
              rw [(List.getElem?_eq_some_iff.mp hp1).2] at h4
              rw [h4, List.map_append, List.nodup_append] at hn
              exact hn.2.2 p.1 (List.mem_map_of_mem h3) kd' (by simp) e
        · have hne : kd' = kd := by
            have hne : (!decide (V.str kd' = V.str kd)) = false := hne
            simpa using hne
          refine ⟨hB, ?_⟩
          rw [hDb, et, List.filter_append, List.filter_cons, if_neg (by simp [hne]), List.filter_nil, List.append_nil]
      · rintro Ha ⟨hB, hDb⟩
        rw [kl, List.take_of_length_le (Nat.le_refl _)] at hDb
        refine ⟨by rw [hB _ nDd.symm]; exact hf2, ?_⟩
        have e3 : upd Ha dd (.dK (encD d)) = upd H D (.dK (encD (d.filter fun p => decide (p.1 ≠ kd)))) := by
          funext b
          unfold upd
          by_cases hb : b = dd
          · subst hb; rw [if_pos rfl, if_neg nDd.symm, hfa]
          · rw [if_neg hb]
            by_cases hb2 : b = D
            · subst hb2; rw [if_pos rfl, hDb]
            · rw [if_neg hb2, hB b hb2, ← e2, upd_ne hb]
        rw [e3]
        obtain ⟨hperm, hlk⟩ := setD_lot (k := kd) (i := i) hp ho hi
        have hlen : (lotD (setD d kd i)).length < 64 := by
          have h3 := hperm.length_eq
          have h4 := List.length_filter_le (fun p : Str × Int => decide (p.1 ≠ kd)) d
          rw [← h3, setD, List.length_append]
          split <;> simp <;> simp at h4 <;> omega
        have key : ∀ H6, H6 = upd (upd H D (.dK (encD (setD d kd i)))) a (.ins A.Lot dx [("own_many", .ref D)]) → Q .non H6 := by
          rintro H6 rfl
          have x1 : Xt No lk' G H (upd G D (.dK (encD (setD d kd i)))) (upd H D (.dK (encD (setD d kd i)))) := Xt.new sm hDH
          have g1 : upd G D (.dK (encD (setD d kd i))) a = none := by rw [upd_ne nDa.symm]; exact ga
          exact kk _ _ _ _ (hq _ (lotD_ok _) hlk) ((x1.mono (fun _ z => z.elim)).put g1 (.inl rfl) (by rw [upd_ne nDa.symm, ha]; simp)) g1 upd_same (repO_lotN upd_same hperm (lotD_ok _) hlen)
        refine ⟨_, rfl, _, _, rfl, rfl, _, rfl, if2 (fun hpos => ?_) (fun hpos => ?_)⟩
        · have hpos : 0 < i := of_decide_eq_true hpos
          refine ⟨_, rfl, _, rfl, _, rfl, D, _, rfl, DPut.k (k := Sum.inr kd) upd_same (szl ?_), ?_⟩
          · rw [encD, List.length_map]
            have h4 := List.length_filter_le (fun p : Str × Int => decide (p.1 ≠ kd)) d
            omega
          rw [upd_upd, put_enc, putD_new (by
            intro hm
            obtain ⟨p, hp2, e⟩ := List.mem_map.mp hm
            exact of_decide_eq_true (List.mem_filter.mp hp2).2 e)]
          have es : (d.filter fun p => decide (p.1 ≠ kd)) ++ [(kd, i)] = setD d kd i := by rw [setD, if_pos hpos]
          rw [es]
          exact ⟨_, rfl, _, rfl, a, A.Lot, dx, _, rfl, by rw [upd_ne nDa.symm]; exact ha, T.Lot.cl, T.no_Lot_own_many, by simp, key _ rfl⟩
        · have hpos : ¬ 0 < i := of_decide_eq_false hpos
          have es : (d.filter fun p => decide (p.1 ≠ kd)) = setD d kd i := by rw [setD, if_neg hpos, List.append_nil]
          rw [es]
          exact ⟨_, rfl, _, rfl, a, A.Lot, dx, _, rfl, by rw [upd_ne nDa.symm]; exact ha, T.Lot.cl, T.no_Lot_own_many, by simp, key _ rfl⟩

end
end LW

namespace LW
open PySem L2 Kt LM DO Va
section
variable {w : World} {K : PySem.W.Frag} {mg : Str → Option Value} {base : Heap} {A : Ads}
theorem ok_Lot_add (T : Txt K mg A) : FnOk P w K mg base CX0 3 A.Lot_add A.Lot_add' ["self", "other"] (spLotAdd A.Lot) := by
  refine T.Lot_add.F.ok sc_Lot_add (fun vs H Q E h => ?_) (fun cdv Ar outer s H vs Q E hr h => ?_)
  · obtain ⟨G, a, b, m, n, Ks, rfl, _⟩ := h
    rfl
  · obtain ⟨G, a, b, m, n, Ks, rfl, S, ha, hb, hK, hm, hn, k⟩ := h
    refine ⟨_, pss_one (ps_ret (pe_make (T.Lot_init.mk_ T.Lot) (ok_Lot_init T) (hr.mono (by decide)) rfl T.Lot.g T.Lot_init.b .nil pass0 (pa_cons (pe_op (op_catAK K) (pe_meth0 (pv 0) T.Lot.cl T.Lot_pairs.me (ok_Lot_pairs T) (hr.mono (by decide)) T.Lot_pairs.b .nil pass0) (pe_meth0 (pv 1) T.Lot.cl T.Lot_pairs.me (ok_Lot_pairs T) (hr.mono (by decide)) T.Lot_pairs.b .nil pass0)) pa_nil))), ?_⟩
    obtain ⟨dx, fs, h1⟩ := id ha.ins
    obtain ⟨dy, gs, h2⟩ := id hb.ins
    have l1 := ha.len
    have l2 := hb.len
    refine ⟨_, rfl, a, dx, _, rfl, S _ _ h1, ha.noat h1 (by decide +kernel), G, a, m, rfl, S, ha, fun G1 H1 v1 x1 r1 => ?_⟩
    refine ⟨_, rfl, b, dy, _, rfl, x1.hs S h2, hb.noat h2 (by decide +kernel), G1, b, n, rfl, x1.s, hb.mono x1.g, fun G2 H2 v2 x2 r2 => ?_⟩
    refine cat_rd (ds := m.map encP) (es := n.map encP) x2.s (r1.mono x2.g) r2 (by rw [List.length_map, List.length_map]; omega) fun G3 H3 v3 x3 r3 => ?_
    rw [← List.map_append] at r3
    refine make_lotR (Ks := Ks) x3.s (.inl r3) (fun p hp => ?_) hK (fun p hp => ?_) (by rw [List.length_append]; omega) fun G4 H4 z x4 z4 h4 => k _ _ _ (x1.trans (x2.trans (x3.trans x4))) ((x1.trans (x2.trans x3)).f _ z4) h4
    · rcases List.mem_append.mp hp with h | h
      · exact Int.le_of_lt (ha.ok.pos p h)
      · exact Int.le_of_lt (hb.ok.pos p h)
    · rcases List.mem_append.mp hp with h | h
      · exact hm p h
      · exact hn p h

end
end LW

namespace LW
open PySem L2 Kt LM DO Va
section
variable {w : World} {K : PySem.W.Frag} {mg : Str → Option Value} {base : Heap} {A : Ads}
theorem ok_Lot_iadd (T : Txt K mg A) : FnOk P w K mg base CX0 5 A.Lot_iadd A.Lot_iadd' ["self", "other"] (spLotIadd A.Lot) := by
  refine T.Lot_iadd.F.ok sc_Lot_iadd (fun vs H Q E h => ?_) (fun cdv Ar outer s H vs Q E hr h => ?_)
  · obtain ⟨G, a, b, m, n, Ks, rfl, _⟩ := h
    rfl
  · obtain ⟨G, a, b, m, n, Ks, rfl, S, ga, ha, hb, hK, hm, hn, k⟩ := h
    refine ⟨_, pss_cons (ps_fld (pv 0) (pe_fldK K (pe_op (OO.op_own (ok_Lot_add T) (hr.mono (by decide)) T.Lot_add.b pass0 T.Lot.sf T.Lot_add.own) (pv 0) (pv 1)) rfl) rfl)
      (pss_one (ps_ret (pv 0))), ?_⟩
    obtain ⟨dx, fs, h1⟩ := id ha.ins
    obtain ⟨dy, gs, h2⟩ := id hb.ins
    refine ⟨_, rfl, _, rfl, a, b, dx, dy, _, _, rfl, rfl, h1, h2, H, a, b, m, n, Ks, rfl, Same.refl H, ha, hb, hK, hm, hn, fun G1 H1 z x1 _ hz => ?_⟩
    obtain ⟨dz, dd, d, z1, z2, z3⟩ := id hz
    refine ⟨z, A.Lot, dz, _, _, rfl, x1.s _ _ z1, T.Lot.cl, T.no_Lot_own_many, rfl, _, rfl, a, A.Lot, dx, _, rfl, x1.s _ _ (x1.g _ _ h1), T.Lot.cl, T.no_Lot_own_many, ?_, ?_⟩
    · obtain ⟨dx', dd', d', q1, _⟩ := ha
      rw [q1] at h1
      cases h1
      exact Nat.lt_of_lt_of_le (by show 1 < 2; decide) (by decide)
    · generalize e2 : upd H1 a _ = H2
      have efs : putF (Str.ofString "own_many") (V.ref dd) fs = ([(Str.ofString "own_many", V.ref dd)] : List (Str × V)) := by
        obtain ⟨dx', dd', d', q1, _⟩ := ha
        rw [q1] at h1
        cases h1
        rfl
      have x2 : Ex (On a) G H G H2 := e2 ▸ ⟨Same.refl G, fun b o hb e => by rw [upd_ne hb]; exact x1.same _ _ e, same_put (S.trans (x1.g.trans x1.s)) ga, fun b o e => .inl e, fun b e => by
        by_cases hb : b = a
        · subst hb; rw [upd_same] at e; cases e
        · rw [upd_ne hb] at e; exact x1.f b e⟩
      have nda : dd ≠ a := by
        rintro rfl
        rw [x1.g _ _ h1] at z2
        cases z2
      refine ⟨_, rfl, k H2 x2 ⟨dx, dd, d, ?_, ?_, z3⟩⟩
      · rw [← e2, upd_same, efs]
      · rw [← e2, upd_ne nda]; exact x1.s _ _ z2

/-- by values -/
def pfAugL (C : Addr) : Pf := fun us q => ∃ (m n : Pr) (Ks : List Str), us = [lotU C m, lotU C n] ∧ Ks.length < 64 ∧ (∀ p ∈ m, p.1 ∈ Ks) ∧ (∀ p ∈ n, p.1 ∈ Ks) ∧ (Ok m → Ok n → q (lotU C (mkLot (m ++ n))))
theorem hl_augL {C : Addr} : ∀ us q, pfAugL C us q → us.length = 2 := by rintro us q ⟨m, n, Ks, rfl, _⟩; rfl
theorem okV_Lot_iadd (T : Txt K mg A) : FnOk P w K mg base CX0 5 A.Lot_iadd A.Lot_iadd' ["self", "other"] (spM true (pfAugL A.Lot)) := by
  refine T.Lot_iadd.F.ok sc_Lot_iadd (fun vs H Q E h => len_M hl_augL h) (fun cdv Ar outer s H vs Q E hr h => ?_)
  refine ⟨_, pss_cons (ps_fld (pv 0) (pe_fldK K (pe_op (OO.op_own (ok_Lot_add T) (hr.mono (by decide)) T.Lot_add.b pass0 T.Lot.sf T.Lot_add.own) (pv 0) (pv 1)) rfl) rfl)
      (pss_one (ps_ret (pv 0))), ?_⟩
  obtain ⟨lk', G, us, u0, q, a, o, ws, rfl, nl, sm, ga, ha, ro, r, ⟨m, n, Ks, e, hK, hm, hn, hq⟩, kk⟩ := h
  cases e
  cases r with
  | cons r1 r =>
    cases r
    have S : Same G H := sm.same nl
    obtain ⟨b, rfl, hb⟩ := of_lotU r1
    have r0 : Rep (upd G a o) (.ref a) (lotU A.Lot m) := (ro.mono (same_new ga)).rep upd_same
    obtain ⟨a', ea, hl⟩ := of_lotU r0
    cases ea
    have Sa : Same (upd G a o) H := fun c u e => by
      by_cases hc : c = a
      · subst hc; rw [upd_same] at e; cases e; exact ha
      · rw [upd_ne hc] at e; exact S c u e
    have hbU : LotAt A.Lot (upd G a o) b n := hb.mono (same_new ga)
    obtain ⟨dx, d0, _, h1, _⟩ := id hl
    obtain ⟨dy, gs, h2⟩ := id hbU.ins
    have okm := hl.ok
    have okn := hb.ok
    refine ⟨_, rfl, _, rfl, a, b, dx, dy, _, _, rfl, rfl, Sa _ _ h1, Sa _ _ h2, upd G a o, a, b, m, n, Ks, rfl, Sa, hl, hbU, hK, hm, hn, fun G1 H1 z x1 hz hlz => ?_⟩
    obtain ⟨dz, dd, d, z1, z2, z3, z4, z5⟩ := id hlz
    have ha1 : H1 a = some (.ins A.Lot dx [("own_many", .ref d0)]) := x1.s _ _ (x1.g _ _ h1)
    refine ⟨z, A.Lot, dz, _, _, rfl, x1.s _ _ z1, T.Lot.cl, T.no_Lot_own_many, rfl, _, rfl, a, A.Lot, dx, _, rfl, ha1, T.Lot.cl, T.no_Lot_own_many, by simp, ?_⟩
    refine ⟨_, rfl, ?_⟩
    have nda : dd ≠ a := by
      rintro rfl
      rw [x1.g _ _ h1] at z2
      cases z2
    -- told: what the new lot's call has told, without the object itself
    have g2 : del1 G1 a a = none := by simp [del1]
    have x2 : Xt (On a) lk' G H (del1 G1 a) (upd H1 a (.ins A.Lot dx [("own_many", .ref dd)])) := by
      refine ⟨fun c u e => ?_, fun c u hc e => ?_, fun c u e => ?_, fun c u e => ?_, fun c e => ?_⟩
      · have hc : c ≠ a := ne_of_none e ga
        simp only [del1, if_neg hc]
        exact x1.g _ _ (by rw [upd_ne hc]; exact e)
      · have hc : c ≠ a := hc
        rw [upd_ne hc]; exact x1.h _ _ (fun z => z) e
      · by_cases hc : c = a
        · subst hc; simp [del1] at e
        · simp only [del1, if_neg hc] at e
          rw [upd_ne hc]; exact .inl (x1.s _ _ e)
      · by_cases hc : c = a
        · subst hc; simp [del1] at e
        · simp only [del1, if_neg hc] at e
          rcases x1.n _ _ e with h | h
          · rw [upd_ne hc] at h; exact .inl h
          · exact .inr h
      · by_cases hc : c = a
        · subst hc; rw [upd_same] at e; cases e
        · rw [upd_ne hc] at e; exact x1.f _ e
    exact kk _ _ _ _ (hq okm okn) x2 g2 upd_same (repO_lotN (by simp only [del1, if_neg nda]; exact z2) z3 z4 z5)

end
end LW

namespace LW
open PySem L2 Kt LM DO Va
section
variable {w : World} {K : PySem.W.Frag} {mg : Str → Option Value} {base : Heap} {A : Ads}
theorem ok_Opening_contents (T : Txt K mg A) : FnOk P w K mg base CX0 3 A.Opening_contents A.Opening_contents' ["self"] (spN false (pfO1 A.Opening fun k m q => Ok m ∧ m.length < 64 ∧ q (lotU A.Lot m))) := by
  refine T.Opening_contents.F.ok sc_Opening_contents (fun vs H Q E h => len_N hl_O1 h) (fun cdv Ar outer s H vs Q E hr h => ?_)
  refine ⟨_, pss_one (ps_ret (pe_make (T.Lot_init.mk_ T.Lot) (ok_Lot_init T) (hr.mono (by decide)) rfl T.Lot.g T.Lot_init.b .nil pass0 (pa_cons (pe_ix (ix_tupK K) (pe_fldK K (pv 0) rfl) (pe_int) (fun _ _ => rfl)) pa_nil))), ?_⟩
  refine run_N (n := 1) (k := 0) h
    (s_retN' (rn_lot (re_op ro_ixT (RE.rv (re_fld T.Opening.cl T.no_Opening_own_key (re_v 0))) (RE.rv re_int)))) (len_N hl_O1 h) rfl ?_
  rintro as q ⟨k, m, rfl, hm, hl, hq⟩
  refine ⟨_, _, rfl, rfl, _, _, _, rfl, rfl, atI_nat (j := 1) rfl, m, m.map (·.1), .inr rfl, fun p hp => Int.le_of_lt (hm.pos p hp), by rw [List.length_map]; exact hl, fun p hp => List.mem_map_of_mem hp, by omega, ?_⟩
  rw [mk_self hm]; exact hq

end
end LW

namespace LW
open PySem L2 Kt LM DO Va
section
variable {w : World} {K : PySem.W.Frag} {mg : Str → Option Value} {base : Heap} {A : Ads}
theorem ok_Lot_eq (T : Txt K mg A) : FnOk P w K mg base CX0 1 A.Lot_eq A.Lot_eq' ["self", "other"] (spLotEq A.Lot) := by
  refine T.Lot_eq.F.ok sc_Lot_eq (fun vs H Q E h => ?_) (fun cdv Ar outer s H vs Q E hr h => ?_)
  · obtain ⟨G, a, b, m, n, rfl, _⟩ := h
    rfl
  · obtain ⟨G, a, b, m, n, rfl, S, ha, hb, k⟩ := h
    refine ⟨_, pss_cons (ps_if (pt_not (pt_val (pe_callB call_isi (by rfl) T.b_isinstance (by decide +kernel) (pa_cons (pv 1) (pa_cons (pe_glob (v := .ref A.Lot) rfl T.Lot.g rfl) pa_nil))))) (pss_one (ps_never)) (pss_nil))
      (pss_one (ps_ret (pe_cmpR (OO.op_eqDI (by exact hr.units0)) (pe_fldK K (pv 0) rfl) (pe_fldK K (pv 1) rfl) (nomark _)))), ?_⟩
    obtain ⟨dx, dd, d, h1, h2, hp, hok, _⟩ := ha
    obtain ⟨dy, de, e, g1, g2, hp2, hok2, _⟩ := hb
    refine ⟨_, rfl, _, _, _, _, true, rfl, .own _, T.ty_Lot.of (S _ _ g1), kit_self, true, rfl, ifF rfl ?_⟩
    refine ⟨_, rfl, a, A.Lot, dx, _, _, rfl, S _ _ h1, T.Lot.cl, T.no_Lot_own_many, rfl, _, rfl, b, A.Lot, dy, _, _, rfl, S _ _ g1, T.Lot.cl, T.no_Lot_own_many, rfl, ?_⟩
    refine ⟨dd, de, _, _, rfl, rfl, S _ _ h2, S _ _ g2, ints_enc _, ints_val _, ?_⟩
    rw [eq_lots hp hp2 hok hok2]
    exact k

end
end LW

namespace LW
open PySem L2 Kt LM DO Va
section
variable {w : World} {K : PySem.W.Frag} {mg : Str → Option Value} {base : Heap} {A : Ads}
theorem ok_Lot_text (T : Txt K mg A) : FnOk P w K mg base CX0 3 A.Lot_text A.Lot_text' ["self"] (spU false (pf1 A.Lot fun m q => (∀ p ∈ m, p.2.natAbs.log2 < 1900 ∧ p.1.length ≤ 1000) ∧ (Ok m → m.length < 64 → q (.str (textL m))))) := by
  refine T.Lot_text.F.ok sc_Lot_text (fun vs H Q E h => len_U hl_1 h) (fun cdv Ar outer s H vs Q E hr h => ?_)
  refine ⟨_, pss_one (ps_ret (pe_ifExp (pt_cmpR op_gt (pe_callB call_lenD (by rfl) T.b_len (by decide +kernel) (pa_cons (pe_fldK K (pv 0) rfl) pa_nil)) (pe_int) (nomark _)) (pe_join (pe_str) (pe_lc (own := [("kind", 1), ("many", 2)]) (g := _) rfl sc_Lot_text.nd (pi_tupK K (pe_meth0 (pv 0) T.Lot.cl T.Lot_pairs.me (FnOk.imp (sp' := spU false (pf1 A.Lot fPairs)) (ok_Lot_pairs T) fun _ _ _ _ h => cv_LotPairs h) (hr.mono (by decide)) T.Lot_pairs.b .nil pass0)) (blkOk_by (own := [("kind", 1), ("many", 2)]) (N := N_Lot_text) (sc := defScope s_Lot_text) (by decide +kernel)) (fun _ _ _ _ _ => pg_tupK K 2 rfl (pgs_cons (pg_name (i := 1) sc_Lot_text.nd rfl (Or.inl rfl)) (pgs_cons (pg_name (i := 2) sc_Lot_text.nd rfl (Or.inl rfl)) pgs_nil))) (fun _ _ _ _ _ => pts_nil) (fun _ _ _ _ _ => by exact pe_joined (PJ.cons (pe_fmt (pv 2)) (PJ.cons pe_str (PJ.cons (pe_fmt (pv 1)) PJ.nil)))))) (pe_glob (v := .str "-") rfl T.g_NONE.choose_spec ⟨_, rfl⟩))), ?_⟩
  refine run_U (n := 1) (k := 2) h
    (s_ret (re_if (rt_test (re_op ro_gt (RE.rv (re_lotLen T.Lot.cl T.no_Lot_own_many (re_v 0))) (RE.rv re_int))) (re_join re_str (RN.re (rn_lc 1000 (ri_tup (re_meth (re_v 0) ra_nil)) (rg_tup (rgs_cons rg_name (rgs_cons rg_name rgs_nil))) rt_yes (re_joined (rj_cons (re_fmt (re_v 2)) (rj_cons re_str (rj_cons (re_fmt (re_v 1)) rj_nil))))))) re_str)) (len_U hl_1 h) rfl ?_
  rintro as q ⟨m, rfl, hb, hq⟩
  refine ⟨m, rfl, fun ho hl => ⟨_, _, rfl, rfl, _, rfl, if2 (fun hp => ?_) (fun hp => ?_)⟩⟩
  · refine ⟨_, rfl, insM_lot (by decide +kernel), m, rfl, _, rfl, by rw [sU, List.length_map]; omega, ?_⟩
    refine lc_idx (l := m) (f := pU) (fun p => .str (wordP p)) ?_ ?_
    · intro i p hp Q N hQ
      obtain ⟨h1, h2⟩ := hb p (List.mem_of_getElem? hp)
      have h3 := num_len h1
      have e1 : (Str.empty).length = 0 := rfl
      have e2 : (Str.ofString " ").length = 1 := rfl
      refine ⟨_, rfl, rfl, _, _, rfl, _, _, rfl, rfl, ifT rfl (.inr ⟨p.2, rfl, by omega, _, rfl, ?_, _, rfl, ?_, .inl ⟨p.1, rfl, ?_, _, rfl, ?_, hQ⟩⟩)⟩
      · rw [Str.length_append, sizeLine_eq]; omega
      · rw [Str.length_append, Str.length_append, sizeLine_eq]; omega
      · rw [sizeLine_eq]; omega
      · rw [Str.length_append, Str.length_append, Str.length_append, sizeLine_eq]; omega
    refine ⟨m.map wordP, .inl (by rw [List.map_map]; rfl), words_sum hb hl, ?_⟩
    have e : m ≠ [] := by rintro rfl; simp at hp
    have := hq ho hl
    rw [textL, if_neg e] at this
    exact this
  · have e : m = [] := List.length_eq_zero_iff.mp (by have := of_decide_eq_false hp; omega)
    have := hq ho hl
    rw [textL, if_pos e] at this
    exact this

end
end LW

namespace LW
open PySem L2 Kt LM DO Va
section
variable {w : World} {K : PySem.W.Frag} {mg : Str → Option Value} {base : Heap} {A : Ads}
theorem ok_Opening_text (T : Txt K mg A) : FnOk P w K mg base CX0 5 A.Opening_text A.Opening_text' ["self"] (spU false (pfO1 A.Opening fun k m q => Ok m ∧ m.length < 64 ∧ k.length ≤ 1000 ∧ (∀ p ∈ m, p.2.natAbs.log2 < 1900 ∧ p.1.length ≤ 1000) ∧ q (.str (k ++ (" = " : Str) ++ textL m)))) := by
  refine T.Opening_text.F.ok sc_Opening_text (fun vs H Q E h => len_U hl_O1 h) (fun cdv Ar outer s H vs Q E hr h => ?_)
  refine ⟨_, pss_one (ps_ret (pe_op op_add_str (pe_op op_add_str (pe_fldK K (pv 0) rfl) (pe_glob (v := .str " = ") rfl T.g_EQUALS.choose_spec ⟨_, rfl⟩)) (pe_meth0 (pe_make (T.Lot_init.mk_ T.Lot) (ok_Lot_init T) (hr.mono (by decide)) rfl T.Lot.g T.Lot_init.b .nil pass0 (pa_cons (pe_ix (ix_tupK K) (pe_fldK K (pv 0) rfl) (pe_int) (fun _ _ => rfl)) pa_nil)) T.Lot.cl T.Lot_text.me (ok_Lot_text T) (hr.mono (by decide)) T.Lot_text.b .nil pass0))), ?_⟩
  refine run_U (n := 1) (k := 0) h
    (s_ret (re_op ro_addS (RE.rv (re_op ro_addS (RE.rv (re_fld T.Opening.cl T.no_Opening_kind (re_v 0))) (RE.rv re_str))) (RE.rv (re_meth (RN.re (rn_lot (re_op ro_ixT (RE.rv (re_fld T.Opening.cl T.no_Opening_own_key (re_v 0))) (RE.rv re_int)))) ra_nil)))) (len_U hl_O1 h) rfl ?_
  rintro as q ⟨k, m, rfl, hm, hl, hk, hb, hq⟩
  refine ⟨_, _, rfl, rfl, _, _, rfl, rfl, ?_, _, _, rfl, rfl, _, _, _, rfl, rfl, atI_nat (j := 1) rfl, m, m.map (·.1), .inr rfl, fun p hp => Int.le_of_lt (hm.pos p hp), by rw [List.length_map]; exact hl, fun p hp => List.mem_map_of_mem hp, by omega, ?_⟩
  · have e2 : (Str.ofString " = ").length = 3 := rfl
    rw [sizeLine_eq]; omega
  rw [mk_self hm]
  refine ⟨insM_lot (by decide +kernel), m, rfl, hb, fun _ _ => ⟨_, _, rfl, rfl, ?_, hq⟩⟩
  have e2 : (Str.ofString " = ").length = 3 := rfl
  have := textL_len hb hl
  rw [Str.length_append, sizeLine_eq]; omega

end
end LW

namespace LW
open PySem L2 Kt LM DO Va
section
variable {w : World} {K : PySem.W.Frag} {mg : Str → Option Value} {base : Heap} {A : Ads}
def pfShown (CO : Addr) : Pf := fun us q => ∃ (k : Str) (m : Pr), us = [opU CO k m, .str k, .tup (sU m)] ∧ Ok m ∧ m.length < 63 ∧ m ≠ [] ∧ lk m k = 0 ∧ PyData.strOk k = true ∧ (∀ x ∈ m, PyData.strOk x.1 = true) ∧ k.length ≤ 1000 ∧ (∀ p ∈ m, p.2.natAbs.log2 < 1900 ∧ p.1.length ≤ 1000) ∧ q (.bl true)
theorem hl_shown {CO : Addr} : ∀ us q, pfShown CO us q → us.length = 3 := by rintro us q ⟨k, m, rfl, _⟩; rfl
theorem ok_shown (T : Txt K mg A) : FnOk P w K mg base CX0 16 A.shown A.shown' ["_law_made", "_law_kind_so", "_law_inner"] (spU false (pfShown A.Opening)) := by
  refine T.shown.F.ok sc_shown (fun vs H Q E h => len_U hl_shown h) (fun cdv Ar outer s H vs Q E hr h => ?_)
  refine ⟨_, pss_cons (ps_set (i := 3) sc_shown.nd rfl (Or.inl rfl) (pe_prop (pv 0) T.Opening.cl T.Opening_contents.P (ok_Opening_contents T) (hr.mono (by decide)) T.Opening_contents.b .nil pass0 rfl))
      (pss_cons (ps_asg (pe_int) (pg_sub (pv 3) (pv 1) (OO.set_own (ok_Lot_setitem T) (hr.mono (by decide)) T.Lot_setitem.b pass0 T.Lot_setitem.own T.Lot.ns)))
      (pss_cons (ps_set (i := 4) sc_shown.nd rfl (Or.inl rfl) (pe_op op_add_str (pe_op op_add_str (pv 1) (pe_str)) (pe_join (pe_str) (pe_lc (own := [("_law_own", 5), ("_law_far", 6)]) (g := _) rfl sc_shown.nd (pi_tupK K (pv 2)) (blkOk_by (own := [("_law_own", 5), ("_law_far", 6)]) (N := N_shown) (sc := defScope s_shown) (by decide +kernel)) (fun _ _ _ _ _ => pg_tupK K 2 rfl (pgs_cons (pg_name (i := 5) sc_shown.nd rfl (Or.inl rfl)) (pgs_cons (pg_name (i := 6) sc_shown.nd rfl (Or.inl rfl)) pgs_nil))) (fun _ _ _ _ _ => pts_nil) (fun _ _ _ _ _ => by exact pe_op op_add_str (pe_op op_add_str (pe_callTy call_str_int (by rfl) T.b_str (by decide +kernel) (pa_cons (pv 6) pa_nil)) (pe_str)) (pv 5))))))
      (pss_cons (ps_set (i := 7) sc_shown.nd rfl (Or.inl rfl) (pe_lst (pa_cons (pe_fldK K (pv 0) rfl) (pa_cons (pe_meth0 (pe_prop (pv 0) T.Opening.cl T.Opening_contents.P (ok_Opening_contents T) (hr.mono (by decide)) T.Opening_contents.b .nil pass0 rfl) T.Lot.cl T.Lot_pairs.me (FnOk.imp (sp' := spU false (pf1 A.Lot fPairs)) (ok_Lot_pairs T) fun _ _ _ _ h => cv_LotPairs h) (hr.mono (by decide)) T.Lot_pairs.b .nil pass0) (pa_cons (pe_meth0 (pv 0) T.Opening.cl T.Opening_text.me (ok_Opening_text T) (hr.mono (by decide)) T.Opening_text.b .nil pass0) (pa_cons (pe_cmpR (OO.op_cmp rfl (FnOk.imp (sp' := spU false (pf2 A.Lot fEq)) (ok_Lot_eq T) fun _ _ _ _ h => cv_LotEq h) (hr.mono (by decide)) T.Lot_eq.b pass0 T.Lot_eq.own) (pv 3) (pe_prop (pv 0) T.Opening.cl T.Opening_contents.P (ok_Opening_contents T) (hr.mono (by decide)) T.Opening_contents.b .nil pass0 rfl) (nomark _)) pa_nil))))))
      (pss_cons (ps_set (i := 8) sc_shown.nd rfl (Or.inl rfl) (pe_lst (pa_cons (pe_cmpR (met_eqS (n := 1) T.Opening_eq sc_Opening_eq T.nstr_Opening rfl rfl (hr.mono (by decide)) (by decide +kernel) T.b_NotImplemented rfl (fun cdv Ar outer s H hr => pt_not (pt_val (pe_callB (call_isiK K) (by rfl) T.b_isinstance (by decide +kernel) (pa_cons (pv 1) (pa_cons (pe_glob (v := .ref A.Opening) rfl T.Opening.g rfl) pa_nil)))))) (pv 0) (pv 1) (nomark _)) (pa_cons (pe_cmpR (met_eqT (n := 1) T.Opening_eq sc_Opening_eq T.nt_Opening rfl rfl (hr.mono (by decide)) (by decide +kernel) T.b_NotImplemented rfl (fun cdv Ar outer s H hr => pt_not (pt_val (pe_callB (call_isiK K) (by rfl) T.b_isinstance (by decide +kernel) (pa_cons (pv 1) (pa_cons (pe_glob (v := .ref A.Opening) rfl T.Opening.g rfl) pa_nil)))))) (pv 0) (pv 2) (nomark _)) (pa_cons (pe_cmpR (met_eqO (n := 1) (hr.mono (by decide)) T.b_NotImplemented rfl T.df_Opening_Lot T.sub_Lot_Opening T.Opening_eq sc_Opening_eq rfl rfl (by decide +kernel) (fun cdv Ar outer s H hr => pt_not (pt_val (pe_callB (call_isiK K) (by rfl) T.b_isinstance (by decide +kernel) (pa_cons (pv 1) (pa_cons (pe_glob (v := .ref A.Opening) rfl T.Opening.g rfl) pa_nil))))) T.Lot_eq sc_Lot_eq rfl rfl (by decide +kernel) (fun cdv Ar outer s H hr => pt_not (pt_val (pe_callB (call_isiK K) (by rfl) T.b_isinstance (by decide +kernel) (pa_cons (pv 1) (pa_cons (pe_glob (v := .ref A.Lot) rfl T.Lot.g rfl) pa_nil)))))) (pv 0) (pe_make (T.Lot_init.mk_ T.Lot) (ok_Lot_init T) (hr.mono (by decide)) rfl T.Lot.g T.Lot_init.b .nil pass0 (pa_cons (pv 2) pa_nil)) (nomark _)) (pa_cons (pe_cmpR (OO.op_cmp rfl (ok_Opening_eq T) (hr.mono (by decide)) T.Opening_eq.b pass0 T.Opening_eq.own) (pv 0) (pe_make (T.Opening_init.mk_ T.Opening) (ok_Opening_init T) (hr.mono (by decide)) rfl T.Opening.g T.Opening_init.b .nil passL (pa_cons (pv 1) (pa_cons (pe_make (T.Lot_init.mk_ T.Lot) (ok_Lot_init T) (hr.mono (by decide)) rfl T.Lot.g T.Lot_init.b .nil pass0 (pa_cons (pv 2) pa_nil)) pa_nil))) (nomark _)) pa_nil))))))
      (pss_one (ps_ret (pe_call (FnOk.imp (sp' := spU false (pfSame 7)) (ok_same T) fun _ _ _ _ h => cv_same h) (hr.mono (by decide)) rfl T.same.g T.same.F.kp T.same.b .nil pass0 (pa_cons (pe_op op_cat (pv 7) (pv 8)) (pa_cons (pe_lst (pa_cons (pv 1) (pa_cons (pv 2) (pa_cons (pv 4) (pa_cons (pe_bl) (pa_cons (pe_bl) (pa_cons (pe_bl) (pa_cons (pe_bl) (pa_cons (pe_bl) pa_nil))))))))) pa_nil))))))))), ?_⟩
  refine run_U (n := 3) (k := 6) h
    (s_seq (s_own 3 (rn_prop (re_v 0)))
      (s_seq (s_setO 3 re_int (re_v 1))
      (s_seq (s_set 4 (re_op ro_addS (RE.rv (re_op ro_addS (RE.rv (re_v 1)) (RE.rv re_str))) (RE.rv (re_join re_str (RN.re (rn_lc 1000 (ri_tup (re_v 2)) (rg_tup (rgs_cons rg_name (rgs_cons rg_name rgs_nil))) rt_yes (re_op ro_addS (RE.rv (re_op ro_addS (RE.rv (re_cb rc_str (va_cons (RE.rv (re_v 6)) va_nil))) (RE.rv re_str))) (RE.rv (re_v 5)))))))))
      (s_frz 3 (s_seq (s_set 7 (RN.re (rn_lst (ra_cons (re_fld T.Opening.cl T.no_Opening_kind (re_v 0)) (ra_cons (re_meth (RN.re (rn_prop (re_v 0))) ra_nil) (ra_cons (re_meth (re_v 0) ra_nil) (ra_cons (re_bin (re_v 3) (RN.re (rn_prop (re_v 0)))) ra_nil)))))))
      (s_seq (s_set 8 (RN.re (rn_lst (ra_cons (re_eqS (fun H a z => ⟨_, rfl, _, _, _, _, false, rfl, .own _, .base (.str _), T.kstr_Opening, false, rfl, rfl, rfl⟩) (re_v 0) (re_v 1)) (ra_cons (re_eqT T.nt_Opening (fun ki H a t ys h => ⟨_, rfl, _, _, _, _, false, rfl, .own _, .base (.tup h), ki, false, rfl, rfl, rfl⟩) (re_v 0) (re_v 2)) (ra_cons (re_eqO (fun H a b dy gs h => ⟨_, rfl, _, _, _, _, false, rfl, .own _, T.ty_Lot.of h, T.is_Lot_Opening_false, false, rfl, rfl, rfl⟩) (fun H a b dy gs h => ⟨_, rfl, _, _, _, _, false, rfl, .own _, T.ty_Opening.of h, T.is_Opening_Lot_false, false, rfl, rfl, rfl⟩) (re_v 0) (RN.re (rn_lot (re_v 2)))) (ra_cons (re_bin (re_v 0) (RN.re (rn_make (ra_cons (re_v 1) (ra_cons (RN.re (rn_lot (re_v 2))) ra_nil))))) ra_nil)))))))
      (s_ret (re_call (ra_cons (RN.re (rn_op ro_cat (RE.rv (re_v 7)) (RE.rv (re_v 8)))) (ra_cons (RN.re (rn_lst (ra_cons (re_v 1) (ra_cons (re_v 2) (ra_cons (re_v 4) (ra_cons re_bl (ra_cons re_bl (ra_cons re_bl (ra_cons re_bl (ra_cons re_bl ra_nil)))))))))) ra_nil)))))))))) (len_U hl_shown h) rfl ?_
  rintro as q ⟨k, m, rfl, hm, hl, hne, hk, hsk, hs, hkl, hb, hq⟩
  refine ⟨insC_ins, k, m, rfl, hm, by omega, insC_lot, m, k, 7, rfl, by decide, hl, fun r hr hrk => ?_⟩
  have e1 : (Str.ofString " ").length = 1 := rfl
  have e3 : (Str.ofString " = ").length = 3 := rfl
  have htl := textL_len hb (by omega : m.length < 64)
  have etl : textL m = PySem.Txt.join (Str.ofString " ") (m.map wordP) := by rw [textL, if_neg hne]
  refine ⟨_, _, rfl, rfl, by rw [sizeLine_eq]; omega, _, rfl, _, rfl, by rw [sU, List.length_map]; omega, lc_idx (l := m) (f := pU) (fun p => .str (wordP p)) ?_ ?_⟩
  · intro i p hp Q N hQ
    obtain ⟨h1, h2⟩ := hb p (List.mem_of_getElem? hp)
    have h3 := num_len h1
    rw [wordP_eq] at hQ
    refine ⟨_, rfl, rfl, _, _, rfl, _, _, rfl, rfl, ifT rfl ⟨_, rfl, by omega, _, _, rfl, rfl, ?_, _, _, rfl, rfl, ?_, hQ⟩⟩
    · rw [sizeLine_eq]; omega
    · rw [Str.length_append, sizeLine_eq]; omega
  refine ⟨m.map wordP, .inl (by rw [List.map_map]; rfl), words_sum hb (by omega), _, _, rfl, rfl, by rw [Str.length_append, ← etl, sizeLine_eq]; omega, ?_⟩
  rw [← etl]
  refine ⟨_, _, rfl, rfl, insC_ins, k, m, rfl, hm, by omega, insM_lot (by decide +kernel), m, rfl, insM_ins rfl, k, m, rfl, hm, by omega, hkl, hb, ?_⟩
  refine ⟨insC_ins, k, m, rfl, hm, by omega, insC_lot, insC_lot, r, m, rfl, szz rfl, ?_⟩
  refine ⟨insC_ins, ⟨_, rfl⟩, insC_ins, ⟨_, rfl⟩, m, m.map (·.1), .inr rfl, fun p hp => Int.le_of_lt (hm.pos p hp), by rw [List.length_map]; omega, fun p hp => List.mem_map_of_mem hp, by omega, insC_ins, insC_lot, ?_⟩
  refine ⟨m, m.map (·.1), .inr rfl, fun p hp => Int.le_of_lt (hm.pos p hp), by rw [List.length_map]; omega, fun p hp => List.mem_map_of_mem hp, by omega, ?_⟩
  rw [mk_self hm]
  have hsh := shaped_key hsk hs
  refine ⟨k, m, rfl, fun _ _ _ _ => ?_, fun he => absurd he hne, fun _ _ _ hz => absurd hk hz⟩
  refine ⟨insC_ins, insC_ins, k, m, k, m, rfl, hsh, hsh, szz rfl, _, _, rfl, rfl, by simp, szz rfl, ?_⟩
  have hrm : decide (r = m) = false := decide_eq_false fun e => by
    have := hrk k
    rw [e, hk, if_pos rfl] at this
    omega
  have hkk : PyData.eqv (toD (keyU' k m)) (toD (keyU' k m)) = true := eqv_rf hsh
  rw [hrm, hkk]
  refine ⟨_, _, rfl, ?_, ?_, rfl, ?_, hq⟩
  · refine isDL fun u hu => ?_
    simp only [List.cons_append, List.nil_append, List.mem_cons, List.not_mem_nil, or_false] at hu
    rcases hu with rfl | rfl | rfl | rfl | rfl | rfl | rfl | rfl <;> first | exact isD_sU _ | rfl
  · refine isDL fun u hu => ?_
    simp only [List.cons_append, List.nil_append, List.mem_cons, List.not_mem_nil, or_false] at hu
    rcases hu with rfl | rfl | rfl | rfl | rfl | rfl | rfl | rfl <;> first | exact isD_sU _ | rfl
  · refine fitL (n := 6) (by simp) fun u hu => ?_
    simp only [List.cons_append, List.nil_append, List.mem_cons, List.not_mem_nil, or_false] at hu
    rcases hu with rfl | rfl | rfl | rfl | rfl | rfl | rfl | rfl <;> first | exact fit_str _ | exact fit_bl _ | (rw [toD_sU]; exact fit_sU (n := 3) _ (by omega))

end
end LW

namespace LW
open PySem L2 Kt LM DO Va
section
variable {w : World} {K : PySem.W.Frag} {mg : Str → Option Value} {base : Heap} {A : Ads}
theorem ok_Opening_ge (T : Txt K mg A) : FnOk P w K mg base CX0 1 A.Opening_ge A.Opening_ge' ["self", "other"] (spU false (pfO2 A.Opening geD)) := by
  refine T.Opening_ge.F.ok sc_Opening_ge (fun vs H Q E h => len_U hl_O2 h) (fun cdv Ar outer s H vs Q E hr h => ?_)
  refine ⟨_, pss_cons (ps_if (pt_not (pt_val (pe_callB call_isi (by rfl) T.b_isinstance (by decide +kernel) (pa_cons (pv 1) (pa_cons (pe_glob (v := .ref A.Opening) rfl T.Opening.g rfl) pa_nil))))) (pss_one (ps_never)) (pss_nil))
      (pss_one (ps_ret (pe_cmpR (DO.op_geP K (DO.room66 hr)) (pe_fldK K (pv 0) rfl) (pe_fldK K (pv 1) rfl) (nomark _)))), ?_⟩
  refine run_U (n := 2) (k := 0) h
    (s_seq (s_ifR (rt_not (rt_B (re_isO (re_v 1)))) s_never)
      (s_ret (re_op ro_ord (RE.rv (re_fld T.Opening.cl T.no_Opening_own_key (re_v 0))) (RE.rv (re_fld T.Opening.cl T.no_Opening_own_key (re_v 1)))))) (len_U hl_O2 h) rfl ?_
  rintro as q ⟨k, m, k', m', rfl, s1, s2, hq⟩
  refine ⟨A.Opening, _, true, insC_ins, T.ty_Opening, .own _, kit_self, true, rfl, ifF rfl ?_⟩
  exact ⟨_, _, rfl, rfl, _, _, rfl, rfl, isD_key _ _, isD_key _ _, s1, s2, cmp_key _ _ _ _, hq⟩

end
end LW

namespace LW
open PySem L2 Kt LM DO Va
section
variable {w : World} {K : PySem.W.Frag} {mg : Str → Option Value} {base : Heap} {A : Ads}
theorem ok_Opening_gt (T : Txt K mg A) : FnOk P w K mg base CX0 1 A.Opening_gt A.Opening_gt' ["self", "other"] (spU false (pfO2 A.Opening gtD)) := by
  refine T.Opening_gt.F.ok sc_Opening_gt (fun vs H Q E h => len_U hl_O2 h) (fun cdv Ar outer s H vs Q E hr h => ?_)
  refine ⟨_, pss_cons (ps_if (pt_not (pt_val (pe_callB call_isi (by rfl) T.b_isinstance (by decide +kernel) (pa_cons (pv 1) (pa_cons (pe_glob (v := .ref A.Opening) rfl T.Opening.g rfl) pa_nil))))) (pss_one (ps_never)) (pss_nil))
      (pss_one (ps_ret (pe_cmpR (DO.op_gtP K (DO.room66 hr)) (pe_fldK K (pv 0) rfl) (pe_fldK K (pv 1) rfl) (nomark _)))), ?_⟩
  refine run_U (n := 2) (k := 0) h
    (s_seq (s_ifR (rt_not (rt_B (re_isO (re_v 1)))) s_never)
      (s_ret (re_op ro_ord (RE.rv (re_fld T.Opening.cl T.no_Opening_own_key (re_v 0))) (RE.rv (re_fld T.Opening.cl T.no_Opening_own_key (re_v 1)))))) (len_U hl_O2 h) rfl ?_
  rintro as q ⟨k, m, k', m', rfl, s1, s2, hq⟩
  refine ⟨A.Opening, _, true, insC_ins, T.ty_Opening, .own _, kit_self, true, rfl, ifF rfl ?_⟩
  exact ⟨_, _, rfl, rfl, _, _, rfl, rfl, isD_key _ _, isD_key _ _, s1, s2, cmp_key _ _ _ _, hq⟩

end
end LW

namespace LW
open PySem L2 Kt LM DO Va
section
variable {w : World} {K : PySem.W.Frag} {mg : Str → Option Value} {base : Heap} {A : Ads}
theorem strOk_names {ns : List Str} (h : ∀ x ∈ ns, Kd x) : ∀ k ∈ ns, PyData.strOk k = true := fun k hk => (h k hk).ok
theorem sh_one {k j : Str} {a : Int} (h1 : PyData.strOk k = true) (h2 : PyData.strOk j = true) : SeqAt.shaped (toD (keyU' k [(j, a)])) = true := shaped_key h1 fun x hx => by rw [List.mem_singleton.mp hx]; exact h2
theorem shH {k : Str} (h : PyData.strOk k = true) : SeqAt.shaped (toD (.lst [.lst [.str k, .bl true, .bl false], .non])) = true := by
  refine (shd_list (n := 1) fun d hd => ?_).shaped (by decide)
  simp only [toDs, List.mem_cons, List.not_mem_nil, or_false] at hd
  rcases hd with rfl | rfl
  · refine shd_list (n := 0) fun d hd => ?_
    simp only [toDs, toD, List.mem_cons, List.not_mem_nil, or_false] at hd
    rcases hd with rfl | rfl | rfl
    · exact shd_str h
    · exact shd_bl _
    · exact shd_bl _
  · exact shd_non
theorem shR {k : Str} (h : PyData.strOk k = true) : SeqAt.shaped (toD (.lst [.non, .lst [.tup [.str k], .bl true, .bl false]])) = true := by
  refine (shd_list (n := 2) fun d hd => ?_).shaped (by decide)
  simp only [toDs, List.mem_cons, List.not_mem_nil, or_false] at hd
  rcases hd with rfl | rfl
  · exact shd_non
  · refine shd_list (n := 1) fun d hd => ?_
    simp only [toDs, toD, List.mem_cons, List.not_mem_nil, or_false] at hd
    rcases hd with rfl | rfl | rfl
    · refine shd_tup (n := 0) fun d hd => ?_
      simp only [toDs, toD, List.mem_cons, List.not_mem_nil, or_false] at hd
      rw [hd]; exact shd_str h
    · exact shd_bl _
    · exact shd_bl _
theorem noC_sU (C : Addr) (m : Pr) : noC C (.tup (sU m)) = true := by
  show noCs C (sU m) = true
  induction m with
  | nil => rfl
  | cons p r ih => show (true && noCs C (sU r)) = true; rw [ih]; rfl
theorem noC_op {C D : Addr} (h : D ≠ C) {k : Str} {m : Pr} : noC C (opU D k m) = true := by
  have e : (D == C) = false := by simpa using h
  show (!(D == C) && (true && ((true && (noC C (.tup (sU m)) && true)) && true))) = true
  rw [e, noC_sU]; rfl
def rowU (C : Addr) (r : Str × Pr) : U := .tup [.str r.1, .tup (sU r.2), opU C r.1 r.2]
theorem okB_right (T : Txt K mg A) : FnOk P w K mg base CX0 18 A.right A.right' ["_law_box_here"] (spB false 200000 pfTrue) := by
  refine T.right.F.ok sc_right (fun vs H Q E h => len_B hl_true h) (fun cdv Ar outer s H vs Q E hr h => ?_)
  refine ⟨_, pss_cons (ps_asg (pe_tup (pa_cons (pe_call (FnOk.imp (sp' := spB true 1000 pfNames) (ok_names T) fun _ _ _ _ h => cv_names h) (hr.mono (by decide)) rfl T.names.g T.names.F.kp T.names.b .nil pass0 (pa_cons (pv 0) (pa_cons (pe_int) pa_nil))) (pa_cons (pe_lst pa_nil) pa_nil))) (pg_sqK K 2 rfl (pgs_cons (pg_name (i := 1) sc_right.nd rfl (Or.inr rfl)) (pgs_cons (pg_name (i := 2) sc_right.nd rfl (Or.inl rfl)) pgs_nil))))
      (pss_cons (ps_setLc (i := 3) (own := [("_law_far", 4)]) (g := (gName 4)) rfl sc_right.nd rfl rfl (sw_true rfl rfl rfl (by decide +kernel)) (pi_listK K (pe_lst (pa_cons (pe_int) (pa_cons (pe_int) (pa_cons (pe_int) pa_nil))))) (blkOk_by (own := [("_law_far", 4)]) (N := N_right) (sc := defScope s_right) (by decide +kernel)) (fun _ _ _ _ _ => pg_name (i := 4) sc_right.nd rfl (Or.inl rfl)) (fun _ _ _ _ _ => pts_nil) (fun _ _ _ _ _ => by exact pe_make (T.Opening_init.mk_ T.Opening) (ok_Opening_init T) (hr.mono (by decide)) rfl T.Opening.g T.Opening_init.b .nil passL (pa_cons (pe_ix (ix_listK K) (pv 1) (pe_int) (fun _ _ => rfl)) (pa_cons (pe_make (T.Lot_init.mk_ T.Lot) (ok_Lot_init T) (hr.mono (by decide)) rfl T.Lot.g T.Lot_init.b .nil pass0 (pa_cons (pe_lst (pa_cons (pe_tup (pa_cons (pe_ix (ix_listK K) (pv 1) (pe_int) (fun _ _ => rfl)) (pa_cons (pv 4) pa_nil))) pa_nil)) pa_nil)) pa_nil))))
      (pss_cons (ps_set (i := 5) sc_right.nd rfl (Or.inl rfl) (pe_lst (pa_cons (pe_cmpR (OO.op_cmp rfl (ok_Opening_eq T) (hr.mono (by decide)) T.Opening_eq.b pass0 T.Opening_eq.own) (pe_ix (ix_listK K) (pv 3) (pe_int) (fun _ _ => rfl)) (pe_ix (ix_listK K) (pv 3) (pe_int) (fun _ _ => rfl)) (nomark _)) (pa_cons (pe_cmpR (OO.op_cmp rfl (ok_Opening_lt T) (hr.mono (by decide)) T.Opening_lt.b pass0 T.Opening_lt.own) (pe_ix (ix_listK K) (pv 3) (pe_int) (fun _ _ => rfl)) (pe_ix (ix_listK K) (pv 3) (pe_int) (fun _ _ => rfl)) (nomark _)) (pa_cons (pe_cmpR (OO.op_cmp rfl (ok_Opening_lt T) (hr.mono (by decide)) T.Opening_lt.b pass0 T.Opening_lt.own) (pe_ix (ix_listK K) (pv 3) (pe_int) (fun _ _ => rfl)) (pe_ix (ix_listK K) (pv 3) (pe_int) (fun _ _ => rfl)) (nomark _)) (pa_cons (pe_cmpR (OO.op_cmp rfl (ok_Opening_le T) (hr.mono (by decide)) T.Opening_le.b pass0 T.Opening_le.own) (pe_ix (ix_listK K) (pv 3) (pe_int) (fun _ _ => rfl)) (pe_ix (ix_listK K) (pv 3) (pe_int) (fun _ _ => rfl)) (nomark _)) pa_nil))))))
      (pss_cons (ps_if (pt_not (pt_val (pe_call (FnOk.imp (sp' := spU false (pfSame 7)) (ok_same T) fun _ _ _ _ h => cv_same h) (hr.mono (by decide)) rfl T.same.g T.same.F.kp T.same.b .nil pass0 (pa_cons (pv 5) (pa_cons (pe_lst (pa_cons (pe_bl) (pa_cons (pe_bl) (pa_cons (pe_bl) (pa_cons (pe_bl) pa_nil))))) pa_nil))))) (pss_one (ps_ret (pe_bl))) (pss_nil))
      (pss_cons (ps_asg (pe_call (ok_one T) (hr.mono (by decide)) rfl T.one.g T.one.F.kp T.one.b .nil pass0 (pa_cons (pe_ix (ix_listK K) (pv 1) (pe_int) (fun _ _ => rfl)) (pa_cons (pe_make (T.Lot_init.mk_ T.Lot) (ok_Lot_init T) (hr.mono (by decide)) rfl T.Lot.g T.Lot_init.b .nil pass0 (pa_cons (pe_lst (pa_cons (pe_tup (pa_cons (pe_ix (ix_listK K) (pv 1) (pe_int) (fun _ _ => rfl)) (pa_cons (pe_int) pa_nil))) (pa_cons (pe_tup (pa_cons (pe_ix (ix_listK K) (pv 1) (pe_int) (fun _ _ => rfl)) (pa_cons (pe_int) pa_nil))) pa_nil))) pa_nil)) (pa_cons (pe_int) pa_nil)))) (pg_sqK K 2 rfl (pgs_cons (pg_name (i := 6) sc_right.nd rfl (Or.inl rfl)) (pgs_cons (pg_name (i := 7) sc_right.nd rfl (Or.inl rfl)) pgs_nil))))
      (pss_cons (ps_if (PW.pt (pw_or (pt_cmpR op_notN (pv 6) (pe_non) (nomark _)) (pw_or1 (pt_not (pt_val (pe_call (FnOk.imp (sp' := spU false (pfSame 7)) (ok_same T) fun _ _ _ _ h => cv_same h) (hr.mono (by decide)) rfl T.same.g T.same.F.kp T.same.b .nil pass0 (pa_cons (pv 7) (pa_cons (pe_lst (pa_cons (pe_non) (pa_cons (pe_lst (pa_cons (pe_tup (pa_cons (pe_ix (ix_listK K) (pv 1) (pe_int) (fun _ _ => rfl)) pa_nil)) (pa_cons (pe_bl) (pa_cons (pe_bl) pa_nil)))) pa_nil))) pa_nil)))))))) (pss_one (ps_ret (pe_bl))) (pss_nil))
      (pss_cons (ps_for PassesOwn.never rfl (pi_range1 rfl T.b_range (pa_cons (pe_int) pa_nil)) (pg_name (i := 8) sc_right.nd rfl (Or.inl rfl))
        (pss_cons (ps_asg (pe_tup (pa_cons (pe_call (okV_of T) (hr.mono (by decide)) rfl T.of.g T.of.F.kp T.of.b .nil pass0 (pa_cons (pv 0) (pa_cons (pv 1) pa_nil))) (pa_cons (pe_call (FnOk.imp (sp' := spB true 1 pfTake) (ok_take T) fun _ _ _ _ h => cv_take h) (hr.mono (by decide)) rfl T.take.g T.take.F.kp T.take.b .nil pass0 (pa_cons (pv 0) (pa_cons (pe_int) pa_nil))) pa_nil))) (pg_sqK K 2 rfl (pgs_cons (pg_name (i := 9) sc_right.nd rfl (Or.inr rfl)) (pgs_cons (pg_name (i := 10) sc_right.nd rfl (Or.inr rfl)) pgs_nil))))
      (pss_cons (ps_set (i := 11) sc_right.nd rfl (Or.inl rfl) (pe_lst pa_nil))
      (pss_cons (ps_for PassesOwn.never rfl (pi_listK K (pv 1)) (pg_name (i := 12) sc_right.nd rfl (Or.inl rfl))
        (pss_one (ps_if (pt_cmpR op_eq (pe_call (FnOk.imp (sp' := spB true 1 pfTake) (ok_take T) fun _ _ _ _ h => cv_take h) (hr.mono (by decide)) rfl T.take.g T.take.F.kp T.take.b .nil pass0 (pa_cons (pv 0) (pa_cons (pe_int) pa_nil))) (pe_int) (nomark _)) (pss_one (ps_expr (pe_bmK K PySem.F.plainAttrs_list PySem.F.slot_list_append PySem.F.type_list_append mt_append (pv 11) (pa_cons (pe_tup (pa_cons (pv 12) (pa_cons (pe_call (okV_of T) (hr.mono (by decide)) rfl T.of.g T.of.F.kp T.of.b .nil pass0 (pa_cons (pv 0) (pa_cons (pe_lst (pa_cons (pe_int) (pa_cons (pe_int) (pa_cons (pe_op op_add (pe_int) (pe_call (FnOk.imp (sp' := spB true 1 pfTake) (ok_take T) fun _ _ _ _ h => cv_take h) (hr.mono (by decide)) rfl T.take.g T.take.F.kp T.take.b .nil pass0 (pa_cons (pv 0) (pa_cons (pe_op op_pow (pe_int) (pe_int)) pa_nil)))) pa_nil)))) pa_nil))) pa_nil))) pa_nil)))) (pss_nil))))
      (pss_cons (ps_set (i := 13) sc_right.nd rfl (Or.inl rfl) (pe_call (FnOk.imp (sp' := spU false pfPairs) (ok_pairs T) fun _ _ _ _ h => cv_pairs h) (hr.mono (by decide)) rfl T.pairs.g T.pairs.F.kp T.pairs.b .nil pass0 (pa_cons (pe_call (FnOk.imp (sp' := spN false pfCounted) (ok_counted T) fun _ _ _ _ h => cv_counted h) (hr.mono (by decide)) rfl T.counted.g T.counted.F.kp T.counted.b .nil pass0 (pa_cons (pe_lc (own := [("_law_row", 14)]) (g := (gName 14)) rfl sc_right.nd (pi_listK K (pv 11)) (blkOk_by (own := [("_law_row", 14)]) (N := N_right) (sc := defScope s_right) (by decide +kernel)) (fun _ _ _ _ _ => pg_name (i := 14) sc_right.nd rfl (Or.inl rfl)) (fun _ _ _ _ _ => pts_one (PW.pt (pw_or (pt_cmpR op_eq (pv 10) (pe_int) (nomark _)) (pw_or1 (pt_cmpR op_ne (pe_ix (ix_tupK K) (pv 14) (pe_int) (fun _ _ => rfl)) (pv 9) (nomark _)))))) (fun _ _ _ _ _ => by exact pv 14)) pa_nil)) pa_nil)))
      (pss_cons (ps_set (i := 15) sc_right.nd rfl (Or.inl rfl) (pe_make (T.Lot_init.mk_ T.Lot) (ok_Lot_init T) (hr.mono (by decide)) rfl T.Lot.g T.Lot_init.b .nil pass0 (pa_cons (pe_call (ok_mixed T) (hr.mono (by decide)) rfl T.mixed.g T.mixed.F.kp T.mixed.b .nil pass0 (pa_cons (pv 0) (pa_cons (pv 13) pa_nil))) pa_nil)))
      (pss_cons (ps_asg (pe_call (ok_one T) (hr.mono (by decide)) rfl T.one.g T.one.F.kp T.one.b .nil pass0 (pa_cons (pv 9) (pa_cons (pv 15) (pa_cons (pe_call (FnOk.imp (sp' := spB true 1 pfTake) (ok_take T) fun _ _ _ _ h => cv_take h) (hr.mono (by decide)) rfl T.take.g T.take.F.kp T.take.b .nil pass0 (pa_cons (pv 0) (pa_cons (pe_int) pa_nil))) pa_nil)))) (pg_sqK K 2 rfl (pgs_cons (pg_name (i := 6) sc_right.nd rfl (Or.inl rfl)) (pgs_cons (pg_name (i := 7) sc_right.nd rfl (Or.inl rfl)) pgs_nil))))
      (pss_cons (ps_if (PW.pt (pw_or (pt_not (pt_val (pe_call (FnOk.imp (sp' := spU false (pfSame 7)) (ok_same T) fun _ _ _ _ h => cv_same h) (hr.mono (by decide)) rfl T.same.g T.same.F.kp T.same.b .nil pass0 (pa_cons (pv 7) (pa_cons (pe_call (ok_due T) (hr.mono (by decide)) rfl T.due.g T.due.F.kp T.due.b .nil pass0 (pa_cons (pv 9) (pa_cons (pv 13) pa_nil))) pa_nil))))) (pw_or1 (pt_cmpR op_ne (pe_cmpR op_isN (pv 6) (pe_non) (nomark _)) (pe_cmpR (op_neDK K (by exact hr.units)) (pv 7) (pe_lst (pa_cons (pe_non) (pa_cons (pe_non) pa_nil))) (nomark _)) (nomark _))))) (pss_one (ps_ret (pe_bl))) (pss_nil))
      (pss_cons (ps_asg (pe_int) (pg_sub (pv 15) (pe_ix (ix_listK K) (pv 1) (pe_int) (fun _ _ => rfl)) (OO.set_own (ok_Lot_setitem T) (hr.mono (by decide)) T.Lot_setitem.b pass0 T.Lot_setitem.own T.Lot.ns)))
      (pss_cons (ps_aug (i := 15) sc_right.nd rfl (Or.inl rfl) (pe_make (T.Lot_init.mk_ T.Lot) (ok_Lot_init T) (hr.mono (by decide)) rfl T.Lot.g T.Lot_init.b .nil pass0 (pa_cons (pe_lst (pa_cons (pe_tup (pa_cons (pe_ix (ix_listK K) (pv 1) (pe_int) (fun _ _ => rfl)) (pa_cons (pe_int) pa_nil))) pa_nil)) pa_nil)) (OO.ip_own (okV_Lot_iadd T) (hr.mono (by decide)) T.Lot_iadd.b pass0 T.Lot.sf T.Lot_iadd.own))
      (pss_one (ps_if (pt_cmpR op_notN (pv 6) (pe_non) (nomark _)) (pss_cons (ps_if (pt_not (pt_val (pe_call (ok_shown T) (hr.mono (by decide)) rfl T.shown.g T.shown.F.kp T.shown.b .nil pass0 (pa_cons (pv 6) (pa_cons (pv 9) (pa_cons (pv 13) pa_nil)))))) (pss_one (ps_ret (pe_bl))) (pss_nil))
      (pss_one (ps_expr (pe_bmK K PySem.F.plainAttrs_list PySem.F.slot_list_append PySem.F.type_list_append mt_append (pv 2) (pa_cons (pe_tup (pa_cons (pv 9) (pa_cons (pv 13) (pa_cons (pv 6) pa_nil)))) pa_nil))))) (pss_nil)))))))))))))
      (pss_cons (ps_for PassesOwn.never rfl (pi_listK K (pv 2)) (pg_name (i := 16) sc_right.nd rfl (Or.inl rfl))
        (pss_one (ps_for PassesOwn.never rfl (pi_listK K (pv 2)) (pg_name (i := 17) sc_right.nd rfl (Or.inl rfl))
        (pss_cons (ps_par (i := 3) (j := 4) rfl sc_right.nd rfl rfl (by decide) rfl rfl (pa_cons (pe_slice (sl_tupK K) (pv 16) po_none (po_some (pe_int))) (pa_cons (pe_slice (sl_tupK K) (pv 17) po_none (po_some (pe_int))) pa_nil)) (by rfl))
      (pss_cons (ps_par (i := 18) (j := 19) rfl sc_right.nd rfl rfl (by decide) rfl rfl (pa_cons (pe_ix (ix_tupK K) (pv 16) (pe_int) (fun _ _ => rfl)) (pa_cons (pe_ix (ix_tupK K) (pv 17) (pe_int) (fun _ _ => rfl)) pa_nil)) (by rfl))
      (pss_cons (ps_set (i := 5) sc_right.nd rfl (Or.inl rfl) (pe_lst (pa_cons (pe_cmpR (OO.op_cmp rfl (ok_Opening_lt T) (hr.mono (by decide)) T.Opening_lt.b pass0 T.Opening_lt.own) (pv 18) (pv 19) (nomark _)) (pa_cons (pe_cmpR (OO.op_cmp rfl (ok_Opening_le T) (hr.mono (by decide)) T.Opening_le.b pass0 T.Opening_le.own) (pv 18) (pv 19) (nomark _)) (pa_cons (pe_cmpR (OO.op_cmp rfl (ok_Opening_gt T) (hr.mono (by decide)) T.Opening_gt.b pass0 T.Opening_gt.own) (pv 18) (pv 19) (nomark _)) (pa_cons (pe_cmpR (OO.op_cmp rfl (ok_Opening_ge T) (hr.mono (by decide)) T.Opening_ge.b pass0 T.Opening_ge.own) (pv 18) (pv 19) (nomark _)) (pa_cons (pe_cmpR (OO.op_cmp rfl (ok_Opening_eq T) (hr.mono (by decide)) T.Opening_eq.b pass0 T.Opening_eq.own) (pv 18) (pv 19) (nomark _)) pa_nil)))))))
      (pss_one (ps_if (pt_not (pt_val (pe_call (FnOk.imp (sp' := spU false (pfSame 7)) (ok_same T) fun _ _ _ _ h => cv_same h) (hr.mono (by decide)) rfl T.same.g T.same.F.kp T.same.b .nil pass0 (pa_cons (pv 5) (pa_cons (pe_lst (pa_cons (pe_cmpR (DO.op_ltP K (DO.room66 hr)) (pv 3) (pv 4) (nomark _)) (pa_cons (pe_cmpR (DO.op_leP K (DO.room66 hr)) (pv 3) (pv 4) (nomark _)) (pa_cons (pe_cmpR (DO.op_gtP K (DO.room66 hr)) (pv 3) (pv 4) (nomark _)) (pa_cons (pe_cmpR (DO.op_geP K (DO.room66 hr)) (pv 3) (pv 4) (nomark _)) (pa_cons (pe_cmpR (op_eqDK K (by exact hr.units)) (pv 3) (pv 4) (nomark _)) pa_nil)))))) pa_nil))))) (pss_one (ps_ret (pe_bl))) (pss_nil)))))))))
      (pss_one (ps_ret (pe_bl)))))))))), ?_⟩
  refine run_B (n := 0) (k := 19) h
    (s_seq (s_asgFNq 1 2 (by decide) (re_callB 0 (ra_cons re_int ra_nil)) (rn_lst ra_nil))
      (s_seq (s_set 3 (RN.re (rn_lc 20 (ri_list (RN.re (rn_lst (ra_cons re_int (ra_cons re_int (ra_cons re_int ra_nil)))))) rg_name rt_yes (RN.re (rn_make (ra_cons (re_op ro_ixL (RE.rv (re_v 1)) (RE.rv re_int)) (ra_cons (RN.re (rn_lot (RN.re (rn_lst (ra_cons (RN.re (rn_tup (ra_cons (re_op ro_ixL (RE.rv (re_v 1)) (RE.rv re_int)) (ra_cons (re_v 4) ra_nil)))) ra_nil))))) ra_nil)))))))
      (s_seq (s_set 5 (RN.re (rn_lst (ra_cons (re_bin (re_op ro_ixL (RE.rv (re_v 3)) (RE.rv re_int)) (re_op ro_ixL (RE.rv (re_v 3)) (RE.rv re_int))) (ra_cons (re_bin (re_op ro_ixL (RE.rv (re_v 3)) (RE.rv re_int)) (re_op ro_ixL (RE.rv (re_v 3)) (RE.rv re_int))) (ra_cons (re_bin (re_op ro_ixL (RE.rv (re_v 3)) (RE.rv re_int)) (re_op ro_ixL (RE.rv (re_v 3)) (RE.rv re_int))) (ra_cons (re_bin (re_op ro_ixL (RE.rv (re_v 3)) (RE.rv re_int)) (re_op ro_ixL (RE.rv (re_v 3)) (RE.rv re_int))) ra_nil)))))))
      (s_seq (s_ifR (rt_not (rt_B (re_call (ra_cons (re_v 5) (ra_cons (RN.re (rn_lst (ra_cons re_bl (ra_cons re_bl (ra_cons re_bl (ra_cons re_bl ra_nil)))))) ra_nil))))) (s_ret re_bl))
      (s_seq (s_asg (re_call (ra_cons (re_op ro_ixL (RE.rv (re_v 1)) (RE.rv re_int)) (ra_cons (RN.re (rn_lot (RN.re (rn_lst (ra_cons (RN.re (rn_tup (ra_cons (re_op ro_ixL (RE.rv (re_v 1)) (RE.rv re_int)) (ra_cons re_int ra_nil)))) (ra_cons (RN.re (rn_tup (ra_cons (re_op ro_ixL (RE.rv (re_v 1)) (RE.rv re_int)) (ra_cons re_int ra_nil)))) ra_nil)))))) (ra_cons re_int ra_nil)))) (rg_sq (rgs_cons rg_name (rgs_cons rg_name rgs_nil))))
      (s_seq (s_ifR (rt_or (rt_test (re_op ro_notNX (RE.rv (re_v 6)) (RE.rv re_non))) (rt_not (rt_B (re_call (ra_cons (re_v 7) (ra_cons (RN.re (rn_lst (ra_cons re_non (ra_cons (RN.re (rn_lst (ra_cons (RN.re (rn_tup (ra_cons (re_op ro_ixL (RE.rv (re_v 1)) (RE.rv re_int)) ra_nil))) (ra_cons re_bl (ra_cons re_bl ra_nil))))) ra_nil)))) ra_nil)))))) (s_ret re_bl))
      (s_seq (s_for (ml := [.box, .fz, .own, .fz, .junk, .fz, .fz, .fz, .junk, .junk, .junk, .junk, .junk, .junk, .junk, .junk, .junk, .junk, .junk, .junk]) 20 (ri_rng1 re_int) rg_name
        (s_seq (s_asg (RN.re (rn_tup (ra_cons (re_callB 0 (ra_cons (re_v 1) ra_nil)) (ra_cons (re_callB 0 (ra_cons re_int ra_nil)) ra_nil)))) (rg_sq (rgs_cons rg_name (rgs_cons rg_name rgs_nil))))
      (s_seq (s_own 11 (rn_lst ra_nil))
      (s_seq (s_for (ml := [.box, .fz, .own, .fz, .junk, .fz, .fz, .fz, .fz, .fz, .fz, .own, .junk, .junk, .junk, .junk, .junk, .junk, .junk, .junk]) 20 (ri_list (re_v 1)) rg_name
        (s_if (ml := [.box, .fz, .own, .fz, .junk, .fz, .fz, .fz, .fz, .fz, .fz, .own, .fz, .junk, .junk, .junk, .junk, .junk, .junk, .junk]) (rt_test (re_op ro_eq (RE.rv (re_callB 0 (ra_cons re_int ra_nil))) (RE.rv re_int))) (s_append 11 (RN.re (rn_tup (ra_cons (re_v 12) (ra_cons (re_callB 0 (ra_cons (RN.re (rn_lst (ra_cons re_int (ra_cons re_int (ra_cons (re_op ro_add (RE.rv re_int) (RE.rv (re_callB 0 (ra_cons (re_op ro_pow (RE.rv re_int) (RE.rv re_int)) ra_nil)))) ra_nil))))) ra_nil)) ra_nil))))) s_next))
      (s_frz 11 (s_seq (s_set 13 (re_call (ra_cons (RN.re (rn_call (ra_cons (RN.re (rn_lc 20 (ri_list (re_v 11)) rg_name (rt_or (rt_test (re_op ro_eq (RE.rv (re_v 10)) (RE.rv re_int))) (rt_test (re_op ro_ne (RE.rv (re_op ro_ixT (RE.rv (re_v 14)) (RE.rv re_int))) (RE.rv (re_v 9))))) (re_v 14))) ra_nil))) ra_nil)))
      (s_seq (s_own 15 (rn_lot (re_callB 0 (ra_cons (re_v 13) ra_nil))))
      (s_seq (s_asg (re_keepC (C := A.Lot) 15 (re_call (ra_cons (re_v 9) (ra_cons (re_v 15) (ra_cons (re_callB 0 (ra_cons re_int ra_nil)) ra_nil))))) (rg_sq (rgs_cons rg_name (rgs_cons rg_name rgs_nil))))
      (s_seq (s_ifR (rt_or (rt_not (rt_B (re_call (ra_cons (re_v 7) (ra_cons (re_call (ra_cons (re_v 9) (ra_cons (re_v 13) ra_nil))) ra_nil))))) (rt_test (re_op ro_ne (RE.rv (re_op ro_isNX (RE.rv (re_v 6)) (RE.rv re_non))) (RE.rv (re_op ro_neD (RE.rv (re_v 7)) (RE.rv (RN.re (rn_lst (ra_cons re_non (ra_cons re_non ra_nil)))))))))) (s_ret re_bl))
      (s_seq (s_setO 15 re_int (re_op ro_ixL (RE.rv (re_v 1)) (RE.rv re_int)))
      (s_seq (s_augO 15 (RN.re (rn_lot (RN.re (rn_lst (ra_cons (RN.re (rn_tup (ra_cons (re_op ro_ixL (RE.rv (re_v 1)) (RE.rv re_int)) (ra_cons re_int ra_nil)))) ra_nil))))))
      (s_if (ml := [.box, .fz, .own, .fz, .junk, .fz, .fz, .fz, .fz, .fz, .fz, .fz, .junk, .fz, .junk, .own, .junk, .junk, .junk, .junk]) (rt_test (re_op ro_notNX (RE.rv (re_v 6)) (RE.rv re_non))) (s_seq (s_ifR (rt_not (rt_B (re_call (ra_cons (re_v 6) (ra_cons (re_v 9) (ra_cons (re_v 13) ra_nil)))))) (s_ret re_bl))
      (s_append 2 (RN.re (rn_tup (ra_cons (re_v 9) (ra_cons (re_v 13) (ra_cons (re_v 6) ra_nil))))))) s_next))))))))))))
      (s_frz 2 (s_seq (s_for (ml := [.box, .fz, .fz, .fz, .junk, .fz, .fz, .fz, .junk, .junk, .junk, .junk, .junk, .junk, .junk, .junk, .junk, .junk, .junk, .junk]) 20 (ri_list (re_v 2)) rg_name
        (s_for (ml := [.box, .fz, .fz, .fz, .junk, .fz, .fz, .fz, .junk, .junk, .junk, .junk, .junk, .junk, .junk, .junk, .fz, .junk, .junk, .junk]) 20 (ri_list (re_v 2)) rg_name
        (s_seq (s_par 3 4 (RN.re (rn_slT (RE.rv (re_v 16)) rp_none (rp_some re_int))) (RN.re (rn_slT (RE.rv (re_v 17)) rp_none (rp_some re_int))))
      (s_seq (s_par 18 19 (re_op ro_ixT (RE.rv (re_v 16)) (RE.rv re_int)) (re_op ro_ixT (RE.rv (re_v 17)) (RE.rv re_int)))
      (s_seq (s_set 5 (RN.re (rn_lst (ra_cons (re_bin (re_v 18) (re_v 19)) (ra_cons (re_bin (re_v 18) (re_v 19)) (ra_cons (re_bin (re_v 18) (re_v 19)) (ra_cons (re_bin (re_v 18) (re_v 19)) (ra_cons (re_bin (re_v 18) (re_v 19)) ra_nil))))))))
      (s_ifR (rt_not (rt_B (re_call (ra_cons (re_v 5) (ra_cons (RN.re (rn_lst (ra_cons (re_op ro_ord (RE.rv (re_v 3)) (RE.rv (re_v 4))) (ra_cons (re_op ro_ord (RE.rv (re_v 3)) (RE.rv (re_v 4))) (ra_cons (re_op ro_ord (RE.rv (re_v 3)) (RE.rv (re_v 4))) (ra_cons (re_op ro_ord (RE.rv (re_v 3)) (RE.rv (re_v 4))) (ra_cons (re_op ro_eqD (RE.rv (re_v 3)) (RE.rv (re_v 4))) ra_nil))))))) ra_nil))))) (s_ret re_bl)))))))
      (s_ret re_bl)))))))))) (by decide) (len_B hl_true h) rfl ?_
  rintro as q ⟨rfl, hq⟩
  refine ⟨6, rfl, by decide, fun ns hns hkd hnd => ?_⟩
  have hok := strOk_names hkd
  obtain ⟨n0, n1, nr, en⟩ : ∃ x y r, ns = x :: y :: r := by
    match ns, hns with
    | x :: y :: r, _ => exact ⟨x, y, r, rfl⟩
  have hn0 : n0 ∈ ns := by rw [en]; simp
  have hn1 : n1 ∈ ns := by rw [en]; simp
  have hn01 : n0 ≠ n1 := by rw [en] at hnd; simp at hnd; exact hnd.1.1
  have a0 : atI (ns.map U.str) 0 = some (.str n0) := by rw [en]; exact atI_nat (xs := U.str n0 :: U.str n1 :: nr.map .str) (j := 0) rfl
  have a1 : atI (ns.map U.str) 1 = some (.str n1) := by rw [en]; exact atI_nat (xs := U.str n0 :: U.str n1 :: nr.map .str) (j := 1) rfl
  refine ⟨szz rfl, szz rfl, _, rfl, by simp, lc_idx (l := ([1, 2, 10] : List Int)) (f := U.int) (fun far => opU A.Opening n0 [(n1, far)]) ?_ ?_⟩
  · intro i far hf Q N hQ
    have hpos : 0 < far := by
      have := List.mem_of_getElem? hf
      simp at this
      omega
    refine ifT rfl ⟨_, _, .str n0, rfl, rfl, a0, _, _, .str n1, rfl, rfl, a1, szz rfl, szz rfl, [(n1, far)], [n1], .inl rfl, fun p hp => by rw [List.mem_singleton.mp hp]; exact Int.le_of_lt hpos, by simp, fun p hp => by rw [List.mem_singleton.mp hp]; simp, by simp, ?_⟩
    rw [mk_one hpos]
    exact ⟨n0, [(n1, far)], rfl, fun _ _ _ _ => hQ, (fun h => by cases h), fun _ _ _ hz => absurd (lk_out fun x hx => by rw [List.mem_singleton.mp hx]; exact fun e => hn01 e.symm) hz⟩
  have sh : ∀ a : Int, SeqAt.shaped (toD (keyU' n0 [(n1, a)])) = true := fun a => sh_one (hok _ hn0) (hok _ hn1)
  refine ⟨_, _, opU A.Opening n0 [(n1, 1)], rfl, rfl, atI_nat (j := 0) rfl, _, _, opU A.Opening n0 [(n1, 2)], rfl, rfl, atI_nat (j := 1) rfl, insC_ins, insC_ins, n0, _, n0, _, rfl, sh _, sh _, ?_⟩
  refine ⟨_, _, opU A.Opening n0 [(n1, 2)], rfl, rfl, atI_nat (j := 1) rfl, _, _, opU A.Opening n0 [(n1, 10)], rfl, rfl, atI_nat (j := 2) rfl, insC_ins, insC_ins, n0, _, n0, _, rfl, sh _, sh _, ?_⟩
  refine ⟨_, _, opU A.Opening n0 [(n1, 10)], rfl, rfl, atI_nat (j := 2) rfl, _, _, opU A.Opening n0 [(n1, 1)], rfl, rfl, atI_nat (j := 0) rfl, insC_ins, insC_ins, n0, _, n0, _, rfl, sh _, sh _, ?_⟩
  refine ⟨_, _, opU A.Opening n0 [(n1, 1)], rfl, rfl, atI_nat (j := 0) rfl, _, _, opU A.Opening n0 [(n1, 2)], rfl, rfl, atI_nat (j := 1) rfl, insC_ins, insC_ins, n0, _, n0, _, rfl, sh _, sh _, szz rfl, ?_⟩
  rw [eqv_key, lt_one, lt_one, le_one]
  have e1 : decide (n0 = n0 ∧ [(n1, (1 : Int))] = [(n1, 2)]) = false := by simp
  rw [e1]
  refine ⟨szz rfl, _, _, rfl, rfl, rfl, rfl, ?_, true, rfl, ifF rfl ?_⟩
  · refine fit_bls (by simp) fun u hu => ?_
    simp only [List.mem_cons, List.not_mem_nil, or_false] at hu
    rcases hu with rfl | rfl | rfl | rfl <;> exact ⟨_, rfl⟩
  have lk0 : lk (mkLot [(n0, 1), (n1, 2)]) n0 = 1 := by
    rw [lk_mk (by intro x hx; simp at hx; rcases hx with rfl | rfl; exact (by decide : (0 : Int) ≤ 1); exact (by decide : (0 : Int) ≤ 2))]
    have z : ¬ n1 = n0 := fun z => hn01 z.symm
    simp [sumK, z]
  refine ⟨_, _, .str n0, rfl, rfl, a0, _, _, .str n0, rfl, rfl, a0, szz rfl, _, _, .str n1, rfl, rfl, a1, szz rfl, szz rfl, [(n0, 1), (n1, 2)], [n0, n1], .inl rfl, ?_, by simp, ?_, by simp, ?_⟩
  · intro x hx; simp at hx; rcases hx with rfl | rfl; exact (by decide : (0 : Int) ≤ 1); exact (by decide : (0 : Int) ≤ 2)
  · intro x hx; simp at hx; rcases hx with rfl | rfl <;> simp
  refine ⟨n0, _, 0, rfl, (fun he => by rw [he] at lk0; cases lk0), fun _ _ _ _ => ?_, fun _ _ _ hz => by rw [lk0] at hz; cases hz⟩
  refine ⟨_, .inr rfl, rfl, _, _, rfl, _, _, rfl, rfl, rfl, true, .inl rfl, _, rfl, ifF rfl ⟨_, _, .str n0, rfl, rfl, a0, szz rfl, szz rfl, szz rfl, _, _, rfl, rfl, rfl, rfl, ?_, true, rfl, ifF rfl ?_⟩⟩
  · refine fitL (n := 6) (by simp) fun u hu => ?_
    simp only [List.mem_cons, List.not_mem_nil, or_false] at hu
    rcases hu with rfl | rfl
    · exact fit_non
    · refine fitL (n := 5) (by simp) fun u hu => ?_
      simp only [List.mem_cons, List.not_mem_nil, or_false] at hu
      rcases hu with rfl | rfl | rfl
      · refine fit_tup (n := 4) (by simp [toDs]) fun e he => ?_
        simp only [toDs, toD, List.mem_cons, List.not_mem_nil, or_false] at he
        rw [he]; exact fit_str _
      · exact fit_bl _
      · exact fit_bl _
  refine ⟨10, rfl, by decide, by decide, by rw [intsU_len]; decide, fun i env => ∃ (rows : List (Str × Pr)), rows.length ≤ i ∧ (∀ r ∈ rows, PyData.strOk r.1 = true ∧ ∀ x ∈ r.2, PyData.strOk x.1 = true) ∧ ∃ e3 e4 e5 e6 e7 e8 e9 e10 e11 e12 e13 e14 e15 e16 e17 e18 e19, env = [.non, .lst (ns.map .str), .lst (rows.map (rowU A.Opening)), e3, e4, e5, e6, e7, e8, e9, e10, e11, e12, e13, e14, e15, e16, e17, e18, e19], ⟨[], Nat.le_refl _, (fun r h => by cases h), _, _, _, _, _, _, _, _, _, _, _, _, _, _, _, _, _, rfl⟩, ?_, ?_⟩
  · rintro i x env hx ⟨rows, hrl, hrow, e3, e4, e5, e6, e7, e8, e9, e10, e11, e12, e13, e14, e15, e16, e17, e18, e19, rfl⟩
    obtain ⟨hi, rfl⟩ := intsU_at hx
    refine ⟨_, rfl, by rw [List.length_map]; omega, by rw [List.length_map]; omega, fun u hu => ?_⟩
    obtain ⟨k, hk, rfl⟩ := List.mem_map.mp hu
    refine ⟨4, rfl, by decide, by decide, fun o ho0 ho1 => ⟨szz rfl, _, .inl rfl, rfl, _, _, rfl, _, _, rfl, rfl, szz rfl, ?_⟩⟩
    refine ⟨_, rfl, by rw [List.length_map]; omega, fun j env => ∃ (ps : Pr) (v : U), ps.length ≤ j ∧ (∀ p ∈ ps, p.1 ∈ ns ∧ 0 < p.2 ∧ p.2 ≤ 1000000000000) ∧ env = [.non, .lst (ns.map .str), .lst (rows.map (rowU A.Opening)), e3, e4, e5, e6, e7, .int (0 + (i : Int)), .str k, .int o, .lst (sU ps), v, e13, e14, e15, e16, e17, e18, e19], ⟨[], _, Nat.le_refl _, (fun p h => by cases h), rfl⟩, ?_, ?_⟩
    · rintro j x env hx ⟨ps, v, hpl, hps, rfl⟩
      rw [List.getElem?_map] at hx
      obtain ⟨kk, hkk, rfl⟩ := Option.map_eq_some_iff.mp hx
      have hkn := List.mem_of_getElem? hkk
      have hjl : j < ns.length := (List.getElem?_eq_some_iff.mp hkk).1
      refine ⟨2, rfl, by decide, by decide, fun t _ _ => ⟨_, rfl, _, rfl, if2 (fun _ => ?_) (fun _ => ⟨ps, _, by omega, hps, rfl⟩)⟩⟩
      refine ⟨_, rfl, by rw [sU, List.length_map]; omega, _, _, rfl, rfl, ⟨by decide, by decide, by decide⟩, _, rfl, by decide, by decide, fun t h0 h1 => ⟨_, _, rfl, rfl, szz rfl, _, rfl, by simp, by simp, fun u hu => ?_⟩⟩
      have h1 : t < 1000000000000 := h1
      obtain ⟨b, rfl, hb0, hb1⟩ : ∃ b : Int, u = .int b ∧ 0 < b ∧ b ≤ 1000000000000 := by
        simp only [List.mem_cons, List.not_mem_nil, or_false] at hu
        rcases hu with rfl | rfl | rfl
        · exact ⟨_, rfl, by decide, by decide⟩
        · exact ⟨_, rfl, by decide, by decide⟩
        · exact ⟨1 + t, rfl, by omega, by omega⟩
      refine ⟨szz rfl, ps ++ [(kk, b)], .str kk, by simp; omega, fun p hp => ?_, ?_⟩
      · rcases List.mem_append.mp hp with h | h
        · exact hps p h
        · rw [List.mem_singleton.mp h]; exact ⟨hkn, hb0, hb1⟩
      · have : sU ps ++ [U.tup [.str kk, .int b]] = sU (ps ++ [(kk, b)]) := by simp [sU, pU]
        rw [← this]; rfl
    rintro env ⟨ps, v, hpl, hps, rfl⟩
    rw [List.length_map, hns] at hpl
    refine ⟨_, rfl, by rw [sU, List.length_map]; omega, fun j acc => ∃ qs : Pr, acc = sU qs ∧ qs.length ≤ j ∧ ∀ p ∈ qs, p ∈ ps, ⟨[], rfl, Nat.le_refl _, fun p h => by cases h⟩, ?_, ?_⟩
    · rintro j x acc hx ⟨qs, rfl, hql, hqs⟩ _
      rw [sU, List.getElem?_map] at hx
      obtain ⟨pp, hpp, rfl⟩ := Option.map_eq_some_iff.mp hx
      have hin : ∃ rs : Pr, sU qs ++ [pU pp] = sU rs ∧ rs.length ≤ j + 1 ∧ ∀ p ∈ rs, p ∈ ps := ⟨qs ++ [pp], by simp [sU], by simp; omega, fun p h => by
        rcases List.mem_append.mp h with h | h
        · exact hqs p h
        · rw [List.mem_singleton.mp h]; exact List.mem_of_getElem? hpp⟩
      refine ⟨_, rfl, _, rfl, if2 (fun _ => ifT rfl hin) (fun _ => ⟨_, _, .str pp.1, rfl, rfl, atI_nat (j := 0) rfl, _, rfl, _, rfl, if2 (fun _ => hin) (fun _ => ⟨qs, rfl, by omega, hqs⟩)⟩)⟩
    rintro acc ⟨qs, rfl, hql, hqs⟩ _
    rw [sU, List.length_map] at hql
    have hqn : ∀ p ∈ qs, p.1 ∈ ns ∧ 0 < p.2 ∧ p.2 ≤ 1000000000000 := fun p hp => hps p (hqs p hp)
    have hq0 : ∀ p ∈ qs, 0 ≤ p.2 := fun p hp => Int.le_of_lt (hqn p hp).2.1
    have htl := tally_length qs
    refine ⟨_, qs, rfl, .inl rfl, by omega, tally qs, rfl, tally_nodup _, by omega, fun x hx => shaped_encP ?_, ?_⟩
    · obtain ⟨y, hy, e⟩ := List.mem_map.mp (tally_vals hx).2
      rw [← e]; exact hok _ (hqn y hy).1
    rw [lotD_tally hq0]
    have hm : Ok (mkLot qs) := mk_ok hq0
    have hmk : ∀ p ∈ mkLot qs, p.1 ∈ ns := fun p hp => by
      obtain ⟨y, hy, e⟩ := List.mem_map.mp (keys_mk hq0 hp)
      rw [← e]; exact (hqn y hy).1
    have hml : (mkLot qs).length ≤ 6 := hns ▸ mk_len hq0 fun x hx => (hqn x hx).1
    have hmv : ∀ p ∈ mkLot qs, p.2.natAbs.log2 < 1900 ∧ p.1.length ≤ 1000 := fun p hp => by
      refine ⟨?_, ?_⟩
      · have h1 := hm.lk_mem hp
        rw [lk_mk hq0] at h1
        have h2 := sumK_le (B := 1000000000000) (ps := qs) (fun x hx => ⟨hq0 x hx, (hqn x hx).2.2⟩) (by decide) p.1
        have h3 : (1000000000000 : Int) * (qs.length : Int) ≤ 1000000000000 * 6 := Int.mul_le_mul_of_nonneg_left (by omega) (by decide)
        have h4 := hm.pos p hp
        have h5 : p.2.natAbs < 2 ^ 64 := by omega
        exact Nat.lt_of_lt_of_le ((Nat.log2_lt (by omega)).mpr h5) (by decide)
      · have := (hkd _ (hmk p hp)).le
        rw [Array.length_toList] at this
        show p.1.cps.size ≤ 1000
        omega
    have hms : ∀ x ∈ mkLot qs, PyData.strOk x.1 = true := fun x hx => hok _ (hmk x hx)
    generalize mkLot qs = m at hm hmk hml hmv hms ⊢
    refine ⟨_, _, rfl, rfl, by rw [sU, List.length_map]; omega, fun ys hy => ?_⟩
    obtain ⟨zs, hzs, rfl⟩ := perm_map_inv hy _ rfl
    refine ⟨zs, ns, .inl rfl, fun p hp => Int.le_of_lt (hm.pos p (hzs.mem_iff.mp hp)), by omega, fun p hp => hmk p (hzs.mem_iff.mp hp), by rw [hzs.length_eq]; omega, ?_⟩
    rw [mk_perm hm hzs]
    refine ⟨insC_lot, 2, rfl, by decide, by decide, fun t _ _ => ⟨k, m, t, rfl, fun he => ?_, fun _ _ hne hkk => ?_, fun _ _ hne hkz => ?_⟩⟩
    · refine ⟨rfl, _, .inr rfl, rfl, _, _, rfl, _, _, rfl, rfl, ?_⟩
      refine ⟨k, m, rfl, by omega, hms, fun _ => ?_, fun h => absurd he h, fun h => absurd he h⟩
      refine ⟨_, _, rfl, rfl, rfl, rfl, ?_, true, rfl, ifF rfl ?_⟩
      · refine fitL (n := 6) (by simp) fun u hu => ?_
        simp only [List.mem_cons, List.not_mem_nil, or_false] at hu
        rcases hu with rfl | rfl
        · refine fitL (n := 5) (by simp) fun u hu => ?_
          simp only [List.mem_cons, List.not_mem_nil, or_false] at hu
          rcases hu with rfl | rfl | rfl
          · exact fit_str _
          · exact fit_bl _
          · exact fit_bl _
        · exact fit_non
      have ee : PyData.eqv (toD (.lst [.lst [.str k, .bl true, .bl false], .non])) (toD (.lst [.non, .non])) = false := by simp [toD, toDs, PyData.eqv, PyData.eqvAll]
      refine ⟨rfl, true, .inl rfl, szz rfl, rfl, rfl, shH (hok _ hk), rfl, true, ?_, _, rfl, ifF rfl ?_⟩
      · show scalU (.bl true) (.bl (!PyData.eqv (toD (.lst [.lst [.str k, .bl true, .bl false], .non])) (toD (.lst [.non, .non])))) = some true
        rw [ee]; rfl
      refine ⟨_, _, .str n0, rfl, rfl, a0, insC_lot, m, n0, 9, rfl, by decide, by omega, fun r hr hrk => ?_⟩
      have hrn : ∀ p ∈ r, p.1 ∈ ns := fun p hp => by
        by_cases e : p.1 = n0
        · rw [e]; exact hn0
        · have h1 := hrk p.1
          rw [if_neg e, hr.lk_mem hp] at h1
          have h2 := hr.pos p hp
          exact hmk (p.1, lk m p.1) (lk_pos_mem (m := m) (k := p.1) (by omega))
      refine ⟨_, _, .str n1, rfl, rfl, a1, szz rfl, szz rfl, [(n1, 4)], [n1], .inl rfl, (fun p hp => by rw [List.mem_singleton.mp hp]; exact (by decide : (0 : Int) ≤ 4)), by simp, (fun p hp => by rw [List.mem_singleton.mp hp]; simp), by simp, ?_⟩
      rw [mk_one (by decide : (0 : Int) < 4)]
      refine ⟨insC_lot, r, _, ns, rfl, by omega, hrn, (fun p hp => by rw [List.mem_singleton.mp hp]; exact hn1), fun _ _ => ?_⟩
      exact ⟨rfl, true, .inl rfl, _, rfl, ifF rfl ⟨rows, by omega, hrow, _, _, _, _, _, _, _, _, _, _, _, _, _, _, _, _, _, rfl⟩⟩
    · refine ⟨rfl, _, .inr rfl, rfl, _, _, rfl, _, _, rfl, rfl, ?_⟩
      refine ⟨k, m, rfl, by omega, hms, fun h => absurd h hne, fun _ _ => ?_, fun _ h => absurd (List.mem_map_of_mem (lk_pos_mem hkk)) h⟩
      refine ⟨_, _, rfl, rfl, rfl, rfl, ?_, true, rfl, ifF rfl ?_⟩
      · refine fitL (n := 6) (by simp) fun u hu => ?_
        simp only [List.mem_cons, List.not_mem_nil, or_false] at hu
        rcases hu with rfl | rfl
        · exact fit_non
        · refine fitL (n := 5) (by simp) fun u hu => ?_
          simp only [List.mem_cons, List.not_mem_nil, or_false] at hu
          rcases hu with rfl | rfl | rfl
          · refine fit_tup (n := 4) (by simp [toDs]) fun e he => ?_
            simp only [toDs, toD, List.mem_cons, List.not_mem_nil, or_false] at he
            rw [he]; exact fit_str _
          · exact fit_bl _
          · exact fit_bl _
      have ee : PyData.eqv (toD (.lst [.non, .lst [.tup [.str k], .bl true, .bl false]])) (toD (.lst [.non, .non])) = false := by simp [toD, toDs, PyData.eqv, PyData.eqvAll]
      refine ⟨rfl, true, .inl rfl, szz rfl, rfl, rfl, shR (hok _ hk), rfl, true, ?_, _, rfl, ifF rfl ?_⟩
      · show scalU (.bl true) (.bl (!PyData.eqv (toD (.lst [.non, .lst [.tup [.str k], .bl true, .bl false]])) (toD (.lst [.non, .non])))) = some true
        rw [ee]; rfl
      refine ⟨_, _, .str n0, rfl, rfl, a0, insC_lot, m, n0, 9, rfl, by decide, by omega, fun r hr hrk => ?_⟩
      have hrn : ∀ p ∈ r, p.1 ∈ ns := fun p hp => by
        by_cases e : p.1 = n0
        · rw [e]; exact hn0
        · have h1 := hrk p.1
          rw [if_neg e, hr.lk_mem hp] at h1
          have h2 := hr.pos p hp
          exact hmk (p.1, lk m p.1) (lk_pos_mem (m := m) (k := p.1) (by omega))
      refine ⟨_, _, .str n1, rfl, rfl, a1, szz rfl, szz rfl, [(n1, 4)], [n1], .inl rfl, (fun p hp => by rw [List.mem_singleton.mp hp]; exact (by decide : (0 : Int) ≤ 4)), by simp, (fun p hp => by rw [List.mem_singleton.mp hp]; simp), by simp, ?_⟩
      rw [mk_one (by decide : (0 : Int) < 4)]
      refine ⟨insC_lot, r, _, ns, rfl, by omega, hrn, (fun p hp => by rw [List.mem_singleton.mp hp]; exact hn1), fun _ _ => ?_⟩
      exact ⟨rfl, true, .inl rfl, _, rfl, ifF rfl ⟨rows, by omega, hrow, _, _, _, _, _, _, _, _, _, _, _, _, _, _, _, _, _, rfl⟩⟩
    · refine ⟨?_, _, .inr rfl, rfl, _, _, rfl, _, _, rfl, rfl, ?_⟩
      · have hno : noC A.Lot (.tup (sU m)) = true := noC_sU _ _
        show (noC A.Lot (opU A.Opening k m) && (noC A.Lot (.lst [.non, .non]) && true)) = true
        rw [noC_op T.df_Opening_Lot]; rfl
      refine ⟨k, m, rfl, by omega, hms, fun h => absurd h hne, fun _ h => absurd hkz (fun z => by
        obtain ⟨p, hp, e⟩ := List.mem_map.mp h
        have h1 := hm.lk_mem hp
        have h2 := hm.pos p hp
        rw [e, z] at h1
        omega), fun _ _ => ?_⟩
      refine ⟨_, _, rfl, rfl, rfl, rfl, ?_, true, rfl, ifF rfl ?_⟩
      · refine fitL (n := 6) (by simp) fun u hu => ?_
        simp only [List.mem_cons, List.not_mem_nil, or_false] at hu
        rcases hu with rfl | rfl <;> exact fit_non
      have ee : PyData.eqv (toD (.lst [.non, .non])) (toD (.lst [.non, .non])) = true := by simp [toD, toDs, PyData.eqv, PyData.eqvAll]
      refine ⟨rfl, false, .inl rfl, szz rfl, rfl, rfl, rfl, rfl, true, ?_, _, rfl, ifF rfl ?_⟩
      · show scalU (.bl false) (.bl (!PyData.eqv (toD (.lst [.non, .non])) (toD (.lst [.non, .non])))) = some true
        rw [ee]; rfl
      refine ⟨_, _, .str n0, rfl, rfl, a0, insC_lot, m, n0, 9, rfl, by decide, by omega, fun r hr hrk => ?_⟩
      have hrn : ∀ p ∈ r, p.1 ∈ ns := fun p hp => by
        by_cases e : p.1 = n0
        · rw [e]; exact hn0
        · have h1 := hrk p.1
          rw [if_neg e, hr.lk_mem hp] at h1
          have h2 := hr.pos p hp
          exact hmk (p.1, lk m p.1) (lk_pos_mem (m := m) (k := p.1) (by omega))
      refine ⟨_, _, .str n1, rfl, rfl, a1, szz rfl, szz rfl, [(n1, 4)], [n1], .inl rfl, (fun p hp => by rw [List.mem_singleton.mp hp]; exact (by decide : (0 : Int) ≤ 4)), by simp, (fun p hp => by rw [List.mem_singleton.mp hp]; simp), by simp, ?_⟩
      rw [mk_one (by decide : (0 : Int) < 4)]
      refine ⟨insC_lot, r, _, ns, rfl, by omega, hrn, (fun p hp => by rw [List.mem_singleton.mp hp]; exact hn1), fun _ _ => ?_⟩
      have hkl : k.length ≤ 1000 := by
        have := (hkd _ hk).le
        rw [Array.length_toList] at this
        show k.cps.size ≤ 1000
        omega
      refine ⟨rfl, false, .inl rfl, _, rfl, ifT rfl ⟨k, m, rfl, hm, by omega, hne, hkz, hok _ hk, hms, hkl, hmv, true, rfl, ifF rfl ⟨_, rfl, by rw [List.length_map]; omega, szz rfl, rows ++ [(k, m)], by simp; omega, fun r hr => ?_, ?_⟩⟩⟩
      · rcases List.mem_append.mp hr with h | h
        · exact hrow r h
        · rw [List.mem_singleton.mp h]; exact ⟨hok _ hk, hms⟩
      · rw [List.map_append]
        exact ⟨_, _, _, _, _, _, _, _, _, _, _, _, _, _, _, _, _, rfl⟩
  · rintro env ⟨rows, hrl, hrow, e3, e4, e5, e6, e7, e8, e9, e10, e11, e12, e13, e14, e15, e16, e17, e18, e19, rfl⟩
    rw [intsU_len] at hrl
    refine ⟨_, rfl, by rw [List.length_map]; omega, fun i env => ∃ f3 f4 f5 f6 f7 f8 f9 f10 f11 f12 f13 f14 f15 f16 f17 f18 f19, env = [.non, .lst (ns.map .str), .lst (rows.map (rowU A.Opening)), f3, f4, f5, f6, f7, f8, f9, f10, f11, f12, f13, f14, f15, f16, f17, f18, f19], ⟨_, _, _, _, _, _, _, _, _, _, _, _, _, _, _, _, _, rfl⟩, ?_, fun env _ => hq⟩
    rintro i x env hx ⟨f3, f4, f5, f6, f7, f8, f9, f10, f11, f12, f13, f14, f15, f16, f17, f18, f19, rfl⟩
    rw [List.getElem?_map] at hx
    obtain ⟨ra, hra, rfl⟩ := Option.map_eq_some_iff.mp hx
    obtain ⟨ga1, ga2⟩ := hrow ra (List.mem_of_getElem? hra)
    refine ⟨_, rfl, by rw [List.length_map]; omega, fun j env => ∃ f3 f4 f5 f6 f7 f8 f9 f10 f11 f12 f13 f14 f15 f17 f18 f19, env = [.non, .lst (ns.map .str), .lst (rows.map (rowU A.Opening)), f3, f4, f5, f6, f7, f8, f9, f10, f11, f12, f13, f14, f15, rowU A.Opening ra, f17, f18, f19], ⟨_, _, _, _, _, _, _, _, _, _, _, _, _, _, _, _, rfl⟩, ?_, ?_⟩
    · rintro j y env hy ⟨f3, f4, f5, f6, f7, f8, f9, f10, f11, f12, f13, f14, f15, f17, f18, f19, rfl⟩
      rw [List.getElem?_map] at hy
      obtain ⟨rb, hrb, rfl⟩ := Option.map_eq_some_iff.mp hy
      obtain ⟨gb1, gb2⟩ := hrow rb (List.mem_of_getElem? hrb)
      have ecut : ∀ a b c : U, cutU [a, b, c] none (some 2) = [a, b] := fun a b c => by rw [show (2 : Int) = ((2 : Nat) : Int) from rfl, cutU_to]; rfl
      have sa := shaped_key ga1 ga2
      have sb := shaped_key gb1 gb2
      refine ⟨2, rfl, _, rfl, ?_, 2, rfl, _, rfl, ?_, ?_⟩
      · intro h
        have h2 := h.2
        rw [show (2 : Int) = ((2 : Nat) : Int) from rfl, HT.sIx_nat] at h2
        simp at h2
      · intro h
        have h2 := h.2
        rw [show (2 : Int) = ((2 : Nat) : Int) from rfl, HT.sIx_nat] at h2
        simp at h2
      rw [ecut, ecut]
      refine ⟨_, _, opU A.Opening ra.1 ra.2, rfl, rfl, atI_nat (j := 2) rfl, _, _, opU A.Opening rb.1 rb.2, rfl, rfl, atI_nat (j := 2) rfl, insC_ins, insC_ins, ra.1, ra.2, rb.1, rb.2, rfl, sa, sb, insC_ins, insC_ins, ra.1, ra.2, rb.1, rb.2, rfl, sa, sb, insC_ins, insC_ins, ra.1, ra.2, rb.1, rb.2, rfl, sa, sb, insC_ins, insC_ins, ra.1, ra.2, rb.1, rb.2, rfl, sa, sb, insC_ins, insC_ins, ra.1, ra.2, rb.1, rb.2, rfl, sa, sb, szz rfl, ?_⟩
      refine ⟨isD_key _ _, isD_key _ _, sa, sb, cmp_key _ _ _ _, isD_key _ _, isD_key _ _, sa, sb, cmp_key _ _ _ _, isD_key _ _, isD_key _ _, sa, sb, cmp_key _ _ _ _, isD_key _ _, isD_key _ _, sa, sb, cmp_key _ _ _ _, isD_key _ _, isD_key _ _, sa, sb, szz rfl, _, _, rfl, rfl, rfl, rfl, ?_, true, rfl, ifF rfl ⟨_, _, _, _, _, _, _, _, _, _, _, _, _, _, _, _, rfl⟩⟩
      refine fit_bls (by simp) fun u hu => ?_
      simp only [List.mem_cons, List.not_mem_nil, or_false] at hu
      rcases hu with rfl | rfl | rfl | rfl | rfl <;> exact ⟨_, rfl⟩
    · rintro env ⟨f3, f4, f5, f6, f7, f8, f9, f10, f11, f12, f13, f14, f15, f17, f18, f19, rfl⟩
      exact ⟨_, _, _, _, _, _, _, _, _, _, _, _, _, _, _, _, _, rfl⟩

theorem ok_right (T : Txt K mg A) : FnOk P w K mg base CX0 18 A.right A.right' ["_law_box_here"] spRight0 := (okB_right T).imp fun _ _ _ _ h => cv_right (by decide) h

end
end LW

namespace LW
open PySem L2 Kt LM DO Va
section
variable {w : World} {K : PySem.W.Frag} {mg : Str → Option Value} {base : Heap} {A : Ads}
theorem ok_box (T : Txt K mg A) : FnOk P w K mg base CX0 1 A.box A.box' ["_law_script", "_law_k"] spBox := by
  refine T.box.F.ok sc_box (fun vs H Q E h => ?_) (fun cdv Ar outer s H vs Q E hr h => ?_)
  · obtain ⟨G, a, ns, j, rfl, _⟩ := h
    rfl
  · obtain ⟨G, a, ns, j, rfl, S, ha, hj, hn, k⟩ := h
    obtain ⟨v, hv⟩ : ∃ v, ns[j]? = some v := ⟨_, List.getElem?_eq_getElem hj⟩
    have hat : atI (ns.map V.int) (j : Int) = some (.int v) := atI_nat (by rw [List.getElem?_map, hv]; rfl)
    refine ⟨_, pss_cons (ps_set (i := 2) sc_box.nd rfl (Or.inl rfl) (pe_ifExp (pt_cmpR op_lt (pv 1) (pe_callB (call_len_seqK K) (by rfl) T.b_len (by decide +kernel) (pa_cons (pv 0) pa_nil)) (nomark _)) (pe_ix (ix_listK K) (pv 0) (pv 1) (fun _ _ => rfl)) (pe_int)))
      (pss_one (ps_ret (pe_lst (pa_cons (pe_op op_mul (pe_callB call_abs (by rfl) T.b_abs (by decide +kernel) (pa_cons (pv 2) pa_nil)) (pe_callTy call_int1 (by rfl) T.b_int (by decide +kernel) (pa_cons (pe_cmpR op_ge (pe_callB call_abs (by rfl) T.b_abs (by decide +kernel) (pa_cons (pv 2) pa_nil)) (pe_op op_pow (pe_int) (pe_int)) (nomark _)) pa_nil))) (pa_cons (pe_op op_add (pe_op op_add (pe_op op_mod (pe_callTy call_int1 (by rfl) T.b_int (by decide +kernel) (pa_cons (pv 2) pa_nil)) (pe_int)) (pe_op op_mul (pe_int) (pv 1))) (pe_int)) (pa_cons (pe_int) pa_nil)))))), ?_⟩
    refine ⟨_, rfl, _, rfl, a, _, rfl, .inl (SqL.of (S _ _ ha)), _, _, rfl, rfl, _, rfl, ?_⟩
    refine ifT (decide_eq_true (by rw [List.length_map]; omega)) ?_
    refine ⟨_, rfl, _, rfl, a, _, _, _, rfl, rfl, SqL.of (S _ _ ha), hat, ?_⟩
    have h0 : (0 : Int) ≤ (if v < 0 then -v else v) := by split <;> omega
    refine ⟨_, rfl, _, rfl, _, rfl, _, rfl, _, _, rfl, rfl, ⟨by decide, by decide, by decide⟩, _, _, rfl, rfl, .inr ⟨_, rfl, ?_⟩⟩
    refine ⟨_, _, rfl, rfl, .inr ?_, ?_⟩
    · exact (b01 _).1
    refine ⟨_, rfl, .inl ⟨_, rfl, _, _, rfl, rfl, p0 rfl, _, rfl, _, _, rfl, rfl, .inl ⟨by decide, by decide⟩, _, _, rfl, rfl, _, _, rfl, rfl, ?_⟩⟩
    refine ⟨sz rfl, fun q hq => ?_⟩
    generalize e1 : upd H q _ = H1
    obtain ⟨x1, gq, hq1⟩ := ex_hid (M := No) S hq e1
    refine k H1 q x1 ⟨x1.s, ⟨_, _, ?_, by decide, hq1⟩, gq⟩ hq
    exact Int.mul_nonneg h0 (b01 _).2

end
end LW

namespace LW
open PySem L2 Kt LM DO Va
section
variable {w : World} {K : PySem.W.Frag} {mg : Str → Option Value} {base : Heap} {A : Ads}
theorem ok_law (T : Txt K mg A) : FnOk P w K mg base CX0 20 A.law A.law' ["_law_script"] (spLaw K) := by
  refine T.law.F.ok sc_law (fun vs H Q E h => ?_) (fun cdv Ar outer s H vs Q E hr h => ?_)
  · obtain ⟨a, ns, rfl, _⟩ := h
    rfl
  · obtain ⟨a, ns, rfl, ha, hn, k⟩ := h
    refine ⟨_, pss_cons (ps_set (i := 1) sc_law.nd rfl (Or.inr rfl) (pe_call (ok_cells T) (hr.mono (by decide)) rfl T.cells.g T.cells.F.kp T.cells.b .nil pass0 (pa_cons (pv 0) (pa_cons (pe_int) pa_nil))))
      (pss_one (ps_ret (pe_callB (cr_allK K rfl) (by rfl) T.b_all (by decide +kernel) (pa_cons (pe_lc (own := [("_law_k", 2)]) (g := (gName 2)) rfl sc_law.nd (pi_range1 rfl T.b_range (pa_cons (pe_callB (call_len_seqK K) (by rfl) T.b_len (by decide +kernel) (pa_cons (pv 1) pa_nil)) pa_nil)) (blkOk_by (own := [("_law_k", 2)]) (N := N_law) (sc := defScope s_law) (by decide +kernel)) (fun _ _ _ _ _ => pg_name (i := 2) sc_law.nd rfl (Or.inl rfl)) (fun _ _ _ _ _ => pts_nil) (fun _ _ _ _ _ => by exact pe_call (ok_right T) (hr.mono (by decide)) rfl T.right.g T.right.F.kp T.right.b .nil pass0 (pa_cons (pe_call (ok_box T) (hr.mono (by decide)) rfl T.box.g T.box.F.kp T.box.b .nil pass0 (pa_cons (pv 1) (pa_cons (pv 2) pa_nil))) pa_nil))) pa_nil)))), ?_⟩
    refine ⟨_, rfl, a, ns, _, rfl, ha, hn, by decide, by decide, fun H1 l cs x1 hl hcs => ?_⟩
    refine ⟨_, rfl, l, _, rfl, .inl (SqL.of hl), _, rfl, by omega, by rw [List.length_map]; omega, fun D hD => ?_⟩
    have hDl : D ≠ l := (ne_of_none hl hD).symm
    refine lc_range (lo := 0) (n := ((cs.map V.int).length : Int).toNat) (fun i H' => Same H1 H' ∧ H' D = some (.lst (List.replicate i (.bl true)))) ⟨same_new hD, upd_same⟩ ?_ ?_
    · rintro i H' hi ⟨sH, hD'⟩
      rw [List.length_map, Int.toNat_natCast] at hi
      refine ⟨rfl, _, rfl, _, rfl, H1, l, cs, i, by rw [Int.zero_add]; rfl, sH, hl, hi, by omega, fun H2 p x2 S2 hp => ?_⟩
      refine ⟨H1, p, 0, rfl, S2, by decide, fun G3 H3 c3 x3 S3 => ?_⟩
      have nDp : D ≠ p := ne_of_none hD' hp
      have hD3 : H3 D = some (.lst (List.replicate i (.bl true))) := x3.h _ _ nDp (x2.same _ _ hD')
      refine ⟨_, hD3, szl (by rw [List.length_replicate]; omega), same_put (x3.g.trans x3.s) hD, ?_⟩
      rw [upd_same, List.replicate_succ']
    · rintro H' ⟨sH, hD'⟩
      refine ⟨D, List.replicate cs.length true, rfl, SqL.of (by rw [hD', List.map_replicate, List.length_map, Int.toNat_natCast]), ?_⟩
      have e : (List.replicate cs.length true).all id = true := by simp
      rw [e]
      exact k _

end
end LW

namespace LW
open PySem L2 Kt LM DO Va
theorem all_mk {l : PySem.W.OpenLaw} {w : World} {K : PySem.W.Frag} {h : Heap} {mg : Str → Option Value} {fa : Addr} {C_Hollow : Addr} {C_Lot : Addr} {C_Opening : Addr} {C_Ringed : Addr} {t_EQUALS : _} {t_NONE : _} {nm_Hollow qn_Hollow : Str} {N_Hollow : Addr} {bs_Hollow bm_Hollow : List Value} {sn_Hollow : List Str} {su_Hollow : List Value} {ab_Hollow : Bool} {co_Hollow : Option Bool} {dd_Hollow : Option Addr} {w0_Hollow w1_Hollow w2_Hollow w3_Hollow w5_Hollow : Option Value} {nm_Ringed qn_Ringed : Str} {N_Ringed : Addr} {bs_Ringed bm_Ringed : List Value} {sn_Ringed : List Str} {su_Ringed : List Value} {ab_Ringed : Bool} {co_Ringed : Option Bool} {dd_Ringed : Option Addr} {w0_Ringed w1_Ringed w2_Ringed w3_Ringed w5_Ringed : Option Value} {f_cells : Addr} {oc_cells kV_cells do_cells pm_cells cd_cells ct_cells : Value} {od_cells an_cells : Option Addr} {sl_cells : Array (Option Value)} {f_take : Addr} {oc_take kV_take do_take pm_take cd_take ct_take : Value} {od_take an_take : Option Addr} {sl_take : Array (Option Value)} {f_of : Addr} {oc_of kV_of do_of pm_of cd_of ct_of : Value} {od_of an_of : Option Addr} {sl_of : Array (Option Value)} {f_names : Addr} {oc_names kV_names do_names pm_names cd_names ct_names : Value} {od_names an_names : Option Addr} {sl_names : Array (Option Value)} {f_Lot_len : Addr} {oc_Lot_len kV_Lot_len do_Lot_len pm_Lot_len cd_Lot_len ct_Lot_len : Value} {od_Lot_len an_Lot_len : Option Addr} {sl_Lot_len : Array (Option Value)} {f_Hollow_init cda_Hollow_init cc_Hollow_init : Addr} {oc_Hollow_init ccl_Hollow_init cl_Hollow_init kV_Hollow_init do_Hollow_init pm_Hollow_init ct_Hollow_init : Value} {od_Hollow_init cdd_Hollow_init cld_Hollow_init an_Hollow_init : Option Addr} {sl_Hollow_init ccs_Hollow_init csl_Hollow_init : Array (Option Value)} {vs_Hollow_init : Array Value} {fl_Hollow_init : Str} {tf_Hollow_init : Tok} {f_Lot_contains : Addr} {oc_Lot_contains kV_Lot_contains do_Lot_contains pm_Lot_contains cd_Lot_contains ct_Lot_contains : Value} {od_Lot_contains an_Lot_contains : Option Addr} {sl_Lot_contains : Array (Option Value)} {f_Ringed_init cda_Ringed_init cc_Ringed_init : Addr} {oc_Ringed_init ccl_Ringed_init cl_Ringed_init kV_Ringed_init do_Ringed_init pm_Ringed_init ct_Ringed_init : Value} {od_Ringed_init cdd_Ringed_init cld_Ringed_init an_Ringed_init : Option Addr} {sl_Ringed_init ccs_Ringed_init csl_Ringed_init : Array (Option Value)} {vs_Ringed_init : Array Value} {fl_Ringed_init : Str} {tf_Ringed_init : Tok} {f_Lot_pairs : Addr} {oc_Lot_pairs kV_Lot_pairs do_Lot_pairs pm_Lot_pairs cd_Lot_pairs ct_Lot_pairs : Value} {od_Lot_pairs an_Lot_pairs : Option Addr} {sl_Lot_pairs : Array (Option Value)} {f_Opening_init : Addr} {oc_Opening_init kV_Opening_init do_Opening_init pm_Opening_init cd_Opening_init ct_Opening_init : Value} {od_Opening_init an_Opening_init : Option Addr} {sl_Opening_init : Array (Option Value)} {f_Lot_init : Addr} {oc_Lot_init kV_Lot_init do_Lot_init pm_Lot_init cd_Lot_init ct_Lot_init : Value} {od_Lot_init an_Lot_init : Option Addr} {sl_Lot_init : Array (Option Value)} {T_Lot_init : Addr} {u_Lot_init cT_Lot_init : Value} {dT_Lot_init : Option Addr} {nT_Lot_init : Nat} {sT_Lot_init : Array (Option Value)} {f_Opening_le : Addr} {oc_Opening_le kV_Opening_le do_Opening_le pm_Opening_le cd_Opening_le ct_Opening_le : Value} {od_Opening_le an_Opening_le : Option Addr} {sl_Opening_le : Array (Option Value)} {f_Opening_lt : Addr} {oc_Opening_lt kV_Opening_lt do_Opening_lt pm_Opening_lt cd_Opening_lt ct_Opening_lt : Value} {od_Opening_lt an_Opening_lt : Option Addr} {sl_Opening_lt : Array (Option Value)} {f_Opening_eq : Addr} {oc_Opening_eq kV_Opening_eq do_Opening_eq pm_Opening_eq cd_Opening_eq ct_Opening_eq : Value} {od_Opening_eq an_Opening_eq : Option Addr} {sl_Opening_eq : Array (Option Value)} {f_same : Addr} {oc_same kV_same do_same pm_same cd_same ct_same : Value} {od_same an_same : Option Addr} {sl_same : Array (Option Value)} {f_one : Addr} {oc_one kV_one do_one pm_one cd_one ct_one : Value} {od_one an_one : Option Addr} {sl_one : Array (Option Value)} {f_rising : Addr} {oc_rising kV_rising do_rising pm_rising cd_rising ct_rising : Value} {od_rising an_rising : Option Addr} {sl_rising : Array (Option Value)} {f_pairs : Addr} {oc_pairs kV_pairs do_pairs pm_pairs cd_pairs ct_pairs : Value} {od_pairs an_pairs : Option Addr} {sl_pairs : Array (Option Value)} {f_counted : Addr} {oc_counted kV_counted do_counted pm_counted cd_counted ct_counted : Value} {od_counted an_counted : Option Addr} {sl_counted : Array (Option Value)} {f_mixed : Addr} {oc_mixed kV_mixed do_mixed pm_mixed cd_mixed ct_mixed : Value} {od_mixed an_mixed : Option Addr} {sl_mixed : Array (Option Value)} {f_due : Addr} {oc_due kV_due do_due pm_due cd_due ct_due : Value} {od_due an_due : Option Addr} {sl_due : Array (Option Value)} {f_Lot_setitem : Addr} {oc_Lot_setitem kV_Lot_setitem do_Lot_setitem pm_Lot_setitem cd_Lot_setitem ct_Lot_setitem : Value} {od_Lot_setitem an_Lot_setitem : Option Addr} {sl_Lot_setitem : Array (Option Value)} {f_Lot_add : Addr} {oc_Lot_add kV_Lot_add do_Lot_add pm_Lot_add cd_Lot_add ct_Lot_add : Value} {od_Lot_add an_Lot_add : Option Addr} {sl_Lot_add : Array (Option Value)} {f_Lot_iadd : Addr} {oc_Lot_iadd kV_Lot_iadd do_Lot_iadd pm_Lot_iadd cd_Lot_iadd ct_Lot_iadd : Value} {od_Lot_iadd an_Lot_iadd : Option Addr} {sl_Lot_iadd : Array (Option Value)} {f_Opening_contents : Addr} {oc_Opening_contents kV_Opening_contents do_Opening_contents pm_Opening_contents cd_Opening_contents ct_Opening_contents : Value} {od_Opening_contents an_Opening_contents : Option Addr} {sl_Opening_contents : Array (Option Value)} {pp_Opening_contents : Addr} {rr_Opening_contents : List Value} {f_Lot_eq : Addr} {oc_Lot_eq kV_Lot_eq do_Lot_eq pm_Lot_eq cd_Lot_eq ct_Lot_eq : Value} {od_Lot_eq an_Lot_eq : Option Addr} {sl_Lot_eq : Array (Option Value)} {f_Lot_text : Addr} {oc_Lot_text kV_Lot_text do_Lot_text pm_Lot_text cd_Lot_text ct_Lot_text : Value} {od_Lot_text an_Lot_text : Option Addr} {sl_Lot_text : Array (Option Value)} {f_Opening_text : Addr} {oc_Opening_text kV_Opening_text do_Opening_text pm_Opening_text cd_Opening_text ct_Opening_text : Value} {od_Opening_text an_Opening_text : Option Addr} {sl_Opening_text : Array (Option Value)} {f_shown : Addr} {oc_shown kV_shown do_shown pm_shown cd_shown ct_shown : Value} {od_shown an_shown : Option Addr} {sl_shown : Array (Option Value)} {f_Opening_ge : Addr} {oc_Opening_ge kV_Opening_ge do_Opening_ge pm_Opening_ge cd_Opening_ge ct_Opening_ge : Value} {od_Opening_ge an_Opening_ge : Option Addr} {sl_Opening_ge : Array (Option Value)} {f_Opening_gt : Addr} {oc_Opening_gt kV_Opening_gt do_Opening_gt pm_Opening_gt cd_Opening_gt ct_Opening_gt : Value} {od_Opening_gt an_Opening_gt : Option Addr} {sl_Opening_gt : Array (Option Value)} {f_right : Addr} {oc_right kV_right do_right pm_right cd_right ct_right : Value} {od_right an_right : Option Addr} {sl_right : Array (Option Value)} {f_box : Addr} {oc_box kV_box do_box pm_box cd_box ct_box : Value} {od_box an_box : Option Addr} {sl_box : Array (Option Value)} {f_law : Addr} {oc_law kV_law do_law pm_law cd_law ct_law : Value} {od_law an_law : Option Addr} {sl_law : Array (Option Value)} (X : K.In h) (G : h.Ns mainGlobals mg) (hfa : mg "law" = some (.ref fa))
    (a_Hollow : PySem.W.nsIn K mainGlobals "Hollow" = some (some (.ref C_Hollow)))
    (a_Lot : PySem.W.nsIn K mainGlobals "Lot" = some (some (.ref C_Lot)))
    (a_Opening : PySem.W.nsIn K mainGlobals "Opening" = some (some (.ref C_Opening)))
    (a_Ringed : PySem.W.nsIn K mainGlobals "Ringed" = some (some (.ref C_Ringed)))
    (z_NotImplemented : PySem.W.nsIn K mainGlobals "NotImplemented" = some none)
    (z_ValueError : PySem.W.nsIn K mainGlobals "ValueError" = some none)
    (z_abs : PySem.W.nsIn K mainGlobals "abs" = some none)
    (z_all : PySem.W.nsIn K mainGlobals "all" = some none)
    (z_bool : PySem.W.nsIn K mainGlobals "bool" = some none)
    (z_dict : PySem.W.nsIn K mainGlobals "dict" = some none)
    (z_enumerate : PySem.W.nsIn K mainGlobals "enumerate" = some none)
    (z_int : PySem.W.nsIn K mainGlobals "int" = some none)
    (z_isinstance : PySem.W.nsIn K mainGlobals "isinstance" = some none)
    (z_len : PySem.W.nsIn K mainGlobals "len" = some none)
    (z_list : PySem.W.nsIn K mainGlobals "list" = some none)
    (z_range : PySem.W.nsIn K mainGlobals "range" = some none)
    (z_sorted : PySem.W.nsIn K mainGlobals "sorted" = some none)
    (z_str : PySem.W.nsIn K mainGlobals "str" = some none)
    (z_super : PySem.W.nsIn K mainGlobals "super" = some none)
    (z_tuple : PySem.W.nsIn K mainGlobals "tuple" = some none)
    (z_zip : PySem.W.nsIn K mainGlobals "zip" = some none)
    (q_EQUALS : PySem.W.nsIn K mainGlobals "EQUALS" = some (some (.str " = " t_EQUALS)))
    (q_NONE : PySem.W.nsIn K mainGlobals "NONE" = some (some (.str "-" t_NONE)))
    (lk_Hollow : K.lookup C_Hollow = some (excClassObj nm_Hollow qn_Hollow C_Hollow N_Hollow bs_Hollow bm_Hollow true sn_Hollow su_Hollow ab_Hollow co_Hollow dd_Hollow w0_Hollow w1_Hollow w2_Hollow w3_Hollow w5_Hollow "ValueError.__new__"))
    (rv_Hollow : PySem.HandSPX.refsVE bm_Hollow = true)
    (sa_Hollow : PySem.W.findIn K (.ref C_Hollow) "__setattr__" = some (some (.builtin "object.__setattr__")))
    (b_Hollow : PySem.W.subIn K (.ref C_Hollow) (.type "BaseException") = some true)
    (t_Hollow : PySem.W.typeIn K (.ref C_Hollow) = some (.type "type"))
    (k_Hollow : PySem.W.keepIn K (.ref C_Hollow) = true)
    (hg_Hollow : PySem.W.findIn K (.ref C_Hollow) "__getattribute__" = some (some (.builtin "BaseException.__getattribute__")))
    (hk_Hollow : PySem.W.findIn K (.ref C_Hollow) "__getattr__" = some none)
    (hd_Hollow : PySem.W.hasDictIn K C_Hollow = true)
    (ha_Hollow : PySem.W.findIn K (.ref C_Hollow) "__class__" = some (some (.builtin "object.__class__")))
    (hn_Hollow : PySem.W.specialIn K (.builtin "object.__class__") "__get__" = some (some (.builtin "getset_descriptor.__get__")))
    (ht_Hollow : PySem.W.takesIn K (.builtin "object.__class__") = some true)
    (hm_Hollow : PySem.W.mroIn K C_Hollow (.type "object") = some true)
    (ic_Hollow : PySem.W.isClsIn K C_Hollow = true)
    (ss_Hollow : PySem.W.subIn K (.ref C_Hollow) (.ref C_Hollow) = some true)
    (pg_Lot : PySem.W.plainGet K C_Lot Str.empty = true)
    (hd_Lot : PySem.W.hasDictIn K C_Lot = true)
    (po_Lot : PySem.W.plainOver K C_Lot = true)
    (sa_Lot : PySem.W.findIn K (.ref C_Lot) "__setattr__" = some (some (.builtin "object.__setattr__")))
    (sf_Lot : PySem.W.selfFirst K C_Lot = true)
    (ns_Lot : PySem.W.noSeq K C_Lot = true)
    (mi_Lot : PySem.W.makesIn K C_Lot = true)
    (kc_Lot : PySem.W.keepIn K (.ref C_Lot) = true)
    (pg_Opening : PySem.W.plainGet K C_Opening Str.empty = true)
    (hd_Opening : PySem.W.hasDictIn K C_Opening = true)
    (po_Opening : PySem.W.plainOver K C_Opening = true)
    (sa_Opening : PySem.W.findIn K (.ref C_Opening) "__setattr__" = some (some (.builtin "object.__setattr__")))
    (sf_Opening : PySem.W.selfFirst K C_Opening = true)
    (ns_Opening : PySem.W.noSeq K C_Opening = true)
    (mi_Opening : PySem.W.makesIn K C_Opening = true)
    (kc_Opening : PySem.W.keepIn K (.ref C_Opening) = true)
    (lk_Ringed : K.lookup C_Ringed = some (excClassObj nm_Ringed qn_Ringed C_Ringed N_Ringed bs_Ringed bm_Ringed true sn_Ringed su_Ringed ab_Ringed co_Ringed dd_Ringed w0_Ringed w1_Ringed w2_Ringed w3_Ringed w5_Ringed "ValueError.__new__"))
    (rv_Ringed : PySem.HandSPX.refsVE bm_Ringed = true)
    (sa_Ringed : PySem.W.findIn K (.ref C_Ringed) "__setattr__" = some (some (.builtin "object.__setattr__")))
    (b_Ringed : PySem.W.subIn K (.ref C_Ringed) (.type "BaseException") = some true)
    (t_Ringed : PySem.W.typeIn K (.ref C_Ringed) = some (.type "type"))
    (k_Ringed : PySem.W.keepIn K (.ref C_Ringed) = true)
    (hg_Ringed : PySem.W.findIn K (.ref C_Ringed) "__getattribute__" = some (some (.builtin "BaseException.__getattribute__")))
    (hk_Ringed : PySem.W.findIn K (.ref C_Ringed) "__getattr__" = some none)
    (hd_Ringed : PySem.W.hasDictIn K C_Ringed = true)
    (ha_Ringed : PySem.W.findIn K (.ref C_Ringed) "__class__" = some (some (.builtin "object.__class__")))
    (hn_Ringed : PySem.W.specialIn K (.builtin "object.__class__") "__get__" = some (some (.builtin "getset_descriptor.__get__")))
    (ht_Ringed : PySem.W.takesIn K (.builtin "object.__class__") = some true)
    (hm_Ringed : PySem.W.mroIn K C_Ringed (.type "object") = some true)
    (ic_Ringed : PySem.W.isClsIn K C_Ringed = true)
    (ss_Ringed : PySem.W.subIn K (.ref C_Ringed) (.ref C_Ringed) = some true)
    (yha_Lot : PySem.W.findIn K (.ref C_Lot) "__class__" = some (some (.builtin "object.__class__")))
    (yhn_Lot : PySem.W.specialIn K (.builtin "object.__class__") "__get__" = some (some (.builtin "getset_descriptor.__get__")))
    (yht_Lot : PySem.W.takesIn K (.builtin "object.__class__") = some true)
    (yhm_Lot : PySem.W.mroIn K C_Lot (.type "object") = some true)
    (yha_Opening : PySem.W.findIn K (.ref C_Opening) "__class__" = some (some (.builtin "object.__class__")))
    (yhn_Opening : PySem.W.specialIn K (.builtin "object.__class__") "__get__" = some (some (.builtin "getset_descriptor.__get__")))
    (yht_Opening : PySem.W.takesIn K (.builtin "object.__class__") = some true)
    (yhm_Opening : PySem.W.mroIn K C_Opening (.type "object") = some true)
    (nt1_Opening : PySem.W.subIn K (.type "tuple") (.ref C_Opening) = some false)
    (nt2_Opening : PySem.W.subIn K (.ref C_Opening) (.type "tuple") = some false)
    (ntc_Opening : PySem.W.isClsIn K C_Opening = true)
    (ntt_Opening : PySem.W.typeIn K (.ref C_Opening) = some (.type "type"))
    (ic_Lot : PySem.W.isClsIn K C_Lot = true)
    (t_Lot : PySem.W.typeIn K (.ref C_Lot) = some (.type "type"))
    (ic_Opening : PySem.W.isClsIn K C_Opening = true)
    (t_Opening : PySem.W.typeIn K (.ref C_Opening) = some (.type "type"))
    (nstr_Opening : PySem.W.subIn K (.type "str") (.ref C_Opening) = some false)
    (sub_Lot_Opening : PySem.W.subIn K (.ref C_Lot) (.ref C_Opening) = some false)
    (ne_Opening_Lot_d : (C_Opening == C_Lot) = false)
    (es_Ringed_Hollow : PySem.W.subIn K (.ref C_Ringed) (.ref C_Hollow) = some false)
    (is_Hollow_Ringed : PySem.W.subIn K (.ref C_Hollow) (.ref C_Ringed) = some false)
    (ne_Hollow_Ringed : (C_Hollow == C_Ringed) = false)
    (is_Hollow_ValueError : PySem.W.subIn K (.ref C_Hollow) (.type "ValueError") = some true)
    (is_Lot_Opening : PySem.W.subIn K (.ref C_Lot) (.ref C_Opening) = some false)
    (ne_Lot_Opening : (C_Lot == C_Opening) = false)
    (is_Opening_Lot : PySem.W.subIn K (.ref C_Opening) (.ref C_Lot) = some false)
    (ne_Opening_Lot : (C_Opening == C_Lot) = false)
    (is_Ringed_Hollow : PySem.W.subIn K (.ref C_Ringed) (.ref C_Hollow) = some false)
    (ne_Ringed_Hollow : (C_Ringed == C_Hollow) = false)
    (is_Ringed_ValueError : PySem.W.subIn K (.ref C_Ringed) (.type "ValueError") = some true)
    (no_Hollow_kind : PySem.W.findIn K (.ref C_Hollow) "kind" = some none)
    (no_Lot_own_many : PySem.W.findIn K (.ref C_Lot) "own_many" = some none)
    (no_Opening_kind : PySem.W.findIn K (.ref C_Opening) "kind" = some none)
    (no_Opening_own_key : PySem.W.findIn K (.ref C_Opening) "own_key" = some none)
    (no_Ringed_ring : PySem.W.findIn K (.ref C_Ringed) "ring" = some none)
    (a_cells : PySem.W.nsIn K mainGlobals "_law_cells" = some (some (.ref f_cells)))
    (l_cells : K.lookup f_cells = some ⟨oc_cells, od_cells, .func (PySem.W.fnOf "_law_cells" "_law_cells" (defArgs s_cells) (defBody s_cells) (defScope s_cells) .none kV_cells do_cells pm_cells an_cells cd_cells ct_cells), sl_cells⟩)
    (c_cells : PySem.W.codeIn K cd_cells "_law_cells" = true)
    (k_cells : PySem.W.keepIn K (.ref f_cells) = true)
    (a_take : PySem.W.nsIn K mainGlobals "_law_take" = some (some (.ref f_take)))
    (l_take : K.lookup f_take = some ⟨oc_take, od_take, .func (PySem.W.fnOf "_law_take" "_law_take" (defArgs s_take) (defBody s_take) (defScope s_take) .none kV_take do_take pm_take an_take cd_take ct_take), sl_take⟩)
    (c_take : PySem.W.codeIn K cd_take "_law_take" = true)
    (k_take : PySem.W.keepIn K (.ref f_take) = true)
    (a_of : PySem.W.nsIn K mainGlobals "_law_of" = some (some (.ref f_of)))
    (l_of : K.lookup f_of = some ⟨oc_of, od_of, .func (PySem.W.fnOf "_law_of" "_law_of" (defArgs s_of) (defBody s_of) (defScope s_of) .none kV_of do_of pm_of an_of cd_of ct_of), sl_of⟩)
    (c_of : PySem.W.codeIn K cd_of "_law_of" = true)
    (k_of : PySem.W.keepIn K (.ref f_of) = true)
    (a_names : PySem.W.nsIn K mainGlobals "_law_names" = some (some (.ref f_names)))
    (l_names : K.lookup f_names = some ⟨oc_names, od_names, .func (PySem.W.fnOf "_law_names" "_law_names" (defArgs s_names) (defBody s_names) (defScope s_names) .none kV_names do_names pm_names an_names cd_names ct_names), sl_names⟩)
    (c_names : PySem.W.codeIn K cd_names "_law_names" = true)
    (k_names : PySem.W.keepIn K (.ref f_names) = true)
    (a_Lot_len : PySem.W.findIn K (.ref C_Lot) "__len__" = some (some (.ref f_Lot_len)))
    (i_Lot_len : PySem.W.isFn K (.ref f_Lot_len) = true)
    (l_Lot_len : K.lookup f_Lot_len = some ⟨oc_Lot_len, od_Lot_len, .func (PySem.W.fnOf "__len__" "Lot.__len__" (defArgs s_Lot_len) (defBody s_Lot_len) (defScope s_Lot_len) .none kV_Lot_len do_Lot_len pm_Lot_len an_Lot_len cd_Lot_len ct_Lot_len), sl_Lot_len⟩)
    (c_Lot_len : PySem.W.codeIn K cd_Lot_len "Lot.__len__" = true)
    (k_Lot_len : PySem.W.keepIn K (.ref f_Lot_len) = true)
    (n_Lot_len : PySem.W.fnIn K f_Lot_len = true)
    (a_Hollow_init : PySem.W.findIn K (.ref C_Hollow) "__init__" = some (some (.ref f_Hollow_init)))
    (ty_Hollow_init : PySem.W.typeIn K (.ref f_Hollow_init) = some (.type "function"))
    (l_Hollow_init : K.lookup f_Hollow_init = some ⟨oc_Hollow_init, od_Hollow_init, .func (PySem.W.ksFn "__init__" "Hollow.__init__" (defArgs s_Hollow_init) (defBody s_Hollow_init) (defScope s_Hollow_init) .none kV_Hollow_init do_Hollow_init pm_Hollow_init an_Hollow_init (.ref cda_Hollow_init) ct_Hollow_init cc_Hollow_init), sl_Hollow_init⟩)
    (c_Hollow_init : PySem.W.codeIn K (.ref cda_Hollow_init) "Hollow.__init__" = true)
    (lc_Hollow_init : K.lookup cda_Hollow_init = some ⟨ccl_Hollow_init, cdd_Hollow_init, .fields vs_Hollow_init, ccs_Hollow_init⟩)
    (v2_Hollow_init : vs_Hollow_init[2]? = some (.str fl_Hollow_init tf_Hollow_init))
    (fi_Hollow_init : ((P.main.file : Str) == fl_Hollow_init) = true)
    (ce_Hollow_init : K.lookup cc_Hollow_init = some ⟨cl_Hollow_init, cld_Hollow_init, .cell (some (.ref C_Hollow)), csl_Hollow_init⟩)
    (m1_Hollow_init : PySem.W.mroIn K C_Hollow (.ref C_Hollow) = some true)
    (mv_Hollow_init : PySem.W.mroIn K C_Hollow (.type "ValueError") = some true)
    (op_Hollow_init : PySem.W.nsIn K PySem.cStatics "thirdparty.any" = some none)
    (si_Hollow_init : PySem.W.ks_superIn K C_Hollow C_Hollow "__init__" = some (some (.builtin "ValueError.__init__")))
    (a_Lot_contains : PySem.W.findIn K (.ref C_Lot) "__contains__" = some (some (.ref f_Lot_contains)))
    (i_Lot_contains : PySem.W.isFn K (.ref f_Lot_contains) = true)
    (l_Lot_contains : K.lookup f_Lot_contains = some ⟨oc_Lot_contains, od_Lot_contains, .func (PySem.W.fnOf "__contains__" "Lot.__contains__" (defArgs s_Lot_contains) (defBody s_Lot_contains) (defScope s_Lot_contains) .none kV_Lot_contains do_Lot_contains pm_Lot_contains an_Lot_contains cd_Lot_contains ct_Lot_contains), sl_Lot_contains⟩)
    (c_Lot_contains : PySem.W.codeIn K cd_Lot_contains "Lot.__contains__" = true)
    (k_Lot_contains : PySem.W.keepIn K (.ref f_Lot_contains) = true)
    (n_Lot_contains : PySem.W.fnIn K f_Lot_contains = true)
    (a_Ringed_init : PySem.W.findIn K (.ref C_Ringed) "__init__" = some (some (.ref f_Ringed_init)))
    (ty_Ringed_init : PySem.W.typeIn K (.ref f_Ringed_init) = some (.type "function"))
    (l_Ringed_init : K.lookup f_Ringed_init = some ⟨oc_Ringed_init, od_Ringed_init, .func (PySem.W.ksFn "__init__" "Ringed.__init__" (defArgs s_Ringed_init) (defBody s_Ringed_init) (defScope s_Ringed_init) .none kV_Ringed_init do_Ringed_init pm_Ringed_init an_Ringed_init (.ref cda_Ringed_init) ct_Ringed_init cc_Ringed_init), sl_Ringed_init⟩)
    (c_Ringed_init : PySem.W.codeIn K (.ref cda_Ringed_init) "Ringed.__init__" = true)
    (lc_Ringed_init : K.lookup cda_Ringed_init = some ⟨ccl_Ringed_init, cdd_Ringed_init, .fields vs_Ringed_init, ccs_Ringed_init⟩)
    (v2_Ringed_init : vs_Ringed_init[2]? = some (.str fl_Ringed_init tf_Ringed_init))
    (fi_Ringed_init : ((P.main.file : Str) == fl_Ringed_init) = true)
    (ce_Ringed_init : K.lookup cc_Ringed_init = some ⟨cl_Ringed_init, cld_Ringed_init, .cell (some (.ref C_Ringed)), csl_Ringed_init⟩)
    (m1_Ringed_init : PySem.W.mroIn K C_Ringed (.ref C_Ringed) = some true)
    (mv_Ringed_init : PySem.W.mroIn K C_Ringed (.type "ValueError") = some true)
    (op_Ringed_init : PySem.W.nsIn K PySem.cStatics "thirdparty.any" = some none)
    (si_Ringed_init : PySem.W.ks_superIn K C_Ringed C_Ringed "__init__" = some (some (.builtin "ValueError.__init__")))
    (a_Lot_pairs : PySem.W.findIn K (.ref C_Lot) "pairs" = some (some (.ref f_Lot_pairs)))
    (i_Lot_pairs : PySem.W.isFn K (.ref f_Lot_pairs) = true)
    (l_Lot_pairs : K.lookup f_Lot_pairs = some ⟨oc_Lot_pairs, od_Lot_pairs, .func (PySem.W.fnOf "pairs" "Lot.pairs" (defArgs s_Lot_pairs) (defBody s_Lot_pairs) (defScope s_Lot_pairs) .none kV_Lot_pairs do_Lot_pairs pm_Lot_pairs an_Lot_pairs cd_Lot_pairs ct_Lot_pairs), sl_Lot_pairs⟩)
    (c_Lot_pairs : PySem.W.codeIn K cd_Lot_pairs "Lot.pairs" = true)
    (k_Lot_pairs : PySem.W.keepIn K (.ref f_Lot_pairs) = true)
    (n_Lot_pairs : PySem.W.fnIn K f_Lot_pairs = true)
    (a_Opening_init : PySem.W.findIn K (.ref C_Opening) "__init__" = some (some (.ref f_Opening_init)))
    (i_Opening_init : PySem.W.isFn K (.ref f_Opening_init) = true)
    (l_Opening_init : K.lookup f_Opening_init = some ⟨oc_Opening_init, od_Opening_init, .func (PySem.W.fnOf "__init__" "Opening.__init__" (defArgs s_Opening_init) (defBody s_Opening_init) (defScope s_Opening_init) .none kV_Opening_init do_Opening_init pm_Opening_init an_Opening_init cd_Opening_init ct_Opening_init), sl_Opening_init⟩)
    (c_Opening_init : PySem.W.codeIn K cd_Opening_init "Opening.__init__" = true)
    (k_Opening_init : PySem.W.keepIn K (.ref f_Opening_init) = true)
    (n_Opening_init : PySem.W.fnIn K f_Opening_init = true)
    (a_Lot_init : PySem.W.findIn K (.ref C_Lot) "__init__" = some (some (.ref f_Lot_init)))
    (i_Lot_init : PySem.W.isFn K (.ref f_Lot_init) = true)
    (l_Lot_init : K.lookup f_Lot_init = some ⟨oc_Lot_init, od_Lot_init, .func (PySem.W.fnOf "__init__" "Lot.__init__" (defArgs s_Lot_init) (defBody s_Lot_init) (defScope s_Lot_init) (.ref T_Lot_init) kV_Lot_init do_Lot_init pm_Lot_init an_Lot_init cd_Lot_init ct_Lot_init), sl_Lot_init⟩)
    (c_Lot_init : PySem.W.codeIn K cd_Lot_init "Lot.__init__" = true)
    (k_Lot_init : PySem.W.keepIn K (.ref f_Lot_init) = true)
    (n_Lot_init : PySem.W.fnIn K f_Lot_init = true)
    (lT_Lot_init : K.lookup T_Lot_init = some ⟨cT_Lot_init, dT_Lot_init, .seq #[u_Lot_init] nT_Lot_init, sT_Lot_init⟩)
    (a_Opening_le : PySem.W.findIn K (.ref C_Opening) "__le__" = some (some (.ref f_Opening_le)))
    (i_Opening_le : PySem.W.isFn K (.ref f_Opening_le) = true)
    (l_Opening_le : K.lookup f_Opening_le = some ⟨oc_Opening_le, od_Opening_le, .func (PySem.W.fnOf "__le__" "Opening.__le__" (defArgs s_Opening_le) (defBody s_Opening_le) (defScope s_Opening_le) .none kV_Opening_le do_Opening_le pm_Opening_le an_Opening_le cd_Opening_le ct_Opening_le), sl_Opening_le⟩)
    (c_Opening_le : PySem.W.codeIn K cd_Opening_le "Opening.__le__" = true)
    (k_Opening_le : PySem.W.keepIn K (.ref f_Opening_le) = true)
    (n_Opening_le : PySem.W.fnIn K f_Opening_le = true)
    (a_Opening_lt : PySem.W.findIn K (.ref C_Opening) "__lt__" = some (some (.ref f_Opening_lt)))
    (i_Opening_lt : PySem.W.isFn K (.ref f_Opening_lt) = true)
    (l_Opening_lt : K.lookup f_Opening_lt = some ⟨oc_Opening_lt, od_Opening_lt, .func (PySem.W.fnOf "__lt__" "Opening.__lt__" (defArgs s_Opening_lt) (defBody s_Opening_lt) (defScope s_Opening_lt) .none kV_Opening_lt do_Opening_lt pm_Opening_lt an_Opening_lt cd_Opening_lt ct_Opening_lt), sl_Opening_lt⟩)
    (c_Opening_lt : PySem.W.codeIn K cd_Opening_lt "Opening.__lt__" = true)
    (k_Opening_lt : PySem.W.keepIn K (.ref f_Opening_lt) = true)
    (n_Opening_lt : PySem.W.fnIn K f_Opening_lt = true)
    (a_Opening_eq : PySem.W.findIn K (.ref C_Opening) "__eq__" = some (some (.ref f_Opening_eq)))
    (i_Opening_eq : PySem.W.isFn K (.ref f_Opening_eq) = true)
    (l_Opening_eq : K.lookup f_Opening_eq = some ⟨oc_Opening_eq, od_Opening_eq, .func (PySem.W.fnOf "__eq__" "Opening.__eq__" (defArgs s_Opening_eq) (defBody s_Opening_eq) (defScope s_Opening_eq) .none kV_Opening_eq do_Opening_eq pm_Opening_eq an_Opening_eq cd_Opening_eq ct_Opening_eq), sl_Opening_eq⟩)
    (c_Opening_eq : PySem.W.codeIn K cd_Opening_eq "Opening.__eq__" = true)
    (k_Opening_eq : PySem.W.keepIn K (.ref f_Opening_eq) = true)
    (n_Opening_eq : PySem.W.fnIn K f_Opening_eq = true)
    (a_same : PySem.W.nsIn K mainGlobals "_law_same" = some (some (.ref f_same)))
    (l_same : K.lookup f_same = some ⟨oc_same, od_same, .func (PySem.W.fnOf "_law_same" "_law_same" (defArgs s_same) (defBody s_same) (defScope s_same) .none kV_same do_same pm_same an_same cd_same ct_same), sl_same⟩)
    (c_same : PySem.W.codeIn K cd_same "_law_same" = true)
    (k_same : PySem.W.keepIn K (.ref f_same) = true)
    (a_one : PySem.W.nsIn K mainGlobals "_law_one" = some (some (.ref f_one)))
    (l_one : K.lookup f_one = some ⟨oc_one, od_one, .func (PySem.W.fnOf "_law_one" "_law_one" (defArgs s_one) (defBody s_one) (defScope s_one) .none kV_one do_one pm_one an_one cd_one ct_one), sl_one⟩)
    (c_one : PySem.W.codeIn K cd_one "_law_one" = true)
    (k_one : PySem.W.keepIn K (.ref f_one) = true)
    (a_rising : PySem.W.nsIn K mainGlobals "_law_rising" = some (some (.ref f_rising)))
    (l_rising : K.lookup f_rising = some ⟨oc_rising, od_rising, .func (PySem.W.fnOf "_law_rising" "_law_rising" (defArgs s_rising) (defBody s_rising) (defScope s_rising) .none kV_rising do_rising pm_rising an_rising cd_rising ct_rising), sl_rising⟩)
    (c_rising : PySem.W.codeIn K cd_rising "_law_rising" = true)
    (k_rising : PySem.W.keepIn K (.ref f_rising) = true)
    (a_pairs : PySem.W.nsIn K mainGlobals "_law_pairs" = some (some (.ref f_pairs)))
    (l_pairs : K.lookup f_pairs = some ⟨oc_pairs, od_pairs, .func (PySem.W.fnOf "_law_pairs" "_law_pairs" (defArgs s_pairs) (defBody s_pairs) (defScope s_pairs) .none kV_pairs do_pairs pm_pairs an_pairs cd_pairs ct_pairs), sl_pairs⟩)
    (c_pairs : PySem.W.codeIn K cd_pairs "_law_pairs" = true)
    (k_pairs : PySem.W.keepIn K (.ref f_pairs) = true)
    (a_counted : PySem.W.nsIn K mainGlobals "_law_counted" = some (some (.ref f_counted)))
    (l_counted : K.lookup f_counted = some ⟨oc_counted, od_counted, .func (PySem.W.fnOf "_law_counted" "_law_counted" (defArgs s_counted) (defBody s_counted) (defScope s_counted) .none kV_counted do_counted pm_counted an_counted cd_counted ct_counted), sl_counted⟩)
    (c_counted : PySem.W.codeIn K cd_counted "_law_counted" = true)
    (k_counted : PySem.W.keepIn K (.ref f_counted) = true)
    (a_mixed : PySem.W.nsIn K mainGlobals "_law_mixed" = some (some (.ref f_mixed)))
    (l_mixed : K.lookup f_mixed = some ⟨oc_mixed, od_mixed, .func (PySem.W.fnOf "_law_mixed" "_law_mixed" (defArgs s_mixed) (defBody s_mixed) (defScope s_mixed) .none kV_mixed do_mixed pm_mixed an_mixed cd_mixed ct_mixed), sl_mixed⟩)
    (c_mixed : PySem.W.codeIn K cd_mixed "_law_mixed" = true)
    (k_mixed : PySem.W.keepIn K (.ref f_mixed) = true)
    (a_due : PySem.W.nsIn K mainGlobals "_law_due" = some (some (.ref f_due)))
    (l_due : K.lookup f_due = some ⟨oc_due, od_due, .func (PySem.W.fnOf "_law_due" "_law_due" (defArgs s_due) (defBody s_due) (defScope s_due) .none kV_due do_due pm_due an_due cd_due ct_due), sl_due⟩)
    (c_due : PySem.W.codeIn K cd_due "_law_due" = true)
    (k_due : PySem.W.keepIn K (.ref f_due) = true)
    (a_Lot_setitem : PySem.W.findIn K (.ref C_Lot) "__setitem__" = some (some (.ref f_Lot_setitem)))
    (i_Lot_setitem : PySem.W.isFn K (.ref f_Lot_setitem) = true)
    (l_Lot_setitem : K.lookup f_Lot_setitem = some ⟨oc_Lot_setitem, od_Lot_setitem, .func (PySem.W.fnOf "__setitem__" "Lot.__setitem__" (defArgs s_Lot_setitem) (defBody s_Lot_setitem) (defScope s_Lot_setitem) .none kV_Lot_setitem do_Lot_setitem pm_Lot_setitem an_Lot_setitem cd_Lot_setitem ct_Lot_setitem), sl_Lot_setitem⟩)
    (c_Lot_setitem : PySem.W.codeIn K cd_Lot_setitem "Lot.__setitem__" = true)
    (k_Lot_setitem : PySem.W.keepIn K (.ref f_Lot_setitem) = true)
    (n_Lot_setitem : PySem.W.fnIn K f_Lot_setitem = true)
    (a_Lot_add : PySem.W.findIn K (.ref C_Lot) "__add__" = some (some (.ref f_Lot_add)))
    (i_Lot_add : PySem.W.isFn K (.ref f_Lot_add) = true)
    (l_Lot_add : K.lookup f_Lot_add = some ⟨oc_Lot_add, od_Lot_add, .func (PySem.W.fnOf "__add__" "Lot.__add__" (defArgs s_Lot_add) (defBody s_Lot_add) (defScope s_Lot_add) .none kV_Lot_add do_Lot_add pm_Lot_add an_Lot_add cd_Lot_add ct_Lot_add), sl_Lot_add⟩)
    (c_Lot_add : PySem.W.codeIn K cd_Lot_add "Lot.__add__" = true)
    (k_Lot_add : PySem.W.keepIn K (.ref f_Lot_add) = true)
    (n_Lot_add : PySem.W.fnIn K f_Lot_add = true)
    (a_Lot_iadd : PySem.W.findIn K (.ref C_Lot) "__iadd__" = some (some (.ref f_Lot_iadd)))
    (i_Lot_iadd : PySem.W.isFn K (.ref f_Lot_iadd) = true)
    (l_Lot_iadd : K.lookup f_Lot_iadd = some ⟨oc_Lot_iadd, od_Lot_iadd, .func (PySem.W.fnOf "__iadd__" "Lot.__iadd__" (defArgs s_Lot_iadd) (defBody s_Lot_iadd) (defScope s_Lot_iadd) .none kV_Lot_iadd do_Lot_iadd pm_Lot_iadd an_Lot_iadd cd_Lot_iadd ct_Lot_iadd), sl_Lot_iadd⟩)
    (c_Lot_iadd : PySem.W.codeIn K cd_Lot_iadd "Lot.__iadd__" = true)
    (k_Lot_iadd : PySem.W.keepIn K (.ref f_Lot_iadd) = true)
    (n_Lot_iadd : PySem.W.fnIn K f_Lot_iadd = true)
    (a_Opening_contents : PySem.W.findIn K (.ref C_Opening) "contents" = some (some (.ref pp_Opening_contents)))
    (pg_Opening_contents : PySem.W.specialIn K (.ref pp_Opening_contents) "__get__" = some (some (.builtin "property.__get__")))
    (pt_Opening_contents : PySem.W.takesIn K (.ref pp_Opening_contents) = some true)
    (pr_Opening_contents : PySem.W.recIn K pp_Opening_contents "property" = some (.ref f_Opening_contents :: rr_Opening_contents))
    (l_Opening_contents : K.lookup f_Opening_contents = some ⟨oc_Opening_contents, od_Opening_contents, .func (PySem.W.fnOf "contents" "Opening.contents" (defArgs s_Opening_contents) (defBody s_Opening_contents) (defScope s_Opening_contents) .none kV_Opening_contents do_Opening_contents pm_Opening_contents an_Opening_contents cd_Opening_contents ct_Opening_contents), sl_Opening_contents⟩)
    (c_Opening_contents : PySem.W.codeIn K cd_Opening_contents "Opening.contents" = true)
    (k_Opening_contents : PySem.W.keepIn K (.ref f_Opening_contents) = true)
    (a_Lot_eq : PySem.W.findIn K (.ref C_Lot) "__eq__" = some (some (.ref f_Lot_eq)))
    (i_Lot_eq : PySem.W.isFn K (.ref f_Lot_eq) = true)
    (l_Lot_eq : K.lookup f_Lot_eq = some ⟨oc_Lot_eq, od_Lot_eq, .func (PySem.W.fnOf "__eq__" "Lot.__eq__" (defArgs s_Lot_eq) (defBody s_Lot_eq) (defScope s_Lot_eq) .none kV_Lot_eq do_Lot_eq pm_Lot_eq an_Lot_eq cd_Lot_eq ct_Lot_eq), sl_Lot_eq⟩)
    (c_Lot_eq : PySem.W.codeIn K cd_Lot_eq "Lot.__eq__" = true)
    (k_Lot_eq : PySem.W.keepIn K (.ref f_Lot_eq) = true)
    (n_Lot_eq : PySem.W.fnIn K f_Lot_eq = true)
    (a_Lot_text : PySem.W.findIn K (.ref C_Lot) "text" = some (some (.ref f_Lot_text)))
    (i_Lot_text : PySem.W.isFn K (.ref f_Lot_text) = true)
    (l_Lot_text : K.lookup f_Lot_text = some ⟨oc_Lot_text, od_Lot_text, .func (PySem.W.fnOf "text" "Lot.text" (defArgs s_Lot_text) (defBody s_Lot_text) (defScope s_Lot_text) .none kV_Lot_text do_Lot_text pm_Lot_text an_Lot_text cd_Lot_text ct_Lot_text), sl_Lot_text⟩)
    (c_Lot_text : PySem.W.codeIn K cd_Lot_text "Lot.text" = true)
    (k_Lot_text : PySem.W.keepIn K (.ref f_Lot_text) = true)
    (n_Lot_text : PySem.W.fnIn K f_Lot_text = true)
    (a_Opening_text : PySem.W.findIn K (.ref C_Opening) "text" = some (some (.ref f_Opening_text)))
    (i_Opening_text : PySem.W.isFn K (.ref f_Opening_text) = true)
    (l_Opening_text : K.lookup f_Opening_text = some ⟨oc_Opening_text, od_Opening_text, .func (PySem.W.fnOf "text" "Opening.text" (defArgs s_Opening_text) (defBody s_Opening_text) (defScope s_Opening_text) .none kV_Opening_text do_Opening_text pm_Opening_text an_Opening_text cd_Opening_text ct_Opening_text), sl_Opening_text⟩)
    (c_Opening_text : PySem.W.codeIn K cd_Opening_text "Opening.text" = true)
    (k_Opening_text : PySem.W.keepIn K (.ref f_Opening_text) = true)
    (n_Opening_text : PySem.W.fnIn K f_Opening_text = true)
    (a_shown : PySem.W.nsIn K mainGlobals "_law_shown" = some (some (.ref f_shown)))
    (l_shown : K.lookup f_shown = some ⟨oc_shown, od_shown, .func (PySem.W.fnOf "_law_shown" "_law_shown" (defArgs s_shown) (defBody s_shown) (defScope s_shown) .none kV_shown do_shown pm_shown an_shown cd_shown ct_shown), sl_shown⟩)
    (c_shown : PySem.W.codeIn K cd_shown "_law_shown" = true)
    (k_shown : PySem.W.keepIn K (.ref f_shown) = true)
    (a_Opening_ge : PySem.W.findIn K (.ref C_Opening) "__ge__" = some (some (.ref f_Opening_ge)))
    (i_Opening_ge : PySem.W.isFn K (.ref f_Opening_ge) = true)
    (l_Opening_ge : K.lookup f_Opening_ge = some ⟨oc_Opening_ge, od_Opening_ge, .func (PySem.W.fnOf "__ge__" "Opening.__ge__" (defArgs s_Opening_ge) (defBody s_Opening_ge) (defScope s_Opening_ge) .none kV_Opening_ge do_Opening_ge pm_Opening_ge an_Opening_ge cd_Opening_ge ct_Opening_ge), sl_Opening_ge⟩)
    (c_Opening_ge : PySem.W.codeIn K cd_Opening_ge "Opening.__ge__" = true)
    (k_Opening_ge : PySem.W.keepIn K (.ref f_Opening_ge) = true)
    (n_Opening_ge : PySem.W.fnIn K f_Opening_ge = true)
    (a_Opening_gt : PySem.W.findIn K (.ref C_Opening) "__gt__" = some (some (.ref f_Opening_gt)))
    (i_Opening_gt : PySem.W.isFn K (.ref f_Opening_gt) = true)
    (l_Opening_gt : K.lookup f_Opening_gt = some ⟨oc_Opening_gt, od_Opening_gt, .func (PySem.W.fnOf "__gt__" "Opening.__gt__" (defArgs s_Opening_gt) (defBody s_Opening_gt) (defScope s_Opening_gt) .none kV_Opening_gt do_Opening_gt pm_Opening_gt an_Opening_gt cd_Opening_gt ct_Opening_gt), sl_Opening_gt⟩)
    (c_Opening_gt : PySem.W.codeIn K cd_Opening_gt "Opening.__gt__" = true)
    (k_Opening_gt : PySem.W.keepIn K (.ref f_Opening_gt) = true)
    (n_Opening_gt : PySem.W.fnIn K f_Opening_gt = true)
    (a_right : PySem.W.nsIn K mainGlobals "_law_right" = some (some (.ref f_right)))
    (l_right : K.lookup f_right = some ⟨oc_right, od_right, .func (PySem.W.fnOf "_law_right" "_law_right" (defArgs s_right) (defBody s_right) (defScope s_right) .none kV_right do_right pm_right an_right cd_right ct_right), sl_right⟩)
    (c_right : PySem.W.codeIn K cd_right "_law_right" = true)
    (k_right : PySem.W.keepIn K (.ref f_right) = true)
    (a_box : PySem.W.nsIn K mainGlobals "_law_box" = some (some (.ref f_box)))
    (l_box : K.lookup f_box = some ⟨oc_box, od_box, .func (PySem.W.fnOf "_law_box" "_law_box" (defArgs s_box) (defBody s_box) (defScope s_box) .none kV_box do_box pm_box an_box cd_box ct_box), sl_box⟩)
    (c_box : PySem.W.codeIn K cd_box "_law_box" = true)
    (k_box : PySem.W.keepIn K (.ref f_box) = true)
    (a_law : PySem.W.nsIn K mainGlobals "law" = some (some (.ref f_law)))
    (l_law : K.lookup f_law = some ⟨oc_law, od_law, .func (PySem.W.fnOf "law" "law" (defArgs s_law) (defBody s_law) (defScope s_law) .none kV_law do_law pm_law an_law cd_law ct_law), sl_law⟩)
    (c_law : PySem.W.codeIn K cd_law "law" = true)
    (k_law : PySem.W.keepIn K (.ref f_law) = true)
    : ∃ fd : FuncData, (∀ (s : Shared) (v : Value), BindsTo s fd ⟨[v], []⟩ [("_law_script", v)]) ∧ ∀ base : Heap, K.In base → base.Ns mainGlobals mg → FnOk P w K mg base CX0 20 fa fd ["_law_script"] (spLaw K) := by
  have e := hfa.symm.trans (PySem.W.mg_of X G a_law)
  cases e
  have oex_Hollow : OexC K C_Hollow := ⟨⟨_, _, _, _, _, _, _, _, _, _, _, _, _, _, _, lk_Hollow, rv_Hollow⟩, sa_Hollow, b_Hollow, t_Hollow, k_Hollow⟩
  have oex_Ringed : OexC K C_Ringed := ⟨⟨_, _, _, _, _, _, _, _, _, _, _, _, _, _, _, lk_Ringed, rv_Ringed⟩, sa_Ringed, b_Ringed, t_Ringed, k_Ringed⟩
  have T : Txt K mg { Hollow := C_Hollow, Lot := C_Lot, Opening := C_Opening, Ringed := C_Ringed, cells := f_cells, cells' := PySem.W.fnOf "_law_cells" "_law_cells" (defArgs s_cells) (defBody s_cells) (defScope s_cells) .none kV_cells do_cells pm_cells an_cells cd_cells ct_cells, take := f_take, take' := PySem.W.fnOf "_law_take" "_law_take" (defArgs s_take) (defBody s_take) (defScope s_take) .none kV_take do_take pm_take an_take cd_take ct_take, of := f_of, of' := PySem.W.fnOf "_law_of" "_law_of" (defArgs s_of) (defBody s_of) (defScope s_of) .none kV_of do_of pm_of an_of cd_of ct_of, names := f_names, names' := PySem.W.fnOf "_law_names" "_law_names" (defArgs s_names) (defBody s_names) (defScope s_names) .none kV_names do_names pm_names an_names cd_names ct_names, Lot_len := f_Lot_len, Lot_len' := PySem.W.fnOf "__len__" "Lot.__len__" (defArgs s_Lot_len) (defBody s_Lot_len) (defScope s_Lot_len) .none kV_Lot_len do_Lot_len pm_Lot_len an_Lot_len cd_Lot_len ct_Lot_len, Hollow_init := f_Hollow_init, Hollow_init' := PySem.W.ksFn "__init__" "Hollow.__init__" (defArgs s_Hollow_init) (defBody s_Hollow_init) (defScope s_Hollow_init) .none kV_Hollow_init do_Hollow_init pm_Hollow_init an_Hollow_init (.ref cda_Hollow_init) ct_Hollow_init cc_Hollow_init, Lot_contains := f_Lot_contains, Lot_contains' := PySem.W.fnOf "__contains__" "Lot.__contains__" (defArgs s_Lot_contains) (defBody s_Lot_contains) (defScope s_Lot_contains) .none kV_Lot_contains do_Lot_contains pm_Lot_contains an_Lot_contains cd_Lot_contains ct_Lot_contains, Ringed_init := f_Ringed_init, Ringed_init' := PySem.W.ksFn "__init__" "Ringed.__init__" (defArgs s_Ringed_init) (defBody s_Ringed_init) (defScope s_Ringed_init) .none kV_Ringed_init do_Ringed_init pm_Ringed_init an_Ringed_init (.ref cda_Ringed_init) ct_Ringed_init cc_Ringed_init, Lot_pairs := f_Lot_pairs, Lot_pairs' := PySem.W.fnOf "pairs" "Lot.pairs" (defArgs s_Lot_pairs) (defBody s_Lot_pairs) (defScope s_Lot_pairs) .none kV_Lot_pairs do_Lot_pairs pm_Lot_pairs an_Lot_pairs cd_Lot_pairs ct_Lot_pairs, Opening_init := f_Opening_init, Opening_init' := PySem.W.fnOf "__init__" "Opening.__init__" (defArgs s_Opening_init) (defBody s_Opening_init) (defScope s_Opening_init) .none kV_Opening_init do_Opening_init pm_Opening_init an_Opening_init cd_Opening_init ct_Opening_init, Lot_init := f_Lot_init, Lot_init' := PySem.W.fnOf "__init__" "Lot.__init__" (defArgs s_Lot_init) (defBody s_Lot_init) (defScope s_Lot_init) (.ref T_Lot_init) kV_Lot_init do_Lot_init pm_Lot_init an_Lot_init cd_Lot_init ct_Lot_init, Opening_le := f_Opening_le, Opening_le' := PySem.W.fnOf "__le__" "Opening.__le__" (defArgs s_Opening_le) (defBody s_Opening_le) (defScope s_Opening_le) .none kV_Opening_le do_Opening_le pm_Opening_le an_Opening_le cd_Opening_le ct_Opening_le, Opening_lt := f_Opening_lt, Opening_lt' := PySem.W.fnOf "__lt__" "Opening.__lt__" (defArgs s_Opening_lt) (defBody s_Opening_lt) (defScope s_Opening_lt) .none kV_Opening_lt do_Opening_lt pm_Opening_lt an_Opening_lt cd_Opening_lt ct_Opening_lt, Opening_eq := f_Opening_eq, Opening_eq' := PySem.W.fnOf "__eq__" "Opening.__eq__" (defArgs s_Opening_eq) (defBody s_Opening_eq) (defScope s_Opening_eq) .none kV_Opening_eq do_Opening_eq pm_Opening_eq an_Opening_eq cd_Opening_eq ct_Opening_eq, same := f_same, same' := PySem.W.fnOf "_law_same" "_law_same" (defArgs s_same) (defBody s_same) (defScope s_same) .none kV_same do_same pm_same an_same cd_same ct_same, one := f_one, one' := PySem.W.fnOf "_law_one" "_law_one" (defArgs s_one) (defBody s_one) (defScope s_one) .none kV_one do_one pm_one an_one cd_one ct_one, rising := f_rising, rising' := PySem.W.fnOf "_law_rising" "_law_rising" (defArgs s_rising) (defBody s_rising) (defScope s_rising) .none kV_rising do_rising pm_rising an_rising cd_rising ct_rising, pairs := f_pairs, pairs' := PySem.W.fnOf "_law_pairs" "_law_pairs" (defArgs s_pairs) (defBody s_pairs) (defScope s_pairs) .none kV_pairs do_pairs pm_pairs an_pairs cd_pairs ct_pairs, counted := f_counted, counted' := PySem.W.fnOf "_law_counted" "_law_counted" (defArgs s_counted) (defBody s_counted) (defScope s_counted) .none kV_counted do_counted pm_counted an_counted cd_counted ct_counted, mixed := f_mixed, mixed' := PySem.W.fnOf "_law_mixed" "_law_mixed" (defArgs s_mixed) (defBody s_mixed) (defScope s_mixed) .none kV_mixed do_mixed pm_mixed an_mixed cd_mixed ct_mixed, due := f_due, due' := PySem.W.fnOf "_law_due" "_law_due" (defArgs s_due) (defBody s_due) (defScope s_due) .none kV_due do_due pm_due an_due cd_due ct_due, Lot_setitem := f_Lot_setitem, Lot_setitem' := PySem.W.fnOf "__setitem__" "Lot.__setitem__" (defArgs s_Lot_setitem) (defBody s_Lot_setitem) (defScope s_Lot_setitem) .none kV_Lot_setitem do_Lot_setitem pm_Lot_setitem an_Lot_setitem cd_Lot_setitem ct_Lot_setitem, Lot_add := f_Lot_add, Lot_add' := PySem.W.fnOf "__add__" "Lot.__add__" (defArgs s_Lot_add) (defBody s_Lot_add) (defScope s_Lot_add) .none kV_Lot_add do_Lot_add pm_Lot_add an_Lot_add cd_Lot_add ct_Lot_add, Lot_iadd := f_Lot_iadd, Lot_iadd' := PySem.W.fnOf "__iadd__" "Lot.__iadd__" (defArgs s_Lot_iadd) (defBody s_Lot_iadd) (defScope s_Lot_iadd) .none kV_Lot_iadd do_Lot_iadd pm_Lot_iadd an_Lot_iadd cd_Lot_iadd ct_Lot_iadd, Opening_contents_p := pp_Opening_contents, Opening_contents := f_Opening_contents, Opening_contents' := PySem.W.fnOf "contents" "Opening.contents" (defArgs s_Opening_contents) (defBody s_Opening_contents) (defScope s_Opening_contents) .none kV_Opening_contents do_Opening_contents pm_Opening_contents an_Opening_contents cd_Opening_contents ct_Opening_contents, Lot_eq := f_Lot_eq, Lot_eq' := PySem.W.fnOf "__eq__" "Lot.__eq__" (defArgs s_Lot_eq) (defBody s_Lot_eq) (defScope s_Lot_eq) .none kV_Lot_eq do_Lot_eq pm_Lot_eq an_Lot_eq cd_Lot_eq ct_Lot_eq, Lot_text := f_Lot_text, Lot_text' := PySem.W.fnOf "text" "Lot.text" (defArgs s_Lot_text) (defBody s_Lot_text) (defScope s_Lot_text) .none kV_Lot_text do_Lot_text pm_Lot_text an_Lot_text cd_Lot_text ct_Lot_text, Opening_text := f_Opening_text, Opening_text' := PySem.W.fnOf "text" "Opening.text" (defArgs s_Opening_text) (defBody s_Opening_text) (defScope s_Opening_text) .none kV_Opening_text do_Opening_text pm_Opening_text an_Opening_text cd_Opening_text ct_Opening_text, shown := f_shown, shown' := PySem.W.fnOf "_law_shown" "_law_shown" (defArgs s_shown) (defBody s_shown) (defScope s_shown) .none kV_shown do_shown pm_shown an_shown cd_shown ct_shown, Opening_ge := f_Opening_ge, Opening_ge' := PySem.W.fnOf "__ge__" "Opening.__ge__" (defArgs s_Opening_ge) (defBody s_Opening_ge) (defScope s_Opening_ge) .none kV_Opening_ge do_Opening_ge pm_Opening_ge an_Opening_ge cd_Opening_ge ct_Opening_ge, Opening_gt := f_Opening_gt, Opening_gt' := PySem.W.fnOf "__gt__" "Opening.__gt__" (defArgs s_Opening_gt) (defBody s_Opening_gt) (defScope s_Opening_gt) .none kV_Opening_gt do_Opening_gt pm_Opening_gt an_Opening_gt cd_Opening_gt ct_Opening_gt, right := f_right, right' := PySem.W.fnOf "_law_right" "_law_right" (defArgs s_right) (defBody s_right) (defScope s_right) .none kV_right do_right pm_right an_right cd_right ct_right, box := f_box, box' := PySem.W.fnOf "_law_box" "_law_box" (defArgs s_box) (defBody s_box) (defScope s_box) .none kV_box do_box pm_box an_box cd_box ct_box, law := fa, law' := PySem.W.fnOf "law" "law" (defArgs s_law) (defBody s_law) (defScope s_law) .none kV_law do_law pm_law an_law cd_law ct_law } := {
    b_NotImplemented := PySem.W.mg_none_of X G z_NotImplemented,
    b_ValueError := PySem.W.mg_none_of X G z_ValueError,
    b_abs := PySem.W.mg_none_of X G z_abs,
    b_all := PySem.W.mg_none_of X G z_all,
    b_bool := PySem.W.mg_none_of X G z_bool,
    b_dict := PySem.W.mg_none_of X G z_dict,
    b_enumerate := PySem.W.mg_none_of X G z_enumerate,
    b_int := PySem.W.mg_none_of X G z_int,
    b_isinstance := PySem.W.mg_none_of X G z_isinstance,
    b_len := PySem.W.mg_none_of X G z_len,
    b_list := PySem.W.mg_none_of X G z_list,
    b_range := PySem.W.mg_none_of X G z_range,
    b_sorted := PySem.W.mg_none_of X G z_sorted,
    b_str := PySem.W.mg_none_of X G z_str,
    b_super := PySem.W.mg_none_of X G z_super,
    b_tuple := PySem.W.mg_none_of X G z_tuple,
    b_zip := PySem.W.mg_none_of X G z_zip,
    g_EQUALS := ⟨t_EQUALS, PySem.W.mg_of X G q_EQUALS⟩,
    g_NONE := ⟨t_NONE, PySem.W.mg_of X G q_NONE⟩,
    Hollow := ⟨PySem.W.mg_of X G a_Hollow, oex_Hollow, ⟨hg_Hollow, hk_Hollow, b_Hollow, hd_Hollow, ha_Hollow, hn_Hollow, ht_Hollow, hm_Hollow⟩, ⟨hg_Hollow, hk_Hollow, b_Hollow, hd_Hollow⟩, exm_ref b_Hollow ic_Hollow t_Hollow ss_Hollow, ic_Hollow⟩,
    Lot := ⟨PySem.W.mg_of X G a_Lot, ⟨pg_Lot, hd_Lot, po_Lot, sa_Lot⟩, sf_Lot, ns_Lot, mi_Lot, kc_Lot⟩,
    Opening := ⟨PySem.W.mg_of X G a_Opening, ⟨pg_Opening, hd_Opening, po_Opening, sa_Opening⟩, sf_Opening, ns_Opening, mi_Opening, kc_Opening⟩,
    Ringed := ⟨PySem.W.mg_of X G a_Ringed, oex_Ringed, ⟨hg_Ringed, hk_Ringed, b_Ringed, hd_Ringed, ha_Ringed, hn_Ringed, ht_Ringed, hm_Ringed⟩, ⟨hg_Ringed, hk_Ringed, b_Ringed, hd_Ringed⟩, exm_ref b_Ringed ic_Ringed t_Ringed ss_Ringed, ic_Ringed⟩,
    ty_Lot := ⟨⟨pg_Lot, hd_Lot, po_Lot, sa_Lot⟩, yha_Lot, yhn_Lot, yht_Lot, yhm_Lot⟩,
    ty_Opening := ⟨⟨pg_Opening, hd_Opening, po_Opening, sa_Opening⟩, yha_Opening, yhn_Opening, yht_Opening, yhm_Opening⟩,
    nt_Opening := ⟨nt1_Opening, nt2_Opening, kit_tyref ntc_Opening ntt_Opening nt1_Opening⟩,
    nstr_Opening := nstr_Opening,
    kstr_Opening := kit_tyref ic_Opening t_Opening nstr_Opening,
    sub_Lot_Opening := sub_Lot_Opening,
    df_Opening_Lot := beq_eq_false_iff_ne.mp ne_Opening_Lot_d,
    ex_Ringed_Hollow_false := exm_ref b_Hollow ic_Hollow t_Hollow es_Ringed_Hollow,
    is_Hollow_Ringed_false := kit_ref ne_Hollow_Ringed ic_Ringed t_Ringed is_Hollow_Ringed,
    is_Hollow_ValueError_true := kit_sub (by decide +kernel) is_Hollow_ValueError,
    is_Lot_Opening_false := kit_ref ne_Lot_Opening ic_Opening t_Opening is_Lot_Opening,
    is_Opening_Lot_false := kit_ref ne_Opening_Lot ic_Lot t_Lot is_Opening_Lot,
    is_Ringed_Hollow_false := kit_ref ne_Ringed_Hollow ic_Hollow t_Hollow is_Ringed_Hollow,
    is_Ringed_ValueError_true := kit_sub (by decide +kernel) is_Ringed_ValueError,
    no_Hollow_kind := no_Hollow_kind,
    no_Lot_own_many := no_Lot_own_many,
    no_Opening_kind := no_Opening_kind,
    no_Opening_own_key := no_Opening_own_key,
    no_Ringed_ring := no_Ringed_ring,
    cells := def_of X G a_cells l_cells c_cells k_cells (fun _ _ _ _ _ _ us hl => match us, hl with | [_, _], _ => rfl),
    take := def_of X G a_take l_take c_take k_take (fun _ _ _ _ _ _ us hl => match us, hl with | [_, _], _ => rfl),
    of := def_of X G a_of l_of c_of k_of (fun _ _ _ _ _ _ us hl => match us, hl with | [_, _], _ => rfl),
    names := def_of X G a_names l_names c_names k_names (fun _ _ _ _ _ _ us hl => match us, hl with | [_, _], _ => rfl),
    Lot_len := met_of a_Lot_len i_Lot_len l_Lot_len c_Lot_len k_Lot_len n_Lot_len (fun _ _ _ _ _ _ us hl => match us, hl with | [_], _ => rfl),
    Hollow_init := ⟨⟨⟨_, _, _, _, _, _, _, _, _, _, _, _, _, _, _, _, _, _, _, _, rfl, l_Hollow_init, c_Hollow_init, lc_Hollow_init, v2_Hollow_init, fi_Hollow_init, ce_Hollow_init⟩, P_top, PySem.W.mg_none_of X G z_super, oex_Hollow, m1_Hollow_init, mv_Hollow_init, op_Hollow_init, si_Hollow_init⟩, (.all fun us hl => match us, hl with | [_, _], _ => rfl), a_Hollow_init, ty_Hollow_init⟩,
    Lot_contains := met_of a_Lot_contains i_Lot_contains l_Lot_contains c_Lot_contains k_Lot_contains n_Lot_contains (fun _ _ _ _ _ _ us hl => match us, hl with | [_, _], _ => rfl),
    Ringed_init := ⟨⟨⟨_, _, _, _, _, _, _, _, _, _, _, _, _, _, _, _, _, _, _, _, rfl, l_Ringed_init, c_Ringed_init, lc_Ringed_init, v2_Ringed_init, fi_Ringed_init, ce_Ringed_init⟩, P_top, PySem.W.mg_none_of X G z_super, oex_Ringed, m1_Ringed_init, mv_Ringed_init, op_Ringed_init, si_Ringed_init⟩, (.all fun us hl => match us, hl with | [_, _], _ => rfl), a_Ringed_init, ty_Ringed_init⟩,
    Lot_pairs := met_of a_Lot_pairs i_Lot_pairs l_Lot_pairs c_Lot_pairs k_Lot_pairs n_Lot_pairs (fun _ _ _ _ _ _ us hl => match us, hl with | [_], _ => rfl),
    Opening_init := met_of a_Opening_init i_Opening_init l_Opening_init c_Opening_init k_Opening_init n_Opening_init (fun _ _ _ _ _ _ us hl => match us, hl with | [_, _, _], _ => rfl),
    Lot_init := met_ofD a_Lot_init i_Lot_init l_Lot_init c_Lot_init k_Lot_init n_Lot_init lT_Lot_init (fun _ _ _ _ _ _ _ _ us hl => match us, hl with | [_, _], _ => ⟨_, rfl, rfl⟩),
    Opening_le := met_of a_Opening_le i_Opening_le l_Opening_le c_Opening_le k_Opening_le n_Opening_le (fun _ _ _ _ _ _ us hl => match us, hl with | [_, _], _ => rfl),
    Opening_lt := met_of a_Opening_lt i_Opening_lt l_Opening_lt c_Opening_lt k_Opening_lt n_Opening_lt (fun _ _ _ _ _ _ us hl => match us, hl with | [_, _], _ => rfl),
    Opening_eq := met_of a_Opening_eq i_Opening_eq l_Opening_eq c_Opening_eq k_Opening_eq n_Opening_eq (fun _ _ _ _ _ _ us hl => match us, hl with | [_, _], _ => rfl),
    same := def_of X G a_same l_same c_same k_same (fun _ _ _ _ _ _ us hl => match us, hl with | [_, _], _ => rfl),
    one := def_of X G a_one l_one c_one k_one (fun _ _ _ _ _ _ us hl => match us, hl with | [_, _, _], _ => rfl),
    rising := def_of X G a_rising l_rising c_rising k_rising (fun _ _ _ _ _ _ us hl => match us, hl with | [_], _ => rfl),
    pairs := def_of X G a_pairs l_pairs c_pairs k_pairs (fun _ _ _ _ _ _ us hl => match us, hl with | [_], _ => rfl),
    counted := def_of X G a_counted l_counted c_counted k_counted (fun _ _ _ _ _ _ us hl => match us, hl with | [_], _ => rfl),
    mixed := def_of X G a_mixed l_mixed c_mixed k_mixed (fun _ _ _ _ _ _ us hl => match us, hl with | [_, _], _ => rfl),
    due := def_of X G a_due l_due c_due k_due (fun _ _ _ _ _ _ us hl => match us, hl with | [_, _], _ => rfl),
    Lot_setitem := met_of a_Lot_setitem i_Lot_setitem l_Lot_setitem c_Lot_setitem k_Lot_setitem n_Lot_setitem (fun _ _ _ _ _ _ us hl => match us, hl with | [_, _, _], _ => rfl),
    Lot_add := met_of a_Lot_add i_Lot_add l_Lot_add c_Lot_add k_Lot_add n_Lot_add (fun _ _ _ _ _ _ us hl => match us, hl with | [_, _], _ => rfl),
    Lot_iadd := met_of a_Lot_iadd i_Lot_iadd l_Lot_iadd c_Lot_iadd k_Lot_iadd n_Lot_iadd (fun _ _ _ _ _ _ us hl => match us, hl with | [_, _], _ => rfl),
    Opening_contents := prp_of a_Opening_contents pg_Opening_contents pt_Opening_contents pr_Opening_contents l_Opening_contents c_Opening_contents k_Opening_contents (fun _ _ _ _ _ _ us hl => match us, hl with | [_], _ => rfl),
    Lot_eq := met_of a_Lot_eq i_Lot_eq l_Lot_eq c_Lot_eq k_Lot_eq n_Lot_eq (fun _ _ _ _ _ _ us hl => match us, hl with | [_, _], _ => rfl),
    Lot_text := met_of a_Lot_text i_Lot_text l_Lot_text c_Lot_text k_Lot_text n_Lot_text (fun _ _ _ _ _ _ us hl => match us, hl with | [_], _ => rfl),
    Opening_text := met_of a_Opening_text i_Opening_text l_Opening_text c_Opening_text k_Opening_text n_Opening_text (fun _ _ _ _ _ _ us hl => match us, hl with | [_], _ => rfl),
    shown := def_of X G a_shown l_shown c_shown k_shown (fun _ _ _ _ _ _ us hl => match us, hl with | [_, _, _], _ => rfl),
    Opening_ge := met_of a_Opening_ge i_Opening_ge l_Opening_ge c_Opening_ge k_Opening_ge n_Opening_ge (fun _ _ _ _ _ _ us hl => match us, hl with | [_, _], _ => rfl),
    Opening_gt := met_of a_Opening_gt i_Opening_gt l_Opening_gt c_Opening_gt k_Opening_gt n_Opening_gt (fun _ _ _ _ _ _ us hl => match us, hl with | [_, _], _ => rfl),
    right := def_of X G a_right l_right c_right k_right (fun _ _ _ _ _ _ us hl => match us, hl with | [_], _ => rfl),
    box := def_of X G a_box l_box c_box k_box (fun _ _ _ _ _ _ us hl => match us, hl with | [_, _], _ => rfl),
    law := def_of X G a_law l_law c_law k_law (fun _ _ _ _ _ _ us hl => match us, hl with | [_], _ => rfl),
    Opening_init_K_contents_kind := kb_swp (fun _ ws hl => match ws, hl with | [_, _], _ => rfl) }
  exact ⟨_, fun s v => .of_eq rfl, fun base _ _ => ok_law T⟩
theorem walk {l : PySem.W.OpenLaw} {q : Program} {loose : List Str} {XP : (Str → Option Value) → Heap → Prop} {YP : World → Heap → Prop} {d : DefRec} {K : Params → PySem.W.Frag} (hn : l.most = some 63) (hdf : d.params.defaults = [])
    (hY : ∀ (w : World) (h : Heap), YP w h → (K w.params).In h)
    (F : ∀ (w : World) (mg : Str → Option Value) (fa : Addr) (h : Heap), (K w.params).In h → h.Ns mainGlobals mg → mg d.name = some (.ref fa) →
      ∃ fd : FuncData, (∀ (s : Shared) (u : Value), BindsTo s fd ⟨[u], []⟩ [("_law_script", u)]) ∧ ∀ base : Heap, (K w.params).In base → base.Ns mainGlobals mg → FnOk l.prog w (K w.params) mg base CX0 20 fa fd ["_law_script"] (spLaw (K w.params))) :
    PySem.W.WalkO q loose XP YP l.row.toRowW d [] (fun f vs => PySem.call f vs) :=
  L2.walk_of (n := 63) (k := 20) (x := "_law_script") (CX := fun _ => CX0) (sp := fun w => spLaw (K w.params)) hn (by decide) hdf ⟨rfl, by decide, by decide⟩ hY F (fun _ _ a ns hl _ hS => ⟨a, ns, rfl, hS, hl, fun _ => rfl⟩) fun _ _ _ _ _ z => z
end LW
open PySem PySem.W PyProof.Rows in
set_option maxRecDepth 100000 in
set_option maxHeartbeats 0 in
theorem PySem.Challenge.cw_onceopened_k50_openings_one_by_one_holds : PySem.Challenge.rw_onceopened_k50_openings_one_by_one.Holds := by
  w_on; o_law; k_head; (case hw => w_witness2)
  k_fill
  refine LW.walk (l := PySem.Challenge.rw_onceopened_k50_openings_one_by_one) rfl rfl (fun w h Y => PySem.W.kIn_of Y) ?F
  case F =>
    intro w mg fa h KX G hmg
    refine' LW.all_mk (l := PySem.Challenge.rw_onceopened_k50_openings_one_by_one) KX G hmg ?a_Hollow ?a_Lot ?a_Opening ?a_Ringed ?z_NotImplemented ?z_ValueError ?z_abs ?z_all ?z_bool ?z_dict ?z_enumerate ?z_int ?z_isinstance ?z_len ?z_list ?z_range ?z_sorted ?z_str ?z_super ?z_tuple ?z_zip ?q_EQUALS ?q_NONE ?lk_Hollow ?rv_Hollow ?sa_Hollow ?b_Hollow ?t_Hollow ?k_Hollow ?hg_Hollow ?hk_Hollow ?hd_Hollow ?ha_Hollow ?hn_Hollow ?ht_Hollow ?hm_Hollow ?ic_Hollow ?ss_Hollow ?pg_Lot ?hd_Lot ?po_Lot ?sa_Lot ?sf_Lot ?ns_Lot ?mi_Lot ?kc_Lot ?pg_Opening ?hd_Opening ?po_Opening ?sa_Opening ?sf_Opening ?ns_Opening ?mi_Opening ?kc_Opening ?lk_Ringed ?rv_Ringed ?sa_Ringed ?b_Ringed ?t_Ringed ?k_Ringed ?hg_Ringed ?hk_Ringed ?hd_Ringed ?ha_Ringed ?hn_Ringed ?ht_Ringed ?hm_Ringed ?ic_Ringed ?ss_Ringed ?yha_Lot ?yhn_Lot ?yht_Lot ?yhm_Lot ?yha_Opening ?yhn_Opening ?yht_Opening ?yhm_Opening ?nt1_Opening ?nt2_Opening ?ntc_Opening ?ntt_Opening ?ic_Lot ?t_Lot ?ic_Opening ?t_Opening ?nstr_Opening ?sub_Lot_Opening ?ne_Opening_Lot_d ?es_Ringed_Hollow ?is_Hollow_Ringed ?ne_Hollow_Ringed ?is_Hollow_ValueError ?is_Lot_Opening ?ne_Lot_Opening ?is_Opening_Lot ?ne_Opening_Lot ?is_Ringed_Hollow ?ne_Ringed_Hollow ?is_Ringed_ValueError ?no_Hollow_kind ?no_Lot_own_many ?no_Opening_kind ?no_Opening_own_key ?no_Ringed_ring ?a_cells ?l_cells ?c_cells ?k_cells ?a_take ?l_take ?c_take ?k_take ?a_of ?l_of ?c_of ?k_of ?a_names ?l_names ?c_names ?k_names ?a_Lot_len ?i_Lot_len ?l_Lot_len ?c_Lot_len ?k_Lot_len ?n_Lot_len ?a_Hollow_init ?ty_Hollow_init ?l_Hollow_init ?c_Hollow_init ?lc_Hollow_init ?v2_Hollow_init ?fi_Hollow_init ?ce_Hollow_init ?m1_Hollow_init ?mv_Hollow_init ?op_Hollow_init ?si_Hollow_init ?a_Lot_contains ?i_Lot_contains ?l_Lot_contains ?c_Lot_contains ?k_Lot_contains ?n_Lot_contains ?a_Ringed_init ?ty_Ringed_init ?l_Ringed_init ?c_Ringed_init ?lc_Ringed_init ?v2_Ringed_init ?fi_Ringed_init ?ce_Ringed_init ?m1_Ringed_init ?mv_Ringed_init ?op_Ringed_init ?si_Ringed_init ?a_Lot_pairs ?i_Lot_pairs ?l_Lot_pairs ?c_Lot_pairs ?k_Lot_pairs ?n_Lot_pairs ?a_Opening_init ?i_Opening_init ?l_Opening_init ?c_Opening_init ?k_Opening_init ?n_Opening_init ?a_Lot_init ?i_Lot_init ?l_Lot_init ?c_Lot_init ?k_Lot_init ?n_Lot_init ?lT_Lot_init ?a_Opening_le ?i_Opening_le ?l_Opening_le ?c_Opening_le ?k_Opening_le ?n_Opening_le ?a_Opening_lt ?i_Opening_lt ?l_Opening_lt ?c_Opening_lt ?k_Opening_lt ?n_Opening_lt ?a_Opening_eq ?i_Opening_eq ?l_Opening_eq ?c_Opening_eq ?k_Opening_eq ?n_Opening_eq ?a_same ?l_same ?c_same ?k_same ?a_one ?l_one ?c_one ?k_one ?a_rising ?l_rising ?c_rising ?k_rising ?a_pairs ?l_pairs ?c_pairs ?k_pairs ?a_counted ?l_counted ?c_counted ?k_counted ?a_mixed ?l_mixed ?c_mixed ?k_mixed ?a_due ?l_due ?c_due ?k_due ?a_Lot_setitem ?i_Lot_setitem ?l_Lot_setitem ?c_Lot_setitem ?k_Lot_setitem ?n_Lot_setitem ?a_Lot_add ?i_Lot_add ?l_Lot_add ?c_Lot_add ?k_Lot_add ?n_Lot_add ?a_Lot_iadd ?i_Lot_iadd ?l_Lot_iadd ?c_Lot_iadd ?k_Lot_iadd ?n_Lot_iadd ?a_Opening_contents ?pg_Opening_contents ?pt_Opening_contents ?pr_Opening_contents ?l_Opening_contents ?c_Opening_contents ?k_Opening_contents ?a_Lot_eq ?i_Lot_eq ?l_Lot_eq ?c_Lot_eq ?k_Lot_eq ?n_Lot_eq ?a_Lot_text ?i_Lot_text ?l_Lot_text ?c_Lot_text ?k_Lot_text ?n_Lot_text ?a_Opening_text ?i_Opening_text ?l_Opening_text ?c_Opening_text ?k_Opening_text ?n_Opening_text ?a_shown ?l_shown ?c_shown ?k_shown ?a_Opening_ge ?i_Opening_ge ?l_Opening_ge ?c_Opening_ge ?k_Opening_ge ?n_Opening_ge ?a_Opening_gt ?i_Opening_gt ?l_Opening_gt ?c_Opening_gt ?k_Opening_gt ?n_Opening_gt ?a_right ?l_right ?c_right ?k_right ?a_box ?l_box ?c_box ?k_box ?a_law ?l_law ?c_law ?k_law
    (case a_Hollow => k_is)
    (case a_Lot => k_is)
    (case a_Opening => k_is)
    (case a_Ringed => k_is)
    (case z_NotImplemented => k_is)
    (case z_ValueError => k_is)
    (case z_abs => k_is)
    (case z_all => k_is)
    (case z_bool => k_is)
    (case z_dict => k_is)
    (case z_enumerate => k_is)
    (case z_int => k_is)
    (case z_isinstance => k_is)
    (case z_len => k_is)
    (case z_list => k_is)
    (case z_range => k_is)
    (case z_sorted => k_is)
    (case z_str => k_is)
    (case z_super => k_is)
    (case z_tuple => k_is)
    (case z_zip => k_is)
    (case q_EQUALS => k_is)
    (case q_NONE => k_is)
    (case lk_Hollow => k_is)
    (case rv_Hollow => decide +kernel)
    (case sa_Hollow => k_is)
    (case b_Hollow => k_is)
    (case t_Hollow => k_is)
    (case k_Hollow => k_is)
    (case hg_Hollow => k_is)
    (case hk_Hollow => k_is)
    (case hd_Hollow => k_is)
    (case ha_Hollow => k_is)
    (case hn_Hollow => k_is)
    (case ht_Hollow => k_is)
    (case hm_Hollow => k_is)
    (case ic_Hollow => k_is)
    (case ss_Hollow => first | rfl | k_is)
    (case pg_Lot => k_is)
    (case hd_Lot => k_is)
    (case po_Lot => k_is)
    (case sa_Lot => k_is)
    (case sf_Lot => k_is)
    (case ns_Lot => k_is)
    (case mi_Lot => k_is)
    (case kc_Lot => k_is)
    (case pg_Opening => k_is)
    (case hd_Opening => k_is)
    (case po_Opening => k_is)
    (case sa_Opening => k_is)
    (case sf_Opening => k_is)
    (case ns_Opening => k_is)
    (case mi_Opening => k_is)
    (case kc_Opening => k_is)
    (case lk_Ringed => k_is)
    (case rv_Ringed => decide +kernel)
    (case sa_Ringed => k_is)
    (case b_Ringed => k_is)
    (case t_Ringed => k_is)
    (case k_Ringed => k_is)
    (case hg_Ringed => k_is)
    (case hk_Ringed => k_is)
    (case hd_Ringed => k_is)
    (case ha_Ringed => k_is)
    (case hn_Ringed => k_is)
    (case ht_Ringed => k_is)
    (case hm_Ringed => k_is)
    (case ic_Ringed => k_is)
    (case ss_Ringed => first | rfl | k_is)
    (case yha_Lot => k_is)
    (case yhn_Lot => k_is)
    (case yht_Lot => k_is)
    (case yhm_Lot => k_is)
    (case yha_Opening => k_is)
    (case yhn_Opening => k_is)
    (case yht_Opening => k_is)
    (case yhm_Opening => k_is)
    (case nt1_Opening => k_is)
    (case nt2_Opening => k_is)
    (case ntc_Opening => k_is)
    (case ntt_Opening => k_is)
    (case ic_Lot => k_is)
    (case t_Lot => k_is)
    (case ic_Opening => k_is)
    (case t_Opening => k_is)
    (case nstr_Opening => k_is)
    (case sub_Lot_Opening => k_is)
    (case ne_Opening_Lot_d => rfl)
    (case es_Ringed_Hollow => k_is)
    (case is_Hollow_Ringed => k_is)
    (case ne_Hollow_Ringed => rfl)
    (case is_Hollow_ValueError => k_is)
    (case is_Lot_Opening => k_is)
    (case ne_Lot_Opening => rfl)
    (case is_Opening_Lot => k_is)
    (case ne_Opening_Lot => rfl)
    (case is_Ringed_Hollow => k_is)
    (case ne_Ringed_Hollow => rfl)
    (case is_Ringed_ValueError => k_is)
    (case no_Hollow_kind => k_is)
    (case no_Lot_own_many => k_is)
    (case no_Opening_kind => k_is)
    (case no_Opening_own_key => k_is)
    (case no_Ringed_ring => k_is)
    (case a_cells => k_is)
    (case l_cells => k_is)
    (case c_cells => k_is)
    (case k_cells => k_is)
    (case a_take => k_is)
    (case l_take => k_is)
    (case c_take => k_is)
    (case k_take => k_is)
    (case a_of => k_is)
    (case l_of => k_is)
    (case c_of => k_is)
    (case k_of => k_is)
    (case a_names => k_is)
    (case l_names => k_is)
    (case c_names => k_is)
    (case k_names => k_is)
    (case a_Lot_len => k_is)
    (case i_Lot_len => k_is)
    (case l_Lot_len => k_is)
    (case c_Lot_len => k_is)
    (case k_Lot_len => k_is)
    (case n_Lot_len => k_is)
    (case a_Hollow_init => k_is)
    (case ty_Hollow_init => k_is)
    (case l_Hollow_init => k_is)
    (case c_Hollow_init => k_is)
    (case lc_Hollow_init => k_is)
    (case v2_Hollow_init => rfl)
    (case fi_Hollow_init => first | rfl | decide +kernel)
    (case ce_Hollow_init => k_is)
    (case m1_Hollow_init => k_is)
    (case mv_Hollow_init => k_is)
    (case op_Hollow_init => k_is)
    (case si_Hollow_init => first | ks_is | kernel_rfl)
    (case a_Lot_contains => k_is)
    (case i_Lot_contains => k_is)
    (case l_Lot_contains => k_is)
    (case c_Lot_contains => k_is)
    (case k_Lot_contains => k_is)
    (case n_Lot_contains => k_is)
    (case a_Ringed_init => k_is)
    (case ty_Ringed_init => k_is)
    (case l_Ringed_init => k_is)
    (case c_Ringed_init => k_is)
    (case lc_Ringed_init => k_is)
    (case v2_Ringed_init => rfl)
    (case fi_Ringed_init => first | rfl | decide +kernel)
    (case ce_Ringed_init => k_is)
    (case m1_Ringed_init => k_is)
    (case mv_Ringed_init => k_is)
    (case op_Ringed_init => k_is)
    (case si_Ringed_init => first | ks_is | kernel_rfl)
    (case a_Lot_pairs => k_is)
    (case i_Lot_pairs => k_is)
    (case l_Lot_pairs => k_is)
    (case c_Lot_pairs => k_is)
    (case k_Lot_pairs => k_is)
    (case n_Lot_pairs => k_is)
    (case a_Opening_init => k_is)
    (case i_Opening_init => k_is)
    (case l_Opening_init => k_is)
    (case c_Opening_init => k_is)
    (case k_Opening_init => k_is)
    (case n_Opening_init => k_is)
    (case a_Lot_init => k_is)
    (case i_Lot_init => k_is)
    (case l_Lot_init => k_is)
    (case c_Lot_init => k_is)
    (case k_Lot_init => k_is)
    (case n_Lot_init => k_is)
    (case lT_Lot_init => k_is)
    (case a_Opening_le => k_is)
    (case i_Opening_le => k_is)
    (case l_Opening_le => k_is)
    (case c_Opening_le => k_is)
    (case k_Opening_le => k_is)
    (case n_Opening_le => k_is)
    (case a_Opening_lt => k_is)
    (case i_Opening_lt => k_is)
    (case l_Opening_lt => k_is)
    (case c_Opening_lt => k_is)
    (case k_Opening_lt => k_is)
    (case n_Opening_lt => k_is)
    (case a_Opening_eq => k_is)
    (case i_Opening_eq => k_is)
    (case l_Opening_eq => k_is)
    (case c_Opening_eq => k_is)
    (case k_Opening_eq => k_is)
    (case n_Opening_eq => k_is)
    (case a_same => k_is)
    (case l_same => k_is)
    (case c_same => k_is)
    (case k_same => k_is)
    (case a_one => k_is)
    (case l_one => k_is)
    (case c_one => k_is)
    (case k_one => k_is)
    (case a_rising => k_is)
    (case l_rising => k_is)
    (case c_rising => k_is)
    (case k_rising => k_is)
    (case a_pairs => k_is)
    (case l_pairs => k_is)
    (case c_pairs => k_is)
    (case k_pairs => k_is)
    (case a_counted => k_is)
    (case l_counted => k_is)
    (case c_counted => k_is)
    (case k_counted => k_is)
    (case a_mixed => k_is)
    (case l_mixed => k_is)
    (case c_mixed => k_is)
    (case k_mixed => k_is)
    (case a_due => k_is)
    (case l_due => k_is)
    (case c_due => k_is)
    (case k_due => k_is)
    (case a_Lot_setitem => k_is)
    (case i_Lot_setitem => k_is)
    (case l_Lot_setitem => k_is)
    (case c_Lot_setitem => k_is)
    (case k_Lot_setitem => k_is)
    (case n_Lot_setitem => k_is)
    (case a_Lot_add => k_is)
    (case i_Lot_add => k_is)
    (case l_Lot_add => k_is)
    (case c_Lot_add => k_is)
    (case k_Lot_add => k_is)
    (case n_Lot_add => k_is)
    (case a_Lot_iadd => k_is)
    (case i_Lot_iadd => k_is)
    (case l_Lot_iadd => k_is)
    (case c_Lot_iadd => k_is)
    (case k_Lot_iadd => k_is)
    (case n_Lot_iadd => k_is)
    (case a_Opening_contents => k_is)
    (case pg_Opening_contents => k_is)
    (case pt_Opening_contents => k_is)
    (case pr_Opening_contents => k_is)
    (case l_Opening_contents => k_is)
    (case c_Opening_contents => k_is)
    (case k_Opening_contents => k_is)
    (case a_Lot_eq => k_is)
    (case i_Lot_eq => k_is)
    (case l_Lot_eq => k_is)
    (case c_Lot_eq => k_is)
    (case k_Lot_eq => k_is)
    (case n_Lot_eq => k_is)
    (case a_Lot_text => k_is)
    (case i_Lot_text => k_is)
    (case l_Lot_text => k_is)
    (case c_Lot_text => k_is)
    (case k_Lot_text => k_is)
    (case n_Lot_text => k_is)
    (case a_Opening_text => k_is)
    (case i_Opening_text => k_is)
    (case l_Opening_text => k_is)
    (case c_Opening_text => k_is)
    (case k_Opening_text => k_is)
    (case n_Opening_text => k_is)
    (case a_shown => k_is)
    (case l_shown => k_is)
    (case c_shown => k_is)
    (case k_shown => k_is)
    (case a_Opening_ge => k_is)
    (case i_Opening_ge => k_is)
    (case l_Opening_ge => k_is)
    (case c_Opening_ge => k_is)
    (case k_Opening_ge => k_is)
    (case n_Opening_ge => k_is)
    (case a_Opening_gt => k_is)
    (case i_Opening_gt => k_is)
    (case l_Opening_gt => k_is)
    (case c_Opening_gt => k_is)
    (case k_Opening_gt => k_is)
    (case n_Opening_gt => k_is)
    (case a_right => k_is)
    (case l_right => k_is)
    (case c_right => k_is)
    (case k_right => k_is)
    (case a_box => k_is)
    (case l_box => k_is)
    (case c_box => k_is)
    (case k_box => k_is)
    (case a_law => k_is)
    (case l_law => k_is)
    (case c_law => k_is)
    (case k_law => k_is)
