import PyProof.Rows.All
import Wide.All
import OpenK.AllK
import Wide.FinOn
import KE.KOpsOwn
import HandS.Base
import HandS.Call
import HandS.List
import HandS.OwnEq
import HandS.ForMost
import HandS.Wide
import HandS.Flow
import HandS.Style
import HandS.IsInst
import HandS.DictComp
import HandS.Walk
import HandS.Zip
import HandS.TupAny
import HandS.TupLe
import HandS.SortInts
import HandS.Deep
import HandS.Defaults
import HandS.Property
import HandS.Exc
import HandS.TryOnly
import HandS.ExcOwn
import HandS.WordsExc
import HandS.FStr
import HandS.More
import HandS.Strs
import HandS.Codes
import HandS.ExcIs
import PySem.Challenge.RW_onceopened_k05_how_often_and_what_is_lef
set_option exponentiation.threshold 1000
set_option Elab.async false
set_option linter.all false
set_option maxRecDepth 100000
set_option maxHeartbeats 4000000
namespace OO
open PySem PySem.Spec PyProof.Rows L2

/-- a method called in the model's own words -/
theorem run_fn {X : Cx} {CX : CXT} {n : Nat} {f : Addr} {fd : FuncData} {ps : List Str} {sp : Sp} {E : XK} (F : FnOk X.prog X.w X.K X.mg X.base CX n f fd ps sp)
    (hb : Binds X.K fd ps []) (hx : Passes CX X E) {A : Around} (sb : Sub X n A) {pins : List (Addr × Obj)} {s : Shared} {σ : L2.St} {H : Hp} {vs : List V} {us : List Value} {Q : VK}
    (I : Inv X pins σ H s) (r : Vals vs us) (hsp : sp vs H Q E) :
    wpAny (model X.prog X.w) A (call (.ref f) us) (EP X pins σ Q) X.xe s := by
  have e0 : Env0 X.prog X.w X.K X.mg X.base A X.stack s H := by
    have e := I.env0
    exact ⟨by rw [sb.fr]; exact e.frames, e.mod, e.bs, e.bsz, e.funs, e.frf, e.hok, e.bare⟩
  have hl := F.len _ _ _ _ hsp
  refine wpAny_call (codeAny_mono (F.run A X.stack s H ⟨us, []⟩ us vs _ E sb.room e0 (by
    have := hb s us I.kIn (by simpa [r.length] using hl)
    simpa using this) r hsp) fun r s' hq => ?_)
  cases r with
  | error e => exact hx pins σ H s e s' I hq
  | ok fl =>
    cases fl with
    | ret w =>
      obtain ⟨z, H', I', rz, q⟩ := I.after hq
      exact ⟨z, H', I', rz, q⟩
    | next => exact False.elim hq
    | brk => exact False.elim hq
    | cont => exact False.elim hq

/-- what the written part says of a class's own method under a name -/
structure Own (K : PySem.W.Frag) (C : Addr) (m : Str) (f : Addr) : Prop where
  at_ : PySem.W.findIn K (.ref C) m = some (some (.ref f))
  fn : PySem.W.isFn K (.ref f) = true

section
variable {X : Cx} {CX : CXT} {n : Nat} {C f : Addr} {fd : FuncData} {ps : List Str} {sp : Sp} {E : XK}

theorem back {pins : List (Addr × Obj)} {σ : L2.St} {Q : VK} {v : Value} {s : Shared} (h : EP X pins σ Q v s) : PySem.W.CmpBack (EP X pins σ Q) v s := by
  obtain ⟨z, H', I', rz, q⟩ := h
  cases v <;> first
    | exact ⟨z, H', I', rz, q⟩
    | (exfalso; cases z <;> simp [L2.RelV] at rz)

/-- a op b, both of the class C -/
def rBin (C : Addr) (sp : Sp) (E : XK) : R2 := fun x y H Q => ∃ a b dx dy fs gs, x = .ref a ∧ y = .ref b ∧ H a = some (.ins C dx fs) ∧ H b = some (.ins C dy gs) ∧ sp [.ref a, .ref b] H Q E
theorem op_own {op : Operator} (F : FnOk X.prog X.w X.K X.mg X.base CX n f fd ps sp) (hr : Room n X.A) (hb : Binds X.K fd ps []) (hx : Passes CX X E)
    (hc : PySem.W.selfFirst X.K C = true) (o : Own X.K C (PySem.dunder op.info.2) f) : OpR X (binaryOp op) (rBin C sp E) := by
  intro pins s σ H x y v u Q I rx ry hq
  obtain ⟨a, b, dx, dy, fs, gs, rfl, rfl, ha, hb', hsp⟩ := hq
  cases rx
  cases ry
  obtain ⟨mA, J, _⟩ := ins_get I.hok ha
  obtain ⟨mB, J', _⟩ := ins_get I.hok hb'
  obtain ⟨od, J, _⟩ := J.look
  obtain ⟨od', J', _⟩ := J'.look
  obtain ⟨m, hF⟩ := I.fr
  refine PySem.W.binop_K hF I.ok.mod.kin J J'.type hc o.at_ o.fn ?_
  exact wpAny_mono (run_fn (vs := [.ref a, .ref b]) F hb hx ⟨hr, rfl⟩ I (.cons rfl (.cons rfl .nil)) hsp) (fun _ _ h => back h) fun _ _ e => e

/-- a op n, n an int: its type's own methods are not asked -/
structure OwnT (K : PySem.W.Frag) (C : Addr) (nm : String) (T : String) (f : Addr) : Prop where
  own : Own K C (PySem.dunder nm) f
  hr : ∃ rc, PySem.W.findIn K (.ref C) (dunderR nm) = some rc ∧ (rc = none ∨ ∃ g : Addr, rc = some (.ref g))
  h1 : ∃ fo, PySem.W.findIn K (.type T) (PySem.dunder nm) = some fo
  h2 : ∃ ro, PySem.W.findIn K (.type T) (dunderR nm) = some ro
  sub : PySem.W.subIn K (.type T) (.ref C) = some false
def rBinI (C : Addr) (sp : Sp) (E : XK) : R2 := fun x y H Q => ∃ a i dx fs, x = .ref a ∧ y = .int i ∧ H a = some (.ins C dx fs) ∧ sp [.ref a, .int i] H Q E
theorem op_ownI {op : Operator} (F : FnOk X.prog X.w X.K X.mg X.base CX n f fd ps sp) (hr : Room n X.A) (hb : Binds X.K fd ps []) (hx : Passes CX X E)
    (hc : PySem.W.selfFirst X.K C = true) (o : OwnT X.K C op.info.2 "int" f) : OpR X (binaryOp op) (rBinI C sp E) := by
  intro pins s σ H x y v u Q I rx ry hq
  obtain ⟨a, i, dx, fs, rfl, rfl, ha, hsp⟩ := hq
  cases rx
  obtain ⟨t, rfl⟩ := ry
  obtain ⟨mA, J, _⟩ := ins_get I.hok ha
  obtain ⟨od, J, _⟩ := J.look
  obtain ⟨m, hF⟩ := I.fr
  obtain ⟨rc, hr1, hp⟩ := o.hr
  obtain ⟨fo, h1⟩ := o.h1
  obtain ⟨ro, h2⟩ := o.h2
  refine PySem.W.ksp_binT hF I.ok.mod.kin J rfl hc o.own.at_ o.own.fn hr1 hp h1 h2 o.sub ?_
  exact wpAny_mono (run_fn (vs := [.ref a, .int i]) F hb hx ⟨hr, rfl⟩ I (.cons rfl (.cons ⟨t, rfl⟩ .nil)) hsp) (fun _ _ h => back h) fun _ _ e => e

/-- x op= y, x of the class C with its own in-place method -/
def rIn1 (C : Addr) (sp : Sp) (E : XK) : TIp := fun x y H Q => ∃ a dx fs, x = .ref a ∧ H a = some (.ins C dx fs) ∧ sp [.ref a, y] H Q E
theorem ip_own {op : Operator} (F : FnOk X.prog X.w X.K X.mg X.base CX n f fd ps sp) (hr : Room n X.A) (hb : Binds X.K fd ps []) (hx : Passes CX X E)
    (hc : PySem.W.selfFirst X.K C = true) (o : Own X.K C (dunderI op.info.2) f) : PIp X op (rIn1 C sp E) := by
  intro pins s σ H x y v u Q I rx ry hq
  obtain ⟨a, dx, fs, rfl, ha, hsp⟩ := hq
  cases rx
  obtain ⟨mA, J, _⟩ := ins_get I.hok ha
  obtain ⟨od, J, _⟩ := J.look
  obtain ⟨m, hF⟩ := I.fr
  refine PySem.W.ksp_inplace hF I.ok.mod.kin J hc o.at_ o.fn ?_
  exact wpAny_mono (run_fn (vs := [.ref a, y]) F hb hx ⟨hr, rfl⟩ I (.cons rfl (.cons ry .nil)) hsp) (fun _ _ h => back h) fun _ _ e => e

/-- x == y, x < y ..: both of the class C -/
theorem op_cmp {op : CmpOp} (hop : compareOp op = richCompare op) (F : FnOk X.prog X.w X.K X.mg X.base CX n f fd ps sp) (hr : Room n X.A) (hb : Binds X.K fd ps []) (hx : Passes CX X E)
    (o : Own X.K C (cmpInfo op).2.1 f) : OpR X (compareOp op) (rBin C sp E) := by
  intro pins s σ H x y v u Q I rx ry hq
  obtain ⟨a, b, dx, dy, fs, gs, rfl, rfl, ha, hb', hsp⟩ := hq
  cases rx
  cases ry
  obtain ⟨mA, J, _⟩ := ins_get I.hok ha
  obtain ⟨mB, J', _⟩ := ins_get I.hok hb'
  obtain ⟨od, J, _⟩ := J.look
  obtain ⟨od', J', _⟩ := J'.look
  obtain ⟨m, hF⟩ := I.fr
  rw [hop]
  refine PySem.W.cmp_K (tb := .ref C) hr.units0 hF I.ok.mod.kin J J'.type (by simp [PySem.W.notFirst]) o.at_ o.fn ?_
  exact wpAny_mono (run_fn (vs := [.ref a, .ref b]) F hb hx ⟨hr, rfl⟩ I (.cons rfl (.cons rfl .nil)) hsp) (fun _ _ h => back h) fun _ _ e => e

/-- y in x, x of the class C: its answer a bool -/
def rInO (C : Addr) (neg : Bool) (sp : Sp) (E : XK) : R2 := fun y x H Q => ∃ a dx fs, x = .ref a ∧ H a = some (.ins C dx fs) ∧ sp [.ref a, y] H (fun v H' => ∃ b, v = .bl b ∧ Q (.bl (if neg then !b else b)) H') E
theorem op_inO (F : FnOk X.prog X.w X.K X.mg X.base CX n f fd ps sp) (hr : Room n X.A) (hb : Binds X.K fd ps []) (hx : Passes CX X E)
    (o : Own X.K C "__contains__" f) : OpR X (compareOp .In) (rInO C false sp E) := by
  intro pins s σ H y x u v Q I ry rx hq
  obtain ⟨a, dx, fs, rfl, ha, hsp⟩ := hq
  cases rx
  obtain ⟨mA, J, _⟩ := ins_get I.hok ha
  obtain ⟨od, J, _⟩ := J.look
  obtain ⟨m, hF⟩ := I.fr
  refine PySem.W.in_K hF I.ok.mod.kin J o.at_ o.fn ?_
  refine wpAny_mono (run_fn (vs := [.ref a, y]) F hb hx ⟨hr, rfl⟩ I (.cons rfl (.cons ry .nil)) hsp) (fun r s' h => ?_) fun _ _ e => e
  obtain ⟨z, H', I', rz, b, rfl, q⟩ := h
  cases rz
  exact wpAny_truthy_bool ⟨.bl b, H', I', rfl, q⟩
theorem op_notInO (F : FnOk X.prog X.w X.K X.mg X.base CX n f fd ps sp) (hr : Room n X.A) (hb : Binds X.K fd ps []) (hx : Passes CX X E)
    (o : Own X.K C "__contains__" f) : OpR X (compareOp .NotIn) (rInO C true sp E) := by
  intro pins s σ H y x u v Q I ry rx hq
  obtain ⟨a, dx, fs, rfl, ha, hsp⟩ := hq
  cases rx
  obtain ⟨mA, J, _⟩ := ins_get I.hok ha
  obtain ⟨od, J, _⟩ := J.look
  obtain ⟨m, hF⟩ := I.fr
  refine PySem.W.notIn_K hF I.ok.mod.kin J o.at_ o.fn ?_
  refine wpAny_mono (run_fn (vs := [.ref a, y]) F hb hx ⟨hr, rfl⟩ I (.cons rfl (.cons ry .nil)) hsp) (fun r s' h => ?_) fun _ _ e => e
  obtain ⟨z, H', I', rz, b, rfl, q⟩ := h
  cases rz
  exact wpAny_truthy_bool ⟨.bl (!b), H', I', rfl, q⟩

/-- x[y], x of the class C -/
def rIxO (C : Addr) (sp : Sp) (E : XK) : R2 := fun x y H Q => ∃ a dx fs, x = .ref a ∧ H a = some (.ins C dx fs) ∧ sp [.ref a, y] H Q E
theorem pe_ixO {a b : Expr} {ta tb : TE} {pos : Pos} (F : FnOk X.prog X.w X.K X.mg X.base CX n f fd ps sp) (hr : Room (n + 1) X.A) (hb : Binds X.K fd ps []) (hx : Passes CX X E)
    (o : Own X.K C "__getitem__" f) (hf : PySem.W.fnIn X.K f = true) (ha : PE X a ta) (hb' : PE X b tb)
    (hsl : ∀ v u, subscripted b true v u = runValue (.builtin "lifetime.subscript" ⟨[v, u], []⟩) := by intro _ _; with_unfolding_all rfl) :
    PE X (.Subscript a b pos) (tOp (rIxO C sp E) ta tb) := by
  refine ⟨fun pins s σ H Q I h => ?_⟩
  refine Subscript_ (binT ha hb' I h fun v u s2 x y H2 I2 rx ry q => ?_)
  obtain ⟨p, dx, fs, rfl, hp, hsp⟩ := q
  cases rx
  obtain ⟨mA, J, _⟩ := ins_get I2.hok hp
  obtain ⟨od, J, _⟩ := J.look
  obtain ⟨m, hF⟩ := I2.fr
  refine PySem.W.sub_K hF I2.ok.mod.kin J o.at_ hf o.fn ?_ (hsl _ _)
  exact run_fn (vs := [.ref p, y]) F hb hx ⟨hr.in1, rfl⟩ I2 (.cons rfl (.cons ry .nil)) hsp

/-- x[y] = z, x of the class C -/
def rSetO (C : Addr) (sp : Sp) (E : XK) : TSet := fun x y z H Q => ∃ a dx fs, x = .ref a ∧ H a = some (.ins C dx fs) ∧ sp [.ref a, y, z] H (fun _ H' => Q H') E
theorem set_own (F : FnOk X.prog X.w X.K X.mg X.base CX n f fd ps sp) (hr : Room n X.A) (hb : Binds X.K fd ps []) (hx : Passes CX X E)
    (o : Own X.K C "__setitem__" f) (hq : PySem.W.noSeq X.K C = true) : PSet X (rSetO C sp E) := by
  intro pins s σ H x y z v u w Q I rx ry rz h
  obtain ⟨a, dx, fs, rfl, ha, hsp⟩ := h
  cases rx
  obtain ⟨mA, J, _⟩ := ins_get I.hok ha
  obtain ⟨od, J, _⟩ := J.look
  obtain ⟨m, hF⟩ := I.fr
  refine PySem.W.ksp_setItem hF I.ok.mod.kin J hq o.at_ o.fn ?_
  refine wpAny_mono (run_fn (vs := [.ref a, y, z]) F hb hx ⟨hr, rfl⟩ I (.cons rfl (.cons ry (.cons rz .nil))) hsp) (fun r s' h => ?_) fun _ _ e => e
  obtain ⟨_, H', I', _, q⟩ := h
  exact ⟨H', I', q⟩

/-- len(x), x of the class C -/
def rLenO (C : Addr) (sp : Sp) (E : XK) : List V → Hp → VK → Prop := fun xs H Q => ∃ a dx fs, xs = [.ref a] ∧ H a = some (.ins C dx fs) ∧ sp [.ref a] H (fun v H' => ∃ k : Int, v = .int k ∧ 0 ≤ k ∧ k < 2 ^ 63 ∧ Q (.int k) H') E
theorem call_lenO (F : FnOk X.prog X.w X.K X.mg X.base CX n f fd ps sp) (hr : Room (n + 1) X.A) (hb : Binds X.K fd ps []) (hx : Passes CX X E)
    (o : Own X.K C "__len__" f) : CallR X (.builtin "len") (rLenO C sp E) := by
  intro pins s σ H xs us Q I r h
  obtain ⟨a, dx, fs, rfl, ha, hsp⟩ := h
  obtain ⟨u, rfl, rx⟩ := vals1 r
  cases rx
  obtain ⟨mA, J, _⟩ := ins_get I.hok ha
  obtain ⟨od, J, _⟩ := J.look
  obtain ⟨m, hF⟩ := I.fr
  refine PySem.W.len_K hF I.ok.mod.kin J o.at_ o.fn ?_
  refine wpAny_mono (run_fn (vs := [.ref a]) F hb hx ⟨hr.in1, rfl⟩ I (.cons rfl .nil) hsp) (fun r s' h => ?_) fun _ _ e => e
  obtain ⟨z, H', I', rz, k, rfl, h0, h1, q⟩ := h
  obtain ⟨t, rfl⟩ := rz
  exact ⟨⟨h0, h1⟩, .int k, H', I'.tok _, ⟨_, rfl⟩, q⟩

/-- abs(x), x of the class C -/
def rAbsO (C : Addr) (sp : Sp) (E : XK) : List V → Hp → VK → Prop := fun xs H Q => ∃ a dx fs, xs = [.ref a] ∧ H a = some (.ins C dx fs) ∧ sp [.ref a] H Q E
theorem call_absO (F : FnOk X.prog X.w X.K X.mg X.base CX n f fd ps sp) (hr : Room (n + 1) X.A) (hb : Binds X.K fd ps []) (hx : Passes CX X E)
    (o : Own X.K C "__abs__" f) : CallR X (.builtin "abs") (rAbsO C sp E) := by
  intro pins s σ H xs us Q I r h
  obtain ⟨a, dx, fs, rfl, ha, hsp⟩ := h
  obtain ⟨u, rfl, rx⟩ := vals1 r
  cases rx
  obtain ⟨mA, J, _⟩ := ins_get I.hok ha
  obtain ⟨od, J, _⟩ := J.look
  obtain ⟨m, hF⟩ := I.fr
  refine Calls.call_function_entry PyProof.Rows.kind_abs PyProof.Rows.plain_abs PyProof.Rows.entry_abs (PyProof.Rows.args_abs _) ?_
  unfold Builtin.«abs»
  refine wpAny_bind (m := oneArg "abs" _) (wpAny_pure ?_)
  refine wpAny_bind (m := callSpecial? (.ref a) (Str.ofString "__abs__")) (PySem.W.special_fn (I.ok.mod.kin.keeps hF.keep) J o.at_ (beq_iff_eq.mp o.fn) (wpAny_mono (run_fn (vs := [.ref a]) F hb hx ⟨hr.in1, rfl⟩ I (.cons rfl .nil) hsp) (fun r s' h => ?_) fun _ _ y => y))
  exact wpAny_pure ⟨_, rfl, h⟩
end
end OO

namespace Kt
open PySem L2

/-! ### two heaps: G what is told for good (a part), H what stands; only what M says may be changed -/
abbrev No : Addr → Prop := fun _ => False
abbrev On (p : Addr) : Addr → Prop := fun b => b = p
structure Ex (M : Addr → Prop) (G H G' H' : Hp) : Prop where
  g : Same G G'
  h : ∀ b o, ¬ M b → H b = some o → H' b = some o
  s : Same G' H'
  n : ∀ b o, G' b = some o → G b = some o ∨ H b = none
  f : ∀ b, H' b = none → H b = none

section
variable {M : Addr → Prop} {G H G' H' G1 H1 G2 H2 : Hp} {p q a b : Addr} {o u : HO}
theorem same_put (s : Same G H) (gd : G q = none) : Same G (upd H q o) := fun b u e => by
  rw [upd_ne (ne_of_none e gd)]; exact s b u e
theorem same_new (h : H q = none) : Same H (upd H q o) := same_put (Same.refl H) h
theorem Ex.refl (s : Same G H) : Ex M G H G H := ⟨Same.refl G, fun _ _ _ e => e, s, fun _ _ e => .inl e, fun _ e => e⟩
theorem Ex.trans (x : Ex M G H G1 H1) (y : Ex M G1 H1 G2 H2) : Ex M G H G2 H2 :=
  ⟨x.g.trans y.g, fun b o m e => y.h b o m (x.h b o m e), y.s, fun b o e => by
    rcases y.n b o e with h | h
    · exact x.n b o h
    · exact .inr (x.f b h), fun b e => x.f b (y.f b e)⟩
theorem Ex.mono {M' : Addr → Prop} (x : Ex M G H G' H') (hm : ∀ b, M b → M' b) : Ex M' G H G' H' :=
  ⟨x.g, fun b o m e => x.h b o (fun z => m (hm b z)) e, x.s, x.n, x.f⟩
theorem Ex.on (x : Ex No G H G' H') : Ex M G H G' H' := x.mono fun _ z => z.elim
theorem Ex.same (x : Ex No G H G' H') : Same H H' := fun b o e => x.h b o (fun z => z) e
/-- a new object, told for good -/
theorem Ex.new (s : Same G H) (hq : H q = none) : Ex M G H (upd G q o) (upd H q o) := by
  have gq : G q = none := s.free hq
  refine ⟨same_new gq, fun b u _ e => by rw [upd_ne (ne_of_none e hq)]; exact e, fun b u e => ?_, fun b u e => ?_, fun b e => ?_⟩
  · by_cases hb : b = q
    · subst hb; rw [upd_same] at e ⊢; exact e
    · rw [upd_ne hb] at e ⊢; exact s b u e
  · by_cases hb : b = q
    · subst hb; exact .inr hq
    · rw [upd_ne hb] at e; exact .inl e
  · by_cases hb : b = q
    · subst hb; exact hq
    · rw [upd_ne hb] at e; exact e
/-- a new object, not told -/
theorem Ex.hid (s : Same G H) (hq : H q = none) : Ex M G H G (upd H q o) := by
  have gq : G q = none := s.free hq
  refine ⟨Same.refl G, fun b u _ e => by rw [upd_ne (ne_of_none e hq)]; exact e, same_put s gq, fun b u e => .inl e, fun b e => ?_⟩
  by_cases hb : b = q
  · subst hb; exact hq
  · rw [upd_ne hb] at e; exact e
/-- an object that is not told of is changed: one that M allows, or one that is new since -/
theorem Ex.put (x : Ex M G H G' H') (gq : G' q = none) (hm : M q ∨ H q = none) (ht : H' q ≠ none) : Ex M G H G' (upd H' q o) := by
  refine ⟨x.g, fun b u m e => ?_, same_put x.s gq, x.n, fun b e => ?_⟩
  · have hb : b ≠ q := by
      rintro rfl
      rcases hm with h | h
      · exact m h
      · rw [h] at e; cases e
    rw [upd_ne hb]; exact x.h b u m e
  · by_cases hb : b = q
    · subst hb; rw [upd_same] at e; cases e
    · rw [upd_ne hb] at e; exact x.f b e
/-- what stands is told of from now on -/
theorem Ex.tell (x : Ex M G H G' H') (hq : H' q = some o) (gq : G q = none) (hn : H q = none) : Ex M G H (upd G' q o) H' := by
  refine ⟨fun b u e => ?_, x.h, fun b u e => ?_, fun b u e => ?_, x.f⟩
  · rw [upd_ne (ne_of_none e gq)]; exact x.g b u e
  · by_cases hb : b = q
    · subst hb; rw [upd_same] at e; rw [hq]; exact e
    · rw [upd_ne hb] at e; exact x.s b u e
  · by_cases hb : b = q
    · subst hb; exact .inr hn
    · rw [upd_ne hb] at e; exact x.n b u e
/-- what was there and not told of is not told of -/
theorem Ex.un (x : Ex M G H G' H') (gp : G p = none) (hp : H p ≠ none) : G' p = none := by
  cases e : G' p with
  | none => rfl
  | some o =>
    rcases x.n p o e with h | h
    · rw [gp] at h; cases h
    · exact absurd h hp
theorem Ex.hs (x : Ex M G H G' H') (s : Same G H) {a : Addr} {o : HO} (e : G a = some o) : H' a = some o := x.s _ _ (x.g _ _ e)
end

/-! ### the box of draws: a list of three ints; c counts -/
def Bx (H : Hp) (p : Addr) (c : Int) : Prop := ∃ a b : Int, 0 ≤ a ∧ 0 ≤ c ∧ H p = some (.lst [.int a, .int b, .int c])
theorem Bx.ne {H : Hp} {p : Addr} {c : Int} (b : Bx H p c) : H p ≠ none := by
  obtain ⟨_, _, _, _, e⟩ := b; rw [e]; simp
theorem Bx.is {H H' : Hp} {p : Addr} {c : Int} (b : Bx H p c) (h : ∀ o, H p = some o → H' p = some o) : Bx H' p c := by
  obtain ⟨x, y, h1, h2, e⟩ := b; exact ⟨x, y, h1, h2, h _ e⟩
/-- the state: what is told, what stands, the box -/
structure Sx (G H : Hp) (p : Addr) (c : Int) : Prop where
  s : Same G H
  b : Bx H p c
  n : G p = none
section
variable {M : Addr → Prop} {G H G' H' G1 H1 G2 H2 : Hp} {p q a b : Addr} {o u : HO} {c c' : Int}
theorem Sx.lt (x : Sx G H p c) : 0 ≤ c := by obtain ⟨_, _, _, h, _⟩ := x.b; exact h
/-- behind something that leaves the box alone -/
theorem Sx.go (x : Sx G H p c) (e : Ex No G H G' H') : Sx G' H' p c :=
  ⟨e.s, x.b.is fun o h => e.same _ _ h, e.un x.n x.b.ne⟩
/-- a new object -/
theorem Sx.new (x : Sx G H p c) (hq : H q = none) : Sx (upd G q o) (upd H q o) p c := x.go (Ex.new x.s hq)
theorem Sx.ne (x : Sx G H p c) (h : G a = some o) : a ≠ p := ne_of_none h x.n
theorem Sx.ne' (x : Sx G H p c) (h : H a = none) : a ≠ p := by
  rintro rfl; exact x.b.ne h
/-- another thing that is not told of is changed -/
theorem Sx.put (x : Sx G H p c) (gq : G q = none) (hne : q ≠ p) : Sx G (upd H q o) p c :=
  ⟨same_put x.s gq, x.b.is fun o h => by rw [upd_ne hne.symm]; exact h, x.n⟩
theorem Sx.tell (x : Sx G H p c) (hq : H q = some o) (gq : G q = none) (hne : q ≠ p) : Sx (upd G q o) H p c :=
  ⟨fun b u e => by
    by_cases hb : b = q
    · subst hb; rw [upd_same] at e; rw [hq]; exact e
    · rw [upd_ne hb] at e; exact x.s b u e, x.b, by rw [upd_ne hne.symm]; exact x.n⟩
end

/-! ### steps: a new heap by its equation -/
section
variable {M : Addr → Prop} {G H G' H' G1 H1 G2 H2 : Hp} {p q a b : Addr} {o u : HO} {c c' : Int}
/-- a new object, told of -/
theorem ex_new (s : Same G H) (hq : H q = none) (e : upd H q o = H1) : ∃ G1, Ex M G H G1 H1 ∧ G1 q = some o := ⟨_, e ▸ Ex.new s hq, upd_same⟩
theorem sx_new (x : Sx G H p c) (hq : H q = none) (e : upd H q o = H1) : ∃ G1, Ex (On p) G H G1 H1 ∧ Sx G1 H1 p c ∧ G1 q = some o := ⟨_, e ▸ Ex.new x.s hq, e ▸ x.new hq, upd_same⟩
/-- a new object, not told of: a local one that will change -/
theorem ex_hid (s : Same G H) (hq : H q = none) (e : upd H q o = H1) : Ex M G H G H1 ∧ G q = none ∧ H1 q = some o := ⟨e ▸ Ex.hid s hq, s.free hq, e ▸ upd_same⟩
theorem sx_hid (x : Sx G H p c) (hq : H q = none) (e : upd H q o = H1) : Ex (On p) G H G H1 ∧ Sx G H1 p c ∧ G q = none ∧ q ≠ p ∧ H1 q = some o :=
  ⟨e ▸ Ex.hid x.s hq, e ▸ x.put (x.s.free hq) (x.ne' hq), x.s.free hq, x.ne' hq, e ▸ upd_same⟩
/-- the box is written -/
theorem sx_box (x : Sx G H p c) {i j k : Int} (hi : 0 ≤ i) (hk : 0 ≤ k) (e : upd H p (.lst [.int i, .int j, .int k]) = H1) : Ex (On p) G H G H1 ∧ Sx G H1 p k ∧ H1 p = some (.lst [.int i, .int j, .int k]) := by
  subst e
  exact ⟨(Ex.refl x.s).put x.n (.inl rfl) x.b.ne, ⟨same_put x.s x.n, ⟨i, j, hi, hk, upd_same⟩, x.n⟩, upd_same⟩
end

/-! ### data: what a value tells in a heap, all of it told for good -/
mutual
inductive Rp (G : Hp) : V → PyData → Prop
  | non : Rp G .non .none
  | bl (b : Bool) : Rp G (.bl b) (.bool b)
  | int (i : Int) : Rp G (.int i) (.int i)
  | str (x : Str) : Rp G (.str x) (.str x)
  | lst {a : Addr} {xs : List V} {ds : List PyData} : G a = some (.lst xs) → RpA G xs ds → Rp G (.ref a) (.list ds)
  | tup {a : Addr} {xs : List V} {ds : List PyData} : G a = some (.tup xs) → RpA G xs ds → Rp G (.ref a) (.tuple ds)
inductive RpA (G : Hp) : List V → List PyData → Prop
  | nil : RpA G [] []
  | cons {v : V} {vs : List V} {d : PyData} {ds : List PyData} : Rp G v d → RpA G vs ds → RpA G (v :: vs) (d :: ds)
end
mutual
theorem Rp.mono {G G' : Hp} (s : Same G G') : ∀ {v : V} {d : PyData}, Rp G v d → Rp G' v d
  | _, _, .non => .non
  | _, _, .bl b => .bl b
  | _, _, .int i => .int i
  | _, _, .str x => .str x
  | _, _, .lst h r => .lst (s _ _ h) (RpA.mono s r)
  | _, _, .tup h r => .tup (s _ _ h) (RpA.mono s r)
theorem RpA.mono {G G' : Hp} (s : Same G G') : ∀ {vs : List V} {ds : List PyData}, RpA G vs ds → RpA G' vs ds
  | _, _, .nil => .nil
  | _, _, .cons h r => .cons (Rp.mono s h) (RpA.mono s r)
end
mutual
theorem Rp.dp {K : PySem.W.Frag} {G : Hp} : ∀ {v : V} {d : PyData}, Rp G v d → Dp K G v d
  | _, _, .non => .non
  | _, _, .bl b => .bl b
  | _, _, .int i => .int i
  | _, _, .str x => .str x
  | _, _, .lst h r => .lst (SqL.of h) (RpA.dp r)
  | _, _, .tup h r => .tup (SqT.of h) (RpA.dp r)
theorem RpA.dp {K : PySem.W.Frag} {G : Hp} : ∀ {vs : List V} {ds : List PyData}, RpA G vs ds → DpAll K G vs ds
  | _, _, .nil => .nil
  | _, _, .cons h r => .cons (Rp.dp h) (RpA.dp r)
end
theorem RpA.length {G : Hp} : ∀ {vs : List V} {ds : List PyData}, RpA G vs ds → vs.length = ds.length
  | _, _, .nil => rfl
  | _, _, .cons _ r => by rw [List.length_cons, List.length_cons, RpA.length r]
theorem RpA.get {G : Hp} : ∀ {vs : List V} {ds : List PyData} {i : Nat} {v : V}, RpA G vs ds → vs[i]? = some v → ∃ d, ds[i]? = some d ∧ Rp G v d
  | _, _, _, _, .nil, e => by simp at e
  | _, _, 0, _, .cons h _, e => by simp at e; subst e; exact ⟨_, rfl, h⟩
  | _, _, i + 1, v, .cons _ r, e => by
    obtain ⟨d, h1, h2⟩ := RpA.get (i := i) (v := v) r (by simpa using e)
    exact ⟨d, by simpa using h1, h2⟩
theorem RpA.get' {G : Hp} : ∀ {vs : List V} {ds : List PyData} {i : Nat} {d : PyData}, RpA G vs ds → ds[i]? = some d → ∃ v, vs[i]? = some v ∧ Rp G v d
  | _, _, _, _, .nil, e => by simp at e
  | _, _, 0, _, .cons h _, e => by simp at e; subst e; exact ⟨_, rfl, h⟩
  | _, _, i + 1, d, .cons _ r, e => by
    obtain ⟨v, h1, h2⟩ := RpA.get' (i := i) (d := d) r (by simpa using e)
    exact ⟨v, by simpa using h1, h2⟩
theorem RpA.app {G : Hp} : ∀ {vs ws : List V} {ds es : List PyData}, RpA G vs ds → RpA G ws es → RpA G (vs ++ ws) (ds ++ es)
  | _, _, _, _, .nil, s => s
  | _, _, _, _, .cons h r, s => .cons h (RpA.app r s)
theorem RpA.take {G : Hp} : ∀ {vs : List V} {ds : List PyData} (n : Nat), RpA G vs ds → RpA G (vs.take n) (ds.take n)
  | _, _, 0, _ => .nil
  | _, _, _ + 1, .nil => .nil
  | _, _, n + 1, .cons h r => .cons h (RpA.take n r)
theorem RpA.drop {G : Hp} : ∀ {vs : List V} {ds : List PyData} (n : Nat), RpA G vs ds → RpA G (vs.drop n) (ds.drop n)
  | _, _, 0, r => r
  | _, _, _ + 1, .nil => .nil
  | _, _, n + 1, .cons _ r => RpA.drop n r
theorem rpA_int {G : Hp} : ∀ ns : List Int, RpA G (ns.map V.int) (ns.map PyData.int)
  | [] => .nil
  | n :: r => .cons (.int n) (rpA_int r)
theorem rpA_str {G : Hp} : ∀ ns : List Str, RpA G (ns.map V.str) (ns.map PyData.str)
  | [] => .nil
  | n :: r => .cons (.str n) (rpA_str r)
theorem rpA_bl {G : Hp} : ∀ ns : List Bool, RpA G (ns.map V.bl) (ns.map PyData.bool)
  | [] => .nil
  | n :: r => .cons (.bl n) (rpA_bl r)
theorem of_int {G : Hp} {v : V} {i : Int} (h : Rp G v (.int i)) : v = .int i := by cases h; rfl
theorem of_str {G : Hp} {v : V} {i : Str} (h : Rp G v (.str i)) : v = .str i := by cases h; rfl
theorem of_bl {G : Hp} {v : V} {i : Bool} (h : Rp G v (.bool i)) : v = .bl i := by cases h; rfl
theorem of_ints {G : Hp} : ∀ {vs : List V} {ns : List Int}, RpA G vs (ns.map PyData.int) → vs = ns.map V.int
  | _, [], .nil => rfl
  | _, _ :: _, .cons h r => by rw [of_int h, of_ints r]; rfl
theorem of_strs {G : Hp} : ∀ {vs : List V} {ns : List Str}, RpA G vs (ns.map PyData.str) → vs = ns.map V.str
  | _, [], .nil => rfl
  | _, _ :: _, .cons h r => by rw [of_str h, of_strs r]; rfl
theorem of_tup2 {G : Hp} {v : V} {d e : PyData} (h : Rp G v (.tuple [d, e])) : ∃ a x y, v = .ref a ∧ G a = some (.tup [x, y]) ∧ Rp G x d ∧ Rp G y e := by
  cases h with
  | tup h r =>
    cases r with
    | cons h1 r =>
      cases r with
      | cons h2 r =>
        cases r
        exact ⟨_, _, _, rfl, h, h1, h2⟩
theorem of_lst {G : Hp} {v : V} {ds : List PyData} (h : Rp G v (.list ds)) : ∃ a xs, v = .ref a ∧ G a = some (.lst xs) ∧ RpA G xs ds := by
  cases h with
  | lst h r => exact ⟨_, _, rfl, h, r⟩
theorem of_tup {G : Hp} {v : V} {ds : List PyData} (h : Rp G v (.tuple ds)) : ∃ a xs, v = .ref a ∧ G a = some (.tup xs) ∧ RpA G xs ds := by
  cases h with
  | tup h r => exact ⟨_, _, rfl, h, r⟩
/-! ### walks: a list or a tuple; a dict comprehension over any walk -/
section
variable {X : Cx} {tg : Expr}
theorem SqL.mono {K : PySem.W.Frag} {G H : Hp} {a : Addr} {xs : List V} (s : Same G H) (h : SqL K G a xs) : SqL K H a xs := s.seq h
theorem SqT.mono {K : PySem.W.Frag} {G H : Hp} {a : Addr} {xs : List V} (s : Same G H) (h : SqT K G a xs) : SqT K H a xs :=
  h.elim (fun h => .inl (h.elim (fun h => .inl (s _ _ h)) fun ⟨o, h⟩ => .inr ⟨o, s _ _ h⟩)) fun h => .inr h
/-- a list or a tuple that a part G of the heap tells of -/
def iSeq (K : PySem.W.Frag) (tl : TE) : TI := fun σ H R => tl σ H fun x H1 => ∃ (a : Addr) (G : Hp) (xs : List V), x = .ref a ∧ Same G H1 ∧ (SqL K G a xs ∨ SqT K G a xs) ∧ ∀ J, Walk J xs.length (Same G) (YAt xs) → R J H1
/-- a new record, the only one of an iterator's -/
theorem lone {pins : List (Addr × Obj)} {σ : L2.St} {H : Hp} {s : Shared} (I : Inv X pins σ H s) : ∀ b ∈ [s.heap.objs.size], FpOk X pins H b := fun b hb => by
  rw [List.mem_singleton.mp hb]
  exact I.fpOk (Nat.le_refl _) (I.hok.fresh (Nat.le_refl _))
theorem pi_seq {l : Expr} {tl : TE} (hl : PE X l tl) : PI X tg l (iSeq X.K tl) where
  run pins s σ H R I h := by
    refine thn (hl.run pins s σ H _ I h) ?_
    rintro v st ⟨_, Hs, Is, rel, a, G, xs, rfl, sG, told, go⟩
    have hv : v = .ref a := rel
    subst hv
    rcases told with lst | tup
    · obtain ⟨its, _, at_, _⟩ := Is.list (Kt.SqL.mono sG lst)
      exact wpAny_pyIter_list at_.isList ⟨_, _, _, _, Hs, rfl, Is.kept (t' := st.toks) (fun _ _ z => Heap.get?_push_of_some _ z), turn_list a _, ⟨_, Heap.get?_push_size _ rfl, rfl, rfl⟩, lone Is, go _ (walk_list.mono (fun _ z => Kt.SqL.mono z lst) fun _ _ _ _ _ _ y => y)⟩
    · obtain ⟨its, _, at_, _⟩ := Is.tuple (Kt.SqT.mono sG tup)
      have at2 : st.heap.IsTuple a its.toArray := at_
      exact wpAny_pyIter_tuple at2 ⟨_, _, _, _, Hs, rfl, Is.kept (t' := st.toks) (fun _ _ z => Heap.get?_push_of_some _ z), turn_tuple a _, ⟨_, Heap.get?_push_size _ rfl, rfl, rfl⟩, lone Is, go _ (walk_tup.mono (fun _ z => Kt.SqT.mono z tup) fun _ _ _ _ _ _ y => y)⟩
end
theorem dc_it {J : It} {n : Nat} {G : Hp → Prop} {Y : Nat → Hp → V → Hp → Prop} (w : Walk J n G Y) {g : TG} {tt : TT} {tk tv : TE} {vs : List Nat} {σ : L2.St} {H1 : Hp} {D : Addr} {Qd : Hp → Prop} (Pv : Nat → Hp → Prop) (h0 : Pv 0 (upd H1 D (.dK []))) (hG : ∀ i H, i ≤ n → Pv i H → G H)
    (hs : ∀ i x H H', i < n → Pv i H → Y i H x H' → g x (wipe σ vs) H' fun σ2 H2 => wipe σ2 vs = wipe σ vs ∧ tt σ2 H2 fun b H3 =>
      if b = true then tk σ2 H3 fun y H4 => tv σ2 H4 fun z H5 => ∃ kvs k, y = kV k ∧ H5 D = some (.dK kvs) ∧ kvs.length < sizeLine ∧ Pv (i + 1) (upd H5 D (.dK (putK kvs k z))) else Pv (i + 1) H3) (hd : ∀ H, Pv n H → Qd H) :
    ∃ W : Nat → Nat → Hp → Prop, (∃ m, W 0 m (upd H1 D (.dK []))) ∧ ∀ i m H, W i m H →
      (J.stop i H ∧ Qd H) ∨ (J.go i H ∧ ∃ Nx : Hp → Prop, (∀ H', Nx H' → ∃ m', m' < m ∧ W (i + 1) m' H') ∧ ∀ x H', J.yld i H x H' → g x (wipe σ vs) H' fun σ2 H2 => wipe σ2 vs = wipe σ vs ∧ tt σ2 H2 fun b H3 =>
        if b = true then tk σ2 H3 fun y H4 => tv σ2 H4 fun z H5 => ∃ kvs k, y = kV k ∧ H5 D = some (.dK kvs) ∧ kvs.length < sizeLine ∧ Nx (upd H5 D (.dK (putK kvs k z))) else Nx H3) := by
  refine ⟨fun i left H => i + left = n ∧ Pv i H, ⟨n, Nat.zero_add n, h0⟩, fun i left H hP => ?_⟩
  obtain ⟨sum, pv⟩ := hP
  have there := hG i H (by omega) pv
  rcases left with _ | left
  · have done : i = n := by omega
    subst done
    exact .inl ⟨w.stops H there, hd H pv⟩
  · have some_left : i < n := by omega
    exact .inr ⟨w.goes i H some_left there, Pv (i + 1), fun H' pv' => ⟨left, Nat.lt_succ_self left, by omega, pv'⟩, fun x H' y => hs i x H H' some_left pv (w.yields i H x H' some_left there y)⟩
/-! ### rules with the written part named -/
section
variable {X : Cx} (K : PySem.W.Frag)
theorem pe_fldK {e : Expr} {f : Str} {pos : Pos} {ta : TE} (he : PE X e ta) (hb : attributeBase e f X.env (eval e X.env) = eval e X.env) (hK : X.K = K := by rfl) : PE X (.Attribute e f pos) (tFld K ta f) := hK ▸ pe_fld he hb
theorem ix_listK (hK : X.K = K := by rfl) : IxR X (rIxL K) := hK ▸ ix_list
theorem ix_tupK (hK : X.K = K := by rfl) : IxR X (rIxT K) := hK ▸ ix_tup
theorem sl_listK (hK : X.K = K := by rfl) : SlR X (rSlL K) := hK ▸ sl_list
theorem sl_tupK (hK : X.K = K := by rfl) : SlR X (rSlT K) := hK ▸ sl_tup
def rLenQ (K : PySem.W.Frag) : List V → Hp → VK → Prop := fun xs H Q => ∃ p ys, xs = [.ref p] ∧ (SqL K H p ys ∨ SqT K H p ys) ∧ Q (.int ys.length) H
theorem call_len_seqK (hK : X.K = K := by rfl) : CallR X (.builtin "len") (rLenQ K) := hK ▸ call_len_seq
def rListQ (K : PySem.W.Frag) : List V → Hp → VK → Prop := fun xs H Q => ∃ p ys, xs = [.ref p] ∧ (SqL K H p ys ∨ SqT K H p ys) ∧ ∀ l, H l = none → Q (.ref l) (upd H l (.lst ys))
theorem call_list_ofK (hK : X.K = K := by rfl) : CallR X (.type "list") (rListQ K) := hK ▸ call_list_of
def rTupQ (K : PySem.W.Frag) : List V → Hp → VK → Prop := fun xs H Q => ∃ p ys, xs = [.ref p] ∧ ((SqL K H p ys ∧ ∀ l, H l = none → Q (.ref l) (upd H l (.tup ys))) ∨ (SqT K H p ys ∧ Q (.ref p) H))
theorem call_tuple_ofK (hK : X.K = K := by rfl) : CallR X (.type "tuple") (rTupQ K) := hK ▸ call_tuple_of
theorem cr_sumK (hc : X.calm = true) (hK : X.K = K := by rfl) : CallR X (.builtin "sum") (rSum K) := hK ▸ cr_sum hc
theorem cr_allK (hc : X.calm = true) (hK : X.K = K := by rfl) : CallR X (.builtin "all") (rAll K) := hK ▸ cr_all hc
theorem cr_anyK (hc : X.calm = true) (hK : X.K = K := by rfl) : CallR X (.builtin "any") (rAny K) := hK ▸ cr_any hc
theorem cr_minK (hc : X.calm = true) (hK : X.K = K := by rfl) : CallR X (.builtin "min") (rMin K) := hK ▸ cr_min hc
theorem cr_maxK (hc : X.calm = true) (hK : X.K = K := by rfl) : CallR X (.builtin "max") (rMax K) := hK ▸ cr_max hc
theorem cr_sortedSK (hK : X.K = K := by rfl) : CallR X (.builtin "sorted") (rSortedS K) := hK ▸ cr_sortedS
theorem cr_sortedIK (hK : X.K = K := by rfl) : CallR X (.builtin "sorted") (rSortedI K) := hK ▸ cr_sortedI
theorem op_in_seqK (hK : X.K = K := by rfl) : OpR X (compareOp .In) (rIn K false) := hK ▸ op_in_seq
theorem op_notIn_seqK (hK : X.K = K := by rfl) : OpR X (compareOp .NotIn) (rIn K true) := hK ▸ op_notIn_seq
theorem op_eqDK (hu : X.A.units + 64 < cLine) (hK : X.K = K := by rfl) : OpR X (compareOp .Eq) (rEqD K) := hK ▸ op_eqD hu
theorem op_neDK (hu : X.A.units + 64 < cLine) (hK : X.K = K := by rfl) : OpR X (compareOp .NotEq) (rNeD K) := hK ▸ op_neD hu
theorem op_catAK (hK : X.K = K := by rfl) : OpR X (binaryOp .Add) (rCatA K) := hK ▸ op_catA
theorem pi_listK {tg l : Expr} {tl : TE} (hl : PE X l tl) (hK : X.K = K := by rfl) : PI X tg l (iList K tl) := hK ▸ pi_list hl
theorem pi_tupK {tg l : Expr} {tl : TE} (hl : PE X l tl) (hK : X.K = K := by rfl) : PI X tg l (iTup K tl) := hK ▸ pi_tup hl
theorem pi_seqK {tg l : Expr} {tl : TE} (hl : PE X l tl) (hK : X.K = K := by rfl) : PI X tg l (iSeq K tl) := hK ▸ pi_seq hl
theorem pi_enumK {e : Expr} {ta : TA} {p pos tpos : Pos} {elts : List Expr} {kk : Nat} (hg : Gl X "enumerate") (hm : X.mg "enumerate" = none) (ha : PA X [e] ta) (hs : starEach [e] X.env = [(false, eval e X.env)] := by rfl) (hK : X.K = K := by rfl) :
    PI X (.Tuple elts kk tpos) (.Call (.Name "enumerate" p) [e] [] pos) (iEnum K ta) := hK ▸ pi_enum hg hm ha hs
theorem pg_tupK {pos : Pos} {es : List Expr} {k : Nat} {t : TGs} (n : Nat) (hc : X.calm = true) (h : PGs X es t)
    (hn : (assignEach es X.env).length = n := by rfl) (hst : (assignEach es X.env).findIdx? (·.1) = none := by rfl) (hK : X.K = K := by rfl) : PG X (.Tuple es k pos) (gTup K n t) := hK ▸ pg_tup hc h hn hst
theorem pe_orTK {a b : Expr} {rest : List Expr} {pos : Pos} {ta tb : TE} (ha : PE X a ta) (hb : PE X (.BoolOp .Or (b :: rest) pos) tb) (hK : X.K = K := by rfl) : PE X (.BoolOp .Or (a :: b :: rest) pos) (tOrT K ta tb) := hK ▸ pe_orT ha hb
theorem pe_andTK {a b : Expr} {rest : List Expr} {pos : Pos} {ta tb : TE} (ha : PE X a ta) (hb : PE X (.BoolOp .And (b :: rest) pos) tb) (hK : X.K = K := by rfl) : PE X (.BoolOp .And (a :: b :: rest) pos) (tAndT K ta tb) := hK ▸ pe_andT ha hb
theorem pe_bm0K {T : String} {name : Str} {id : String} {r : V → List V → Hp → VK → Prop} {o : Expr} {to : TE} {apos cpos : Pos} (pa : PlainAttrs T) (slot : Slot T name id) (hty : typeOf (.builtin id) = pure (.type "method_descriptor")) (hm : MtR X id r) (ho : PE X o to)
    (hbase : attributeBase o name X.env (eval o X.env) = eval o X.env := by rfl) (hline : (apos.endLine == cpos.line) = true := by rfl) (hK : X.K = K := by rfl) : PE X (.Call (.Attribute o name apos) [] [] cpos) (tBM0 K T r to) := hK ▸ pe_bm0 pa slot hty hm ho hbase hline
theorem pe_bmK {T : String} {name : Str} {id : String} {r : V → List V → Hp → VK → Prop} {o e : Expr} {es : List Expr} {to : TE} {t : TA} {apos cpos : Pos} (pa : PlainAttrs T) (slot : Slot T name id) (hty : typeOf (.builtin id) = pure (.type "method_descriptor")) (hm : MtR X id r) (ho : PE X o to) (ha : PA X (e :: es) t)
    (hbase : attributeBase o name X.env (eval o X.env) = eval o X.env := by rfl)
    (hfew : ((backTo cpos (starEach (e :: es) X.env)).all (fun x => !x.1) && (backToKw cpos (keywordEach [] X.env)).all (fun x => x.1.isSome)
      && decide ((e :: es).length + ([] : List Keyword).length + (if ([] : List Keyword).isEmpty then 0 else 1) < 30)) = true := by rfl)
    (hline : (apos.endLine == cpos.line) = true := by rfl) (hs : starEach (e :: es) X.env = (false, eval e X.env) :: starEach es X.env := by rfl) (hplain : (backTo cpos (starEach es X.env)).any (·.1) = false := by rfl) (hK : X.K = K := by rfl) :
    PE X (.Call (.Attribute o name apos) (e :: es) [] cpos) (tBM K T r to t) := hK ▸ pe_bm pa slot hty hm ho ha hbase hfew hline hs hplain
end
theorem ifT {c : Bool} {A B : Prop} (h : c = true) (a : A) : if c = true then A else B := by rw [if_pos h]; exact a
theorem ifF {c : Bool} {A B : Prop} (h : c = false) (b : B) : if c = true then A else B := by rw [if_neg (by simp [h])]; exact b
theorem if2 {c : Bool} {A B : Prop} (a : c = true → A) (b : c = false → B) : if c = true then A else B := by
  cases c
  · exact ifF rfl (b rfl)
  · exact ifT rfl (a rfl)
end Kt

/-! Own exceptions: made without arguments; kept behind an except clause; asked by isinstance. -/
namespace Kt
open PySem PySem.Spec PyProof.Rows L2
section
variable {X : Cx} {C : Addr} {bmB : List Value} {B newId initId : String}
/-- X() -/
theorem pmk_own0 {x : Str} {p pos : Pos} (F : ExcBaseFacts B newId initId bmB) (q : PySem.W.excIn X.K C bmB newId = true) (gC : X.mg x = some (.ref C)) (kC : PySem.W.keepIn X.K (.ref C) = true) (r : Raises X (.ref C)) (hg : Gl X x)
    (hdb : (x == ("__debug__" : Str)) = false := by decide) : PMk X (.Call (.Name x p) [] [] pos) (fun _ H Q => Q (.ref C) none H) := by
  intro pins s σ H Q I h
  refine wpAny_Call_Name_kw (ld_glob I hg gC ?_ hdb)
  refine PySem.W.callWith_K0 I.kIn kC ?_
  show wpAny _ _ (call (.ref C) []) _ _ _
  obtain ⟨bm, N, nm, qn, bs, hdct, sn, sub, ab, col, dd, k0, k1, k2, k3, k5, mN, hC, hN, hni, T⟩ := exc_obj I.kIn q
  refine wpAny_call_exc_subT F T hC hN hni (fun h' e hm => ?_) (by show 0 ≤ sizeLine; rw [sizeLine_eq]; omega)
  exact mk_of I hm r h (I.hok.gone hm.new)
end

/-- an exception that is kept: its class, its own dict's address -/
def exT (a : Addr) (cls : Value) (d : Option Addr) : HO := .ext fun h => ∃ oe vs, h.get? a = some oe ∧ Zc cls d oe ∧ oe.data = .fields vs
theorem exT_ok {P : Program} {w : World} {H : Hp} {h : Heap} {a : Addr} {cls : Value} {d : Option Addr} {oe : Obj} {vs : Array Value} (e : h.get? a = some oe) (z : Zc cls d oe) (hd : oe.data = .fields vs) : ObjOk P w H h a (exT a cls d) :=
  ⟨⟨oe, vs, e, z, hd⟩, ⟨oe, e⟩, fun h1 h2 ⟨oe, vs, e, z, hd⟩ k => ⟨oe, vs, k _ e, z, hd⟩⟩
section
variable {X : Cx} {pins : List (Addr × Obj)} {σ : L2.St} {H : Hp} {s : Shared}
/-- a pinned object that is new since the entry is tracked from now on -/
theorem track {a : Addr} {oe : Obj} {vs : Array Value} {cls : Value} {d : Option Addr} (I : Inv X ((a, oe) :: pins) σ H s) (hex : X.ex = []) (z : Zc cls d oe) (hd : oe.data = .fields vs) (n0 : X.s_0.heap.get? a = none)
    (nC : ∀ x c, X.env.cells.lookup x = some c → c ≠ a) (np : ∀ p ∈ X.pn ++ pins, p.1 ≠ a) : Inv X pins σ (upd H a (exT a cls d)) s := by
  obtain ⟨he, ha, hL, hF, _⟩ := I.pin (a, oe) (by simp)
  refine ⟨I.ok, I.os, I.bare, ⟨I.base.keep, I.base.slot, fun b o e n hx => ?_, I.base.there, fun b xs e => ?_, fun b o u e => ?_, fun b ps e => ?_⟩, I.loc, I.cell, ?_, fun x c e => ?_, fun p hp => ?_, fun b o e => ?_, I.len⟩
  · have : b ≠ a := by rintro rfl; rw [n0] at e; cases e
    rw [upd_ne this]; exact I.base.free b o e n hx
  · have h1 := I.base.tups b xs e
    have : b ≠ a := by rintro rfl; rw [ha] at h1; cases h1
    rw [upd_ne this]; exact h1
  · have h1 := I.base.frzs b o u e
    have : b ≠ a := by rintro rfl; rw [ha] at h1; cases h1
    rw [upd_ne this]; exact h1
  · obtain ⟨more, h1⟩ := I.base.tbls b ps e
    have : b ≠ a := by rintro rfl; rw [ha] at h1; cases h1
    exact ⟨more, by rw [upd_ne this]; exact h1⟩
  · rw [upd_ne (Ne.symm hL)]; exact I.free
  · rw [upd_ne (nC x c e)]; exact I.freeC x c e
  · have hp' : p ∈ X.pn ++ ((a, oe) :: pins) := by
      rcases List.mem_append.mp hp with h | h
      · exact List.mem_append_left _ h
      · exact List.mem_append_right _ (List.mem_cons_of_mem _ h)
    obtain ⟨h1, h2, h3⟩ := I.pin p hp'
    exact ⟨h1, by rw [upd_ne (np p hp)]; exact h2, h3⟩
  · by_cases hb : b = a
    · subst hb
      rw [upd_same] at e
      cases e
      exact exT_ok he z hd
    · rw [upd_ne hb] at e
      refine (I.hok b o e).stay (fun c u _ h => h) (fun c hc => ?_) (fun c xs hc => ?_)
      · have : c ≠ a := by rintro rfl; rw [ha] at hc; cases hc
        rw [upd_ne this]; exact hc
      · have : c ≠ a := by rintro rfl; rw [ha] at hc; cases hc
        rw [upd_ne this]; exact hc
end

/-- what the clause 'except x as n' wishes of an exception of the body, the exception kept behind it -/
def wAsT (K : PySem.W.Frag) (c : Value) (i : Nat) (ts : Addr → Value → Option Addr → TS) (Wout : WX) (D : Ends) : WX := fun cls d σ H =>
  ∃ b, PySem.W.exmOne K cls c = some b ∧ (b = true → ∀ a, H a = none → ts a cls d { nx := fun σ' H' => D.nx (σ'.set i none) (upd H' a (exT a cls d)), rt := D.rt, bk := fun σ' H' => D.bk (σ'.set i none) H', ct := fun σ' H' => D.ct (σ'.set i none) H' } (σ.set i (some (.ref a))) H) ∧
    (b = false → Wout cls d σ H)
section
variable {X : Cx} {x n : Str} {c : Value} {i : Nat} {body suite : List Stmt} {b₀ : Stmt} {np pos pos' : Pos} {tb : WX → TS} {ts : Addr → Value → Option Addr → TS} {Wout : WX}
/-- what is known where an exception has come down at this frame -/
structure Come (X : Cx) (pins : List (Addr × Obj)) (τ : L2.St) (Hx : Hp) (a : Addr) (cls : Value) (d : Option Addr) (Bg hh : Heap) (s' : Shared) : Prop where
  inv : Inv X pins τ Hx { s' with heap := hh }
  fly : HandSPX.FlyingZ Bg (X.env :: X.outer) a (Zc cls d) hh
  out : Hx a = none
  loc : a ≠ X.env.locals
  fr : a ∉ X.fs
  new0 : X.ex = [] → X.s_0.heap.get? a = none
  cel : ∀ y c, X.env.cells.lookup y = some c → c ≠ a
  pns : ∀ p ∈ X.pn ++ pins, p.1 ≠ a
/-- .. and its flight is set down once more -/
theorem Come.again {pins : List (Addr × Obj)} {τ : L2.St} {Hx : Hp} {a : Addr} {cls : Value} {d : Option Addr} {Bg hh h2 : Heap} {s' : Shared} {sI : Shared} (k : Come X pins τ Hx a cls d Bg hh s') (I0 : Inv X pins τ Hx sI)
    (nb : ∀ b o, sI.heap.get? b = some o → b ∉ frs X.stack → Bg.get? b = some o) (up : sI.heap.UpToSlots h2) (os : s'.os = sI.os) (ag : AllBare s'.gens) (fl : HandSPX.FlyingZ Bg (X.env :: X.outer) a (Zc cls d) h2) : Come X pins τ Hx a cls d Bg h2 s' :=
  ⟨I0.landed (s' := { s' with heap := h2 }) nb fl.1 up os ag, fl, k.out, k.loc, k.fr, k.new0, k.cel, k.pns⟩
theorem come_of {pins : List (Addr × Obj)} {τ : L2.St} {Hx : Hp} {a : Addr} {cls : Value} {d : Option Addr} {Bg hh : Heap} {s' sI : Shared} (hs : X.stack = X.env :: X.outer) (hf : X.env.frame = some X.env.locals) (I0 : Inv X pins τ Hx sI)
    (nb : ∀ b o, sI.heap.get? b = some o → b ∉ frs X.stack → Bg.get? b = some o) (up : sI.heap.UpToSlots hh) (out : Hx a = none) (os : s'.os = sI.os) (ag : AllBare s'.gens) (fl : HandSPX.FlyingZ Bg (X.env :: X.outer) a (Zc cls d) hh) : Come X pins τ Hx a cls d Bg hh s' := by
  obtain ⟨ob, fv, gob, _, dob⟩ := fl.there
  have clear : a ∉ frs (X.env :: X.outer) := by
    intro mem
    obtain ⟨_, ob2, gob2, bad⟩ := fl.2.2.1.mem mem
    have same : ob = ob2 := Option.some.inj (gob.symm.trans gob2)
    exact bad fv (same ▸ dob)
  have gone : sI.heap.get? a = none := by
    rcases hz : sI.heap.get? a with _ | ob2
    · rfl
    · exact absurd ((nb a ob2 hz (hs ▸ clear)).symm.trans fl.2.1) (by simp)
  have lost : ∀ {o : Obj}, sI.heap.get? a ≠ some o := fun {o} z => by rw [gone] at z; cases z
  refine ⟨I0.landed (s' := { s' with heap := hh }) nb fl.1 up os ag, fl, out, fun z => clear ?_, fun z => clear ?_, fun hex => ?_, fun y c e z => ?_, fun p hp z => ?_⟩
  · exact List.mem_filterMap.mpr ⟨X.env, List.mem_cons_self .., z ▸ hf⟩
  · obtain ⟨ev, mev, qev⟩ := List.mem_filterMap.mp z
    exact List.mem_filterMap.mpr ⟨ev, List.mem_cons_of_mem _ mev, qev⟩
  · rcases hz : X.s_0.heap.get? a with _ | ob2
    · rfl
    · obtain ⟨ob3, there⟩ := I0.base.there a ob2 hz (by rw [hex]; exact List.not_mem_nil)
      exact absurd there lost
  · obtain ⟨val, o, go, _⟩ := I0.cell y c e
    exact lost (z ▸ go)
  · exact lost (z ▸ (I0.pin p hp).1)
/-- the suite is through: the name goes, the exception is tracked -/
theorem keep_end {M : Model} {A : Around} {E : Value → Shared → Prop} {pins : List (Addr × Obj)} {τ : L2.St} {Hx H6 : Hp} {σ6 : L2.St} {a : Addr} {cls : Value} {d : Option Addr} {Bg hh : Heap} {s' s6 : Shared} {oe : Obj} {fv : Array Value} {Q : Shared → Prop}
    (k : Come X pins τ Hx a cls d Bg hh s') (hex : X.ex = []) (hN : X.N.Nodup) (hi : X.N[i]? = some n) (hln : X.env.kindOf n = some .local) (z : Zc cls d oe) (dob : oe.data = .fields fv)
    (I6 : Inv (X.suite a ((a, oe) :: (X.pn ++ pins))) [] σ6 H6 s6) (q : ∀ s7, Inv X pins (σ6.set i none) (upd H6 a (exT a cls d)) s7 → Q s7) :
    wpAny M A (do bindName X.env n .none; unbindBehindTheSuite X.env n pos') (fun _ s7 => Q s7) E s6 := by
  have wide : ∀ p ∈ X.pn ++ (a, oe) :: pins, p ∈ ((a, oe) :: (X.pn ++ pins)) ++ [] := by
    intro p hp
    simp only [List.mem_append, List.mem_cons] at hp ⊢
    rcases hp with h | h | h
    · exact .inl (.inr (.inl h))
    · exact .inl (.inl h)
    · exact .inl (.inr (.inr h))
  have I6' : Inv X ((a, oe) :: pins) σ6 H6 s6 :=
    { ok := k.inv.ok, os := I6.os, bare := I6.bare, base := I6.base, loc := I6.loc, cell := I6.cell, free := I6.free, freeC := I6.freeC, pin := fun p hp => I6.pin p (wide p hp), hok := I6.hok, len := I6.len }
  exact gone_ok I6' hN hi hln fun s7 I7 => q s7 (track I7 hex z dob (k.new0 hex) k.cel k.pns)
/-- try: .. except x as n: suite, the exception kept (an object of its own) behind the suite's end -/
theorem ps_try_asT (hex : X.ex = []) (hs : X.stack = X.env :: X.outer) (hf : X.env.frame = some X.env.locals) (hN : X.N.Nodup) (hi : X.N[i]? = some n) (hln : X.env.kindOf n = some .local) (hc : Names X x c) (tk : Takes X Wout)
    (hb : ∀ (W : WX) (pn : List (Addr × Obj)) (xe : Value → Shared → Prop), Takes (X.tr pn xe) W → PassesOwn (model X.prog X.w) X.A X.env xe → PSs (X.tr pn xe) body (tb W))
    (hsu : ∀ (a : Addr) (oe : Obj) (cls : Value) (d : Option Addr) (pn : List (Addr × Obj)), Zc cls d oe → (∃ vs, oe.data = .fields vs) → PSs (X.suite a ((a, oe) :: pn)) (b₀ :: suite) (ts a cls d)) :
    PS X (.Try body [.ExceptHandler (some (.Name x np)) (some n) (b₀ :: suite) pos'] [] [] pos) (fun D σ H => tb (wAsT X.K c i ts Wout D) D σ H) where
  run pins s σ H D I h := by
    have okX := I.ok
    have frX : X.A.frames = some (X.env :: X.outer) := hs ▸ okX.frames
    refine wpAny_Try_except (wpAny_mono ((hb (wAsT X.K c i ts Wout D) (X.pn ++ pins) _ ?thrown PassesOwn.looking).run [] s σ H D (I.toTry _) h) ?through fun _ _ z => z)
    case through =>
      intro fl st hfl
      cases fl with
      | next => obtain ⟨σ1, H1, I1, q1⟩ := hfl; exact wpAny_execs_nil ⟨σ1, H1, I1.ofTry okX, q1⟩
      | brk => obtain ⟨σ1, H1, I1, q1⟩ := hfl; exact ⟨σ1, H1, I1.ofTry okX, q1⟩
      | cont => obtain ⟨σ1, H1, I1, q1⟩ := hfl; exact ⟨σ1, H1, I1.ofTry okX, q1⟩
      | ret u => obtain ⟨v1, σ1, H1, I1, r1, q1⟩ := hfl; exact ⟨v1, σ1, H1, I1.ofTry okX, r1, q1⟩
    case thrown =>
      rintro _ st ⟨a, Bg, sI, _, τ, Hx, cls, d, rfl, It, nb, up, sky, out, os, ag, b, fits, yes, no⟩
      have I0 : Inv X pins τ Hx sI := It.ofTry okX
      refine Sky.land Zc.steady frX hf (hs ▸ sky) fun hA flA upA => ?_
      have kA := come_of (s' := st) hs hf I0 nb (up.trans upA) out os ag flA
      obtain ⟨obA, fvA, gA, zA, dA⟩ := flA.there
      have IA := kA.inv.suite gA dA kA.out kA.loc kA.fr
      have asks : ∀ {R : Value → Shared → Prop} {F : Value → Shared → Prop}, R c { st with heap := hA } → wpAny (model X.prog X.w) (X.A.mark (some (.ref a))) (eval (.Name x np) X.env) R F { st with heap := hA } := by
        intro R F r
        rcases hc with ⟨glob, nodebug, here | ⟨notHere, builtin, notName⟩⟩
        · exact ld_glob (X := X.suite a ((a, obA) :: (X.pn ++ pins))) IA glob here r nodebug
        · exact ld_blt (X := X.suite a ((a, obA) :: (X.pn ++ pins))) IA glob notHere builtin r notName nodebug
      have kind : PySem.W.Looks (model X.prog X.w) hA (typeOf (.ref a)) cls := fun _ _ _ _ kp r => wpAny_typeOf_ref (kp _ _ gA) (zA.1 ▸ r)
      refine wpAny_handleBy_cons (codeAny_handlers_test (asks ((PySem.W.exm_one kA.inv.kIn kind fits).here ?_))) nofun
      cases b with
      | false =>
        refine wpAny_handleBy_nil ?_
        obtain ⟨_, _, _, ob, fv, Tr, _, _, go, _, dob, first, _⟩ := id flA
        have on : wpAny (model X.prog X.w) X.A (setFlight (.ref a) X.env.frame) (fun _ s4 => wpAny (model X.prog X.w) X.A (throw (.ref a) : Sem Flow) (SP X pins D) X.xe s4) X.xe { st with heap := hA } := by
          rw [hf]
          exact HandSPX.setFlight_upZ flA fun hB held upB => wpAny_throw (tk _ _ ⟨a, Bg, sI, pins, τ, Hx, cls, d, rfl, I0, nb, (up.trans upA).trans upB, .inr (.inr (hs.symm ▸ held)), out, os, ag, no rfl⟩)
        unfold PySem.passOn
        refine wpAny_bind (wpAny_field go dob first ?_)
        rw [if_neg (by simp : ¬ (Value.ref Tr == Value.none) = true)]
        first
          | exact wpAny_bind on
          | exact wpAny_bind (wpAny_pure (wpAny_bind on))
      | true =>
        refine codeAny_handlers_suite_as (HandSPX.lands_againZ flA fun hB flB upB => ?_)
        have kB := kA.again I0 nb ((up.trans upA).trans upB) os ag flB
        obtain ⟨obB, fvB, gB, zB, dB⟩ := flB.there
        refine store_ok (X := X.suite a ((a, obB) :: (X.pn ++ pins))) (v := .ref a) (kB.inv.suite gB dB kB.out kB.loc kB.fr) hN hi (.inl hln) rfl (fun s5 I5 => ?_) (.inr hln)
        refine wpAny_mono ((hsu a obB cls d (X.pn ++ pins) zB ⟨_, dB⟩).run [] s5 _ Hx _ I5 (yes rfl a out)) (fun fl s6 hfl => ?_) fun _ _ z => z.elim
        cases fl with
        | next => obtain ⟨σ6, H6, I6, q6⟩ := hfl; exact keep_end kB hex hN hi hln zB dB I6 fun s7 I7 => ⟨_, _, I7, q6⟩
        | brk => obtain ⟨σ6, H6, I6, q6⟩ := hfl; exact gone_ok (I6.unsuite okX) hN hi hln fun s7 I7 => ⟨_, _, I7, q6⟩
        | cont => obtain ⟨σ6, H6, I6, q6⟩ := hfl; exact gone_ok (I6.unsuite okX) hN hi hln fun s7 I7 => ⟨_, _, I7, q6⟩
        | ret u => obtain ⟨v6, σ6, H6, I6, r6, q6⟩ := hfl; exact gone_ok (I6.unsuite okX) hN hi hln fun s7 I7 => ⟨_, _, _, I7, r6, q6⟩
end

theorem takes_no {X : Cx} : Takes X (fun _ _ _ _ => False) := fun _ _ ⟨_, _, _, _, _, _, _, _, _, _, _, _, _, _, _, _, f⟩ => f.elim
/-- whatever the slots hold -/
theorem passes_len {X : Cx} {W : WX} (n : Nat) (tk : Takes X W) (hn : X.N.length = n := by rfl) : Passes (L2.CX X.prog X.w) X (fun cls d H => ∀ σ : L2.St, σ.length = n → W cls d σ H) := fun _ σ _ _ e s' I c => tk e s' (XE.of_call I (fun _ _ _ h => h σ (I.len.trans hn)) c)
/-- isinstance(e, c), e a kept exception of an own class without an own dict -/
def rIsT (K : PySem.W.Frag) : List V → Hp → VK → Prop := fun xs H Q => ∃ (a D : Addr) (c : V) (cv : Value) (b : Bool), xs = [.ref a, c] ∧ H a = some (exT a (.ref D) none) ∧ ExcC K D ∧ ClsV c cv ∧ PySem.W.kitOne K (.ref D) cv = some b ∧ Q (.bl b) H
theorem call_isT {X : Cx} (K : PySem.W.Frag) (hK : X.K = K := by rfl) : CallR X (.builtin "isinstance") (rIsT K) := by
  subst hK
  intro pins s σ H xs us Q I r h
  obtain ⟨a, D, c, cv, b, rfl, ha, C, hcv, e, q⟩ := h
  cases r with
  | cons rx rr =>
    cases rr with
    | cons rt rr =>
      cases rr
      cases rx
      have ec := hcv.eq rt
      subst ec
      obtain ⟨⟨oe, vs, hget, hz, hv⟩, _, _⟩ := I.hok a _ ha
      have J : PySem.W.InstAt s.heap a oe D none := by
        obtain ⟨oc, od, oda, osl⟩ := oe
        obtain ⟨h1, h2⟩ := hz
        dsimp only at h1 h2 hv
        subst h1 h2 hv
        exact ⟨hget, rfl, rfl, trivial⟩
      exact PySem.W.kia_one (PySem.W.handS_kitx_exc C.hg C.hk C.hs C.hd C.ha C.hn C.ht C.hm) I.kIn J e (fun z => nomatch z) fun tk => ⟨.bl b, H, I.kept (t' := tk) fun _ _ z => z, rfl, q⟩
end Kt

namespace Kt
open PySem L2
/-- a def of the text, with or without defaults -/
structure FunA (K : PySem.W.Frag) (x qual : Str) (st : Stmt) (f : Addr) (fd : FuncData) : Prop where
  ex : ∃ (oc : Value) (od : Option Addr) (dV kV doc pm : Value) (an : Option Addr) (cdv ct : Value) (osl : Array (Option Value)),
    fd = PySem.W.fnOf x qual (defArgs st) (defBody st) (defScope st) dV kV doc pm an cdv ct ∧ K.lookup f = some ⟨oc, od, .func fd, osl⟩ ∧ PySem.W.codeIn K cdv qual = true
  kp : PySem.W.keepIn K (.ref f) = true
section
variable {P : Program} {w : World} {K : PySem.W.Frag} {mg : Str → Option Value} {base : Heap}
theorem FunA.ok {x qual : Str} {st : Stmt} {f : Addr} {fd : FuncData} {N ps : List Str} {k : Nat} {sp : Sp} (F : FunA K x qual st f fd) (S : FnScope N ps (defScope st)) (len : ∀ vs H Q E, sp vs H Q E → vs.length = ps.length)
    (hbody : ∀ (cdv : Value) (A : Around) (outer : List Env) (s : Shared) (H : Hp) (vs : List V) (Q : VK) (E : XK), Room k (A.deeper (PyProof.Rows.envOfC qual (defScope st) s.heap.objs.size f cdv)) → sp vs H Q E →
      ∃ t, PSs (cxOf CX0 P w K mg base N qual (defScope st) f cdv A outer s H E).nox (defBody st) t ∧ t { nx := fun _ H' => Q .non H', rt := Q } (start N vs) H) : FnOk P w K mg base CX0 (k + 1) f fd ps sp := by
  obtain ⟨oc, od, dV, kV, doc, pm, an, cdv, ct, osl, rfl, lk, hcd⟩ := F.ex
  refine fn_of lk hcd S len fun A outer s H vs Q E hr hsp => ?_
  obtain ⟨t, h, q⟩ := hbody cdv A outer s H vs Q E hr hsp
  exact ⟨t, h.nox, q⟩
/-- .. that may raise -/
theorem FunA.okX {x qual : Str} {st : Stmt} {f : Addr} {fd : FuncData} {N ps : List Str} {k : Nat} {sp : Sp} (F : FunA K x qual st f fd) (S : FnScope N ps (defScope st)) (len : ∀ vs H Q E, sp vs H Q E → vs.length = ps.length)
    (hbody : ∀ (cdv : Value) (A : Around) (outer : List Env) (s : Shared) (H : Hp) (vs : List V) (Q : VK) (E : XK), Room k (A.deeper (PyProof.Rows.envOfC qual (defScope st) s.heap.objs.size f cdv)) → sp vs H Q E →
      ∃ t, PSs (cxOf (L2.CX P w) P w K mg base N qual (defScope st) f cdv A outer s H E) (defBody st) t ∧ t { nx := fun _ H' => Q .non H', rt := Q } (start N vs) H) : FnOk P w K mg base (L2.CX P w) (k + 1) f fd ps sp := by
  obtain ⟨oc, od, dV, kV, doc, pm, an, cdv, ct, osl, rfl, lk, hcd⟩ := F.ex
  exact fn_of lk hcd S len fun A outer s H vs Q E hr hsp => hbody cdv A outer s H vs Q E hr hsp
end
/-- what the written part says of a def of the top -/
structure DefF (K : PySem.W.Frag) (mg : Str → Option Value) (x : Str) (st : Stmt) (ps : List Str) (f : Addr) (fd : FuncData) : Prop where
  F : FunA K x x st f fd
  b : Binds K fd ps []
  g : mg x = some (.ref f)
/-- .. of a method -/
structure MetF (K : PySem.W.Frag) (C : Addr) (m qual : Str) (st : Stmt) (ps : List Str) (f : Addr) (fd : FuncData) : Prop where
  F : FunA K m qual st f fd
  b : Binds K fd ps []
  at_ : PySem.W.findIn K (.ref C) m = some (some (.ref f))
  fn : PySem.W.isFn K (.ref f) = true
  fin : PySem.W.fnIn K f = true
section
variable {K : PySem.W.Frag} {mg : Str → Option Value} {C f : Addr} {m qual x : Str} {st : Stmt} {ps : List Str} {fd : FuncData}
theorem MetF.own (h : MetF K C m qual st ps f fd) : OO.Own K C m f := ⟨h.at_, h.fn⟩
theorem MetF.me (h : MetF K C m qual st ps f fd) : Meth K C m f := ⟨h.at_, h.fn, h.F.kp⟩
theorem def_mk {h : Heap} (X : K.In h) (G : h.Ns mainGlobals mg) {oc : Value} {od an : Option Addr} {osl : Array (Option Value)} {dV kV doc pm cdv ct : Value}
    (a : PySem.W.nsIn K mainGlobals x = some (some (.ref f))) (l : K.lookup f = some ⟨oc, od, .func (PySem.W.fnOf x x (defArgs st) (defBody st) (defScope st) dV kV doc pm an cdv ct), osl⟩)
    (c : PySem.W.codeIn K cdv x = true) (k : PySem.W.keepIn K (.ref f) = true)
    (hb : ∀ (dV kV doc pm : Value) (an : Option Addr) (cdv ct : Value) (us : List Value), us.length = ps.length → bindArgs (PySem.W.fnOf x x (defArgs st) (defBody st) (defScope st) dV kV doc pm an cdv ct) ⟨us, []⟩ = pure (ps.zip us)) :
    ∃ f fd, DefF K mg x st ps f fd :=
  ⟨f, _, ⟨⟨oc, od, dV, kV, doc, pm, an, cdv, ct, osl, rfl, l, c⟩, k⟩, .all (hb dV kV doc pm an cdv ct), PySem.W.mg_of X G a⟩
theorem def_of {h : Heap} (X : K.In h) (G : h.Ns mainGlobals mg) {oc : Value} {od an : Option Addr} {osl : Array (Option Value)} {kV doc pm cdv ct : Value}
    (a : PySem.W.nsIn K mainGlobals x = some (some (.ref f))) (l : K.lookup f = some ⟨oc, od, .func (PySem.W.fnOf x x (defArgs st) (defBody st) (defScope st) .none kV doc pm an cdv ct), osl⟩)
    (c : PySem.W.codeIn K cdv x = true) (k : PySem.W.keepIn K (.ref f) = true)
    (hb : ∀ (kV doc pm : Value) (an : Option Addr) (cdv ct : Value) (us : List Value), us.length = ps.length → bindArgs (PySem.W.fnOf x x (defArgs st) (defBody st) (defScope st) .none kV doc pm an cdv ct) ⟨us, []⟩ = pure (ps.zip us)) :
    DefF K mg x st ps f (PySem.W.fnOf x x (defArgs st) (defBody st) (defScope st) .none kV doc pm an cdv ct) :=
  ⟨⟨⟨oc, od, .none, kV, doc, pm, an, cdv, ct, osl, rfl, l, c⟩, k⟩, .all (hb kV doc pm an cdv ct), PySem.W.mg_of X G a⟩
theorem met_of {oc : Value} {od an : Option Addr} {osl : Array (Option Value)} {kV doc pm cdv ct : Value}
    (a : PySem.W.findIn K (.ref C) m = some (some (.ref f))) (i : PySem.W.isFn K (.ref f) = true) (l : K.lookup f = some ⟨oc, od, .func (PySem.W.fnOf m qual (defArgs st) (defBody st) (defScope st) .none kV doc pm an cdv ct), osl⟩)
    (c : PySem.W.codeIn K cdv qual = true) (k : PySem.W.keepIn K (.ref f) = true) (n : PySem.W.fnIn K f = true)
    (hb : ∀ (kV doc pm : Value) (an : Option Addr) (cdv ct : Value) (us : List Value), us.length = ps.length → bindArgs (PySem.W.fnOf m qual (defArgs st) (defBody st) (defScope st) .none kV doc pm an cdv ct) ⟨us, []⟩ = pure (ps.zip us)) :
    MetF K C m qual st ps f (PySem.W.fnOf m qual (defArgs st) (defBody st) (defScope st) .none kV doc pm an cdv ct) :=
  ⟨⟨⟨oc, od, .none, kV, doc, pm, an, cdv, ct, osl, rfl, l, c⟩, k⟩, .all (hb kV doc pm an cdv ct), a, i, n⟩
/-- one default, every parameter given -/
theorem met_ofD {oc : Value} {od an : Option Addr} {osl : Array (Option Value)} {kV doc pm cdv ct u cT : Value} {T : Addr} {dT : Option Addr} {nT : Nat} {sT : Array (Option Value)}
    (a : PySem.W.findIn K (.ref C) m = some (some (.ref f))) (i : PySem.W.isFn K (.ref f) = true) (l : K.lookup f = some ⟨oc, od, .func (PySem.W.fnOf m qual (defArgs st) (defBody st) (defScope st) (.ref T) kV doc pm an cdv ct), osl⟩)
    (c : PySem.W.codeIn K cdv qual = true) (k : PySem.W.keepIn K (.ref f) = true) (n : PySem.W.fnIn K f = true) (lT : K.lookup T = some ⟨cT, dT, .seq #[u] nT, sT⟩)
    (hb : ∀ (T : Addr) (kV doc pm : Value) (an : Option Addr) (cdv ct u : Value) (us : List Value), us.length = ps.length →
      ∃ k, bindArgs (PySem.W.fnOf m qual (defArgs st) (defBody st) (defScope st) (.ref T) kV doc pm an cdv ct) ⟨us, []⟩ = seqItems? (.ref T) >>= k ∧ k (some #[u]) = pure (ps.zip us)) :
    MetF K C m qual st ps f (PySem.W.fnOf m qual (defArgs st) (defBody st) (defScope st) (.ref T) kV doc pm an cdv ct) :=
  ⟨⟨⟨oc, od, .ref T, kV, doc, pm, an, cdv, ct, osl, rfl, l, c⟩, k⟩, fun s us X hl => by
    rw [List.append_nil] at hl ⊢
    obtain ⟨k, e1, e2⟩ := hb T kV doc pm an cdv ct u us hl
    refine BindsTo.of_looks fun M => ?_
    rw [e1]
    exact looks_items X lT rfl (.of_pure e2), a, i, n⟩
theorem met_mk {oc : Value} {od an : Option Addr} {osl : Array (Option Value)} {dV kV doc pm cdv ct : Value}
    (a : PySem.W.findIn K (.ref C) m = some (some (.ref f))) (i : PySem.W.isFn K (.ref f) = true) (l : K.lookup f = some ⟨oc, od, .func (PySem.W.fnOf m qual (defArgs st) (defBody st) (defScope st) dV kV doc pm an cdv ct), osl⟩)
    (c : PySem.W.codeIn K cdv qual = true) (k : PySem.W.keepIn K (.ref f) = true) (n : PySem.W.fnIn K f = true)
    (hb : ∀ (dV kV doc pm : Value) (an : Option Addr) (cdv ct : Value) (us : List Value), us.length = ps.length → bindArgs (PySem.W.fnOf m qual (defArgs st) (defBody st) (defScope st) dV kV doc pm an cdv ct) ⟨us, []⟩ = pure (ps.zip us)) :
    ∃ f fd, MetF K C m qual st ps f fd :=
  ⟨f, _, ⟨⟨oc, od, dV, kV, doc, pm, an, cdv, ct, osl, rfl, l, c⟩, k⟩, .all (hb dV kV doc pm an cdv ct), a, i, n⟩
end
/-! ### isinstance and except, from what the written part tells of classes -/
section
variable {K : PySem.W.Frag} {D C : Addr} {T : String} {v : Bool}
theorem kitCls_ref (i : PySem.W.isClsIn K C = true) (t : PySem.W.typeIn K (.ref C) = some (.type "type")) (h : PySem.W.subIn K (.ref D) (.ref C) = some v) : PySem.W.kitCls K (.ref D) (.ref C) = some v := by
  have e : ((PySem.W.clsIn K C).isSome && PySem.W.typeIn K (.ref C) == some (.type "type")) = true := by
    have i' : (PySem.W.clsIn K C).isSome = true := i
    rw [i', t]; rfl
  show (if ((PySem.W.clsIn K C).isSome && PySem.W.typeIn K (.ref C) == some (.type "type")) = true then PySem.W.subIn K (.ref D) (.ref C) else none) = some v
  rw [if_pos e, h]
theorem kit_sub (hm : PySem.W.kitMeta T = true) (h : PySem.W.subIn K (.ref D) (.type T) = some v) : PySem.W.kitOne K (.ref D) (.type T) = some v := by
  show (if ((Value.ref D == Value.type T) = true) then some true else if PySem.W.kitMeta T = true then PySem.W.subIn K (.ref D) (.type T) else none) = some v
  have e : ¬ ((Value.ref D == Value.type T) = true) := by
    intro z; cases (beq_iff_eq.mp z)
  rw [if_neg e, if_pos hm, h]
theorem kit_self : PySem.W.kitOne K (.ref D) (.ref D) = some true := by
  unfold PySem.W.kitOne
  rw [if_pos (beq_self_eq_true _)]
theorem kit_ref (hne : (D == C) = false) (i : PySem.W.isClsIn K C = true) (t : PySem.W.typeIn K (.ref C) = some (.type "type")) (h : PySem.W.subIn K (.ref D) (.ref C) = some v) : PySem.W.kitOne K (.ref D) (.ref C) = some v := by
  unfold PySem.W.kitOne
  have e : ¬ ((Value.ref D == Value.ref C) = true) := by
    intro z
    have := beq_iff_eq.mp z
    injection this with z
    rw [z, beq_self_eq_true] at hne
    cases hne
  rw [if_neg e]
  exact kitCls_ref i t h
theorem exm_ref (b : PySem.W.subIn K (.ref C) (.type "BaseException") = some true) (i : PySem.W.isClsIn K C = true) (t : PySem.W.typeIn K (.ref C) = some (.type "type")) (h : PySem.W.subIn K (.ref D) (.ref C) = some v) : PySem.W.exmOne K (.ref D) (.ref C) = some v := by
  unfold PySem.W.exmOne
  rw [b, if_pos (by rfl : (some true == some true) = true)]
  exact kitCls_ref i t h
end
/-- .. of an own exception class without an own __init__ -/
structure ExcF (K : PySem.W.Frag) (mg : Str → Option Value) (x : Str) (C : Addr) (bm : List Value) (newId : String) : Prop where
  g : mg x = some (.ref C)
  xi : PySem.W.excIn K C bm newId = true
  k : PySem.W.keepIn K (.ref C) = true
  b : PySem.W.subIn K (.ref C) (.type "BaseException") = some true
  t : PySem.W.typeIn K (.ref C) = some (.type "type")
  c : ExcC K C
  em : PySem.W.exmOne K (.ref C) (.ref C) = some true
/-- .. of a class -/
structure ClsF (K : PySem.W.Frag) (mg : Str → Option Value) (x : Str) (C : Addr) : Prop where
  g : mg x = some (.ref C)
  cl : Cls K C
  sf : PySem.W.selfFirst K C = true
  ns : PySem.W.noSeq K C = true
  mi : PySem.W.makesIn K C = true
  kc : PySem.W.keepIn K (.ref C) = true
theorem MetF.mk_ {K : PySem.W.Frag} {mg : Str → Option Value} {C f : Addr} {qual x : Str} {st : Stmt} {ps : List Str} {fd : FuncData} (h : MetF K C "__init__" qual st ps f fd) (c : ClsF K mg x C) : Mk K C f := ⟨c.mi, h.at_, h.fn, c.kc⟩
end Kt

namespace Kt
open PySem L2
theorem div_ok {i j : Int} (h : 0 < j) (hb : j < 2 ^ 64) : CDivW i j := wide_div h (b := 64) (by omega) (by decide) (by decide)
theorem mod_in {i m : Int} (h : 0 < m) : 0 ≤ i % m ∧ i % m < m := ⟨Int.emod_nonneg _ (by omega), Int.emod_lt_of_pos _ h⟩
theorem p0 {m : Int} (h : decide (0 < m) = true) : 0 < m := of_decide_eq_true h
theorem sz {n : Nat} (h : Nat.ble n 1000 = true) : n ≤ sizeLine := Nat.le_trans (Nat.le_of_ble_eq_true h) (by decide)
theorem szL {n : Nat} (h : n ≤ 100000) : n ≤ sizeLine := Nat.le_trans h (by decide)
theorem szl {n : Nat} (h : n < 100000) : n < sizeLine := Nat.lt_of_lt_of_le h (by decide)
theorem b01 (c : Bool) : (-(2 ^ 64) < (if c = true then (1 : Int) else 0) ∧ (if c = true then (1 : Int) else 0) < 2 ^ 64) ∧ 0 ≤ (if c = true then (1 : Int) else 0) := by cases c <;> decide
theorem cut_to (xs : List V) (m : Nat) : cutV xs none (some (m : Int)) = xs.take m := by
  unfold cutV
  rw [HT.sIx_none, HT.sIx_nat, List.drop_zero, Nat.sub_zero]
  by_cases h : m ≤ xs.length
  · rw [Nat.min_eq_left h]
  · rw [Nat.min_eq_right (by omega), List.take_of_length_le (Nat.le_refl _), List.take_of_length_le (by omega)]
theorem cut_from (xs : List V) (m : Nat) : cutV xs (some (m : Int)) none = xs.drop m := by
  unfold cutV
  rw [HT.sIx_none, HT.sIx_nat]
  by_cases h : m ≤ xs.length
  · rw [Nat.min_eq_left h, List.take_of_length_le (by rw [List.length_drop]; omega)]
  · rw [Nat.min_eq_right (by omega), List.drop_of_length_le (Nat.le_refl _), List.drop_of_length_le (by omega)]; simp
theorem cut_mid (xs : List V) (m n : Nat) (h : m ≤ n) : cutV xs (some (m : Int)) (some (n : Int)) = (xs.drop m).take (n - m) := by
  unfold cutV
  rw [HT.sIx_nat, HT.sIx_nat]
  by_cases hm : m ≤ xs.length
  · rw [Nat.min_eq_left hm]
    by_cases hn : n ≤ xs.length
    · rw [Nat.min_eq_left hn]
    · rw [Nat.min_eq_right (by omega), List.take_of_length_le (by rw [List.length_drop]; omega), List.take_of_length_le (by rw [List.length_drop]; omega)]
  · rw [Nat.min_eq_right (show xs.length ≤ m by omega), List.drop_of_length_le (Nat.le_refl _), List.drop_of_length_le (show xs.length ≤ m by omega)]; simp
theorem map_at {α β : Type} {f : α → β} {l : List α} {i : Nat} {y : β} (h : (l.map f)[i]? = some y) : ∃ v, l[i]? = some v ∧ y = f v := by
  rw [List.getElem?_map] at h
  cases e : l[i]? with
  | none => rw [e] at h; cases h
  | some v => rw [e] at h; exact ⟨v, rfl, (Option.some.inj h).symm⟩
theorem ex_of_same {H H' : Hp} (s : Same H H') : Ex No H H H' H' := ⟨s, fun b o _ e => s _ _ e, Same.refl _, fun b o e => by
  cases eb : H b with
  | none => exact .inr rfl
  | some u =>
    have := s _ _ eb
    rw [this] at e
    exact .inl e, fun b e => s.free e⟩
/-- a draw below m -/
def spTake : Sp := fun vs H Q _ => ∃ (G : Hp) (p : Addr) (m c : Int), vs = [.ref p, .int m] ∧ Sx G H p c ∧ c < 2 ^ 60 ∧ 0 < m ∧ m < 2 ^ 64 ∧
  ∀ H' r c', Ex (On p) G H G H' → Sx G H' p c' → c' ≤ c + 1 → 0 ≤ r → r < m → Q (.int r) H'
/-- one of a list's items, drawn -/
def spOf : Sp := fun vs H Q _ => ∃ (G : Hp) (p l : Addr) (xs : List V) (c : Int), vs = [.ref p, .ref l] ∧ Sx G H p c ∧ c < 2 ^ 60 ∧ G l = some (.lst xs) ∧ 0 < xs.length ∧ xs.length < 1000 ∧
  ∀ H' v c', Ex (On p) G H G H' → Sx G H' p c' → c' ≤ c + 1 → v ∈ xs → Q v H'
/-- a box from a cell -/
def spBox : Sp := fun vs H Q _ => ∃ (G : Hp) (a : Addr) (ns : List Int) (k : Nat), vs = [.ref a, .int (k : Int)] ∧ Same G H ∧ G a = some (.lst (ns.map V.int)) ∧ k < ns.length ∧ ns.length ≤ 1000 ∧
  ∀ H' p, Ex No G H G H' → Sx G H' p 0 → H p = none → Q (.ref p) H'
/-- the cells of a script -/
def spCells (K : PySem.W.Frag) : Sp := fun vs H Q _ => ∃ (a : Addr) (ns : List Int) (m : Nat), vs = [.ref a, .int (m : Int)] ∧ SqL K H a (ns.map V.int) ∧ ns.length ≤ 63 ∧ 0 < m ∧ m ≤ 10 ∧
  ∀ H' l (cs : List Int), Ex No H H H' H' → H' l = some (.lst (cs.map V.int)) → cs.length ≤ 10 → Q (.ref l) H'
/-- the law's check of one box -/
def spRight : Sp := fun vs H Q _ => ∃ (G : Hp) (p : Addr) (c : Int), vs = [.ref p] ∧ Sx G H p c ∧ c < 2 ^ 50 ∧
  ∀ G' H' c', Ex (On p) G H G' H' → Sx G' H' p c' → Q (.bl true) H'
def spLaw (K : PySem.W.Frag) : Sp := fun vs H Q _ => ∃ (a : Addr) (ns : List Int), vs = [.ref a] ∧ SqL K H a (ns.map V.int) ∧ ns.length ≤ 63 ∧ ∀ H', Q (.bl true) H'
theorem atI_in {α : Type} {xs : List α} {r : Int} (h0 : 0 ≤ r) (h1 : r < xs.length) : ∃ v, atI xs r = some v ∧ v ∈ xs := by
  obtain ⟨n, rfl⟩ : ∃ n : Nat, r = n := ⟨r.toNat, by omega⟩
  have hn : n < xs.length := by omega
  exact ⟨xs[n], atI_nat (List.getElem?_eq_getElem hn), List.getElem_mem hn⟩
theorem atI_ix {α : Type} {xs : List α} {r : Int} (h0 : 0 ≤ r) (h1 : r < xs.length) : ∃ (n : Nat) (v : α), r = n ∧ atI xs r = some v ∧ xs[n]? = some v ∧ n < xs.length := by
  obtain ⟨n, rfl⟩ : ∃ n : Nat, r = n := ⟨r.toNat, by omega⟩
  have hn : n < xs.length := by omega
  exact ⟨n, xs[n], rfl, atI_nat (List.getElem?_eq_getElem hn), List.getElem?_eq_getElem hn, hn⟩
/-- t + u of two told tuples -/
theorem cat_rd {K : PySem.W.Frag} {G H : Hp} {v u : V} {ds es : List PyData} {Q : VK} (S : Same G H) (ha : Rp G v (.tuple ds)) (hb : Rp G u (.tuple es)) (hz : ds.length + es.length ≤ 100000)
    (k : ∀ G' H' w, Ex No G H G' H' → Rp G' w (.tuple (ds ++ es)) → Q w H') : rCatA K v u H Q := by
  obtain ⟨a, xs, rfl, g1, r1⟩ := of_tup ha
  obtain ⟨b, ys, rfl, g2, r2⟩ := of_tup hb
  have l1 := r1.length
  have l2 := r2.length
  refine ⟨a, b, xs, ys, rfl, rfl, SqT.of (S _ _ g1), SqT.of (S _ _ g2), szL (by omega), fun e => ?_, fun _ e => ?_, fun _ _ p hp => ?_⟩
  · subst e
    cases r1
    exact k G H _ (Ex.refl S) (.tup g2 r2)
  · subst e
    cases r2
    rw [List.append_nil] at k
    exact k G H _ (Ex.refl S) (.tup g1 r1)
  · generalize e1 : upd H p _ = H1
    obtain ⟨G1, x1, h1⟩ := ex_new (M := No) S hp e1
    exact k G1 H1 _ x1 (.tup h1 ((r1.mono x1.g).app (r2.mono x1.g)))
/-! ### kinds -/
/-- a kind: 1 to 8 letters -/
structure Kd (x : Str) : Prop where
  pos : 0 < x.cps.toList.length
  le : x.cps.toList.length ≤ 8
  let_ : ∀ c ∈ x.cps.toList, 97 ≤ c ∧ c ≤ 122
abbrev letters : Str := Str.ofString "abcdefghijklmnopqrstuvwxyz"
theorem letter_at {r : Int} (h0 : 0 ≤ r) (h1 : r < 26) : atI letters.cps.toList r = some (97 + r.toNat) := by
  obtain ⟨n, rfl⟩ : ∃ n : Nat, r = n := ⟨r.toNat, by omega⟩
  have h : ∀ n : Nat, n < 26 → letters.cps.toList[n]? = some (97 + n) := by decide +kernel
  exact atI_nat (h n (by omega))
theorem letters_len : letters.length ≤ sizeLine := by decide +kernel
abbrev sgn (c : Nat) : Str := ⟨#[c]⟩
theorem join_codes (cs : List Nat) : (Txt.join (Str.ofString "") (cs.map sgn)).cps.toList = cs := by
  rw [TL.join_eq]
  have h := TL.tl_join (Str.ofString "") (cs.map sgn)
  refine h.trans ?_
  have e : TL.tl (Str.ofString "") = [] := rfl
  rw [e, List.map_map]
  clear h
  induction cs with
  | nil => rfl
  | cons c r ih =>
    cases r with
    | nil => rfl
    | cons d r =>
      show [c] ++ ([] ++ TL.joinL [] (((d :: r).map (TL.tl ∘ sgn)))) = _
      rw [ih]; rfl
theorem strOk_of {x : Str} (h : ∀ c ∈ x.cps.toList, 97 ≤ c ∧ c ≤ 122) : PyData.strOk x = true := by
  unfold PyData.strOk
  rw [Array.all_eq_true]
  intro i hi
  have := h x.cps[i] (Array.getElem_mem_toList ..)
  simp
  omega
theorem Kd.ok {x : Str} (h : Kd x) : PyData.strOk x = true := strOk_of h.let_
theorem cutS_codes (z : Str) (n : Nat) : (cutS z none (some (n : Int))).cps.toList = z.cps.toList.take n ∧ (cutS z (some (n : Int)) none).cps.toList = z.cps.toList.drop n := by
  unfold cutS
  have hz : z.length = z.cps.toList.length := (Array.length_toList ..).symm
  constructor
  · rw [HT.sIx_none, HT.sIx_nat, List.drop_zero, Nat.sub_zero]
    show (z.cps.toList.take (min n z.length)) = _
    rw [hz]
    by_cases h : n ≤ z.cps.toList.length
    · rw [Nat.min_eq_left h]
    · rw [Nat.min_eq_right (by omega), List.take_of_length_le (Nat.le_refl _), List.take_of_length_le (by omega)]
  · rw [HT.sIx_none, HT.sIx_nat]
    show ((z.cps.toList.drop (min n z.length)).take (z.length - min n z.length)) = _
    rw [hz]
    by_cases h : n ≤ z.cps.toList.length
    · rw [Nat.min_eq_left h, List.take_of_length_le (by rw [List.length_drop]; omega)]
    · rw [Nat.min_eq_right (by omega), List.drop_of_length_le (Nat.le_refl _), List.drop_of_length_le (by omega)]; simp
/-- a word with its sign at the place that its length tells -/
def Wd (place first step : Int) (j : Nat) (x : Str) : Prop := Kd x ∧ x.cps.toList[(place % (x.cps.toList.length : Int)).toNat]? = some (97 + ((first + step * j) % 26).toNat)
def steps : List Int := [1, 3, 5, 7, 9, 11, 15, 17, 19, 21, 23, 25]
theorem step_ok : ∀ s ∈ steps, ∀ d : Nat, d < 26 → 0 < d → (s * d) % 26 ≠ 0 := by decide +kernel
theorem wd_ne {place first step : Int} (hs : step ∈ steps) {i j : Nat} (hij : i < j) (hj : j < 26) {x : Str} (h1 : Wd place first step i x) (h2 : Wd place first step j x) : False := by
  have e := h1.2.symm.trans h2.2
  injection e with e
  have a1 := mod_in (i := first + step * i) (m := 26) (by decide)
  have a2 := mod_in (i := first + step * j) (m := 26) (by decide)
  have e2 : (first + step * i) % 26 = (first + step * j) % 26 := by omega
  have h := step_ok step hs (j - i) (by omega) (by omega)
  apply h
  have e3 : (step * ((j - i : Nat) : Int)) = (first + step * j) - (first + step * i) := by
    rw [Int.ofNat_sub (by omega), Int.mul_sub]; omega
  rw [e3]
  omega
theorem wd_nodup {place first step : Int} (hs : step ∈ steps) {ns : List Str} (hl : ns.length ≤ 26) (h : ∀ j x, ns[j]? = some x → Wd place first step j x) : ns.Nodup := by
  rw [List.Nodup, List.pairwise_iff_getElem]
  intro i j hi hj hij e
  have w1 := h i _ (List.getElem?_eq_getElem hi)
  have w2 := h j _ (List.getElem?_eq_getElem hj)
  rw [← e] at w2
  exact wd_ne hs hij (by omega) w1 w2
/-- so many different kinds -/
def spNames : Sp := fun vs H Q _ => ∃ (G : Hp) (p : Addr) (c : Int) (n : Nat), vs = [.ref p, .int (n : Int)] ∧ Sx G H p c ∧ c < 2 ^ 58 ∧ n ≤ 26 ∧
  ∀ G' H' c' l (ns : List Str), Ex (On p) G H G' H' → Sx G' H' p c' → c' ≤ c + 1000 → G' l = some (.lst (ns.map V.str)) → ns.length = n → (∀ x ∈ ns, Kd x) → ns.Nodup → Q (.ref l) H'
end Kt

/-! Lots as sorted lists of a kind and a number above 0: plain Lean. -/
namespace LM
open PySem L2
def slt (x y : Str) : Bool := Spec.ltCps x.cps.toList y.cps.toList
theorem lt_irr : ∀ a : List Nat, Spec.ltCps a a = false
  | [] => rfl
  | a :: r => by simp [Spec.ltCps, lt_irr r]
theorem lt_tr : ∀ a b c : List Nat, Spec.ltCps a b = true → Spec.ltCps b c = true → Spec.ltCps a c = true
  | [], [], _, h, _ => by cases h
  | [], _ :: _, [], _, h => by cases h
  | [], _ :: _, _ :: _, _, _ => rfl
  | _ :: _, [], _, h, _ => by cases h
  | _ :: _, _ :: _, [], _, h => by cases h
  | x :: a, y :: b, z :: c, h1, h2 => by
    simp only [Spec.ltCps, Bool.or_eq_true, Bool.and_eq_true, decide_eq_true_eq, beq_iff_eq] at h1 h2 ⊢
    rcases h1 with h1 | ⟨rfl, h1⟩
    · rcases h2 with h2 | ⟨rfl, h2⟩
      · left; omega
      · left; exact h1
    · rcases h2 with h2 | ⟨rfl, h2⟩
      · left; exact h2
      · right; exact ⟨rfl, lt_tr a b c h1 h2⟩
theorem lt_tri : ∀ a b : List Nat, Spec.ltCps a b = false → Spec.ltCps b a = false → a = b
  | [], [], _, _ => rfl
  | [], _ :: _, h, _ => by cases h
  | _ :: _, [], _, h => by cases h
  | x :: a, y :: b, h1, h2 => by
    simp only [Spec.ltCps, Bool.or_eq_false_iff, Bool.and_eq_false_iff, decide_eq_false_iff_not, beq_eq_false_iff_ne] at h1 h2
    have e : x = y := by omega
    subst e
    rw [lt_tri a b (h1.2.resolve_left (fun h => h rfl)) (h2.2.resolve_left (fun h => h rfl))]
theorem slt_irr (x : Str) : slt x x = false := lt_irr _
theorem slt_tr {x y z : Str} (h : slt x y = true) (h' : slt y z = true) : slt x z = true := lt_tr _ _ _ h h'
theorem str_ext {x y : Str} (h : x.cps.toList = y.cps.toList) : x = y := by
  cases x with
  | mk a => cases y with
    | mk b => simp at h; rw [h]
theorem slt_tri {x y : Str} (h : slt x y = false) (h' : slt y x = false) : x = y := str_ext (lt_tri _ _ h h')
theorem slt_ne {x y : Str} (h : slt x y = true) : x ≠ y := by
  rintro rfl; rw [slt_irr] at h; cases h
theorem slt_asym {x y : Str} (h : slt x y = true) : slt y x = false := by
  cases e : slt y x with
  | false => rfl
  | true => have := slt_tr h e; rw [slt_irr] at this; cases this

abbrev Pr := List (Str × Int)
def lk : Pr → Str → Int
  | [], _ => 0
  | p :: r, k => if p.1 = k then p.2 else lk r k
structure Ok (m : Pr) : Prop where
  srt : m.Pairwise (fun a b => slt a.1 b.1 = true)
  pos : ∀ x ∈ m, 0 < x.2
theorem Ok.nil : Ok [] := ⟨List.Pairwise.nil, fun x h => by cases h⟩
theorem Ok.tail {p : Str × Int} {m : Pr} (h : Ok (p :: m)) : Ok m := ⟨(List.pairwise_cons.mp h.srt).2, fun x hx => h.pos x (List.mem_cons_of_mem _ hx)⟩
theorem Ok.head {p : Str × Int} {m : Pr} (h : Ok (p :: m)) : ∀ x ∈ m, slt p.1 x.1 = true := (List.pairwise_cons.mp h.srt).1
theorem lk_out {k : Str} : ∀ {m : Pr}, (∀ x ∈ m, x.1 ≠ k) → lk m k = 0
  | [], _ => rfl
  | p :: r, h => by
    rw [lk, if_neg (h p (List.mem_cons_self ..)), lk_out fun x hx => h x (List.mem_cons_of_mem _ hx)]
theorem Ok.lk_nn {m : Pr} (h : Ok m) (k : Str) : 0 ≤ lk m k := by
  induction m with
  | nil => exact Int.le_refl _
  | cons p r ih =>
    rw [lk]; split
    · exact Int.le_of_lt (h.pos p (List.mem_cons_self ..))
    · exact ih h.tail
theorem Ok.lk_head {p : Str × Int} {m : Pr} (h : Ok (p :: m)) : lk m p.1 = 0 := lk_out fun x hx => (slt_ne (h.head x hx)).symm
theorem Ok.lk_mem {m : Pr} (h : Ok m) {p : Str × Int} (hp : p ∈ m) : lk m p.1 = p.2 := by
  induction m with
  | nil => cases hp
  | cons q r ih =>
    rcases List.mem_cons.mp hp with rfl | hp
    · rw [lk, if_pos rfl]
    · rw [lk, if_neg (slt_ne (h.head p hp)), ih h.tail hp]
theorem lk_pos_mem {m : Pr} {k : Str} (h : lk m k ≠ 0) : (k, lk m k) ∈ m := by
  induction m with
  | nil => exact absurd rfl h
  | cons p r ih =>
    rw [lk] at h ⊢
    by_cases e : p.1 = k
    · rw [if_pos e] at h ⊢; subst e; exact List.mem_cons_self ..
    · rw [if_neg e] at h ⊢; exact List.mem_cons_of_mem _ (ih h)
theorem Ok.ext : ∀ {m m' : Pr}, Ok m → Ok m' → (∀ k, lk m k = lk m' k) → m = m'
  | [], [], _, _, _ => rfl
  | [], p :: r, _, h', e => by
    have := e p.1
    rw [h'.lk_mem (List.mem_cons_self ..)] at this
    have := h'.pos p (List.mem_cons_self ..)
    simp [lk] at *
    omega
  | p :: r, [], h, _, e => by
    have := e p.1
    rw [h.lk_mem (List.mem_cons_self ..)] at this
    have := h.pos p (List.mem_cons_self ..)
    simp [lk] at *
    omega
  | p :: r, q :: t, h, h', e => by
    have hp := h.pos p (List.mem_cons_self ..)
    have hq := h'.pos q (List.mem_cons_self ..)
    have a1 : slt p.1 q.1 = false := by
      cases z : slt p.1 q.1 with
      | false => rfl
      | true =>
        have := e p.1
        rw [h.lk_mem (List.mem_cons_self ..), lk_out (m := q :: t) (fun x hx => ?_)] at this
        · omega
        · rcases List.mem_cons.mp hx with rfl | hx
          · exact (slt_ne z).symm
          · exact (slt_ne (slt_tr z (h'.head x hx))).symm
    have a2 : slt q.1 p.1 = false := by
      cases z : slt q.1 p.1 with
      | false => rfl
      | true =>
        have := e q.1
        rw [h'.lk_mem (List.mem_cons_self ..), lk_out (m := p :: r) (fun x hx => ?_)] at this
        · omega
        · rcases List.mem_cons.mp hx with rfl | hx
          · exact (slt_ne z).symm
          · exact (slt_ne (slt_tr z (h.head x hx))).symm
    have ek := slt_tri a1 a2
    have ev : p.2 = q.2 := by
      have := e p.1
      rw [h.lk_mem (List.mem_cons_self ..), ek, h'.lk_mem (List.mem_cons_self ..)] at this
      exact this
    have epq : p = q := Prod.ext ek ev
    subst epq
    rw [Ok.ext h.tail h'.tail fun k => ?_]
    have := e k
    rw [lk, lk] at this
    by_cases z : p.1 = k
    · subst z
      rw [h.lk_head, h'.lk_head]
    · rw [if_neg z, if_neg z] at this; exact this
def addL : Pr → Str → Int → Pr
  | [], k, n => [(k, n)]
  | p :: r, k, n => if p.1 = k then (p.1, p.2 + n) :: r else if slt k p.1 = true then (k, n) :: p :: r else p :: addL r k n
theorem addL_mem {k : Str} {n : Int} : ∀ {m : Pr} {x : Str × Int}, x ∈ addL m k n → x.1 = k ∨ x ∈ m
  | [], x, h => by rw [addL] at h; left; rw [List.mem_singleton.mp h]
  | p :: r, x, h => by
    rw [addL] at h
    split at h
    · rename_i e
      rcases List.mem_cons.mp h with rfl | h
      · left; exact e
      · right; exact List.mem_cons_of_mem _ h
    · split at h
      · rcases List.mem_cons.mp h with rfl | h
        · left; rfl
        · right; exact h
      · rcases List.mem_cons.mp h with rfl | h
        · right; exact List.mem_cons_self ..
        · rcases addL_mem h with h | h
          · left; exact h
          · right; exact List.mem_cons_of_mem _ h
theorem Ok.addL {k : Str} {n : Int} (hn : 0 < n) : ∀ {m : Pr}, Ok m → Ok (addL m k n)
  | [], _ => ⟨List.pairwise_singleton .., fun x hx => by rw [LM.addL, List.mem_singleton] at hx; rw [hx]; exact hn⟩
  | p :: r, h => by
    rw [LM.addL]
    split
    · refine ⟨List.pairwise_cons.mpr ⟨h.head, h.tail.srt⟩, fun x hx => ?_⟩
      rcases List.mem_cons.mp hx with rfl | hx
      · have := h.pos p (List.mem_cons_self ..); show 0 < p.2 + n; omega
      · exact h.tail.pos x hx
    · rename_i e
      split
      · rename_i z
        refine ⟨List.pairwise_cons.mpr ⟨fun x hx => ?_, h.srt⟩, fun x hx => ?_⟩
        · rcases List.mem_cons.mp hx with rfl | hx
          · exact z
          · exact slt_tr z (h.head x hx)
        · rcases List.mem_cons.mp hx with rfl | hx
          · exact hn
          · exact h.pos x hx
      · rename_i z
        have z2 : slt p.1 k = true := by
          cases w : slt p.1 k with
          | true => rfl
          | false => exact absurd (slt_tri w (by simpa using z)) e
        have ih := Ok.addL (k := k) hn h.tail
        refine ⟨List.pairwise_cons.mpr ⟨fun x hx => ?_, ih.srt⟩, fun x hx => ?_⟩
        · rcases addL_mem hx with hx | hx
          · rw [hx]; exact z2
          · exact h.head x hx
        · rcases List.mem_cons.mp hx with rfl | hx
          · exact h.pos _ (List.mem_cons_self ..)
          · exact ih.pos x hx
theorem lk_addL {k j : Str} {n : Int} : ∀ {m : Pr}, Ok m → lk (addL m k n) j = lk m j + (if k = j then n else 0)
  | [], _ => by simp [addL, lk]
  | p :: r, h => by
    rw [addL]
    split
    · rename_i e
      rw [lk, lk]
      by_cases z : p.1 = j
      · simp only [z, if_true]; rw [if_pos (e ▸ z)]
      · rw [if_neg z, if_neg z, if_neg (e ▸ z)]; omega
    · rename_i e
      split
      · rename_i z
        rw [lk]
        by_cases w : k = j
        · subst w
          have : lk (p :: r) k = 0 := lk_out fun x hx => by
            rcases List.mem_cons.mp hx with rfl | hx
            · exact e
            · exact (slt_ne (slt_tr z (h.head x hx))).symm
          simp [this]
        · simp [w]
      · rw [lk, lk, lk_addL h.tail]
        by_cases w : p.1 = j
        · have : ¬ k = j := fun q => e (w.trans q.symm)
          simp [w, this]
        · simp [w]
def mkLot (ps : Pr) : Pr := ps.foldl (fun m p => if p.2 = 0 then m else addL m p.1 p.2) []
def sumK : Pr → Str → Int
  | [], _ => 0
  | p :: r, k => (if p.1 = k then p.2 else 0) + sumK r k
theorem sumK_app (a b : Pr) (k : Str) : sumK (a ++ b) k = sumK a k + sumK b k := by
  induction a with
  | nil => simp [sumK]
  | cons p r ih => rw [List.cons_append, sumK, sumK, ih]; omega
theorem sumK_perm {a b : Pr} (h : a.Perm b) (k : Str) : sumK a k = sumK b k := by
  induction h with
  | nil => rfl
  | cons x _ ih => rw [sumK, sumK, ih]
  | swap x y l => rw [sumK, sumK, sumK, sumK]; omega
  | trans _ _ ih1 ih2 => exact ih1.trans ih2
theorem sumK_out {m : Pr} {k : Str} (h : ∀ x ∈ m, x.1 ≠ k) : sumK m k = 0 := by
  induction m with
  | nil => rfl
  | cons p r ih => rw [sumK, if_neg (h p (List.mem_cons_self ..)), ih fun x hx => h x (List.mem_cons_of_mem _ hx)]; rfl
theorem Ok.sumK {m : Pr} (h : Ok m) (k : Str) : sumK m k = lk m k := by
  induction m with
  | nil => rfl
  | cons p r ih =>
    rw [LM.sumK, lk, ih h.tail]
    by_cases z : p.1 = k
    · subst z; simp [h.lk_head]
    · simp [z]
theorem sumK_nn {m : Pr} (h : ∀ x ∈ m, 0 ≤ x.2) (k : Str) : 0 ≤ sumK m k := by
  induction m with
  | nil => exact Int.le_refl _
  | cons p r ih =>
    rw [sumK]
    have h1 := ih fun x hx => h x (List.mem_cons_of_mem _ hx)
    have h2 := h p (List.mem_cons_self ..)
    split <;> omega
theorem mk_step {ps : Pr} {m : Pr} (hm : Ok m) (hp : ∀ x ∈ ps, 0 ≤ x.2) :
    Ok (ps.foldl (fun m p => if p.2 = 0 then m else addL m p.1 p.2) m) ∧ ∀ k, lk (ps.foldl (fun m p => if p.2 = 0 then m else addL m p.1 p.2) m) k = lk m k + sumK ps k := by
  induction ps generalizing m with
  | nil => exact ⟨hm, fun k => by rw [sumK]; simp⟩
  | cons p r ih =>
    have h0 := hp p (List.mem_cons_self ..)
    have hr : ∀ x ∈ r, 0 ≤ x.2 := fun x hx => hp x (List.mem_cons_of_mem _ hx)
    rw [List.foldl_cons]
    by_cases z : p.2 = 0
    · rw [if_pos z]
      obtain ⟨a, b⟩ := ih hm hr
      refine ⟨a, fun k => ?_⟩
      rw [b, sumK, z]; simp
    · rw [if_neg z]
      obtain ⟨a, b⟩ := ih (m := addL m p.1 p.2) (hm.addL (by omega)) hr
      refine ⟨a, fun k => ?_⟩
      rw [b, sumK, lk_addL hm]; omega
theorem mk_ok {ps : Pr} (hp : ∀ x ∈ ps, 0 ≤ x.2) : Ok (mkLot ps) := (mk_step Ok.nil hp).1
theorem lk_mk {ps : Pr} (hp : ∀ x ∈ ps, 0 ≤ x.2) (k : Str) : lk (mkLot ps) k = sumK ps k := by
  have := (mk_step Ok.nil hp).2 k
  rw [lk, Int.zero_add] at this
  exact this
theorem mk_eq {ps qs : Pr} (hp : ∀ x ∈ ps, 0 ≤ x.2) (hq : ∀ x ∈ qs, 0 ≤ x.2) (h : ∀ k, sumK ps k = sumK qs k) : mkLot ps = mkLot qs :=
  (mk_ok hp).ext (mk_ok hq) fun k => by rw [lk_mk hp, lk_mk hq, h]
theorem mk_self {m : Pr} (h : Ok m) : mkLot m = m := by
  have hp : ∀ x ∈ m, 0 ≤ x.2 := fun x hx => Int.le_of_lt (h.pos x hx)
  exact (mk_ok hp).ext h fun k => by rw [lk_mk hp, h.sumK]
theorem mk_perm {ps m : Pr} (h : Ok m) (p : ps.Perm m) : mkLot ps = m := by
  have hp : ∀ x ∈ m, 0 ≤ x.2 := fun x hx => Int.le_of_lt (h.pos x hx)
  rw [← mk_self h]
  exact mk_eq (fun x hx => hp x (p.mem_iff.mp hx)) hp fun k => sumK_perm p k
/-- numbers of a lot, each changed by its kind -/
theorem sumK_map {m : Pr} (h : Ok m) (f : Str → Int → Int) (k : Str) (hf : lk m k = 0 → f k 0 = 0) : sumK (m.map fun p => (p.1, f p.1 p.2)) k = f k (lk m k) := by
  induction m with
  | nil => rw [List.map_nil, LM.sumK, lk, hf rfl]
  | cons p r ih =>
    rw [List.map_cons, LM.sumK, lk]
    by_cases z : p.1 = k
    · subst z
      have : sumK (r.map fun p => (p.1, f p.1 p.2)) p.1 = 0 := sumK_out fun x hx => by
        obtain ⟨q, hq, rfl⟩ := List.mem_map.mp hx
        exact (slt_ne (h.head q hq)).symm
      simp [this]
    · simp only [z, if_false]
      rw [ih h.tail (fun e => hf (by rw [lk, if_neg z]; exact e))]; omega
theorem Ok.keys_nodup {m : Pr} (h : Ok m) : (m.map (·.1)).Nodup := by
  rw [List.Nodup, List.pairwise_map]
  exact h.srt.imp fun z => slt_ne z

/-! ### dicts of numbers by text keys -/
def encD (d : Pr) : List (Key × V) := d.map fun p => (Sum.inr p.1, V.int p.2)
def look : Pr → Str → Option Int
  | [], _ => none
  | p :: r, k => if p.1 = k then some p.2 else look r k
def putD (d : Pr) (k : Str) (n : Int) : Pr := if k ∈ d.map (·.1) then d.map (fun p => if p.1 = k then (p.1, n) else p) else d ++ [(k, n)]
theorem val_enc (d : Pr) (k : Str) : valV (encD d) (Sum.inr k) = (look d k).map V.int := by
  induction d with
  | nil => rfl
  | cons p r ih =>
    rw [encD, List.map_cons, look]
    by_cases z : p.1 = k
    · rw [valV_pos (by rw [z]), if_pos z]; rfl
    · rw [valV_neg (fun h => z (Sum.inr.inj h)), if_neg z]; exact ih
theorem look_none {d : Pr} {k : Str} (h : k ∉ d.map (·.1)) : look d k = none := by
  induction d with
  | nil => rfl
  | cons p r ih =>
    rw [List.map_cons, List.mem_cons, not_or] at h
    rw [look, if_neg (fun e => h.1 e.symm), ih h.2]
theorem look_some_mem {d : Pr} {k : Str} {n : Int} (h : look d k = some n) : (k, n) ∈ d := by
  induction d with
  | nil => cases h
  | cons p r ih =>
    rw [look] at h
    by_cases z : p.1 = k
    · rw [if_pos z] at h; cases h; subst z; exact List.mem_cons_self ..
    · rw [if_neg z] at h; exact List.mem_cons_of_mem _ (ih h)
theorem look_mem {d : Pr} (hn : (d.map (·.1)).Nodup) {p : Str × Int} (h : p ∈ d) : look d p.1 = some p.2 := by
  induction d with
  | nil => cases h
  | cons q r ih =>
    rw [List.map_cons, List.nodup_cons] at hn
    rcases List.mem_cons.mp h with rfl | h
    · rw [look, if_pos rfl]
    · rw [look, if_neg, ih hn.2 h]
      intro e
      exact hn.1 (e ▸ List.mem_map_of_mem h)
theorem look_iff {d : Pr} (hn : (d.map (·.1)).Nodup) (k : Str) (n : Int) : look d k = some n ↔ (k, n) ∈ d :=
  ⟨look_some_mem, fun h => look_mem hn h⟩
theorem putD_keys (d : Pr) (k : Str) (n : Int) : (putD d k n).map (·.1) = if k ∈ d.map (·.1) then d.map (·.1) else d.map (·.1) ++ [k] := by
  unfold putD
  split
  · rw [List.map_map]
    refine List.map_congr_left fun p _ => ?_
    show (if p.1 = k then (p.1, n) else p).1 = p.1
    split <;> rfl
  · rw [List.map_append]; rfl
theorem putD_nodup {d : Pr} (hn : (d.map (·.1)).Nodup) (k : Str) (n : Int) : ((putD d k n).map (·.1)).Nodup := by
  rw [putD_keys]
  split
  · exact hn
  · rename_i h
    rw [List.nodup_append]
    refine ⟨hn, by simp, fun a ha b hb => ?_⟩
    rw [List.mem_singleton] at hb
    subst hb
    rintro rfl
    exact h ha
theorem look_app (d e : Pr) (k : Str) : look (d ++ e) k = (look d k).or (look e k) := by
  induction d with
  | nil => rfl
  | cons p r ih =>
    rw [List.cons_append, look, look, ih]
    split <;> rfl
theorem look_set (d : Pr) (k j : Str) (n : Int) (h : k ∈ d.map (·.1)) : look (d.map (fun p => if p.1 = k then (p.1, n) else p)) j = if k = j then some n else look d j := by
  induction d with
  | nil => cases h
  | cons p r ih =>
    rw [List.map_cons, look, look]
    by_cases z : p.1 = k
    · rw [if_pos z]
      by_cases w : p.1 = j
      · rw [if_pos w, if_pos (z ▸ w)]
      · rw [if_neg w, if_neg (z ▸ w), if_neg w]
        by_cases v : k ∈ r.map (·.1)
        · rw [ih v, if_neg (z ▸ w)]
        · have : (r.map fun p => if p.1 = k then (p.1, n) else p) = r := by
            conv => rhs; rw [← List.map_id r]
            refine List.map_congr_left fun q hq => ?_
            have hne : ¬ q.1 = k := fun e => v (e ▸ List.mem_map_of_mem hq)
            rw [if_neg hne]; rfl
          rw [this]
    · rw [if_neg z]
      rw [List.map_cons, List.mem_cons] at h
      rw [ih (h.resolve_left fun e => z e.symm)]
      by_cases w : p.1 = j
      · rw [if_pos w, if_pos w, if_neg (fun e => z (w.trans e.symm))]
      · rw [if_neg w, if_neg w]
theorem look_putD (d : Pr) (k j : Str) (n : Int) : look (putD d k n) j = if k = j then some n else look d j := by
  unfold putD
  split
  · rename_i h
    exact look_set d k j n h
  · rename_i h
    rw [look_app]
    by_cases w : k = j
    · subst w
      rw [look_none h, if_pos rfl, look, if_pos rfl]; rfl
    · rw [if_neg w, look, if_neg w, look]; simp
theorem putD_length (d : Pr) (k : Str) (n : Int) : (putD d k n).length ≤ d.length + 1 := by
  have := congrArg List.length (putD_keys d k n)
  rw [List.length_map] at this
  rw [this]
  split <;> simp
theorem put_enc (d : Pr) (k : Str) (n : Int) : putK (encD d) (Sum.inr k) (V.int n) = encD (putD d k n) := by
  have hany : ((encD d).any fun kv => decide (kv.1 = Sum.inr k)) = decide (k ∈ d.map (·.1)) := by
    rw [Bool.eq_iff_iff, List.any_eq_true, decide_eq_true_eq]
    constructor
    · rintro ⟨x, hx, hk⟩
      obtain ⟨p, hp, rfl⟩ := List.mem_map.mp hx
      have : p.1 = k := Sum.inr.inj (of_decide_eq_true hk)
      exact this ▸ List.mem_map_of_mem hp
    · intro h
      obtain ⟨p, hp, rfl⟩ := List.mem_map.mp h
      exact ⟨(Sum.inr p.1, V.int p.2), List.mem_map_of_mem hp, by simp⟩
  unfold putK putD
  rw [hany]
  by_cases h : k ∈ d.map (·.1)
  · rw [if_pos (decide_eq_true h), if_pos h, encD, encD, List.map_map, List.map_map]
    refine List.map_congr_left fun p _ => ?_
    show (if (Sum.inr p.1 : Key) = Sum.inr k then ((Sum.inr p.1 : Key), V.int n) else (Sum.inr p.1, V.int p.2)) = (Sum.inr (if p.1 = k then (p.1, n) else p).1, V.int (if p.1 = k then (p.1, n) else p).2)
    by_cases z : p.1 = k
    · rw [if_pos (by rw [z]), if_pos z]
    · rw [if_neg (fun e => z (Sum.inr.inj e)), if_neg z]
  · rw [if_neg (by simpa using h), if_neg h, encD, encD, List.map_append]; rfl
theorem nodup_sub {α : Type} [BEq α] [LawfulBEq α] : ∀ {l m : List α}, l.Nodup → (∀ x ∈ l, x ∈ m) → l.length ≤ m.length
  | [], _, _, _ => Nat.zero_le _
  | a :: r, m, h, hs => by
    rw [List.nodup_cons] at h
    have ha := hs a (List.mem_cons_self ..)
    have := nodup_sub (m := m.erase a) h.2 fun x hx => by
      have hne : x ≠ a := fun e => h.1 (e ▸ hx)
      exact (List.mem_erase_of_ne hne).mpr (hs x (List.mem_cons_of_mem _ hx))
    rw [List.length_erase_of_mem ha] at this
    have := List.length_pos_of_mem ha
    rw [List.length_cons]
    omega
/-- pairs added up in a dict -/
def tallyFrom (d : Pr) (ps : Pr) : Pr := ps.foldl (fun d p => putD d p.1 ((look d p.1).getD 0 + p.2)) d
def tally (ps : Pr) : Pr := tallyFrom [] ps
theorem tally_snoc (ps : Pr) (p : Str × Int) : tally (ps ++ [p]) = putD (tally ps) p.1 ((look (tally ps) p.1).getD 0 + p.2) := by
  unfold tally tallyFrom
  rw [List.foldl_append]; rfl
theorem tally_take {ps : Pr} {i : Nat} {p : Str × Int} (h : ps[i]? = some p) : tally (ps.take (i + 1)) = putD (tally (ps.take i)) p.1 ((look (tally (ps.take i)) p.1).getD 0 + p.2) := by
  rw [List.take_add_one, h, Option.toList_some, tally_snoc]
theorem tally_nodup (ps : Pr) : ((tally ps).map (·.1)).Nodup := by
  suffices h : ∀ d : Pr, (d.map (·.1)).Nodup → ((tallyFrom d ps).map (·.1)).Nodup from h [] List.nodup_nil
  induction ps with
  | nil => exact fun d h => h
  | cons p r ih => exact fun d h => ih _ (putD_nodup h _ _)
theorem tally_look_from (ps : Pr) : ∀ (d : Pr) (k : Str), (look (tallyFrom d ps) k).getD 0 = (look d k).getD 0 + sumK ps k ∧ ((look (tallyFrom d ps) k).isSome = true ↔ (look d k).isSome = true ∨ k ∈ ps.map (·.1)) := by
  induction ps with
  | nil => intro d k; exact ⟨by rw [sumK]; show _ = _ + 0; rw [Int.add_zero]; rfl, by simp [tallyFrom]⟩
  | cons p r ih =>
    intro d k
    have h := ih (putD d p.1 ((look d p.1).getD 0 + p.2)) k
    rw [look_putD] at h
    refine ⟨?_, ?_⟩
    · show (look (tallyFrom (putD d p.1 ((look d p.1).getD 0 + p.2)) r) k).getD 0 = _
      rw [h.1, sumK]
      by_cases z : p.1 = k
      · subst z; simp; omega
      · simp [z]
    · show (look (tallyFrom (putD d p.1 ((look d p.1).getD 0 + p.2)) r) k).isSome = true ↔ _
      rw [h.2, List.map_cons, List.mem_cons]
      by_cases z : p.1 = k
      · subst z; simp
      · have : ¬ k = p.1 := fun e => z e.symm
        simp [z, this]
theorem tally_look (ps : Pr) (k : Str) : look (tally ps) k = if k ∈ ps.map (·.1) then some (sumK ps k) else none := by
  have h := tally_look_from ps [] k
  rw [look] at h
  simp only [Option.getD_none, Int.zero_add, Option.isSome_none, Bool.false_eq_true, false_or] at h
  change (look (tally ps) k).getD 0 = _ ∧ ((look (tally ps) k).isSome = true ↔ _) at h
  by_cases z : k ∈ ps.map (·.1)
  · rw [if_pos z]
    obtain ⟨n, hn⟩ := Option.isSome_iff_exists.mp (h.2.mpr z)
    rw [hn] at h ⊢
    rw [← h.1]; rfl
  · rw [if_neg z]
    cases e : look (tally ps) k with
    | none => rfl
    | some n => rw [e] at h; exact absurd (h.2.mp rfl) z
theorem tally_length (ps : Pr) : (tally ps).length ≤ ps.length := by
  suffices h : ∀ d : Pr, (tallyFrom d ps).length ≤ d.length + ps.length by simpa [tally] using h []
  induction ps with
  | nil => exact fun d => Nat.le_refl _
  | cons p r ih =>
    intro d
    have h1 := ih (putD d p.1 ((look d p.1).getD 0 + p.2))
    have h2 := putD_length d p.1 ((look d p.1).getD 0 + p.2)
    show (tallyFrom (putD d p.1 ((look d p.1).getD 0 + p.2)) r).length ≤ _
    rw [List.length_cons]
    omega
theorem sumK_pos_mem {ps : Pr} {k : Str} (h : sumK ps k ≠ 0) : k ∈ ps.map (·.1) := by
  by_cases z : k ∈ ps.map (·.1)
  · exact z
  · refine absurd (sumK_out (k := k) fun x hx e => z ?_) h
    subst e
    exact List.mem_map_of_mem hx
theorem tally_perm {ps : Pr} (hp : ∀ x ∈ ps, 0 ≤ x.2) : ((tally ps).filter fun p => decide (0 < p.2)).Perm (mkLot ps) := by
  have n1 : (tally ps).Nodup := by
    have := tally_nodup ps
    rw [List.Nodup, List.pairwise_map] at this
    exact this.imp fun {a b} (h : a.1 ≠ b.1) (e : a = b) => h (congrArg Prod.fst e)
  have n2 : (mkLot ps).Nodup := by
    have := (mk_ok hp).keys_nodup
    rw [List.Nodup, List.pairwise_map] at this
    exact this.imp fun {a b} (h : a.1 ≠ b.1) (e : a = b) => h (congrArg Prod.fst e)
  rw [List.perm_ext_iff_of_nodup (n1.filter _) n2]
  rintro ⟨k, n⟩
  rw [List.mem_filter, ← look_iff (tally_nodup ps), tally_look]
  constructor
  · rintro ⟨h, hn⟩
    have hn : 0 < n := of_decide_eq_true hn
    split at h
    · cases h
      have e := lk_mk hp k
      rw [← e] at hn ⊢
      exact lk_pos_mem (by omega)
    · cases h
  · intro h
    have h1 := (mk_ok hp).lk_mem h
    have h2 := (mk_ok hp).pos _ h
    rw [lk_mk hp] at h1
    simp only at h1 h2
    rw [if_pos (sumK_pos_mem (by omega)), h1]
    exact ⟨rfl, decide_eq_true h2⟩
theorem keys_mk {ps : Pr} (hp : ∀ x ∈ ps, 0 ≤ x.2) {q : Str × Int} (h : q ∈ mkLot ps) : q.1 ∈ ps.map (·.1) := by
  have := (tally_perm hp).mem_iff.mpr h
  rw [List.mem_filter, ← look_iff (tally_nodup ps) q.1 q.2, tally_look] at this
  have h1 := this.1
  split at h1
  · assumption
  · cases h1
theorem mk_len {ps : Pr} (hp : ∀ x ∈ ps, 0 ≤ x.2) {Ks : List Str} (hk : ∀ x ∈ ps, x.1 ∈ Ks) : (mkLot ps).length ≤ Ks.length := by
  have := nodup_sub (m := Ks) (mk_ok hp).keys_nodup fun k hk' => by
    obtain ⟨q, hq, rfl⟩ := List.mem_map.mp hk'
    obtain ⟨p, h1, h2⟩ := List.mem_map.mp (keys_mk hp hq)
    exact h2 ▸ hk p h1
  rwa [List.length_map] at this
theorem rising_all : ∀ (p : Str) (l : List Str), PyProof.Rows.risingS p l = true → (p :: l).Pairwise fun a b => slt b a = false
  | p, [], _ => List.pairwise_singleton ..
  | p, x :: r, h => by
    rw [PyProof.Rows.risingS, Bool.and_eq_true, Bool.not_eq_true'] at h
    have ih := rising_all x r h.2
    refine List.pairwise_cons.mpr ⟨fun y hy => ?_, ih⟩
    rcases List.mem_cons.mp hy with rfl | hy
    · exact h.1
    · cases e : slt y p with
      | false => rfl
      | true =>
        have h1 : slt x p = false := h.1
        have h2 : slt y x = false := (List.pairwise_cons.mp ih).1 y hy
        cases e3 : slt p x with
        | true => have := slt_tr e e3; rw [h2] at this; cases this
        | false => have := slt_tri e3 h1; subst this; rw [h2] at e; cases e
/-- a sorted arrangement of a lot's kinds is its own row of kinds -/
theorem sorted_keys {ys : List Str} {m : Pr} (h : Ok m) (p : ys.Perm (m.map (·.1))) (s : PyProof.Rows.sortedS ys = true) : ys = m.map (·.1) := by
  have hs : ys.Pairwise fun a b => slt b a = false := by
    cases ys with
    | nil => exact List.Pairwise.nil
    | cons y r => exact rising_all y r s
  have hnd : ys.Nodup := p.nodup_iff.mpr h.keys_nodup
  have h1 : ys.Pairwise fun a b => slt a b = true := by
    refine (hs.and hnd).imp fun {a b} z => ?_
    cases e : slt a b with
    | true => rfl
    | false => exact absurd (slt_tri e z.1) z.2
  have h2 : (m.map (·.1)).Pairwise fun a b => slt a b = true := by rw [List.pairwise_map]; exact h.srt
  have := List.Perm.eq_of_pairwise (le := fun a b => slt a b = true) (fun a b _ _ x y => by rw [slt_asym x] at y; cases y) h1 h2 p
  exact this
def encP (p : Str × Int) : PyData := .tuple [.str p.1, .int p.2]
end LM

/-! The order of data: ints, texts, tuples of such at any depth. -/
namespace DO
open PySem L2 LM
mutual
def ltD : PyData → PyData → Bool
  | .int i, .int j => decide (i < j)
  | .str x, .str y => slt x y
  | .tuple xs, .tuple ys => ltA xs ys
  | _, _ => false
def ltA : List PyData → List PyData → Bool
  | [], [] => false
  | [], _ :: _ => true
  | _ :: _, [] => false
  | x :: xs, y :: ys => if PyData.eqv x y = true then ltA xs ys else ltD x y
end
mutual
def leD : PyData → PyData → Bool
  | .int i, .int j => decide (i ≤ j)
  | .str x, .str y => !slt y x
  | .tuple xs, .tuple ys => leA xs ys
  | _, _ => false
def leA : List PyData → List PyData → Bool
  | [], _ => true
  | _ :: _, [] => false
  | x :: xs, y :: ys => if PyData.eqv x y = true then leA xs ys else leD x y
end
mutual
def cmpD : PyData → PyData → Bool
  | .int _, .int _ => true
  | .str _, .str _ => true
  | .tuple xs, .tuple ys => cmpA xs ys
  | _, _ => false
def cmpA : List PyData → List PyData → Bool
  | [], _ => true
  | _ :: _, [] => true
  | x :: xs, y :: ys => cmpD x y && cmpA xs ys
end
theorem slt_dec (x y : Str) : decide (x.cps.toList < y.cps.toList) = slt x y := PyProof.Rows.lt_meets x y
theorem lexAt_congr {e e' r r' : Nat → Bool} {z : Bool} : ∀ (k i : Nat), (∀ j, i ≤ j → j < i + k → e j = e' j ∧ r j = r' j) → Ob.lexAt e r z i k = Ob.lexAt e' r' z i k
  | 0, _, _ => rfl
  | k + 1, i, h => by
    rw [Ob.lexAt_succ, Ob.lexAt_succ, (h i (Nat.le_refl _) (by omega)).1, (h i (Nat.le_refl _) (by omega)).2, lexAt_congr k (i + 1) fun j h1 h2 => h j (by omega) (by omega)]
theorem lexAt_shift {e r : Nat → Bool} {z : Bool} : ∀ (k i : Nat), Ob.lexAt e r z (i + 1) k = Ob.lexAt (fun j => e (j + 1)) (fun j => r (j + 1)) z i k
  | 0, _ => rfl
  | k + 1, i => by rw [Ob.lexAt_succ, Ob.lexAt_succ, lexAt_shift k (i + 1)]
def eqJ (xs ys : List PyData) (j : Nat) : Bool := PyData.eqv (xs.getD j .none) (ys.getD j .none)
theorem lex_le : ∀ xs ys : List PyData, Ob.lexAt (eqJ xs ys) (fun j => leD (xs.getD j .none) (ys.getD j .none)) (decide (xs.length ≤ ys.length)) 0 (min xs.length ys.length) = leA xs ys
  | [], ys => by simp [Ob.lexAt, leA]
  | x :: xs, [] => by simp [Ob.lexAt, leA]
  | x :: xs, y :: ys => by
    have e : min (x :: xs).length (y :: ys).length = min xs.length ys.length + 1 := by simp only [List.length_cons]; omega
    rw [e, Ob.lexAt_succ, lexAt_shift, leA]
    have ih := lex_le xs ys
    have e2 : decide ((x :: xs).length ≤ (y :: ys).length) = decide (xs.length ≤ ys.length) := by simp
    rw [e2]
    show (if PyData.eqv x y = true then _ else leD x y) = _
    congr 1
theorem lex_lt : ∀ xs ys : List PyData, Ob.lexAt (eqJ xs ys) (fun j => ltD (xs.getD j .none) (ys.getD j .none)) (decide (xs.length < ys.length)) 0 (min xs.length ys.length) = ltA xs ys
  | [], [] => by simp [Ob.lexAt, ltA]
  | [], y :: ys => by simp [Ob.lexAt, ltA]
  | x :: xs, [] => by simp [Ob.lexAt, ltA]
  | x :: xs, y :: ys => by
    have e : min (x :: xs).length (y :: ys).length = min xs.length ys.length + 1 := by simp only [List.length_cons]; omega
    rw [e, Ob.lexAt_succ, lexAt_shift, ltA]
    have ih := lex_lt xs ys
    have e2 : decide ((x :: xs).length < (y :: ys).length) = decide (xs.length < ys.length) := by simp
    rw [e2]
    show (if PyData.eqv x y = true then _ else ltD x y) = _
    congr 1
theorem readsAll_at {h : Heap} : ∀ {vs : List Value} {ds : List PyData} {as : List Addr} {j : Nat} (hj : j < vs.length), ReadsAll h vs ds as → ∃ bs, Reads h vs[j] (ds.getD j .none) bs
  | _ :: _, _ :: _, _, 0, _, .cons r _ => ⟨_, r⟩
  | _ :: _, _ :: _, _, j + 1, hj, .cons _ r => readsAll_at (j := j) (Nat.lt_of_succ_lt_succ hj) r
theorem readsAll_len {h : Heap} : ∀ {vs : List Value} {ds : List PyData} {as : List Addr}, ReadsAll h vs ds as → vs.length = ds.length
  | _, _, _, .nil => rfl
  | _, _, _, .cons _ r => by rw [List.length_cons, List.length_cons, readsAll_len r]
theorem canAll_at : ∀ {ds : List PyData} {j : Nat}, PyData.canLayAll0 ds = true → (ds.getD j .none).canLay0 = true
  | [], _, _ => rfl
  | d :: ds, 0, h => by simp [PyData.canLayAll0] at h; exact h.1
  | d :: ds, j + 1, h => by simp [PyData.canLayAll0] at h; exact canAll_at (j := j) h.2
theorem depthAll_at : ∀ {ds : List PyData} {j : Nat}, (ds.getD j .none).depth ≤ PyData.depthAll ds
  | [], _ => Nat.le_refl _
  | d :: ds, 0 => by simp [PyData.depthAll]; omega
  | d :: ds, j + 1 => by
    have := depthAll_at (ds := ds) (j := j)
    simp [PyData.depthAll] at this ⊢
    omega
theorem cmpA_at : ∀ {xs ys : List PyData} {j : Nat}, cmpA xs ys = true → j < xs.length → j < ys.length → cmpD (xs.getD j .none) (ys.getD j .none) = true
  | x :: xs, y :: ys, 0, h, _, _ => by rw [cmpA, Bool.and_eq_true] at h; exact h.1
  | x :: xs, y :: ys, j + 1, h, h1, h2 => by
    rw [cmpA, Bool.and_eq_true] at h
    exact cmpA_at (j := j) h.2 (Nat.lt_of_succ_lt_succ h1) (Nat.lt_of_succ_lt_succ h2)
theorem isTup_of {h : Heap} {v : Value} {xs : List PyData} {as : List Addr} (r : Reads h v (.tuple xs) as) : ∃ (a : Addr) (vs : Array Value) (bs : List Addr), v = .ref a ∧ h.IsTuple a vs ∧ ReadsAll h vs.toList xs bs := by
  cases r with
  | tuple h1 h2 h3 r => exact ⟨_, _, _, rfl, ⟨_, h1, h2, _, h3⟩, r⟩
theorem in1_units (A : Around) : A.in1.units = A.units + 1 := rfl
/-- <= and < of data -/
theorem rc_data : ∀ (n : Nat) (d e : PyData) (A : Around) (s : Shared) (v u : Value) (as bs : List Addr), d.depth ≤ n → Reads s.heap v d as → Reads s.heap u e bs → d.canLay0 = true → e.canLay0 = true → cmpD d e = true → A.units + n + 1 < cLine →
    Ob.RcOp .LtE A s v u (leD d e) ∧ Ob.RcOp .Lt A s v u (ltD d e) := by
  intro n
  induction n with
  | zero =>
    intro d e A s v u as bs hn r1 r2 c1 c2 hc hu
    cases d <;> cases e <;> simp only [cmpD, Bool.false_eq_true] at hc
    · cases r1; cases r2
      exact ⟨Ob.RcOp.le_int _ _ _ _, Ob.RcOp.lt_int _ _ _ _⟩
    · cases r1; cases r2
      refine ⟨fun prog w E Q q => PySem.P.le_str ?_, fun prog w E Q q => PySem.P.lt_str ?_⟩
      · rw [leD, ← slt_dec] at q; exact q
      · rw [ltD, ← slt_dec] at q; exact q
    · simp [PyData.depth] at hn
  | succ n ih =>
    intro d e A s v u as bs hn r1 r2 c1 c2 hc hu
    cases d <;> cases e <;> simp only [cmpD, Bool.false_eq_true] at hc
    · cases r1; cases r2
      exact ⟨Ob.RcOp.le_int _ _ _ _, Ob.RcOp.lt_int _ _ _ _⟩
    · cases r1; cases r2
      refine ⟨fun prog w E Q q => PySem.P.le_str ?_, fun prog w E Q q => PySem.P.lt_str ?_⟩
      · rw [leD, ← slt_dec] at q; exact q
      · rw [ltD, ← slt_dec] at q; exact q
    · rename_i xs ys
      obtain ⟨a, vs, as', rfl, t1, ra1⟩ := isTup_of r1
      obtain ⟨b, ws, bs', rfl, t2, ra2⟩ := isTup_of r2
      have l1 := readsAll_len ra1
      have l2 := readsAll_len ra2
      rw [Array.length_toList] at l1 l2
      have dn : PyData.depthAll xs ≤ n := by simp [PyData.depth] at hn; omega
      have k1 : PyData.canLayAll0 xs = true := c1
      have k2 : PyData.canLayAll0 ys = true := c2
      have one : ∀ j (h1 : j < vs.size) (h2 : j < ws.size), SeqAt.EqAt A.in1 s vs[j] ws[j] (eqJ xs ys j) ∧ Ob.RcOp .LtE A.in1 s vs[j] ws[j] (leD (xs.getD j .none) (ys.getD j .none)) ∧ Ob.RcOp .Lt A.in1 s vs[j] ws[j] (ltD (xs.getD j .none) (ys.getD j .none)) := by
        intro j h1 h2
        obtain ⟨q1, s1⟩ := readsAll_at (j := j) (by rw [Array.length_toList]; exact h1) ra1
        obtain ⟨q2, s2⟩ := readsAll_at (j := j) (by rw [Array.length_toList]; exact h2) ra2
        rw [Array.getElem_toList] at s1 s2
        have dd := depthAll_at (ds := xs) (j := j)
        refine ⟨SeqAt.eqAt_reads _ _ _ _ _ _ _ _ s1 s2 (canAll_at k1) (canAll_at k2) ?_, ih _ _ _ _ _ _ _ _ (by omega) s1 s2 (canAll_at k1) (canAll_at k2) (cmpA_at hc (by omega) (by omega)) ?_⟩
        · rw [in1_units]; omega
        · rw [in1_units]; omega
      constructor
      · have := Ob.RcOp.tuples_le t1 t2 (by omega) (fun j h1 h2 => (one j h1 h2).1) (fun j h1 h2 _ => (one j h1 h2).2.1)
        rw [l1, l2, lex_le] at this
        exact this
      · have := Ob.RcOp.tuples_lt t1 t2 (by omega) (fun j h1 h2 => (one j h1 h2).1) (fun j h1 h2 _ => (one j h1 h2).2.2)
        rw [l1, l2, lex_lt] at this
        exact this
/-- x <= y, x < y of data -/
def rOrd (f : PyData → PyData → Bool) (K : PySem.W.Frag) : R2 := fun x y H Q => ∃ d e, Dp K H x d ∧ Dp K H y e ∧ SeqAt.shaped d = true ∧ SeqAt.shaped e = true ∧ cmpD d e = true ∧ Q (.bl (f d e)) H
theorem op_leP {X : Cx} (K : PySem.W.Frag) (hu : X.A.units + 66 < cLine) (hK : X.K = K := by rfl) : OpR X (compareOp .LtE) (rOrd leD K) := by
  subst hK
  intro pins s σ H x y v u Q I rx ry h
  obtain ⟨d, e, hd, he, sd, se, hc, q⟩ := h
  obtain ⟨as, r1⟩ := Dp.reads I d x v hd rx
  obtain ⟨bs, r2⟩ := Dp.reads I e y u he ry
  have s1 := Bool.and_eq_true_iff.mp sd
  have s2 := Bool.and_eq_true_iff.mp se
  exact (rc_data 64 d e X.A s v u as bs (of_decide_eq_true s1.2) r1 r2 s1.1 s2.1 hc (by omega)).1 X.prog X.w X.xe (EP X pins σ Q) ⟨.bl _, H, I, rfl, q⟩
theorem op_ltP {X : Cx} (K : PySem.W.Frag) (hu : X.A.units + 66 < cLine) (hK : X.K = K := by rfl) : OpR X (compareOp .Lt) (rOrd ltD K) := by
  subst hK
  intro pins s σ H x y v u Q I rx ry h
  obtain ⟨d, e, hd, he, sd, se, hc, q⟩ := h
  obtain ⟨as, r1⟩ := Dp.reads I d x v hd rx
  obtain ⟨bs, r2⟩ := Dp.reads I e y u he ry
  have s1 := Bool.and_eq_true_iff.mp sd
  have s2 := Bool.and_eq_true_iff.mp se
  exact (rc_data 64 d e X.A s v u as bs (of_decide_eq_true s1.2) r1 r2 s1.1 s2.1 hc (by omega)).2 X.prog X.w X.xe (EP X pins σ Q) ⟨.bl _, H, I, rfl, q⟩
theorem room66 {k : Nat} {A : Around} (r : Room k A) : A.units + 66 < cLine := by have := r.un; omega
/-! ### insertion -/
def insD (done : List PyData) (row : PyData) : List PyData := done.take (done.filter fun d => leD d row).length ++ [row] ++ done.drop (done.filter fun d => leD d row).length
def risD (ds : List PyData) : List PyData := ds.foldl insD []
theorem risD_snoc (ds : List PyData) (d : PyData) : risD (ds ++ [d]) = insD (risD ds) d := by unfold risD; rw [List.foldl_append]; rfl
theorem risD_take {ds : List PyData} {i : Nat} {d : PyData} (h : ds[i]? = some d) : risD (ds.take (i + 1)) = insD (risD (ds.take i)) d := by
  rw [List.take_add_one, h, Option.toList_some, risD_snoc]
theorem insD_perm (done : List PyData) (d : PyData) : (insD done d).Perm (d :: done) := by
  unfold insD
  have h := List.take_append_drop (done.filter fun e => leD e d).length done
  have p : (done.take (done.filter fun e => leD e d).length ++ [d] ++ done.drop (done.filter fun e => leD e d).length).Perm (d :: (done.take (done.filter fun e => leD e d).length ++ done.drop (done.filter fun e => leD e d).length)) := by
    rw [List.append_assoc]
    exact List.perm_middle
  rwa [h] at p
theorem risD_perm (ds : List PyData) : (risD ds).Perm ds := by
  suffices h : ∀ done : List PyData, (ds.foldl insD done).Perm (done ++ ds) from h []
  induction ds with
  | nil => exact fun done => by rw [List.append_nil]; exact List.Perm.refl _
  | cons d r ih =>
    intro done
    refine (ih _).trans ?_
    exact ((insD_perm done d).append_right r).trans (by rw [List.cons_append]; exact List.perm_middle.symm)
theorem le_encP (p q : Str × Int) : leD (encP p) (encP q) = if p.1 = q.1 then decide (p.2 ≤ q.2) else !slt q.1 p.1 := by
  have e1 : PyData.eqv (.str p.1) (.str q.1) = decide (p.1 = q.1) := by
    simp only [PyData.eqv]
    by_cases h : p.1 = q.1
    · rw [h]; simp
    · simp [h]
  simp only [encP, leD, leA, e1]
  by_cases h : p.1 = q.1
  · simp only [h, decide_true, if_true]
    by_cases h2 : p.2 = q.2
    · simp [PyData.eqv, h2]
    · simp [PyData.eqv, h2]
  · simp [h]
theorem cmp_encP (p q : Str × Int) : cmpD (encP p) (encP q) = true := by simp [encP, cmpD, cmpA]
/-- into a lot's row a new kind goes to its place -/
theorem ins_place {m : Pr} (h : Ok m) {k : Str} {n : Int} (hk : ∀ x ∈ m, x.1 ≠ k) :
    insD (m.map encP) (encP (k, n)) = (addL m k n).map encP := by
  have hc : ((m.map encP).filter fun d => leD d (encP (k, n))).length = (m.filter fun p => slt p.1 k).length := by
    rw [List.filter_map, List.length_map]
    congr 1
    refine List.filter_congr fun p hp => ?_
    show leD (encP p) (encP (k, n)) = _
    rw [le_encP, if_neg (hk p hp)]
    cases e : slt p.1 k with
    | true => rw [slt_asym e]; rfl
    | false =>
      cases e2 : slt k p.1 with
      | true => rfl
      | false => exact absurd (slt_tri e e2) (hk p hp)
  unfold insD
  rw [hc]
  clear hc
  induction m with
  | nil => rfl
  | cons p r ih =>
    have hp : p.1 ≠ k := hk p (List.mem_cons_self ..)
    rw [addL, if_neg hp]
    cases e : slt p.1 k with
    | true =>
      rw [slt_asym e, if_neg (by simp), List.filter_cons, if_pos e, List.length_cons, List.map_cons, List.map_cons, ← ih h.tail fun x hx => hk x (List.mem_cons_of_mem _ hx)]
      rfl
    | false =>
      have e2 : slt k p.1 = true := by
        cases e2 : slt k p.1 with
        | true => rfl
        | false => exact absurd (slt_tri e e2) hp
      have hf : (r.filter fun p => slt p.1 k) = [] := by
        rw [List.filter_eq_nil_iff]
        intro x hx
        have := slt_asym (slt_tr e2 (h.head x hx))
        rw [this]; simp
      rw [e2, if_pos rfl, List.filter_cons, if_neg (by rw [e]; simp), hf]
      rfl
theorem ris_pairs {ps : Pr} (hn : (ps.map (·.1)).Nodup) (hp : ∀ x ∈ ps, 0 < x.2) : risD (ps.map encP) = (mkLot ps).map encP := by
  suffices h : ∀ (qs : Pr) (m : Pr), Ok m → ((qs.map (·.1)).Nodup) → (∀ x ∈ qs, 0 < x.2) → (∀ x ∈ qs, ∀ y ∈ m, y.1 ≠ x.1) → (qs.map encP).foldl insD (m.map encP) = (qs.foldl (fun m p => if p.2 = 0 then m else addL m p.1 p.2) m).map encP from
    h ps [] Ok.nil hn hp (fun x _ y hy => by cases hy)
  intro qs
  induction qs with
  | nil => intro m _ _ _ _; rfl
  | cons q r ih =>
    intro m hm hn hp hd
    rw [List.map_cons, List.nodup_cons] at hn
    have q0 := hp q (List.mem_cons_self ..)
    rw [List.map_cons, List.foldl_cons, List.foldl_cons, if_neg (by omega), show encP q = encP (q.1, q.2) from rfl, ins_place hm (fun x hx => hd q (List.mem_cons_self ..) x hx)]
    refine ih _ (hm.addL q0) hn.2 (fun x hx => hp x (List.mem_cons_of_mem _ hx)) fun x hx y hy => ?_
    rcases addL_mem hy with h | h
    · rw [h]
      intro e
      exact hn.1 (e ▸ List.mem_map_of_mem hx)
    · exact hd x (List.mem_cons_of_mem _ hx) y h
end DO

namespace Kt
open PySem L2 LM DO
/-- at a: a lot of the numbers m -/
def LotAt (C : Addr) (G : Hp) (a : Addr) (m : Pr) : Prop := ∃ (dx dd : Addr) (d : Pr), G a = some (.ins C dx [("own_many", .ref dd)]) ∧ G dd = some (.dK (encD d)) ∧ d.Perm m ∧ Ok m ∧ m.length < 64
section
variable {C : Addr} {G G' H H' : Hp} {a : Addr} {m m' : Pr}
theorem LotAt.mono (h : LotAt C G a m) (s : Same G G') : LotAt C G' a m := by
  obtain ⟨dx, dd, d, h1, h2, h3⟩ := h
  exact ⟨dx, dd, d, s _ _ h1, s _ _ h2, h3⟩
theorem LotAt.ok (h : LotAt C G a m) : Ok m := by obtain ⟨_, _, _, _, _, _, h, _⟩ := h; exact h
theorem LotAt.len (h : LotAt C G a m) : m.length < 64 := by obtain ⟨_, _, _, _, _, _, _, h⟩ := h; exact h
theorem LotAt.ins (h : LotAt C G a m) : ∃ dx fs, G a = some (.ins C dx fs) := by obtain ⟨dx, _, _, h, _⟩ := h; exact ⟨_, _, h⟩
theorem LotAt.noat (h : LotAt C G a m) {dx : Addr} {fs : List (Str × V)} (e : G a = some (.ins C dx fs)) {x : Str} (hx : x ≠ "own_many") : fs.lookup x = none := by
  obtain ⟨dx', dd, d, h1, _⟩ := h
  rw [h1] at e
  cases e
  simp [List.lookup, beq_eq_false_iff_ne.mpr hx]
/-- a dict of numbers -/
def DicAt (G : Hp) (a : Addr) (d : Pr) : Prop := G a = some (.dK (encD d)) ∧ (d.map (·.1)).Nodup
theorem perm_look {d m : Pr} (p : d.Perm m) (h : Ok m) (k : Str) : look d k = if lk m k = 0 then none else some (lk m k) := by
  have hn : (d.map (·.1)).Nodup := (p.map _).nodup_iff.mpr h.keys_nodup
  by_cases z : lk m k = 0
  · rw [if_pos z]
    cases e : look d k with
    | none => rfl
    | some n =>
      have hm := p.mem_iff.mp (look_some_mem e)
      have h1 := h.lk_mem hm
      have h2 := h.pos _ hm
      simp at h1 h2
      omega
  · rw [if_neg z]
    exact look_mem hn (p.mem_iff.mpr (lk_pos_mem z))
theorem perm_lookD {d m : Pr} (p : d.Perm m) (h : Ok m) (k : Str) : (look d k).getD 0 = lk m k := by
  rw [perm_look p h]
  split
  · rename_i e; rw [e]; rfl
  · rfl
end
/-- a list of data, put in order -/
def spRising : Sp := fun vs H Q _ => ∃ (G : Hp) (v : V) (ds : List PyData), vs = [v] ∧ Same G H ∧ (Rp G v (.list ds) ∨ Rp G v (.tuple ds)) ∧ (∀ d ∈ ds, SeqAt.shaped d = true) ∧ (∀ d ∈ ds, ∀ e ∈ ds, cmpD d e = true) ∧ ds.length ≤ 1000 ∧
  ∀ G' H' v', Ex No G H G' H' → Rp G' v' (.list (risD ds)) → Q v' H'
/-- data mixed: some arrangement -/
def spMixed : Sp := fun vs H Q _ => ∃ (G : Hp) (p : Addr) (c : Int) (v : V) (ds : List PyData), vs = [.ref p, v] ∧ Sx G H p c ∧ c < 2 ^ 58 ∧ (Rp G v (.list ds) ∨ Rp G v (.tuple ds)) ∧ ds.length ≤ 1000 ∧
  ∀ G' H' v' es c', Ex (On p) G H G' H' → Sx G' H' p c' → c' ≤ c + 1000 → es.Perm ds → Rp G' v' (.list es) → Q v' H'
/-- the pairs of a dict of numbers, those above 0, ascending -/
def spPairs : Sp := fun vs H Q _ => ∃ (G : Hp) (a : Addr) (d : Pr), vs = [.ref a] ∧ Same G H ∧ G a = some (.dK (encD d)) ∧ (d.map (·.1)).Nodup ∧ d.length ≤ 1000 ∧ (∀ x ∈ d, SeqAt.shaped (encP x) = true) ∧
  ∀ G' H' v', Ex No G H G' H' → Rp G' v' (.tuple ((mkLot (d.filter fun p => decide (0 < p.2))).map encP)) → Q v' H'
/-- pairs added up: a new dict, not told of -/
def spCounted : Sp := fun vs H Q _ => ∃ (G : Hp) (v : V) (ps : Pr), vs = [v] ∧ Same G H ∧ (Rp G v (.list (ps.map encP)) ∨ Rp G v (.tuple (ps.map encP))) ∧ ps.length ≤ 1000 ∧
  ∀ H' a, Ex No G H G H' → H a = none → H' a = some (.dK (encD (tally ps))) → Q (.ref a) H'
/-- Lot.__init__: x is new since H0 -/
def spLotInit (K : PySem.W.Frag) (C : Addr) : Sp := fun vs H Q _ => ∃ (G H0 : Hp) (x dx q : Addr) (xs : List V) (ps : Pr) (Ks : List Str), vs = [.ref x, .ref q] ∧ Same G H0 ∧ Ex No G H0 G H ∧ H0 x = none ∧ H x = some (.ins C dx []) ∧
  (SqL K G q xs ∨ SqT K G q xs) ∧ RpA G xs (ps.map encP) ∧ (∀ p ∈ ps, 0 ≤ p.2) ∧ Ks.length < 64 ∧ (∀ p ∈ ps, p.1 ∈ Ks) ∧ ps.length ≤ 10000 ∧
  ∀ G' H', Ex No G H0 G' H' → LotAt C G' x (mkLot ps) → Q .non H'
def spLotPairs (C : Addr) : Sp := fun vs H Q _ => ∃ (G : Hp) (a : Addr) (m : Pr), vs = [.ref a] ∧ Same G H ∧ LotAt C G a m ∧
  ∀ G' H' v, Ex No G H G' H' → Rp G' v (.tuple (m.map encP)) → Q v H'
def spLotLen (C : Addr) : Sp := fun vs H Q _ => ∃ (G : Hp) (a : Addr) (m : Pr), vs = [.ref a] ∧ Same G H ∧ LotAt C G a m ∧ Q (.int m.length) H
def spLotGet (C : Addr) : Sp := fun vs H Q _ => ∃ (G : Hp) (a : Addr) (m : Pr) (k : Str), vs = [.ref a, .str k] ∧ Same G H ∧ LotAt C G a m ∧ Q (.int (lk m k)) H
/-- a new lot of these numbers -/
abbrev NewLot (C : Addr) (G H : Hp) (m : Pr) (Q : VK) : Prop := ∀ G' H' x, Ex No G H G' H' → H x = none → LotAt C G' x m → Q (.ref x) H'
def spLotAdd (C : Addr) : Sp := fun vs H Q _ => ∃ (G : Hp) (a b : Addr) (m n : Pr) (Ks : List Str), vs = [.ref a, .ref b] ∧ Same G H ∧ LotAt C G a m ∧ LotAt C G b n ∧ Ks.length < 64 ∧ (∀ p ∈ m, p.1 ∈ Ks) ∧ (∀ p ∈ n, p.1 ∈ Ks) ∧
  NewLot C G H (mkLot (m ++ n)) Q
def spLotSub (C : Addr) : Sp := fun vs H Q _ => ∃ (G : Hp) (a b : Addr) (m n : Pr), vs = [.ref a, .ref b] ∧ Same G H ∧ LotAt C G a m ∧ LotAt C G b n ∧ (∀ k, lk n k ≤ lk m k) ∧
  NewLot C G H (mkLot (m.map fun p => (p.1, p.2 - lk n p.1))) Q
def spLotMul (C : Addr) : Sp := fun vs H Q _ => ∃ (G : Hp) (a : Addr) (m : Pr) (t : Int), vs = [.ref a, .int t] ∧ Same G H ∧ LotAt C G a m ∧ 0 ≤ t ∧ (∀ p ∈ m, p.2.natAbs < 2 ^ 400) ∧ t.natAbs < 2 ^ 400 ∧
  NewLot C G H (mkLot (m.map fun p => (p.1, p.2 * t))) Q
/-- self // other; CN: the class Nothing -/
def spLotDiv (C CN : Addr) : Sp := fun vs H Q E => ∃ (G : Hp) (a b : Addr) (m n : Pr), vs = [.ref a, .ref b] ∧ Same G H ∧ LotAt C G a m ∧ LotAt C G b n ∧ (∀ p ∈ n, p.2.natAbs < 2 ^ 400) ∧
  (n = [] → E (.ref CN) none H) ∧ (n ≠ [] → ∀ G' H' (q : Int), Ex No G H G' H' → (∃ p ∈ n, q = lk m p.1 / p.2) → (∀ p ∈ n, q ≤ lk m p.1 / p.2) → Q (.int q) H')
/-- self % other -/
def spLotMod (C CN : Addr) : Sp := fun vs H Q E => ∃ (G : Hp) (a b : Addr) (m n : Pr), vs = [.ref a, .ref b] ∧ Same G H ∧ LotAt C G a m ∧ LotAt C G b n ∧ (∀ p ∈ n, p.2.natAbs < 2 ^ 400) ∧ (∀ p ∈ m, p.2.natAbs < 2 ^ 400) ∧
  (n = [] → E (.ref CN) none H) ∧ (n ≠ [] → ∀ (q : Int), (∃ p ∈ n, q = lk m p.1 / p.2) → (∀ p ∈ n, q ≤ lk m p.1 / p.2) → NewLot C G H (mkLot (m.map fun p => (p.1, p.2 - lk n p.1 * q))) Q)
/-- self += other: self is not told of -/
def spLotIadd (C : Addr) : Sp := fun vs H Q _ => ∃ (G : Hp) (a b : Addr) (m n : Pr) (Ks : List Str), vs = [.ref a, .ref b] ∧ Same G H ∧ G a = none ∧ LotAt C H a m ∧ LotAt C H b n ∧ Ks.length < 64 ∧ (∀ p ∈ m, p.1 ∈ Ks) ∧ (∀ p ∈ n, p.1 ∈ Ks) ∧
  ∀ H', Ex (On a) G H G H' → LotAt C H' a (mkLot (m ++ n)) → Q (.ref a) H'
/-- Lot(pairs) -/
theorem make_lot {K : PySem.W.Frag} {C : Addr} {G H : Hp} {q : Addr} {xs : List V} {ps : Pr} {Ks : List Str} {Q : VK} {E : XK} (S : Same G H) (hq : SqL K G q xs ∨ SqT K G q xs) (hxs : RpA G xs (ps.map encP)) (hnn : ∀ p ∈ ps, 0 ≤ p.2)
    (hK : Ks.length < 64) (hKs : ∀ p ∈ ps, p.1 ∈ Ks) (hlen : ps.length ≤ 10000) (k : NewLot C G H (mkLot ps) Q) :
    ∀ x dx, H x = none → H dx = none → dx ≠ x → spLotInit K C (.ref x :: ([.ref q] ++ [])) (upd (upd H dx (.own x)) x (.ins C dx [])) (fun v H' => v = .non ∧ Q (.ref x) H') E := by
  intro x dx hx hdx hne
  have y1 : Ex No G H G (upd H dx (.own x)) := Ex.hid S hdx
  have y2 : Ex No G (upd H dx (.own x)) G (upd (upd H dx (.own x)) x (.ins C dx [])) := Ex.hid y1.s (by rw [upd_ne hne.symm]; exact hx)
  exact ⟨G, H, x, dx, q, xs, ps, Ks, rfl, S, y1.trans y2, hx, upd_same, hq, hxs, hnn, hK, hKs, hlen, fun G' H' z l => ⟨rfl, k G' H' x z hx l⟩⟩
theorem make_lotR {K : PySem.W.Frag} {C : Addr} {G H : Hp} {v : V} {ps : Pr} {Ks : List Str} {Q : VK} {E : XK} (S : Same G H) (hv : Rp G v (.tuple (ps.map encP)) ∨ Rp G v (.list (ps.map encP))) (hnn : ∀ p ∈ ps, 0 ≤ p.2)
    (hK : Ks.length < 64) (hKs : ∀ p ∈ ps, p.1 ∈ Ks) (hlen : ps.length ≤ 10000) (k : NewLot C G H (mkLot ps) Q) :
    ∀ x dx, H x = none → H dx = none → dx ≠ x → spLotInit K C (.ref x :: ([v] ++ [])) (upd (upd H dx (.own x)) x (.ins C dx [])) (fun v H' => v = .non ∧ Q (.ref x) H') E := by
  rcases hv with h | h
  · obtain ⟨q, xs, rfl, g, r⟩ := of_tup h
    exact make_lot S (.inr (SqT.of g)) r hnn hK hKs hlen k
  · obtain ⟨q, xs, rfl, g, r⟩ := of_lst h
    exact make_lot S (.inl (SqL.of g)) r hnn hK hKs hlen k
end Kt

namespace Kt
open PySem L2 LM DO
theorem walk_zipT {K : PySem.W.Frag} {a b : Addr} {xs ys : List V} {n : Nat} (hn : n = min xs.length ys.length) : Walk (RZ.ItzT K a b) n (fun H => SqT K H a xs ∧ SqT K H b ys) (YPair (fun i => xs[i]?) (fun i => ys[i]?)) := by
  subst hn
  constructor
  · intro i _ hi q
    obtain ⟨h1, h2⟩ : i < xs.length ∧ i < ys.length := by omega
    exact ⟨xs, ys, xs[i], ys[i], q.1, q.2, List.getElem?_eq_getElem h1, List.getElem?_eq_getElem h2⟩
  · intro _ q
    exact ⟨xs, ys, q.1, q.2, by omega⟩
  · rintro i H v H' _ q ⟨T, x, z, rfl, h2, rfl, h4, h5⟩
    exact ⟨T, x, z, rfl, h2, rfl, h4 xs q.1, h5 ys q.2⟩
/-- the name of a datum's type -/
def tyN : PyData → String
  | .none => "NoneType"
  | .bool _ => "bool"
  | .int _ => "int"
  | .str _ => "str"
  | .list _ => "list"
  | .tuple _ => "tuple"
  | _ => ""
theorem ty_of {K : PySem.W.Frag} {G H : Hp} {v : V} {d : PyData} (h : Rp G v d) (s : Same G H) : TyX K H v (.type (tyN d)) := by
  cases h with
  | non => exact .base .non
  | bl b => exact .base (.bl b)
  | int i => exact .base (.int i)
  | str x => exact .base (.str x)
  | lst h r => exact .base (.lst (s _ _ h))
  | tup h r => exact .base (.tup (s _ _ h))
theorem kit2 {K : PySem.W.Frag} {a b c : String} {r1 r2 : Bool} (h1 : kitB a b = some r1) (h2 : kitB a c = some r2) : PySem.W.kitAny K (.type a) [.type b, .type c] = some (r1 || r2) := by
  refine kitAny_cons (kit_ty h1) (fun e => ?_) (fun e => by rw [e]; rfl)
  refine kitAny_cons (kit_ty h2) (fun e2 => ?_) (fun e2 => by rw [e2, Bool.or_true])
  rw [e, e2]
  exact kitAny_nil
def Flat (d : PyData) : Prop := d = .none ∨ (∃ b, d = .bool b) ∨ (∃ i, d = .int i) ∨ ∃ x, d = .str x
/-- data no deeper than n lists -/
def Fit : Nat → PyData → Prop
  | 0 => fun _ => False
  | n + 1 => fun d => Flat d ∨ ∃ ds, (d = .list ds ∨ d = .tuple ds) ∧ ds.length ≤ 10000 ∧ ∀ e ∈ ds, Fit n e
/-- both are the same data -/
def spSame (F : PyData → Prop) : Sp := fun vs H Q _ => ∃ (G : Hp) (x y : V) (d : PyData), vs = [x, y] ∧ Same G H ∧ Rp G x d ∧ Rp G y d ∧ F d ∧ ∀ H', Ex No G H G H' → Q (.bl true) H'
theorem fit_int {n : Nat} (i : Int) : Fit (n + 1) (.int i) := .inl (.inr (.inr (.inl ⟨i, rfl⟩)))
theorem fit_str {n : Nat} (i : Str) : Fit (n + 1) (.str i) := .inl (.inr (.inr (.inr ⟨i, rfl⟩)))
theorem fit_bl {n : Nat} (i : Bool) : Fit (n + 1) (.bool i) := .inl (.inr (.inl ⟨i, rfl⟩))
theorem fit_non {n : Nat} : Fit (n + 1) .none := .inl (.inl rfl)
theorem fit_list {n : Nat} {ds : List PyData} (h : ds.length ≤ 10000) (h2 : ∀ e ∈ ds, Fit n e) : Fit (n + 1) (.list ds) := .inr ⟨ds, .inl rfl, h, h2⟩
theorem fit_tup {n : Nat} {ds : List PyData} (h : ds.length ≤ 10000) (h2 : ∀ e ∈ ds, Fit n e) : Fit (n + 1) (.tuple ds) := .inr ⟨ds, .inr rfl, h, h2⟩
theorem fit_up {n : Nat} {d : PyData} (h : Fit n d) : Fit (n + 1) d := by
  induction n generalizing d with
  | zero => exact h.elim
  | succ n ih =>
    rcases h with h | ⟨ds, e, hl, h⟩
    · exact .inl h
    · exact .inr ⟨ds, e, hl, fun e he => ih (h e he)⟩
theorem fit_pair {n : Nat} (p : Str × Int) : Fit (n + 2) (encP p) := fit_tup (by simp) fun e he => by
  rcases List.mem_cons.mp he with rfl | he
  · exact fit_str _
  · rw [List.mem_singleton.mp he]; exact fit_int _
theorem fit_pairs {n : Nat} {ps : Pr} (h : ps.length ≤ 10000) : Fit (n + 3) (.tuple (ps.map encP)) := fit_tup (by rw [List.length_map]; exact h) fun e he => by
  obtain ⟨p, _, rfl⟩ := List.mem_map.mp he
  exact fit_pair p
end Kt

namespace LM
open PySem L2
section
variable {m n : Pr} {q : Int}
theorem div_nn (hm : Ok m) (hn : Ok n) (h1 : ∃ p ∈ n, q = lk m p.1 / p.2) : 0 ≤ q := by
  obtain ⟨p, hp, rfl⟩ := h1
  exact Int.ediv_nonneg (hm.lk_nn _) (Int.le_of_lt (hn.pos p hp))
theorem div_le (hm : Ok m) (hn : Ok n) (h2 : ∀ p ∈ n, q ≤ lk m p.1 / p.2) (k : Str) : lk n k * q ≤ lk m k := by
  by_cases z : lk n k = 0
  · rw [z, Int.zero_mul]; exact hm.lk_nn k
  · have hp := lk_pos_mem z
    have h5 : 0 < lk n k := hn.pos _ hp
    exact Int.le_trans (Int.mul_le_mul_of_nonneg_left (h2 _ hp) (Int.le_of_lt h5)) (Int.mul_ediv_self_le (by omega))
theorem mod_nn (hm : Ok m) (hn : Ok n) (h2 : ∀ p ∈ n, q ≤ lk m p.1 / p.2) : ∀ x ∈ m.map (fun p => (p.1, p.2 - lk n p.1 * q)), 0 ≤ x.2 := by
  intro x hx
  obtain ⟨p, hp, rfl⟩ := List.mem_map.mp hx
  have := div_le hm hn h2 p.1
  rw [hm.lk_mem hp] at this
  show 0 ≤ p.2 - lk n p.1 * q
  omega
theorem mod_lk (hm : Ok m) (hn : Ok n) (h1 : ∃ p ∈ n, q = lk m p.1 / p.2) (h2 : ∀ p ∈ n, q ≤ lk m p.1 / p.2) (k : Str) : lk (mkLot (m.map fun p => (p.1, p.2 - lk n p.1 * q))) k = lk m k - lk n k * q := by
  rw [lk_mk (mod_nn hm hn h2)]
  refine sumK_map hm (fun k x => x - lk n k * q) k fun z => ?_
  have h0 := div_nn hm hn h1
  have h3 := div_le hm hn h2 k
  have h4 := Int.mul_nonneg (hn.lk_nn k) h0
  show 0 - lk n k * q = 0
  omega
theorem mod_less (hm : Ok m) (hn : Ok n) (h1 : ∃ p ∈ n, q = lk m p.1 / p.2) : ∃ p ∈ n, lk m p.1 - lk n p.1 * q < lk n p.1 := by
  obtain ⟨p, hp, rfl⟩ := h1
  refine ⟨p, hp, ?_⟩
  rw [hn.lk_mem hp]
  have h := Int.emod_lt_of_pos (lk m p.1) (hn.pos p hp)
  have h2 := Int.mul_ediv_add_emod (lk m p.1) p.2
  omega
theorem mul_lk (hn : Ok n) {t : Int} (ht : 0 ≤ t) (k : Str) : lk (mkLot (n.map fun p => (p.1, p.2 * t))) k = lk n k * t := by
  rw [lk_mk (fun p hp => by
    obtain ⟨p', hp', rfl⟩ := List.mem_map.mp hp
    exact Int.mul_nonneg (Int.le_of_lt (hn.pos p' hp')) ht)]
  exact sumK_map hn (fun _ x => x * t) k (fun _ => Int.zero_mul t)
end
/-- a lot of one kind -/
theorem one_mem {k : Str} {i : Int} (hi : 0 < i) {p : Str × Int} (hp : p ∈ mkLot [(k, i)]) : p = (k, i) := by
  have hnn : ∀ x ∈ [(k, i)], 0 ≤ x.2 := fun x hx => by rw [List.mem_singleton.mp hx]; exact Int.le_of_lt hi
  have hk := mk_ok hnn
  have h1 := hk.lk_mem hp
  rw [lk_mk hnn] at h1
  have h2 := hk.pos p hp
  have h3 := keys_mk hnn hp
  have h4 : p.1 = k := by simpa using h3
  have h5 : sumK [(k, i)] p.1 = i := by simp [sumK, h4]
  obtain ⟨a, b⟩ := p
  simp at h4
  subst h4
  rw [h5] at h1
  simp at h1
  rw [h1]
end LM
namespace Kt
open PySem L2 LM DO
/-- Lot(pairs), whatever follows -/
theorem make_lotX {K : PySem.W.Frag} {C : Addr} {G H : Hp} {v : V} {ps : Pr} {Ks : List Str} {R : VK} {E : XK} (S : Same G H) (hv : Rp G v (.tuple (ps.map encP)) ∨ Rp G v (.list (ps.map encP))) (hnn : ∀ p ∈ ps, 0 ≤ p.2)
    (hK : Ks.length < 64) (hKs : ∀ p ∈ ps, p.1 ∈ Ks) (hlen : ps.length ≤ 10000) {x dx : Addr} (hx : H x = none) (hdx : H dx = none) (hne : dx ≠ x) (k : ∀ G' H', Ex No G H G' H' → LotAt C G' x (mkLot ps) → R .non H') :
    spLotInit K C (.ref x :: ([v] ++ [])) (upd (upd H dx (.own x)) x (.ins C dx [])) R E := by
  have h := make_lotR (K := K) (C := C) (Ks := Ks) (E := E) (Q := fun y H' => y = .ref x → R .non H') S hv hnn hK hKs hlen (fun G' H' y z _ l e => by cases e; exact k G' H' z l) x dx hx hdx hne
  obtain ⟨G, H0, x', dx', q, xs, ps', Ks', e, h1, h2, h3, h4, h5, h6, h7, h8, h9, h10, h11⟩ := h
  exact ⟨G, H0, x', dx', q, xs, ps', Ks', e, h1, h2, h3, h4, h5, h6, h7, h8, h9, h10, fun G' H' z l => (h11 G' H' z l).2 rfl⟩
end Kt
namespace LM
open PySem L2
theorem perm_map_inv {α β : Type} {f : α → β} {es fs : List β} (h : es.Perm fs) : ∀ l : List α, fs = l.map f → ∃ qs : List α, qs.Perm l ∧ es = qs.map f := by
  induction h with
  | nil => intro l e; exact ⟨l, .refl _, e⟩
  | cons x _ ih =>
    intro l e
    match l, e with
    | a :: l, e =>
      injection e with e1 e2
      obtain ⟨qs, p, r⟩ := ih l e2
      exact ⟨a :: qs, p.cons a, by rw [List.map_cons, e1, r]⟩
  | swap x y l0 =>
    intro l e
    match l, e with
    | a :: b :: l, e =>
      injection e with e1 e2
      injection e2 with e2 e3
      exact ⟨b :: a :: l, .swap _ _ _, by rw [List.map_cons, List.map_cons, e1, e2, e3]⟩
  | trans _ _ ih1 ih2 =>
    intro l e
    obtain ⟨qs, p, r⟩ := ih2 l e
    obtain ⟨rs, p2, r2⟩ := ih1 qs r
    exact ⟨rs, p2.trans p, r2⟩
/-- the lot of a dict's numbers -/
def lotD (d : Pr) : Pr := mkLot (d.filter fun p => decide (0 < p.2))
theorem lotD_nn (d : Pr) : ∀ x ∈ d.filter (fun p => decide (0 < p.2)), 0 ≤ x.2 := fun x hx => Int.le_of_lt (of_decide_eq_true (List.mem_filter.mp hx).2)
theorem lotD_ok (d : Pr) : Ok (lotD d) := mk_ok (lotD_nn d)
theorem lk_lotD {d : Pr} (hn : (d.map (·.1)).Nodup) (h0 : ∀ x ∈ d, 0 ≤ x.2) (k : Str) : lk (lotD d) k = (look d k).getD 0 := by
  rw [lotD, lk_mk (lotD_nn d)]
  induction d with
  | nil => rfl
  | cons p r ih =>
    have h1 := List.nodup_cons.mp hn
    have ih := ih h1.2 (fun x hx => h0 x (List.mem_cons_of_mem _ hx))
    have hp := h0 p (List.mem_cons_self ..)
    have e : look (p :: r) k = if p.1 = k then some p.2 else look r k := rfl
    rw [e]
    by_cases hk : p.1 = k
    · rw [if_pos hk]
      have hr : look r k = none := look_none (by rw [← hk]; exact h1.1)
      rw [hr] at ih
      rw [List.filter_cons]
      split
      · show (if p.1 = k then p.2 else 0) + sumK _ k = p.2
        rw [if_pos hk, ih]; simp
      · rename_i h; rw [ih]; simp at h ⊢; omega
    · rw [if_neg hk, ← ih, List.filter_cons]
      split
      · show (if p.1 = k then p.2 else 0) + sumK _ k = _
        rw [if_neg hk]; omega
      · rfl
theorem lotD_mem {d : Pr} (hn : (d.map (·.1)).Nodup) (h0 : ∀ x ∈ d, 0 ≤ x.2) {p : Str × Int} (h : p ∈ lotD d) : p ∈ d ∧ 0 < p.2 := by
  have h1 := (lotD_ok d).lk_mem h
  have h2 := (lotD_ok d).pos p h
  rw [lk_lotD hn h0] at h1
  cases e : look d p.1 with
  | none => rw [e] at h1; simp at h1; omega
  | some n =>
    rw [e] at h1
    have := look_some_mem e
    simp at h1
    subst h1
    exact ⟨this, h2⟩
theorem lotD_len {d : Pr} {Ks : List Str} (hk : ∀ x ∈ d, x.1 ∈ Ks) : (lotD d).length ≤ Ks.length := mk_len (lotD_nn d) fun x hx => hk x (List.mem_filter.mp hx).1
theorem lotD_keys {d : Pr} {Ks : List Str} (hk : ∀ x ∈ d, x.1 ∈ Ks) : ∀ p ∈ lotD d, p.1 ∈ Ks := fun p hp => by
  have := keys_mk (lotD_nn d) hp
  obtain ⟨x, hx, e⟩ := List.mem_map.mp this
  rw [← e]; exact hk x (List.mem_filter.mp hx).1
theorem sumK_le {B : Int} : ∀ {ps : Pr}, (∀ x ∈ ps, 0 ≤ x.2 ∧ x.2 ≤ B) → 0 ≤ B → ∀ k, sumK ps k ≤ B * ps.length := by
  intro ps
  induction ps with
  | nil => intro _ _ k; simp [sumK]
  | cons p r ih =>
    intro h hB k
    have h1 := ih (fun x hx => h x (List.mem_cons_of_mem _ hx)) hB k
    have h2 := h p (List.mem_cons_self ..)
    show (if p.1 = k then p.2 else 0) + sumK r k ≤ B * ((r.length + 1 : Nat) : Int)
    have e : B * ((r.length + 1 : Nat) : Int) = B * r.length + B := by rw [Int.natCast_add, Int.mul_add]; omega
    rw [e]
    split <;> omega
theorem tally_vals {ps : Pr} {x : Str × Int} (hx : x ∈ tally ps) : x.2 = sumK ps x.1 ∧ x.1 ∈ ps.map (·.1) := by
  have h := look_mem (tally_nodup ps) hx
  rw [tally_look] at h
  split at h
  · rename_i hk; exact ⟨(Option.some.inj h).symm, hk⟩
  · cases h
theorem nodup_take {l : List Str} {i : Nat} {k : Str} (hn : l.Nodup) (h : l[i]? = some k) : k ∉ l.take i := by
  intro hm
  obtain ⟨j, hj, e⟩ := List.getElem_of_mem hm
  rw [List.length_take] at hj
  rw [List.getElem_take] at e
  have hi : i < l.length := (List.getElem?_eq_some_iff.mp h).1
  have e2 : l[i] = k := (List.getElem?_eq_some_iff.mp h).2
  have := (List.nodup_iff_pairwise_ne.mp hn)
  rw [List.pairwise_iff_getElem] at this
  exact this j i (by omega) hi (by omega) (e.trans e2.symm)
theorem putD_new {d : Pr} {k : Str} {n : Int} (h : k ∉ d.map (·.1)) : putD d k n = d ++ [(k, n)] := by rw [putD, if_neg h]
end LM
namespace Kt
open PySem L2 LM DO
/-- shaped data: no deeper than n -/
def ShD (n : Nat) (d : PyData) : Prop := d.canLay0 = true ∧ d.depth ≤ n
theorem shd_all {n : Nat} : ∀ {ds : List PyData}, (∀ d ∈ ds, ShD n d) → PyData.canLayAll0 ds = true ∧ PyData.depthAll ds ≤ n
  | [], _ => ⟨rfl, by simp [PyData.depthAll]⟩
  | d :: r, h => by
    have h1 := h d (List.mem_cons_self ..)
    have h2 := shd_all fun e he => h e (List.mem_cons_of_mem _ he)
    have h3 := h1.1
    have h4 := h1.2
    constructor
    · simp only [PyData.canLayAll0, h3, h2.1, Bool.and_self]
    · simp only [PyData.depthAll]; omega
theorem shd_tup {n : Nat} {ds : List PyData} (h : ∀ d ∈ ds, ShD n d) : ShD (n + 1) (.tuple ds) := by
  have h2 := shd_all h
  exact ⟨by simp only [PyData.canLay0, h2.1], by simp only [PyData.depth]; omega⟩
theorem shd_list {n : Nat} {ds : List PyData} (h : ∀ d ∈ ds, ShD n d) : ShD (n + 1) (.list ds) := by
  have h2 := shd_all h
  exact ⟨by simp only [PyData.canLay0, h2.1], by simp only [PyData.depth]; omega⟩
theorem shd_str {n : Nat} {x : Str} (h : PyData.strOk x = true) : ShD n (.str x) := ⟨by simp only [PyData.canLay0, h], by simp [PyData.depth]⟩
theorem shd_int {n : Nat} (i : Int) : ShD n (.int i) := ⟨rfl, by simp [PyData.depth]⟩
theorem shd_bl {n : Nat} (i : Bool) : ShD n (.bool i) := ⟨rfl, by simp [PyData.depth]⟩
theorem shd_non {n : Nat} : ShD n .none := ⟨rfl, by simp [PyData.depth]⟩
theorem ShD.shaped {n : Nat} {d : PyData} (h : ShD n d) (hn : n ≤ 64) : SeqAt.shaped d = true := by
  unfold SeqAt.shaped
  rw [Bool.and_eq_true]
  exact ⟨h.1, decide_eq_true (Nat.le_trans h.2 hn)⟩
theorem shd_encP {x : Str × Int} (h : PyData.strOk x.1 = true) : ShD 1 (encP x) := shd_tup fun d hd => by
  rcases List.mem_cons.mp hd with rfl | hd
  · exact shd_str h
  · rw [List.mem_singleton.mp hd]; exact shd_int _
theorem shaped_encP {x : Str × Int} (h : PyData.strOk x.1 = true) : SeqAt.shaped (encP x) = true := (shd_encP h).shaped (by decide)
theorem ev_get (d : Pr) (k : Str) : (valV (encD d) (Sum.inr k)).getD (.int 0) = .int ((look d k).getD 0) := by
  rw [val_enc]; cases look d k <;> rfl
theorem Ex.onNew {M : Addr → Prop} {G H G' H' H'' : Hp} {q : Addr} (x : Ex M G H G' H') (y : Ex (On q) G' H' G' H'') (hq : H q = none) : Ex M G H G' H'' :=
  ⟨x.g, fun b o m e => y.h b o (ne_of_none e hq) (x.h b o m e), y.s, x.n, fun b e => x.f b (y.f b e)⟩
theorem Sx.onNew {G H H' : Hp} {p q : Addr} {c : Int} (S : Sx G H p c) (y : Ex (On q) G H G H') (hq : p ≠ q) : Sx G H' p c := ⟨y.s, S.b.is fun o h => y.h _ _ hq h, S.n⟩
theorem Ex.forget {M : Addr → Prop} {G H G' H' : Hp} (x : Ex M G H G' H') : Ex M G H G H' := ⟨Same.refl G, x.h, x.g.trans x.s, fun _ _ e => .inl e, x.f⟩
end Kt

namespace LW
open PySem L2 Kt LM DO
def top (i : Nat) : Stmt := PySem.Challenge.pw_onceopened_k05_how_often_and_what_is_lef.main.body.getD i (.Pass ⟨0, 0, 0, 0⟩)
abbrev s_cells : Stmt := top 18
abbrev N_cells : List Str := ["_law_script", "_law_most_so", "_law_cells_here", "_law_k", "_law_cell", "_law_at_so"]
theorem sc_cells : FnScope N_cells ["_law_script", "_law_most_so"] (defScope s_cells) := ⟨rfl, rfl, rfl, by decide +kernel, rfl, by decide +kernel, by decide +kernel⟩
abbrev s_Lot_init : Stmt := inClass (top 12) 0
abbrev N_Lot_init : List Str := ["self", "pairs", "found", "kind", "many"]
theorem sc_Lot_init : FnScope N_Lot_init ["self", "pairs"] (defScope s_Lot_init) := ⟨rfl, rfl, rfl, by decide +kernel, rfl, by decide +kernel, by decide +kernel⟩
abbrev s_Lot_len : Stmt := inClass (top 12) 2
abbrev N_Lot_len : List Str := ["self"]
theorem sc_Lot_len : FnScope N_Lot_len ["self"] (defScope s_Lot_len) := ⟨rfl, rfl, rfl, by decide +kernel, rfl, by decide +kernel, by decide +kernel⟩
abbrev s_Lot_pairs : Stmt := inClass (top 12) 20
abbrev N_Lot_pairs : List Str := ["self", "kind"]
theorem sc_Lot_pairs : FnScope N_Lot_pairs ["self"] (defScope s_Lot_pairs) := ⟨rfl, rfl, rfl, by decide +kernel, rfl, by decide +kernel, by decide +kernel⟩
abbrev s_Lot_getitem : Stmt := inClass (top 12) 5
abbrev N_Lot_getitem : List Str := ["self", "kind"]
theorem sc_Lot_getitem : FnScope N_Lot_getitem ["self", "kind"] (defScope s_Lot_getitem) := ⟨rfl, rfl, rfl, by decide +kernel, rfl, by decide +kernel, by decide +kernel⟩
abbrev s_Lot_floordiv : Stmt := inClass (top 12) 14
abbrev N_Lot_floordiv : List Str := ["self", "other", "kind", "many"]
theorem sc_Lot_floordiv : FnScope N_Lot_floordiv ["self", "other"] (defScope s_Lot_floordiv) := ⟨rfl, rfl, rfl, by decide +kernel, rfl, by decide +kernel, by decide +kernel⟩
abbrev s_Lot_mul : Stmt := inClass (top 12) 10
abbrev N_Lot_mul : List Str := ["self", "often", "kind", "many"]
theorem sc_Lot_mul : FnScope N_Lot_mul ["self", "often"] (defScope s_Lot_mul) := ⟨rfl, rfl, rfl, by decide +kernel, rfl, by decide +kernel, by decide +kernel⟩
abbrev s_Lot_sub : Stmt := inClass (top 12) 9
abbrev N_Lot_sub : List Str := ["self", "other", "kind", "many"]
theorem sc_Lot_sub : FnScope N_Lot_sub ["self", "other"] (defScope s_Lot_sub) := ⟨rfl, rfl, rfl, by decide +kernel, rfl, by decide +kernel, by decide +kernel⟩
abbrev s_Lot_mod : Stmt := inClass (top 12) 15
abbrev N_Lot_mod : List Str := ["self", "other"]
theorem sc_Lot_mod : FnScope N_Lot_mod ["self", "other"] (defScope s_Lot_mod) := ⟨rfl, rfl, rfl, by decide +kernel, rfl, by decide +kernel, by decide +kernel⟩
abbrev s_same : Stmt := top 20
abbrev N_same : List Str := ["_law_got", "_law_due", "_law_mine", "_law_its", "_law_own"]
theorem sc_same : FnScope N_same ["_law_got", "_law_due"] (defScope s_same) := ⟨rfl, rfl, rfl, by decide +kernel, rfl, by decide +kernel, by decide +kernel⟩
abbrev s_by_hand_right : Stmt := top 27
abbrev N_by_hand_right : List Str := ["_law_names_here", "_law_mine", "_law_its", "_law_one_so", "_law_two_so", "_law_got"]
theorem sc_by_hand_right : FnScope N_by_hand_right ["_law_names_here"] (defScope s_by_hand_right) := ⟨rfl, rfl, rfl, by decide +kernel, rfl, by decide +kernel, by decide +kernel⟩
abbrev s_take : Stmt := top 17
abbrev N_take : List Str := ["_law_box_here", "_law_below", "_law_drawn", "_law_once", "_law_far", "_law_twice"]
theorem sc_take : FnScope N_take ["_law_box_here", "_law_below"] (defScope s_take) := ⟨rfl, rfl, rfl, by decide +kernel, rfl, by decide +kernel, by decide +kernel⟩
abbrev s_of : Stmt := top 19
abbrev N_of : List Str := ["_law_box_here", "_law_some"]
theorem sc_of : FnScope N_of ["_law_box_here", "_law_some"] (defScope s_of) := ⟨rfl, rfl, rfl, by decide +kernel, rfl, by decide +kernel, by decide +kernel⟩
abbrev s_names : Stmt := top 23
abbrev N_names : List Str := ["_law_box_here", "_law_some", "_law_letters", "_law_base", "_law_k", "_law_far", "_law_place", "_law_near", "_law_first_so", "_law_step", "_law_done", "_law_size_so", "_law_word", "_law_turn", "_law_at_so", "_law_sign_so"]
theorem sc_names : FnScope N_names ["_law_box_here", "_law_some"] (defScope s_names) := ⟨rfl, rfl, rfl, by decide +kernel, rfl, by decide +kernel, by decide +kernel⟩
abbrev s_counted : Stmt := top 25
abbrev N_counted : List Str := ["_law_pairs_so", "_law_done", "_law_own", "_law_far"]
theorem sc_counted : FnScope N_counted ["_law_pairs_so"] (defScope s_counted) := ⟨rfl, rfl, rfl, by decide +kernel, rfl, by decide +kernel, by decide +kernel⟩
abbrev s_mixed : Stmt := top 22
abbrev N_mixed : List Str := ["_law_box_here", "_law_rows_so", "_law_rest", "_law_done", "_law_turn", "_law_at_so"]
theorem sc_mixed : FnScope N_mixed ["_law_box_here", "_law_rows_so"] (defScope s_mixed) := ⟨rfl, rfl, rfl, by decide +kernel, rfl, by decide +kernel, by decide +kernel⟩
abbrev s_rising : Stmt := top 21
abbrev N_rising : List Str := ["_law_rows_so", "_law_done", "_law_row", "_law_at_so", "_law_own"]
theorem sc_rising : FnScope N_rising ["_law_rows_so"] (defScope s_rising) := ⟨rfl, rfl, rfl, by decide +kernel, rfl, by decide +kernel, by decide +kernel⟩
abbrev s_pairs : Stmt := top 24
abbrev N_pairs : List Str := ["_law_numbers_so", "_law_done", "_law_own"]
theorem sc_pairs : FnScope N_pairs ["_law_numbers_so"] (defScope s_pairs) := ⟨rfl, rfl, rfl, by decide +kernel, rfl, by decide +kernel, by decide +kernel⟩
abbrev s_refused : Stmt := top 26
abbrev N_refused : List Str := ["_law_one_so", "_law_two_so", "_law_sort", "_law_caught", "_law_told", "error_so"]
theorem sc_refused : FnScope N_refused ["_law_one_so", "_law_two_so", "_law_sort"] (defScope s_refused) := ⟨rfl, rfl, rfl, by decide +kernel, rfl, by decide +kernel, by decide +kernel⟩
abbrev s_Lot_add : Stmt := inClass (top 12) 8
abbrev N_Lot_add : List Str := ["self", "other"]
theorem sc_Lot_add : FnScope N_Lot_add ["self", "other"] (defScope s_Lot_add) := ⟨rfl, rfl, rfl, by decide +kernel, rfl, by decide +kernel, by decide +kernel⟩
abbrev s_Lot_iadd : Stmt := inClass (top 12) 16
abbrev N_Lot_iadd : List Str := ["self", "other"]
theorem sc_Lot_iadd : FnScope N_Lot_iadd ["self", "other"] (defScope s_Lot_iadd) := ⟨rfl, rfl, rfl, by decide +kernel, rfl, by decide +kernel, by decide +kernel⟩
abbrev s_right : Stmt := top 28
abbrev N_right : List Str := ["_law_box_here", "_law_turn", "_law_names_here", "_law_bound", "_law_its", "_law_own", "_law_by_so", "_law_mine", "_law_one_so", "_law_two_so", "_law_got", "_law_often", "_law_due", "_law_more", "_law_fresh"]
theorem sc_right : FnScope N_right ["_law_box_here"] (defScope s_right) := ⟨rfl, rfl, rfl, by decide +kernel, rfl, by decide +kernel, by decide +kernel⟩
abbrev s_box : Stmt := top 16
abbrev N_box : List Str := ["_law_script", "_law_k", "_law_cell"]
theorem sc_box : FnScope N_box ["_law_script", "_law_k"] (defScope s_box) := ⟨rfl, rfl, rfl, by decide +kernel, rfl, by decide +kernel, by decide +kernel⟩
abbrev s_law : Stmt := top 29
abbrev N_law : List Str := ["_law_script", "_law_cells_here", "_law_k"]
theorem sc_law : FnScope N_law ["_law_script"] (defScope s_law) := ⟨rfl, rfl, rfl, by decide +kernel, rfl, by decide +kernel, by decide +kernel⟩
structure Ads where
  Lot : Addr
  Nothing : Addr
  cells : Addr
  cells' : FuncData
  Lot_init : Addr
  Lot_init' : FuncData
  Lot_len : Addr
  Lot_len' : FuncData
  Lot_pairs : Addr
  Lot_pairs' : FuncData
  Lot_getitem : Addr
  Lot_getitem' : FuncData
  Lot_floordiv : Addr
  Lot_floordiv' : FuncData
  Lot_mul : Addr
  Lot_mul' : FuncData
  Lot_sub : Addr
  Lot_sub' : FuncData
  Lot_mod : Addr
  Lot_mod' : FuncData
  same : Addr
  same' : FuncData
  by_hand_right : Addr
  by_hand_right' : FuncData
  take : Addr
  take' : FuncData
  of : Addr
  of' : FuncData
  names : Addr
  names' : FuncData
  counted : Addr
  counted' : FuncData
  mixed : Addr
  mixed' : FuncData
  rising : Addr
  rising' : FuncData
  pairs : Addr
  pairs' : FuncData
  refused : Addr
  refused' : FuncData
  Lot_add : Addr
  Lot_add' : FuncData
  Lot_iadd : Addr
  Lot_iadd' : FuncData
  right : Addr
  right' : FuncData
  box : Addr
  box' : FuncData
  law : Addr
  law' : FuncData
structure Txt (K : PySem.W.Frag) (mg : Str → Option Value) (A : Ads) : Prop where
  b_ValueError : mg "ValueError" = none
  b_ZeroDivisionError : mg "ZeroDivisionError" = none
  b_abs : mg "abs" = none
  b_all : mg "all" = none
  b_bool : mg "bool" = none
  b_dict : mg "dict" = none
  b_enumerate : mg "enumerate" = none
  b_int : mg "int" = none
  b_isinstance : mg "isinstance" = none
  b_len : mg "len" = none
  b_list : mg "list" = none
  b_min : mg "min" = none
  b_range : mg "range" = none
  b_sorted : mg "sorted" = none
  b_str : mg "str" = none
  b_tuple : mg "tuple" = none
  b_zip : mg "zip" = none
  Lot : ClsF K mg "Lot" A.Lot
  Nothing : ExcF K mg "Nothing" A.Nothing [.type "ZeroDivisionError", .type "ArithmeticError", .type "Exception", .type "BaseException", .type "object"] "ZeroDivisionError.__new__"
  is_Nothing_ValueError_false : PySem.W.kitOne K (.ref A.Nothing) (.type "ValueError") = some false
  is_Nothing_ZeroDivisionError_true : PySem.W.kitOne K (.ref A.Nothing) (.type "ZeroDivisionError") = some true
  no_Lot_own_many : NoAttr K A.Lot "own_many"
  cells : DefF K mg "_law_cells" s_cells ["_law_script", "_law_most_so"] A.cells A.cells'
  Lot_init : MetF K A.Lot "__init__" "Lot.__init__" s_Lot_init ["self", "pairs"] A.Lot_init A.Lot_init'
  Lot_len : MetF K A.Lot "__len__" "Lot.__len__" s_Lot_len ["self"] A.Lot_len A.Lot_len'
  Lot_pairs : MetF K A.Lot "pairs" "Lot.pairs" s_Lot_pairs ["self"] A.Lot_pairs A.Lot_pairs'
  Lot_getitem : MetF K A.Lot "__getitem__" "Lot.__getitem__" s_Lot_getitem ["self", "kind"] A.Lot_getitem A.Lot_getitem'
  Lot_floordiv : MetF K A.Lot "__floordiv__" "Lot.__floordiv__" s_Lot_floordiv ["self", "other"] A.Lot_floordiv A.Lot_floordiv'
  Lot_mul : MetF K A.Lot "__mul__" "Lot.__mul__" s_Lot_mul ["self", "often"] A.Lot_mul A.Lot_mul'
  Lot_sub : MetF K A.Lot "__sub__" "Lot.__sub__" s_Lot_sub ["self", "other"] A.Lot_sub A.Lot_sub'
  Lot_mod : MetF K A.Lot "__mod__" "Lot.__mod__" s_Lot_mod ["self", "other"] A.Lot_mod A.Lot_mod'
  same : DefF K mg "_law_same" s_same ["_law_got", "_law_due"] A.same A.same'
  by_hand_right : DefF K mg "_law_by_hand_right" s_by_hand_right ["_law_names_here"] A.by_hand_right A.by_hand_right'
  take : DefF K mg "_law_take" s_take ["_law_box_here", "_law_below"] A.take A.take'
  of : DefF K mg "_law_of" s_of ["_law_box_here", "_law_some"] A.of A.of'
  names : DefF K mg "_law_names" s_names ["_law_box_here", "_law_some"] A.names A.names'
  counted : DefF K mg "_law_counted" s_counted ["_law_pairs_so"] A.counted A.counted'
  mixed : DefF K mg "_law_mixed" s_mixed ["_law_box_here", "_law_rows_so"] A.mixed A.mixed'
  rising : DefF K mg "_law_rising" s_rising ["_law_rows_so"] A.rising A.rising'
  pairs : DefF K mg "_law_pairs" s_pairs ["_law_numbers_so"] A.pairs A.pairs'
  refused : DefF K mg "_law_refused" s_refused ["_law_one_so", "_law_two_so", "_law_sort"] A.refused A.refused'
  Lot_add : MetF K A.Lot "__add__" "Lot.__add__" s_Lot_add ["self", "other"] A.Lot_add A.Lot_add'
  Lot_iadd : MetF K A.Lot "__iadd__" "Lot.__iadd__" s_Lot_iadd ["self", "other"] A.Lot_iadd A.Lot_iadd'
  right : DefF K mg "_law_right" s_right ["_law_box_here"] A.right A.right'
  box : DefF K mg "_law_box" s_box ["_law_script", "_law_k"] A.box A.box'
  law : DefF K mg "law" s_law ["_law_script"] A.law A.law'
  Lot_mul_I : OO.OwnT K A.Lot "mul" "int" A.Lot_mul
end LW

namespace LW
open PySem L2 Kt LM DO
section
variable {P : Program} {w : World} {K : PySem.W.Frag} {mg : Str → Option Value} {base : Heap} {A : Ads}
theorem ok_cells (T : Txt K mg A) : FnOk P w K mg base CX0 1 A.cells A.cells' ["_law_script", "_law_most_so"] (spCells K) := by
  refine T.cells.F.ok sc_cells (fun vs H Q E h => ?_) (fun cdv Ar outer s H vs Q E hr h => ?_)
  · obtain ⟨a, ns, m, rfl, _⟩ := h
    rfl
  · obtain ⟨a, ns, m, rfl, ha, hn, hm, hm2, k⟩ := h
    refine ⟨_, pss_cons (ps_set (i := 2) sc_cells.nd rfl (Or.inl rfl) (pe_orTK K (pe_callTy (call_list_ofK K) (by rfl) T.b_list (by decide +kernel) (pa_cons (pe_slice (sl_listK K) (pv 0) po_none (po_some (pv 1))) pa_nil)) (pe_one (pe_lst (pa_cons (pe_int) pa_nil)))))
      (pss_cons (ps_for PassesOwn.never rfl (pi_enumK K rfl T.b_enumerate (pa_cons (pe_slice (sl_listK K) (pv 0) (po_some (pv 1)) (po_some (pe_int))) pa_nil)) (pg_tupK K 2 rfl (pgs_cons (pg_name (i := 3) sc_cells.nd rfl (Or.inl rfl)) (pgs_cons (pg_name (i := 4) sc_cells.nd rfl (Or.inl rfl)) pgs_nil)))
        (pss_cons (ps_set (i := 5) sc_cells.nd rfl (Or.inl rfl) (pe_op op_mod (pe_callTy call_int1 (by rfl) T.b_int (by decide +kernel) (pa_cons (pv 3) pa_nil)) (pv 1)))
      (pss_one (ps_asg (pe_op op_add (pe_ix (ix_listK K) (pv 2) (pv 5) (fun _ _ => rfl)) (pe_op op_mul (pv 4) (pe_op op_add (pv 3) (pe_int)))) (pg_sub (pv 2) (pv 5) set_list)))))
      (pss_one (ps_ret (pv 2)))), ?_⟩
    refine ⟨_, rfl, _, rfl, _, rfl, a, _, rfl, ha, fun q hq => ?_⟩
    generalize e1 : upd H q _ = H1
    obtain ⟨x1, _, h1⟩ := ex_hid (M := No) (Same.refl H) hq e1
    refine ⟨q, _, rfl, .inl (SqL.of h1), fun l hl => ?_⟩
    generalize e2 : upd H1 l _ = H2
    obtain ⟨x2, _, h2⟩ := ex_hid (M := No) (Same.refl H1) hl e2
    have lH : H l = none := x1.f _ hl
    rw [cut_to, ← List.map_take] at h2
    refine ⟨_, .inl ⟨_, SqL.of h2, rfl⟩, ?_⟩
    refine if2 (fun he => ?_) (fun he => ?_)
    · have s2 : Same H H2 := fun b o e => x2.s _ _ (x1.s _ _ e)
      refine ⟨_, rfl, _, rfl, _, rfl, _, rfl, a, _, rfl, s2.seq ha, fun q3 hq3 => ?_⟩
      generalize e3 : upd H2 q3 _ = H3
      obtain ⟨x3, _, h3⟩ := ex_hid (M := No) (Same.refl H2) hq3 e3
      have h3b := cut_mid (ns.map V.int) m 63 (by omega)
      have h3c : H3 q3 = some (.lst (((ns.drop m).take (63 - m)).map V.int)) := by
        rw [h3, List.map_take, List.map_drop]; exact congrArg (fun z => some (HO.lst z)) h3b
      have hl3 : H3 l = some (.lst ((ns.take m).map V.int)) := x3.same _ _ h2
      refine ⟨q3, _, rfl, SqL.of h3c, ?_⟩
      have nlq : q3 ≠ l := (ne_of_none h2 hq3).symm
      refine for_it (walk_enum (K := K) (a := q3) (xs := ((ns.drop m).take (63 - m)).map V.int))
        (fun i σ H' => Same H H' ∧ (∃ (cs : List Int) (v3 v4 v5 : Option V), σ = [some (.ref a), some (.int m), some (.ref l), v3, v4, v5] ∧ H' l = some (.lst (cs.map V.int)) ∧ cs.length = (ns.take m).length) ∧ H' q3 = some (.lst (((ns.drop m).take (63 - m)).map V.int)))
        ⟨s2.trans x3.s, ⟨_, none, none, none, rfl, hl3, rfl⟩, h3c⟩ (fun i σ H' _ h => SqL.of h.2.2) ?_ ?_
      · rintro i x σ Ha Hb hi ⟨sH, ⟨cs, v3, v4, v5, rfl, hlc, hlen⟩, hq3'⟩ ⟨t, y1, y2, rfl, ht, rfl, hy1, hy2⟩
        cases hy1
        obtain ⟨v, hv, rfl⟩ := map_at hy2
        generalize e4 : upd Ha t _ = Hc
        obtain ⟨x4, _, h4⟩ := ex_hid (M := No) (Same.refl Ha) ht e4
        rw [List.length_map] at hi
        have hb : i < 63 ∧ m ≤ ns.length := by
          rw [List.length_take, List.length_drop] at hi
          omega
        have hlm : cs.length = m := by rw [hlen, List.length_take]; omega
        refine ⟨t, _, rfl, SqT.of h4, rfl, _, _, rfl, _, _, rfl, rfl, ?_⟩
        refine ⟨_, rfl, .inl ⟨_, rfl, _, rfl, _, _, rfl, rfl, by show (0 : Int) < (m : Int); omega, ?_⟩⟩
        have hr0 := mod_in (i := (i : Int)) (m := (m : Int)) (by omega)
        obtain ⟨j, v0, ej, hat, hj, hjl⟩ := atI_ix (xs := cs.map V.int) (r := (i : Int) % (m : Int)) hr0.1 (by rw [List.length_map]; omega)
        obtain ⟨u0, _, rfl⟩ := map_at hj
        have hl4 : Hc l = some (.lst (cs.map V.int)) := x4.same _ _ hlc
        refine ⟨_, rfl, _, rfl, l, _, _, _, rfl, rfl, SqL.of hl4, hat, _, rfl, _, rfl, _, _, rfl, rfl, _, _, rfl, rfl, .inr ⟨by omega, by omega⟩, _, _, rfl, rfl, ?_⟩
        have hix : ixN (cs.map V.int).length ((i : Int) % (m : Int)) = some j := by
          unfold ixN
          rw [if_pos hr0.1, if_pos (by rw [List.length_map]; omega)]
          congr 1
          omega
        refine ⟨_, rfl, _, rfl, l, _, _, _, rfl, rfl, hl4, hix, ?_⟩
        have nl : H l = none := lH
        refine ⟨same_put (sH.trans x4.s) nl, ⟨cs.set j (u0 + v * ((i : Int) + 2)), _, _, _, rfl, ?_, by rw [List.length_set]; exact hlen⟩, ?_⟩
        · rw [upd_same, List.map_set]
        · rw [upd_ne nlq]; exact x4.same _ _ hq3'
      · rintro σ Ha ⟨sH, ⟨cs, v3, v4, v5, rfl, hlc, hlen⟩, _⟩
        refine ⟨_, rfl, ?_⟩
        exact k Ha l cs (ex_of_same sH) hlc (by rw [hlen, List.length_take]; omega)
    · refine ⟨sz rfl, fun l2 hl2 => ?_⟩
      generalize e5 : upd H2 l2 _ = H5
      obtain ⟨x5, _, h5⟩ := ex_hid (M := No) (Same.refl H2) hl2 e5
      have s5 : Same H H5 := fun b o e => x5.s _ _ (x2.s _ _ (x1.s _ _ e))
      have hz : ns.take m = [] := by
        cases e : ns.take m with
        | nil => rfl
        | cons y r => rw [e] at he; simp at he
      have hns : ns = [] := by
        cases ns with
        | nil => rfl
        | cons y r => cases m with
          | zero => omega
          | succ m => simp at hz
      subst hns
      refine ⟨_, rfl, _, rfl, _, rfl, _, rfl, a, _, rfl, s5.seq ha, fun q3 hq3 => ?_⟩
      generalize e3 : upd H5 q3 _ = H3
      obtain ⟨x3, _, h3⟩ := ex_hid (M := No) (Same.refl H5) hq3 e3
      have h3c : H3 q3 = some (.lst []) := by
        rw [h3]; simp [cutV]
      refine ⟨q3, _, rfl, SqL.of h3c, ?_⟩
      refine for_it (walk_enum (K := K) (a := q3) (xs := []))
        (fun i σ H' => H' = H3 ∧ σ = [some (.ref a), some (.int m), some (.ref l2), none, none, none])
        ⟨rfl, rfl⟩ (fun i σ H' _ h => by rw [h.1]; exact SqL.of h3c) ?_ ?_
      · rintro i x σ Ha Hb hi
        exact absurd hi (Nat.not_lt_zero _)
      · rintro σ Ha ⟨rfl, rfl⟩
        refine ⟨_, rfl, ?_⟩
        exact k Ha l2 [0] (ex_of_same (s5.trans x3.s)) (x3.same _ _ h5) (by simp)

end
end LW

namespace LW
open PySem L2 Kt LM DO
section
variable {P : Program} {w : World} {K : PySem.W.Frag} {mg : Str → Option Value} {base : Heap} {A : Ads}
theorem ok_Lot_init (T : Txt K mg A) : FnOk P w K mg base CX0 1 A.Lot_init A.Lot_init' ["self", "pairs"] (spLotInit K A.Lot) := by
  refine T.Lot_init.F.ok sc_Lot_init (fun vs H Q E h => ?_) (fun cdv Ar outer s H vs Q E hr h => ?_)
  · obtain ⟨G, H0, x, dx, q, xs, ps, Ks, rfl, _⟩ := h
    rfl
  · obtain ⟨G, H0, x, dx, q, xs, ps, Ks, rfl, s0, x0, hx0, hx, hq, hxs, hnn, hK, hKs, hlen, k⟩ := h
    refine ⟨_, pss_cons (ps_set (i := 2) sc_Lot_init.nd rfl (Or.inr rfl) (pe_dnewK))
      (pss_cons (ps_for PassesOwn.never rfl (pi_seqK K (pv 1)) (pg_tupK K 2 rfl (pgs_cons (pg_name (i := 3) sc_Lot_init.nd rfl (Or.inl rfl)) (pgs_cons (pg_name (i := 4) sc_Lot_init.nd rfl (Or.inl rfl)) pgs_nil)))
        (pss_cons (ps_if (pt_cmpR op_lt (pv 4) (pe_int) (nomark _)) (pss_one (ps_never)) (pss_nil))
      (pss_one (ps_dput (hu_of hr) (pv 2) (pv 3) (pe_op op_add (pe_dget2 (hu_of hr) (pv 2) (pv 3) (pe_int) ⟨rfl, rfl, rfl, rfl⟩) (pv 4)) rfl))))
      (pss_one (ps_fld (pv 0) (pe_lock (pe_dc (own := [("kind", 3)]) (g := (gName 3)) rfl sc_Lot_init.nd (pi_keys (pv 2)) (blkOk_by (own := [("kind", 3)]) (N := N_Lot_init) (sc := defScope s_Lot_init) (by decide +kernel)) (fun _ _ _ _ _ => pg_name (i := 3) sc_Lot_init.nd rfl (Or.inl rfl)) (fun _ _ _ _ _ => pts_one (pt_cmpR op_gt (pe_dget (hu_of hr) (pv 2) (pv 3) (fun _ _ => rfl)) (pe_int) (nomark _))) (fun _ _ _ _ _ => by exact pv 3) (fun _ _ _ _ _ => by exact pe_dget (hu_of hr) (pv 2) (pv 3) (fun _ _ => rfl)))) rfl))), ?_⟩
    intro f hf
    generalize e1 : upd H f _ = H1
    obtain ⟨x1, gf, hf1⟩ := ex_hid (M := No) x0.s hf e1
    have f0 : H0 f = none := x0.f _ hf
    have gx : G x = none := s0.free hx0
    have nfx : f ≠ x := (ne_of_none hx hf).symm
    have hx1 : H1 x = some (.ins A.Lot dx []) := x1.same _ _ hx
    have xl := hxs.length
    rw [List.length_map] at xl
    refine ⟨_, rfl, q, G, xs, rfl, x1.s, hq, fun J wJ => ?_⟩
    refine for_it wJ (fun i σ H' => ∃ (v3 v4 : Option V), σ = [some (.ref x), some (.ref q), some (.ref f), v3, v4] ∧ Ex No G H0 G H' ∧ H' x = some (.ins A.Lot dx []) ∧ H' f = some (.dK (encD (tally (ps.take i)))))
      ⟨none, none, rfl, x0.trans x1, hx1, hf1⟩ (fun i σ H' _ h => by obtain ⟨_, _, _, h, _⟩ := h; exact h.s) ?_ ?_
    · rintro i y σ Ha Hb hi ⟨v3, v4, rfl, xa, hxa, hfa⟩ ⟨rfl, hy⟩
      obtain ⟨d, hd, hr1⟩ := hxs.get hy
      obtain ⟨⟨kd, n⟩, hp, rfl⟩ := map_at hd
      obtain ⟨t, v1, v2, rfl, ht, r1, r2⟩ := of_tup2 hr1
      cases of_str r1
      cases of_int r2
      have hn : 0 ≤ n := hnn _ (List.mem_of_getElem? hp)
      refine ⟨t, _, rfl, SqT.of (xa.s _ _ ht), rfl, _, _, rfl, _, _, rfl, rfl, ?_⟩
      refine ⟨_, rfl, _, _, rfl, rfl, _, rfl, ?_⟩
      refine ifF (decide_eq_false (by omega)) ?_
      refine ⟨_, rfl, f, rfl, .inl ⟨_, .inl hfa⟩, _, rfl, _, DGet.k (k := Sum.inr kd) hfa, ?_⟩
      have ev : (valV (encD (tally (ps.take i))) (Sum.inr kd)).getD (.int 0) = .int ((look (tally (ps.take i)) kd).getD 0) := by
        rw [val_enc]; cases look (tally (ps.take i)) kd <;> rfl
      refine ⟨_, rfl, _, _, ev, rfl, ?_⟩
      have hl := tally_length (ps.take i)
      refine ⟨_, rfl, _, rfl, f, _, rfl, DPut.k (k := Sum.inr kd) hfa (szl (by rw [encD, List.length_map]; rw [List.length_take] at hl; omega)), ?_⟩
      refine ⟨_, _, rfl, xa.put gf (.inr f0) (by rw [hfa]; simp), by rw [upd_ne nfx.symm]; exact hxa, ?_⟩
      rw [upd_same, put_enc, ← tally_take hp]
    · rintro σ Ha ⟨v3, v4, rfl, xa, hxa, hfa⟩
      rw [xl, List.take_of_length_le (Nat.le_refl _)] at hfa
      -- the dict of what is above 0
      refine ⟨f, _, hfa, trivial, fun od => ?_⟩
      generalize e2 : upd Ha f _ = H2
      have hf2 : H2 f = some (.frz od (.dK (encD (tally ps)))) := by rw [← e2]; exact upd_same
      have hx2 : H2 x = some (.ins A.Lot dx []) := by rw [← e2, upd_ne nfx.symm]; exact hxa
      have back2 : upd H2 f (.dK (encD (tally ps))) = Ha := by
        rw [← e2, upd_upd]; funext b; unfold upd; split
        · rename_i hb; rw [hb, hfa]
        · rfl
      refine ⟨_, rfl, f, od, rfl, .inl ⟨_, hf2, fun D hD => ?_⟩⟩
      have nDf : D ≠ f := (ne_of_none hf2 hD).symm
      have hDa : Ha D = none := by rw [← e2, upd_ne nDf] at hD; exact hD
      have kl : (encD (tally ps)).length = (tally ps).length := by rw [encD, List.length_map]
      have tl := tally_length ps
      refine dc_it (walk_keys (kvs := encD (tally ps))) (fun i H' => (∀ b, b ≠ D → H' b = H2 b) ∧ H' D = some (.dK (encD (((tally ps).take i).filter fun p => decide (0 < p.2)))))
        ⟨fun b hb => upd_ne hb, upd_same⟩ (fun i H' _ h => by rw [h.1 _ nDf.symm]; exact hf2) ?_ ?_
      · rintro i y Hb Hc hi ⟨hB, hDb⟩ ⟨rfl, kk, vv, hk, rfl⟩
        obtain ⟨⟨kd, n⟩, hp, ep⟩ := map_at hk
        cases ep
        have hfb : Hc f = some (.frz od (.dK (encD (tally ps)))) := by rw [hB _ nDf.symm]; exact hf2
        have hg : DGet Hc f (.str kd) (some (.int n)) := .inl ⟨_, Sum.inr kd, .inr ⟨od, hfb⟩, rfl, by
          rw [val_enc, look_mem (tally_nodup ps) (List.mem_of_getElem? hp)]; rfl⟩
        refine ⟨rfl, _, rfl, _, rfl, f, _, rfl, hg, _, _, rfl, rfl, _, rfl, ?_⟩
        have et : (tally ps).take (i + 1) = (tally ps).take i ++ [(kd, n)] := by rw [List.take_add_one, hp]; rfl
        refine if2 (fun hpos => ?_) (fun hpos => ?_)
        · have hpos : 0 < n := of_decide_eq_true hpos
          refine ⟨_, rfl, _, rfl, _, rfl, f, _, rfl, hg, _, Sum.inr kd, rfl, hDb, szl ?_, fun b hb => ?_, ?_⟩
          · rw [encD, List.length_map]
            have := List.length_filter_le (fun p : Str × Int => decide (0 < p.2)) ((tally ps).take i)
            rw [List.length_take] at this
            omega
          · rw [upd_ne hb]; exact hB b hb
          · rw [upd_same, put_enc, et, List.filter_append]
            have : putD (((tally ps).take i).filter fun p => decide (0 < p.2)) kd n = (((tally ps).take i).filter fun p => decide (0 < p.2)) ++ [(kd, n)] := by
              unfold putD
              rw [if_neg]
              intro hm
              obtain ⟨p, hp1, hp2⟩ := List.mem_map.mp hm
              have hp3 := (List.mem_filter.mp hp1).1
              have hnd := tally_nodup ps
              have hi' : i < (tally ps).length := (List.getElem?_eq_some_iff.mp hp).1
              have e3 : tally ps = (tally ps).take i ++ (kd, n) :: (tally ps).drop (i + 1) := by
                have : (tally ps).drop i = (kd, n) :: (tally ps).drop (i + 1) := by
                  rw [List.drop_eq_getElem_cons hi', (List.getElem?_eq_some_iff.mp hp).2]
                rw [← this, List.take_append_drop]
              rw [e3, List.map_append, List.nodup_append] at hnd
              exact hnd.2.2 p.1 (List.mem_map_of_mem hp3) kd (by simp) hp2
            rw [this]
            simp [hpos]
        · have hpos : ¬ 0 < n := of_decide_eq_false hpos
          refine ⟨hB, ?_⟩
          rw [hDb, et, List.filter_append]
          simp [hpos]
      · rintro Hb ⟨hB, hDb⟩
        rw [kl, List.take_of_length_le (Nat.le_refl _)] at hDb
        have nDx : D ≠ x := (ne_of_none hx2 hD).symm
        refine ⟨by rw [hB _ nDf.symm]; exact hf2, ?_⟩
        -- unlocked
        have e3 : upd Hb f (.dK (encD (tally ps))) = upd Ha D (.dK (encD ((tally ps).filter fun p => decide (0 < p.2)))) := by
          funext b
          unfold upd
          by_cases hb : b = f
          · subst hb; rw [if_pos rfl, if_neg nDf.symm, hfa]
          · rw [if_neg hb]
            by_cases hb2 : b = D
            · subst hb2; rw [if_pos rfl, hDb]
            · rw [if_neg hb2, hB b hb2, ← e2, upd_ne hb]
        rw [e3]
        generalize e4 : upd Ha D _ = H4
        obtain ⟨x4, gD, hD4⟩ := ex_hid (M := No) xa.s hDa e4
        have hx4 : H4 x = some (.ins A.Lot dx []) := x4.same _ _ hxa
        refine ⟨_, rfl, x, A.Lot, dx, _, rfl, hx4, T.Lot.cl, T.no_Lot_own_many, by decide, ?_⟩
        generalize e5 : upd H4 x _ = H5
        have x5 : Ex No G H0 G H5 := e5 ▸ (xa.trans x4).put gx (.inr hx0) (by rw [hx4]; simp)
        have hx5 : H5 x = some (.ins A.Lot dx [("own_many", .ref D)]) := by rw [← e5]; exact upd_same
        have hD5 : H5 D = some (.dK (encD ((tally ps).filter fun p => decide (0 < p.2)))) := by rw [← e5, upd_ne nDx]; exact hD4
        have D0 : H0 D = none := xa.f _ hDa
        have x6 := x5.tell hD5 (s0.free D0) D0
        have x7 := x6.tell hx5 gx hx0
        refine k _ _ x7 ⟨dx, D, _, upd_same, ?_, tally_perm hnn, mk_ok hnn, Nat.lt_of_le_of_lt (mk_len hnn hKs) hK⟩
        rw [upd_ne nDx, upd_same]

end
end LW

namespace LW
open PySem L2 Kt LM DO
section
variable {P : Program} {w : World} {K : PySem.W.Frag} {mg : Str → Option Value} {base : Heap} {A : Ads}
theorem ok_Lot_len (T : Txt K mg A) : FnOk P w K mg base CX0 1 A.Lot_len A.Lot_len' ["self"] (spLotLen A.Lot) := by
  refine T.Lot_len.F.ok sc_Lot_len (fun vs H Q E h => ?_) (fun cdv Ar outer s H vs Q E hr h => ?_)
  · obtain ⟨G, a, m, rfl, _⟩ := h
    rfl
  · obtain ⟨G, a, m, rfl, S, ⟨dx, dd, d, h1, h2, hp, ho, hl⟩, k⟩ := h
    refine ⟨_, pss_one (ps_ret (pe_callB call_lenD (by rfl) T.b_len (by decide +kernel) (pa_cons (pe_fldK K (pv 0) rfl) pa_nil))), ?_⟩
    refine ⟨_, rfl, a, A.Lot, dx, _, _, rfl, S _ _ h1, T.Lot.cl, T.no_Lot_own_many, rfl, dd, _, rfl, S _ _ h2, ?_⟩
    have e : (encD d).length = m.length := by rw [encD, List.length_map, hp.length_eq]
    show Q (.int ((encD d).length : Nat)) H
    rw [e]
    exact k

end
end LW

namespace LW
open PySem L2 Kt LM DO
section
variable {P : Program} {w : World} {K : PySem.W.Frag} {mg : Str → Option Value} {base : Heap} {A : Ads}
theorem ok_Lot_pairs (T : Txt K mg A) : FnOk P w K mg base CX0 1 A.Lot_pairs A.Lot_pairs' ["self"] (spLotPairs A.Lot) := by
  refine T.Lot_pairs.F.ok sc_Lot_pairs (fun vs H Q E h => ?_) (fun cdv Ar outer s H vs Q E hr h => ?_)
  · obtain ⟨G, a, m, rfl, _⟩ := h
    rfl
  · obtain ⟨G, a, m, rfl, S, ⟨dx, dd, d, h1, h2, hp, ho, hl⟩, k⟩ := h
    refine ⟨_, pss_one (ps_ret (pe_callTy (call_tuple_ofK K) (by rfl) T.b_tuple (by decide +kernel) (pa_cons (pe_lc (own := [("kind", 1)]) (g := (gName 1)) rfl sc_Lot_pairs.nd (pi_listK K (pe_callB (call_sortedD rfl) (by rfl) T.b_sorted (by decide +kernel) (pa_cons (pe_fldK K (pv 0) rfl) pa_nil))) (blkOk_by (own := [("kind", 1)]) (N := N_Lot_pairs) (sc := defScope s_Lot_pairs) (by decide +kernel)) (fun _ _ _ _ _ => pg_name (i := 1) sc_Lot_pairs.nd rfl (Or.inl rfl)) (fun _ _ _ _ _ => pts_nil) (fun _ _ _ _ _ => by exact pe_tup (pa_cons (pv 1) (pa_cons (pe_dget (hu_of hr) (pe_fldK K (pv 0) rfl) (pv 1) (fun _ _ => rfl)) pa_nil)))) pa_nil))), ?_⟩
    have hkeys : (encD d).map (·.1) = (d.map (·.1)).map Sum.inr := by rw [encD, List.map_map, List.map_map]; rfl
    refine ⟨_, rfl, a, A.Lot, dx, _, _, rfl, S _ _ h1, T.Lot.cl, T.no_Lot_own_many, rfl, dd, _, d.map (·.1), rfl, .inl (S _ _ h2), hkeys, by rw [List.length_map, hp.length_eq]; exact hl, fun ys q hperm hsrt hq => ?_⟩
    have ey : ys = m.map (·.1) := sorted_keys ho (hperm.trans (hp.map _)) hsrt
    subst ey
    generalize e1 : upd H q _ = H1
    obtain ⟨G1, x1, g1⟩ := ex_new (M := No) S hq e1
    refine ⟨q, rfl, ⟨_, SqL.of (x1.s _ _ g1)⟩, fun D hD => ?_⟩
    have D1 : G1 D = none := x1.s.free hD
    refine lc_it (walk_list (K := K) (a := q) (xs := (m.map (·.1)).map V.str)) (fun i H' => ∃ (G2 : Hp) (acc : List V), Ex No G1 H1 G2 H' ∧ G2 D = none ∧ H' D = some (.lst acc) ∧ RpA G2 acc ((m.take i).map encP))
      ⟨G1, [], (Ex.hid x1.s hD), D1, upd_same, .nil⟩ (fun i H' _ h => by obtain ⟨G2, acc, x2, _⟩ := h; exact SqL.of (x2.s _ _ (x2.g _ _ g1))) ?_ ?_
    · rintro i y Ha Hb hi ⟨G2, acc, x2, D2, hDa, ra⟩ ⟨rfl, hy⟩
      obtain ⟨kd, hk, rfl⟩ := map_at hy
      obtain ⟨⟨kd', n⟩, hp1, rfl⟩ := map_at hk
      have hm := List.mem_of_getElem? hp1
      have hv : valV (encD d) (Sum.inr kd) = some (.int n) := by
        rw [val_enc, perm_look hp ho, ho.lk_mem hm, if_neg]; rfl
        have := ho.pos _ hm
        show ¬ n = 0
        have : 0 < n := this
        omega
      have g2 : Hb dd = some (.dK (encD d)) := x2.s _ _ (x2.g _ _ (x1.g _ _ h2))
      refine ⟨rfl, _, rfl, _, rfl, a, A.Lot, dx, _, _, rfl, x2.s _ _ (x2.g _ _ (x1.g _ _ h1)), T.Lot.cl, T.no_Lot_own_many, rfl, _, rfl, dd, _, rfl, hv ▸ DGet.k (k := Sum.inr kd) g2, sz rfl, fun t ht => ?_⟩
      generalize e3 : upd Hb t _ = H3
      obtain ⟨G3, x3, g3⟩ := ex_new (M := No) x2.s ht e3
      have D3 : G3 D = none := x3.un D2 (by rw [hDa]; simp)
      refine ⟨acc, x3.same _ _ hDa, szl ?_, G3, acc ++ [.ref t], (x2.trans x3).put D3 (.inr hD) (by rw [x3.same _ _ hDa]; simp), D3, upd_same, ?_⟩
      · have := ra.length
        rw [List.length_map, List.length_take] at this
        omega
      · have et : m.take (i + 1) = m.take i ++ [(kd, n)] := by rw [List.take_add_one, hp1]; rfl
        rw [et, List.map_append]
        exact (ra.mono x3.g).app (.cons (.tup g3 (.cons (.str _) (.cons (.int _) .nil))) .nil)
    · rintro Ha ⟨G2, acc, x2, D2, hDa, ra⟩
      rw [List.length_map, List.length_map, List.take_of_length_le (Nat.le_refl _)] at ra
      refine ⟨D, acc, rfl, .inl ⟨SqL.of hDa, fun t ht => ?_⟩⟩
      generalize e3 : upd Ha t _ = H3
      obtain ⟨G3, x3, g3⟩ := ex_new (M := No) x2.s ht e3
      exact k G3 H3 _ (x1.trans (x2.trans x3)) (.tup g3 (ra.mono x3.g))

end
end LW

namespace LW
open PySem L2 Kt LM DO
section
variable {P : Program} {w : World} {K : PySem.W.Frag} {mg : Str → Option Value} {base : Heap} {A : Ads}
theorem ok_Lot_getitem (T : Txt K mg A) : FnOk P w K mg base CX0 1 A.Lot_getitem A.Lot_getitem' ["self", "kind"] (spLotGet A.Lot) := by
  refine T.Lot_getitem.F.ok sc_Lot_getitem (fun vs H Q E h => ?_) (fun cdv Ar outer s H vs Q E hr h => ?_)
  · obtain ⟨G, a, m, k, rfl, _⟩ := h
    rfl
  · obtain ⟨G, a, m, j, rfl, S, ⟨dx, dd, d, h1, h2, hp, ho, hl⟩, k⟩ := h
    refine ⟨_, pss_one (ps_ret (pe_dget2 (hu_of hr) (pe_fldK K (pv 0) rfl) (pv 1) (pe_int) ⟨rfl, rfl, rfl, rfl⟩)), ?_⟩
    refine ⟨_, rfl, a, A.Lot, dx, _, _, rfl, S _ _ h1, T.Lot.cl, T.no_Lot_own_many, rfl, dd, rfl, .inl ⟨_, .inl (S _ _ h2)⟩, _, rfl, _, DGet.k (k := Sum.inr j) (S _ _ h2), ?_⟩
    have e : (valV (encD d) (Sum.inr j)).getD (.int 0) = .int (lk m j) := by
      rw [val_enc, ← perm_lookD hp ho]
      cases look d j <;> rfl
    show Q ((valV (encD d) (Sum.inr j)).getD (.int 0)) H
    rw [e]
    exact k

end
end LW

namespace LW
open PySem L2 Kt LM DO
section
variable {P : Program} {w : World} {K : PySem.W.Frag} {mg : Str → Option Value} {base : Heap} {A : Ads}
theorem ok_Lot_floordiv (T : Txt K mg A) : FnOk P w K mg base (L2.CX P w) 3 A.Lot_floordiv A.Lot_floordiv' ["self", "other"] (spLotDiv A.Lot A.Nothing) := by
  refine T.Lot_floordiv.F.okX sc_Lot_floordiv (fun vs H Q E h => ?_) (fun cdv Ar outer s H vs Q E hr h => ?_)
  · obtain ⟨G, a, b, m, n, rfl, _⟩ := h
    rfl
  · obtain ⟨G, a, b, m, n, rfl, S, ha, hb, hbn, kE, k⟩ := h
    refine ⟨_, pss_cons (ps_if (pt_cmpR op_eq (pe_callB (OO.call_lenO (ok_Lot_len T) (hr.mono (by decide)) T.Lot_len.b pass0 T.Lot_len.own) (by rfl) T.b_len (by decide +kernel) (pa_cons (pv 1) pa_nil)) (pe_int) (nomark _)) (pss_one (ps_raise rfl (takes_of rfl rfl rfl rfl) (pmk_own0 PySem.F.excBase_ZeroDivisionError T.Nothing.xi T.Nothing.g T.Nothing.k (raises_own T.Nothing.b T.Nothing.t) rfl))) (pss_nil))
      (pss_one (ps_ret (pe_callB (cr_minK K rfl) (by rfl) T.b_min (by decide +kernel) (pa_cons (pe_lc (own := [("kind", 2), ("many", 3)]) (g := _) rfl sc_Lot_floordiv.nd (pi_tupK K (pe_meth0 (pv 1) T.Lot.cl T.Lot_pairs.me (ok_Lot_pairs T) (hr.mono (by decide)) T.Lot_pairs.b .nil pass0)) (blkOk_by (own := [("kind", 2), ("many", 3)]) (N := N_Lot_floordiv) (sc := defScope s_Lot_floordiv) (by decide +kernel)) (fun _ _ _ _ _ => pg_tupK K 2 rfl (pgs_cons (pg_name (i := 2) sc_Lot_floordiv.nd rfl (Or.inl rfl)) (pgs_cons (pg_name (i := 3) sc_Lot_floordiv.nd rfl (Or.inl rfl)) pgs_nil))) (fun _ _ _ _ _ => pts_nil) (fun _ _ _ _ _ => by exact pe_op op_fdivW (OO.pe_ixO (ok_Lot_getitem T) (hr.mono (by decide)) T.Lot_getitem.b pass0 T.Lot_getitem.own T.Lot_getitem.fin (pv 0) (pv 2)) (pv 3))) pa_nil)))), ?_⟩
    obtain ⟨dx, fs, h1⟩ := id ha.ins
    obtain ⟨dy, gs, h2⟩ := id hb.ins
    have l2 := hb.len
    refine ⟨_, rfl, b, dy, _, rfl, S _ _ h2, G, b, n, rfl, S, hb, _, rfl, by omega, by omega, rfl, _, rfl, ?_⟩
    refine if2 (fun he => ?_) (fun he => ?_)
    · have e0 : n = [] := by
        have := of_decide_eq_true he
        injection this with this
        exact List.length_eq_zero_iff.mp (by omega)
      exact kE e0
    · have e0 : n ≠ [] := by
        rintro rfl
        exact of_decide_eq_false he rfl
      have k := k e0
      refine ⟨_, rfl, b, dy, _, rfl, S _ _ h2, hb.noat h2 (by decide +kernel), G, b, n, rfl, S, hb, fun G1 H1 v1 x1 r1 => ?_⟩
      obtain ⟨q, xs, rfl, gq, rq⟩ := of_tup r1
      have lx := rq.length
      rw [List.length_map] at lx
      refine ⟨q, rfl, ⟨_, SqT.of (x1.s _ _ gq)⟩, fun D hD => ?_⟩
      have D1 : G1 D = none := x1.s.free hD
      refine lc_it (walk_tup (K := K) (a := q) (xs := xs)) (fun i H' => Ex No G1 H1 G1 H' ∧ H' D = some (.lst (((n.take i).map fun p => lk m p.1 / p.2).map V.int)))
        ⟨(Ex.hid x1.s hD), upd_same⟩ (fun i H' _ h => SqT.of (h.1.s _ _ gq)) ?_ ?_
      · rintro i y Ha Hb hi ⟨x2, hDa⟩ ⟨rfl, hy⟩
        obtain ⟨d, hd, hr1⟩ := rq.get hy
        obtain ⟨⟨kd, c⟩, hp, rfl⟩ := map_at hd
        obtain ⟨tt, v1, v2, rfl, htt, r1, r2⟩ := of_tup2 hr1
        cases of_str r1
        cases of_int r2
        have hm := List.mem_of_getElem? hp
        have hc : 0 < c := hb.ok.pos _ hm
        refine ⟨tt, _, rfl, SqT.of (x2.s _ _ htt), rfl, _, _, rfl, _, _, rfl, rfl, ?_⟩
        refine ⟨rfl, _, rfl, _, rfl, a, dx, _, rfl, x2.s _ _ (x1.g _ _ h1), G1, a, m, kd, rfl, x2.s, ha.mono x1.g, _, rfl, _, _, rfl, rfl, wide_div hc (b := 400) (hbn _ hm) (by decide) (by decide), ?_⟩
        have et : n.take (i + 1) = n.take i ++ [(kd, c)] := by rw [List.take_add_one, hp]; rfl
        refine ⟨_, hDa, szl ?_, x2.put D1 (.inr hD) (by rw [hDa]; simp), ?_⟩
        · rw [List.length_map, List.length_map, List.length_take]; omega
        · rw [upd_same, et, List.map_append, List.map_append]; rfl
      · rintro Ha ⟨x2, hDa⟩
        rw [lx, List.take_of_length_le (Nat.le_refl _)] at hDa
        refine ⟨D, n.map fun p => lk m p.1 / p.2, rfl, SqL.of hDa, ?_, fun z hz hle => ?_⟩
        · rw [List.length_map]; exact List.length_pos_iff.mpr e0
        · obtain ⟨p, hp, e⟩ := List.mem_map.mp hz
          exact k G1 Ha z (x1.trans x2) ⟨p, hp, e.symm⟩ fun p hp => hle _ (List.mem_map.mpr ⟨p, hp, rfl⟩)

end
end LW

namespace LW
open PySem L2 Kt LM DO
section
variable {P : Program} {w : World} {K : PySem.W.Frag} {mg : Str → Option Value} {base : Heap} {A : Ads}
theorem ok_Lot_mul (T : Txt K mg A) : FnOk P w K mg base CX0 3 A.Lot_mul A.Lot_mul' ["self", "often"] (spLotMul A.Lot) := by
  refine T.Lot_mul.F.ok sc_Lot_mul (fun vs H Q E h => ?_) (fun cdv Ar outer s H vs Q E hr h => ?_)
  · obtain ⟨G, a, m, t, rfl, _⟩ := h
    rfl
  · obtain ⟨G, a, m, t, rfl, S, ha, ht, hb, ht2, k⟩ := h
    refine ⟨_, pss_one (ps_ret (pe_make (T.Lot_init.mk_ T.Lot) (ok_Lot_init T) (hr.mono (by decide)) rfl T.Lot.g T.Lot_init.b .nil pass0 (pa_cons (pe_lc (own := [("kind", 2), ("many", 3)]) (g := _) rfl sc_Lot_mul.nd (pi_tupK K (pe_meth0 (pv 0) T.Lot.cl T.Lot_pairs.me (ok_Lot_pairs T) (hr.mono (by decide)) T.Lot_pairs.b .nil pass0)) (blkOk_by (own := [("kind", 2), ("many", 3)]) (N := N_Lot_mul) (sc := defScope s_Lot_mul) (by decide +kernel)) (fun _ _ _ _ _ => pg_tupK K 2 rfl (pgs_cons (pg_name (i := 2) sc_Lot_mul.nd rfl (Or.inl rfl)) (pgs_cons (pg_name (i := 3) sc_Lot_mul.nd rfl (Or.inl rfl)) pgs_nil))) (fun _ _ _ _ _ => pts_nil) (fun _ _ _ _ _ => by exact pe_tup (pa_cons (pv 2) (pa_cons (pe_op op_mulW (pv 3) (pv 1)) pa_nil)))) pa_nil))), ?_⟩
    obtain ⟨dx, fs, h1⟩ := id ha.ins
    have l1 := ha.len
    refine ⟨_, rfl, a, dx, _, rfl, S _ _ h1, ha.noat h1 (by decide +kernel), G, a, m, rfl, S, ha, fun G1 H1 v1 x1 r1 => ?_⟩
    obtain ⟨q, xs, rfl, gq, rq⟩ := of_tup r1
    have lx := rq.length
    rw [List.length_map] at lx
    refine ⟨q, rfl, ⟨_, SqT.of (x1.s _ _ gq)⟩, fun D hD => ?_⟩
    have D1 : G1 D = none := x1.s.free hD
    refine lc_it (walk_tup (K := K) (a := q) (xs := xs)) (fun i H' => ∃ (G2 : Hp) (acc : List V), Ex No G1 H1 G2 H' ∧ G2 D = none ∧ H' D = some (.lst acc) ∧ RpA G2 acc (((m.take i).map fun p => (p.1, p.2 * t)).map encP))
      ⟨G1, [], (Ex.hid x1.s hD), D1, upd_same, .nil⟩ (fun i H' _ h => by obtain ⟨G2, acc, x2, _⟩ := h; exact SqT.of (x2.s _ _ (x2.g _ _ gq))) ?_ ?_
    · rintro i y Ha Hb hi ⟨G2, acc, x2, D2, hDa, ra⟩ ⟨rfl, hy⟩
      obtain ⟨d, hd, hr1⟩ := rq.get hy
      obtain ⟨⟨kd, n⟩, hp, rfl⟩ := map_at hd
      obtain ⟨tt, v1, v2, rfl, htt, r1, r2⟩ := of_tup2 hr1
      cases of_str r1
      cases of_int r2
      have hm := List.mem_of_getElem? hp
      refine ⟨tt, _, rfl, SqT.of (x2.s _ _ (x2.g _ _ htt)), rfl, _, _, rfl, _, _, rfl, rfl, ?_⟩
      refine ⟨rfl, _, rfl, _, rfl, _, rfl, _, _, rfl, rfl, wide_mul (a := 400) (b := 400) (hb _ hm) ht2 (by decide) (by decide) (by decide), sz rfl, fun z hz => ?_⟩
      generalize e3 : upd Hb z _ = H3
      obtain ⟨G3, x3, g3⟩ := ex_new (M := No) x2.s hz e3
      have D3 : G3 D = none := x3.un D2 (by rw [hDa]; simp)
      refine ⟨acc, x3.same _ _ hDa, szl ?_, G3, acc ++ [.ref z], (x2.trans x3).put D3 (.inr hD) (by rw [x3.same _ _ hDa]; simp), D3, upd_same, ?_⟩
      · have := ra.length
        rw [List.length_map, List.length_map, List.length_take] at this
        omega
      · have et : m.take (i + 1) = m.take i ++ [(kd, n)] := by rw [List.take_add_one, hp]; rfl
        rw [et, List.map_append, List.map_append]
        exact (ra.mono x3.g).app (.cons (.tup g3 (.cons (.str _) (.cons (.int _) .nil))) .nil)
    · rintro Ha ⟨G2, acc, x2, D2, hDa, ra⟩
      rw [lx, List.take_of_length_le (Nat.le_refl _)] at ra
      have x3 := x2.tell hDa D1 hD
      refine make_lotR (Ks := m.map (·.1)) x3.s (.inr (.lst upd_same (ra.mono (same_new D2)))) (fun p hp => ?_) (by rw [List.length_map]; exact l1) (fun p hp => ?_) (by rw [List.length_map]; omega) fun G4 H4 z x4 z4 h4 => k _ _ _ (x1.trans (x3.trans x4)) ((x1.trans x3).f _ z4) h4
      · obtain ⟨p', hp', rfl⟩ := List.mem_map.mp hp
        exact Int.mul_nonneg (Int.le_of_lt (ha.ok.pos p' hp')) ht
      · obtain ⟨p', hp', rfl⟩ := List.mem_map.mp hp
        exact List.mem_map.mpr ⟨p', hp', rfl⟩

end
end LW

namespace LW
open PySem L2 Kt LM DO
section
variable {P : Program} {w : World} {K : PySem.W.Frag} {mg : Str → Option Value} {base : Heap} {A : Ads}
theorem ok_Lot_sub (T : Txt K mg A) : FnOk P w K mg base CX0 3 A.Lot_sub A.Lot_sub' ["self", "other"] (spLotSub A.Lot) := by
  refine T.Lot_sub.F.ok sc_Lot_sub (fun vs H Q E h => ?_) (fun cdv Ar outer s H vs Q E hr h => ?_)
  · obtain ⟨G, a, b, m, n, rfl, _⟩ := h
    rfl
  · obtain ⟨G, a, b, m, n, rfl, S, ha, hb, hle, k⟩ := h
    refine ⟨_, pss_cons (ps_for PassesOwn.never rfl (pi_tupK K (pe_meth0 (pv 1) T.Lot.cl T.Lot_pairs.me (ok_Lot_pairs T) (hr.mono (by decide)) T.Lot_pairs.b .nil pass0)) (pg_tupK K 2 rfl (pgs_cons (pg_name (i := 2) sc_Lot_sub.nd rfl (Or.inl rfl)) (pgs_cons (pg_name (i := 3) sc_Lot_sub.nd rfl (Or.inl rfl)) pgs_nil)))
        (pss_one (ps_if (pt_cmpR op_lt (OO.pe_ixO (ok_Lot_getitem T) (hr.mono (by decide)) T.Lot_getitem.b pass0 T.Lot_getitem.own T.Lot_getitem.fin (pv 0) (pv 2)) (pv 3) (nomark _)) (pss_one (ps_never)) (pss_nil))))
      (pss_one (ps_ret (pe_make (T.Lot_init.mk_ T.Lot) (ok_Lot_init T) (hr.mono (by decide)) rfl T.Lot.g T.Lot_init.b .nil pass0 (pa_cons (pe_lc (own := [("kind", 2), ("many", 3)]) (g := _) rfl sc_Lot_sub.nd (pi_tupK K (pe_meth0 (pv 0) T.Lot.cl T.Lot_pairs.me (ok_Lot_pairs T) (hr.mono (by decide)) T.Lot_pairs.b .nil pass0)) (blkOk_by (own := [("kind", 2), ("many", 3)]) (N := N_Lot_sub) (sc := defScope s_Lot_sub) (by decide +kernel)) (fun _ _ _ _ _ => pg_tupK K 2 rfl (pgs_cons (pg_name (i := 2) sc_Lot_sub.nd rfl (Or.inl rfl)) (pgs_cons (pg_name (i := 3) sc_Lot_sub.nd rfl (Or.inl rfl)) pgs_nil))) (fun _ _ _ _ _ => pts_nil) (fun _ _ _ _ _ => by exact pe_tup (pa_cons (pv 2) (pa_cons (pe_op op_sub (pv 3) (OO.pe_ixO (ok_Lot_getitem T) (hr.mono (by decide)) T.Lot_getitem.b pass0 T.Lot_getitem.own T.Lot_getitem.fin (pv 1) (pv 2))) pa_nil)))) pa_nil)))), ?_⟩
    obtain ⟨dx, fs, h1⟩ := id ha.ins
    obtain ⟨dy, gs, h2⟩ := id hb.ins
    have l1 := ha.len
    refine ⟨_, rfl, b, dy, _, rfl, S _ _ h2, hb.noat h2 (by decide +kernel), G, b, n, rfl, S, hb, fun G1 H1 v1 x1 r1 => ?_⟩
    obtain ⟨q, xs, rfl, gq, rq⟩ := of_tup r1
    have lx := rq.length
    rw [List.length_map] at lx
    refine ⟨q, rfl, ⟨_, SqT.of (x1.s _ _ gq)⟩, ?_⟩
    refine for_it (walk_tup (K := K) (a := q) (xs := xs)) (fun i σ H' => H' = H1 ∧ ∃ v2 v3, σ = [some (.ref a), some (.ref b), v2, v3]) ⟨rfl, _, _, rfl⟩ (fun i σ H' _ h => by rw [h.1]; exact SqT.of (x1.s _ _ gq)) ?_ ?_
    · rintro i y σ Ha Hb hi ⟨rfl, v2, v3, rfl⟩ ⟨rfl, hy⟩
      obtain ⟨d, hd, hr1⟩ := rq.get hy
      obtain ⟨⟨kd, c⟩, hp, rfl⟩ := map_at hd
      obtain ⟨tt, w1, w2, rfl, htt, r1, r2⟩ := of_tup2 hr1
      cases of_str r1
      cases of_int r2
      have hm := List.mem_of_getElem? hp
      refine ⟨tt, _, rfl, SqT.of (x1.s _ _ htt), rfl, _, _, rfl, _, _, rfl, rfl, ?_⟩
      refine ⟨_, rfl, _, rfl, a, dx, _, rfl, x1.hs S h1, G1, a, m, kd, rfl, x1.s, ha.mono x1.g, _, rfl, _, _, rfl, rfl, _, rfl, ?_⟩
      have hk : c ≤ lk m kd := by
        have := hle kd
        rw [hb.ok.lk_mem hm] at this
        exact this
      refine ifF (decide_eq_false (by omega)) ⟨rfl, _, _, rfl⟩
    · rintro σ Ha ⟨rfl, v2, v3, rfl⟩
      refine ⟨_, rfl, a, dx, _, rfl, x1.hs S h1, ha.noat h1 (by decide +kernel), G1, a, m, rfl, x1.s, ha.mono x1.g, fun G2 H2 v1 x2 r1 => ?_⟩
      obtain ⟨q, xs, rfl, gq, rq⟩ := of_tup r1
      have lx := rq.length
      rw [List.length_map] at lx
      refine ⟨q, rfl, ⟨_, SqT.of (x2.s _ _ gq)⟩, fun D hD => ?_⟩
      have D2 : G2 D = none := x2.s.free hD
      refine lc_it (walk_tup (K := K) (a := q) (xs := xs)) (fun i H' => ∃ (G3 : Hp) (acc : List V), Ex No G2 H2 G3 H' ∧ G3 D = none ∧ H' D = some (.lst acc) ∧ RpA G3 acc (((m.take i).map fun p => (p.1, p.2 - lk n p.1)).map encP))
        ⟨G2, [], (Ex.hid x2.s hD), D2, upd_same, .nil⟩ (fun i H' _ h => by obtain ⟨G3, acc, x3, _⟩ := h; exact SqT.of (x3.s _ _ (x3.g _ _ gq))) ?_ ?_
      · rintro i y Ha Hb hi ⟨G3, acc, x3, D3, hDa, ra⟩ ⟨rfl, hy⟩
        obtain ⟨d, hd, hr1⟩ := rq.get hy
        obtain ⟨⟨kd, c⟩, hp, rfl⟩ := map_at hd
        obtain ⟨tt, w1, w2, rfl, htt, r1, r2⟩ := of_tup2 hr1
        cases of_str r1
        cases of_int r2
        refine ⟨tt, _, rfl, SqT.of (x3.s _ _ (x3.g _ _ htt)), rfl, _, _, rfl, _, _, rfl, rfl, ?_⟩
        have hb3 := hb.mono (x1.g.trans (x2.g.trans x3.g))
        refine ⟨rfl, _, rfl, _, rfl, _, rfl, _, rfl, b, dy, _, rfl, x3.s _ _ (x3.g _ _ (x2.g _ _ (x1.g _ _ h2))), G3, b, n, kd, rfl, x3.s, hb3, _, _, rfl, rfl, sz rfl, fun z hz => ?_⟩
        generalize e3 : upd Hb z _ = H4
        obtain ⟨G4, x4, g4⟩ := ex_new (M := No) x3.s hz e3
        have D4 : G4 D = none := x4.un D3 (by rw [hDa]; simp)
        refine ⟨acc, x4.same _ _ hDa, szl ?_, G4, acc ++ [.ref z], (x3.trans x4).put D4 (.inr hD) (by rw [x4.same _ _ hDa]; simp), D4, upd_same, ?_⟩
        · have := ra.length
          rw [List.length_map, List.length_map, List.length_take] at this
          omega
        · have et : m.take (i + 1) = m.take i ++ [(kd, c)] := by rw [List.take_add_one, hp]; rfl
          rw [et, List.map_append, List.map_append]
          exact (ra.mono x4.g).app (.cons (.tup g4 (.cons (.str _) (.cons (.int _) .nil))) .nil)
      · rintro Ha ⟨G3, acc, x3, D3, hDa, ra⟩
        rw [lx, List.take_of_length_le (Nat.le_refl _)] at ra
        have x4 := x3.tell hDa D2 hD
        refine make_lotR (Ks := m.map (·.1)) x4.s (.inr (.lst upd_same (ra.mono (same_new D3)))) (fun p hp => ?_) (by rw [List.length_map]; exact l1) (fun p hp => ?_) (by rw [List.length_map]; omega) fun G5 H5 z x5 z5 h5 => k _ _ _ (x1.trans (x2.trans (x4.trans x5))) ((x1.trans (x2.trans x4)).f _ z5) h5
        · obtain ⟨p', hp', rfl⟩ := List.mem_map.mp hp
          have := hle p'.1
          rw [ha.ok.lk_mem hp'] at this
          show 0 ≤ p'.2 - lk n p'.1
          omega
        · obtain ⟨p', hp', rfl⟩ := List.mem_map.mp hp
          exact List.mem_map.mpr ⟨p', hp', rfl⟩

end
end LW

namespace LW
open PySem L2 Kt LM DO
section
variable {P : Program} {w : World} {K : PySem.W.Frag} {mg : Str → Option Value} {base : Heap} {A : Ads}
theorem ok_Lot_mod (T : Txt K mg A) : FnOk P w K mg base (L2.CX P w) 5 A.Lot_mod A.Lot_mod' ["self", "other"] (spLotMod A.Lot A.Nothing) := by
  refine T.Lot_mod.F.okX sc_Lot_mod (fun vs H Q E h => ?_) (fun cdv Ar outer s H vs Q E hr h => ?_)
  · obtain ⟨G, a, b, m, n, rfl, _⟩ := h
    rfl
  · obtain ⟨G, a, b, m, n, rfl, S, ha, hb, hbn, hbm, kE, k⟩ := h
    refine ⟨_, pss_one (ps_ret (pe_op (OO.op_own (ok_Lot_sub T) (hr.mono (by decide)) T.Lot_sub.b pass0 T.Lot.sf T.Lot_sub.own) (pv 0) (pe_op (OO.op_ownI (ok_Lot_mul T) (hr.mono (by decide)) T.Lot_mul.b pass0 T.Lot.sf T.Lot_mul_I) (pv 1) (pe_op (OO.op_own (ok_Lot_floordiv T) (hr.mono (by decide)) T.Lot_floordiv.b (passes_call (takes_of rfl rfl rfl rfl) (fun _ _ _ _ h => h)) T.Lot.sf T.Lot_floordiv.own) (pv 0) (pv 1))))), ?_⟩
    obtain ⟨dx, fs, h1⟩ := id ha.ins
    obtain ⟨dy, gs, h2⟩ := id hb.ins
    refine ⟨_, rfl, _, rfl, _, rfl, _, rfl, a, b, dx, dy, _, _, rfl, rfl, S _ _ h1, S _ _ h2, G, a, b, m, n, rfl, S, ha, hb, hbn, kE, fun e0 G1 H1 q x1 hq1 hq2 => ?_⟩
    have k := k e0 q hq1 hq2
    have ha1 := ha.mono x1.g
    have hb1 := hb.mono x1.g
    obtain ⟨p0, hp0, eq0⟩ := hq1
    have hpos : 0 < p0.2 := hb.ok.pos _ hp0
    have hnn := ha.ok.lk_nn p0.1
    have q0 : 0 ≤ q := by rw [eq0]; exact Int.ediv_nonneg hnn (Int.le_of_lt hpos)
    have qle : q ≤ lk m p0.1 := by rw [eq0]; exact Int.ediv_le_self _ hnn
    have lkb : (lk m p0.1).natAbs < 2 ^ 400 := by
      by_cases z : lk m p0.1 = 0
      · rw [z]; decide
      · exact hbm _ (lk_pos_mem z)
    refine ⟨b, q, dy, _, rfl, rfl, x1.hs S h2, G1, b, n, q, rfl, x1.s, hb1, q0, hbn, by omega, fun G2 H2 y x2 _ hy => ?_⟩
    obtain ⟨dz, hs, h3⟩ := id hy.ins
    have ha2 := ha1.mono x2.g
    have elk : ∀ kd, lk (mkLot (n.map fun p => (p.1, p.2 * q))) kd = lk n kd * q := fun kd => by
      rw [lk_mk (fun p hp => by
        obtain ⟨p', hp', rfl⟩ := List.mem_map.mp hp
        exact Int.mul_nonneg (Int.le_of_lt (hb.ok.pos p' hp')) q0)]
      exact sumK_map hb.ok (fun _ x => x * q) kd (fun _ => Int.zero_mul q)
    refine ⟨a, y, dx, dz, _, _, rfl, rfl, x2.s _ _ (x2.g _ _ (x1.g _ _ h1)), x2.s _ _ h3, G2, a, y, m, _, rfl, x2.s, ha2, hy, fun kd => ?_, ?_⟩
    · rw [elk]
      by_cases z : lk n kd = 0
      · rw [z, Int.zero_mul]; exact ha.ok.lk_nn kd
      · have hm := lk_pos_mem z
        have h4 := hq2 _ hm
        have h5 : 0 < lk n kd := hb.ok.pos _ hm
        have h6 := Int.mul_le_mul_of_nonneg_left h4 (Int.le_of_lt h5)
        have h7 : lk n kd * (lk m kd / lk n kd) ≤ lk m kd := Int.mul_ediv_self_le (by omega)
        exact Int.le_trans h6 h7
    · intro G3 H3 z x3 z3 hz
      refine k G3 H3 z (x1.trans (x2.trans x3)) ((x1.trans x2).f _ z3) ?_
      have e : (m.map fun p => (p.1, p.2 - lk (mkLot (n.map fun p => (p.1, p.2 * q))) p.1)) = m.map fun p => (p.1, p.2 - lk n p.1 * q) := List.map_congr_left fun p _ => by rw [elk]
      rw [e] at hz
      exact hz

end
end LW

namespace LW
open PySem L2 Kt LM DO
section
variable {P : Program} {w : World} {K : PySem.W.Frag} {mg : Str → Option Value} {base : Heap} {A : Ads}
theorem same_step (T : Txt K mg A) {F : PyData → Prop} {k : Nat} (GR : FnOk P w K mg base CX0 k A.same A.same' ["_law_got", "_law_due"] (spSame F)) :
    FnOk P w K mg base CX0 (k + 2) A.same A.same' ["_law_got", "_law_due"] (spSame fun d => Flat d ∨ ∃ ds, (d = .list ds ∨ d = .tuple ds) ∧ ds.length ≤ 10000 ∧ ∀ e ∈ ds, F e) := by
  refine T.same.F.ok sc_same (fun vs H Q E h => ?_) (fun cdv Ar outer s H vs Q E hr h => ?_)
  · obtain ⟨G, x, y, d, rfl, _⟩ := h
    rfl
  · obtain ⟨G, x, y, d, rfl, S, rx, ry, hf, k⟩ := h
    refine ⟨_, pss_cons (ps_if (pt_val (pe_callB call_isiT (by rfl) T.b_isinstance (by decide +kernel) (pa_cons (pv 1) (pa_cons (pe_tup (pa_cons (pe_bltn (v := .ty "list") (by rfl) T.b_list (by decide +kernel) rfl) (pa_cons (pe_bltn (v := .ty "tuple") (by rfl) T.b_tuple (by decide +kernel) rfl) pa_nil))) pa_nil)))) (pss_cons (ps_if (PW.pt (pw_or (pt_cmpR op_ne (pe_callB call_isi (by rfl) T.b_isinstance (by decide +kernel) (pa_cons (pv 0) (pa_cons (pe_bltn (v := .ty "list") (by rfl) T.b_list (by decide +kernel) rfl) pa_nil))) (pe_callB call_isi (by rfl) T.b_isinstance (by decide +kernel) (pa_cons (pv 1) (pa_cons (pe_bltn (v := .ty "list") (by rfl) T.b_list (by decide +kernel) rfl) pa_nil))) (nomark _)) (pw_or1 (pt_cmpR op_ne (pe_callB call_isi (by rfl) T.b_isinstance (by decide +kernel) (pa_cons (pv 0) (pa_cons (pe_bltn (v := .ty "tuple") (by rfl) T.b_tuple (by decide +kernel) rfl) pa_nil))) (pe_callB call_isi (by rfl) T.b_isinstance (by decide +kernel) (pa_cons (pv 1) (pa_cons (pe_bltn (v := .ty "tuple") (by rfl) T.b_tuple (by decide +kernel) rfl) pa_nil))) (nomark _))))) (pss_one (ps_ret (pe_bl))) (pss_nil))
      (pss_one (ps_ret (pe_and (pe_cmpR op_eq (pe_callB (call_len_seqK K) (by rfl) T.b_len (by decide +kernel) (pa_cons (pv 0) pa_nil)) (pe_callB (call_len_seqK K) (by rfl) T.b_len (by decide +kernel) (pa_cons (pv 1) pa_nil)) (nomark _)) (pe_one (pe_callB (cr_allK K rfl) (by rfl) T.b_all (by decide +kernel) (pa_cons (pe_lc (own := [("_law_mine", 2), ("_law_its", 3)]) (g := _) rfl sc_same.nd (RZ.pi_zipA rfl T.b_zip (pa_cons (pv 0) (pa_cons (pv 1) pa_nil))) (blkOk_by (own := [("_law_mine", 2), ("_law_its", 3)]) (N := N_same) (sc := defScope s_same) (by decide +kernel)) (fun _ _ _ _ _ => pg_tupK K 2 rfl (pgs_cons (pg_name (i := 2) sc_same.nd rfl (Or.inl rfl)) (pgs_cons (pg_name (i := 3) sc_same.nd rfl (Or.inl rfl)) pgs_nil))) (fun _ _ _ _ _ => pts_nil) (fun _ _ _ _ _ => by exact pe_call GR (hr.mono (by omega)) rfl T.same.g T.same.F.kp T.same.b .nil pass0 (pa_cons (pv 2) (pa_cons (pv 3) pa_nil)))) pa_nil))))))) (pss_nil))
      (pss_cons (ps_if (pt_val (pe_callB call_isi (by rfl) T.b_isinstance (by decide +kernel) (pa_cons (pv 1) (pa_cons (pe_bltn (v := .ty "dict") (by rfl) T.b_dict (by decide +kernel) rfl) pa_nil)))) (pss_cons (ps_never)
      (pss_one (ps_never))) (pss_nil))
      (pss_cons (ps_if (PW.pt (pw_or (pt_cmpR op_isN (pv 1) (pe_non) (nomark _)) (pw_or1 (pt_val (pe_callB call_isiT (by rfl) T.b_isinstance (by decide +kernel) (pa_cons (pv 1) (pa_cons (pe_tup (pa_cons (pe_bltn (v := .ty "bool") (by rfl) T.b_bool (by decide +kernel) rfl) (pa_cons (pe_bltn (v := .ty "str") (by rfl) T.b_str (by decide +kernel) rfl) pa_nil))) pa_nil))))))) (pss_one (ps_ret (pe_and (pe_cmpR op_eq (pv 0) (pv 1) (nomark _)) (pe_and (pe_cmpR op_eq (pe_callB call_isi (by rfl) T.b_isinstance (by decide +kernel) (pa_cons (pv 0) (pa_cons (pe_bltn (v := .ty "bool") (by rfl) T.b_bool (by decide +kernel) rfl) pa_nil))) (pe_callB call_isi (by rfl) T.b_isinstance (by decide +kernel) (pa_cons (pv 1) (pa_cons (pe_bltn (v := .ty "bool") (by rfl) T.b_bool (by decide +kernel) rfl) pa_nil))) (nomark _)) (pe_one (pe_cmpR op_eq (pe_cmpR op_isN (pv 0) (pe_non) (nomark _)) (pe_cmpR op_isN (pv 1) (pe_non) (nomark _)) (nomark _))))))) (pss_nil))
      (pss_one (ps_ret (pe_and (pe_callB call_isi (by rfl) T.b_isinstance (by decide +kernel) (pa_cons (pv 0) (pa_cons (pe_bltn (v := .ty "int") (by rfl) T.b_int (by decide +kernel) rfl) pa_nil))) (pe_and (pe_not (pe_callB call_isi (by rfl) T.b_isinstance (by decide +kernel) (pa_cons (pv 0) (pa_cons (pe_bltn (v := .ty "bool") (by rfl) T.b_bool (by decide +kernel) rfl) pa_nil)))) (pe_one (pe_cmpR op_eq (pv 0) (pv 1) (nomark _))))))))), ?_⟩
    refine ⟨_, rfl, sz rfl, fun t ht => ?_⟩
    generalize e1 : upd H t _ = H1
    obtain ⟨x1, g1, h1⟩ := ex_hid (M := No) S ht e1
    have t1 := ty_of (K := K) rx x1.s
    have t2 := ty_of (K := K) ry x1.s
    have fin : ∀ H', Ex No G H1 G H' → Q (.bl true) H' := fun H' x2 => k H' (x1.trans x2)
    have p1 : Paired ClsV [V.ty "list", V.ty "tuple"] [.type "list", .type "tuple"] := .cons (.ty _) (.cons (.ty _) .nil)
    have p2 : Paired ClsV [V.ty "bool", V.ty "str"] [.type "bool", .type "str"] := .cons (.ty _) (.cons (.ty _) .nil)
    rcases hf with hf | ⟨ds, hd, hl, hF⟩
    · rcases hf with rfl | ⟨b, rfl⟩ | ⟨i, rfl⟩ | ⟨z, rfl⟩
      · cases rx; cases ry
        refine ⟨_, t, _, _, _, _, rfl, h1, p1, t2, kit2 (r1 := false) (r2 := false) (by decide +kernel) (by decide +kernel), _, rfl, ifF rfl ?_⟩
        refine ⟨_, rfl, _, _, _, _, _, rfl, .ty _, t2, kit_ty (r := false) (by decide +kernel), _, rfl, ifF rfl ?_⟩
        refine ⟨_, rfl, rfl, _, rfl, ifT rfl (ifT rfl ?_)⟩
        refine ⟨_, rfl, _, rfl, rfl, _, rfl, ifT (decide_eq_true rfl) ?_⟩
        refine ⟨_, rfl, _, _, _, _, _, rfl, .ty _, t1, kit_ty (r := false) (by decide +kernel), _, rfl, _, _, _, _, _, rfl, .ty _, t2, kit_ty (r := false) (by decide +kernel), rfl, _, rfl, ifT rfl ?_⟩
        refine ⟨_, rfl, rfl, _, rfl, rfl, rfl, ?_⟩
        exact fin _ (Ex.refl x1.s)
      · cases rx; cases ry
        change TyX K H1 _ (.type "bool") at t1 t2
        refine ⟨_, t, _, _, _, _, rfl, h1, p1, t2, kit2 (r1 := false) (r2 := false) (by decide +kernel) (by decide +kernel), _, rfl, ifF rfl ?_⟩
        refine ⟨_, rfl, _, _, _, _, _, rfl, .ty _, t2, kit_ty (r := false) (by decide +kernel), _, rfl, ifF rfl ?_⟩
        refine ⟨_, rfl, rfl, _, rfl, ifF rfl ⟨_, rfl, sz rfl, fun t' ht' => ?_⟩⟩
        generalize e2 : upd H1 t' _ = H2
        obtain ⟨x2, g2, h2⟩ := ex_hid (M := No) x1.s ht' e2
        have t1 : TyX K H2 (.bl b) (.type "bool") := ty_of (K := K) (Rp.bl (G := G) _) x2.s
        refine ⟨_, t', _, _, _, _, rfl, h2, p2, t1, kit2 (r1 := true) (r2 := false) (by decide +kernel) (by decide +kernel), _, rfl, ifT rfl ?_⟩
        refine ⟨_, rfl, _, rfl, rfl, _, rfl, ifT (decide_eq_true rfl) ?_⟩
        refine ⟨_, rfl, _, _, _, _, _, rfl, .ty _, t1, kit_ty (r := true) (by decide +kernel), _, rfl, _, _, _, _, _, rfl, .ty _, t1, kit_ty (r := true) (by decide +kernel), rfl, _, rfl, ifT rfl ?_⟩
        refine ⟨_, rfl, rfl, _, rfl, rfl, rfl, ?_⟩
        exact fin _ x2
      · cases rx; cases ry
        change TyX K H1 _ (.type "int") at t1 t2
        refine ⟨_, t, _, _, _, _, rfl, h1, p1, t2, kit2 (r1 := false) (r2 := false) (by decide +kernel) (by decide +kernel), _, rfl, ifF rfl ?_⟩
        refine ⟨_, rfl, _, _, _, _, _, rfl, .ty _, t2, kit_ty (r := false) (by decide +kernel), _, rfl, ifF rfl ?_⟩
        refine ⟨_, rfl, rfl, _, rfl, ifF rfl ⟨_, rfl, sz rfl, fun t' ht' => ?_⟩⟩
        generalize e2 : upd H1 t' _ = H2
        obtain ⟨x2, g2, h2⟩ := ex_hid (M := No) x1.s ht' e2
        have t1 : TyX K H2 (.int i) (.type "int") := ty_of (K := K) (Rp.int (G := G) i) x2.s
        refine ⟨_, t', _, _, _, _, rfl, h2, p2, t1, kit2 (r1 := false) (r2 := false) (by decide +kernel) (by decide +kernel), _, rfl, ifF rfl ?_⟩
        refine ⟨_, rfl, _, _, _, _, _, rfl, .ty _, t1, kit_ty (r := true) (by decide +kernel), _, rfl, ifT rfl ?_⟩
        refine ⟨_, rfl, _, _, _, _, _, rfl, .ty _, t1, kit_ty (r := false) (by decide +kernel), _, rfl, _, rfl, ifT rfl ?_⟩
        refine ⟨_, rfl, _, rfl, rfl, ?_⟩
        rw [decide_eq_true rfl]
        exact fin _ x2
      · cases rx; cases ry
        change TyX K H1 _ (.type "str") at t1 t2
        refine ⟨_, t, _, _, _, _, rfl, h1, p1, t2, kit2 (r1 := false) (r2 := false) (by decide +kernel) (by decide +kernel), _, rfl, ifF rfl ?_⟩
        refine ⟨_, rfl, _, _, _, _, _, rfl, .ty _, t2, kit_ty (r := false) (by decide +kernel), _, rfl, ifF rfl ?_⟩
        refine ⟨_, rfl, rfl, _, rfl, ifF rfl ⟨_, rfl, sz rfl, fun t' ht' => ?_⟩⟩
        generalize e2 : upd H1 t' _ = H2
        obtain ⟨x2, g2, h2⟩ := ex_hid (M := No) x1.s ht' e2
        have t1 : TyX K H2 (.str z) (.type "str") := ty_of (K := K) (Rp.str (G := G) _) x2.s
        refine ⟨_, t', _, _, _, _, rfl, h2, p2, t1, kit2 (r1 := false) (r2 := true) (by decide +kernel) (by decide +kernel), _, rfl, ifT rfl ?_⟩
        refine ⟨_, rfl, _, rfl, rfl, _, rfl, ifT (decide_eq_true rfl) ?_⟩
        refine ⟨_, rfl, _, _, _, _, _, rfl, .ty _, t1, kit_ty (r := false) (by decide +kernel), _, rfl, _, _, _, _, _, rfl, .ty _, t1, kit_ty (r := false) (by decide +kernel), rfl, _, rfl, ifT rfl ?_⟩
        refine ⟨_, rfl, rfl, _, rfl, rfl, rfl, ?_⟩
        exact fin _ x2
    · rcases hd with rfl | rfl
      · obtain ⟨a, xs, rfl, ga, ra⟩ := of_lst rx
        obtain ⟨b, ys, rfl, gb, rb⟩ := of_lst ry
        change TyX K H1 _ (.type "list") at t1 t2
        have la := ra.length
        have lb := rb.length
        have sa := SqL.of (K := K) (x1.s _ _ ga)
        have sb := SqL.of (K := K) (x1.s _ _ gb)
        refine ⟨_, t, _, _, _, _, rfl, h1, p1, t2, kit2 (r1 := true) (r2 := false) (by decide +kernel) (by decide +kernel), _, rfl, ifT rfl ?_⟩
        refine ⟨_, rfl, _, _, _, _, _, rfl, .ty _, t1, kit_ty (r := true) (by decide +kernel), _, rfl, _, _, _, _, _, rfl, .ty _, t2, kit_ty (r := true) (by decide +kernel), rfl, _, rfl, ifF rfl ?_⟩
        refine ⟨_, rfl, _, _, _, _, _, rfl, .ty _, t1, kit_ty (r := false) (by decide +kernel), _, rfl, _, _, _, _, _, rfl, .ty _, t2, kit_ty (r := false) (by decide +kernel), rfl, _, rfl, ifF rfl ?_⟩
        refine ⟨_, rfl, a, _, rfl, .inl sa, _, rfl, b, _, rfl, .inl sb, rfl, _, rfl, ifT (decide_eq_true (by rw [la, lb])) ?_⟩
        refine ⟨_, rfl, _, rfl, a, b, xs, ys, rfl, .inl ⟨sa, sb, fun D hD => ?_⟩⟩
        have gD : G D = none := x1.s.free hD
        refine lc_it (walk_zip (K := K) (a := a) (b := b) (xs := xs) (ys := ys) (n := ds.length) (by omega)) (fun i H' => Ex No G H1 G H' ∧ H' D = some (.lst (List.replicate i (.bl true)))) ⟨Ex.hid x1.s hD, upd_same⟩
          (fun i H' _ h => ⟨SqL.of (h.1.s _ _ ga), SqL.of (h.1.s _ _ gb)⟩) ?_ ?_
        · rintro i y Ha Hb hi ⟨xa, hDa⟩ ⟨tt, u, v, rfl, htt, rfl, hu, hv⟩
          generalize e3 : upd Ha tt _ = H3
          obtain ⟨x3, g3, h3⟩ := ex_hid (M := No) xa.s htt e3
          obtain ⟨d, hd, r1⟩ := ra.get hu
          obtain ⟨d', hd', r2⟩ := rb.get hv
          rw [hd] at hd'
          cases hd'
          refine ⟨tt, _, rfl, SqT.of h3, rfl, _, _, rfl, _, _, rfl, rfl, rfl, _, rfl, _, rfl, G, u, v, d, rfl, x3.s, r1, r2, hF d (List.mem_of_getElem? hd), fun H4 x4 => ?_⟩
          have x14 := xa.trans (x3.trans x4)
          have hD4 : H4 D = some (.lst (List.replicate i (.bl true))) := x4.same _ _ (x3.same _ _ hDa)
          refine ⟨_, hD4, szl (by rw [List.length_replicate]; omega), x14.put gD (.inr hD) (by rw [hD4]; simp), ?_⟩
          rw [upd_same, List.replicate_succ']
        · rintro H' ⟨xa, hDa⟩
          refine ⟨D, List.replicate ds.length true, rfl, SqL.of (by rw [hDa, List.map_replicate]), ?_⟩
          have e : (List.replicate ds.length true).all id = true := by simp
          rw [e]
          exact fin _ xa
      · obtain ⟨a, xs, rfl, ga, ra⟩ := of_tup rx
        obtain ⟨b, ys, rfl, gb, rb⟩ := of_tup ry
        change TyX K H1 _ (.type "tuple") at t1 t2
        have la := ra.length
        have lb := rb.length
        have sa := SqT.of (K := K) (x1.s _ _ ga)
        have sb := SqT.of (K := K) (x1.s _ _ gb)
        refine ⟨_, t, _, _, _, _, rfl, h1, p1, t2, kit2 (r1 := false) (r2 := true) (by decide +kernel) (by decide +kernel), _, rfl, ifT rfl ?_⟩
        refine ⟨_, rfl, _, _, _, _, _, rfl, .ty _, t1, kit_ty (r := false) (by decide +kernel), _, rfl, _, _, _, _, _, rfl, .ty _, t2, kit_ty (r := false) (by decide +kernel), rfl, _, rfl, ifF rfl ?_⟩
        refine ⟨_, rfl, _, _, _, _, _, rfl, .ty _, t1, kit_ty (r := true) (by decide +kernel), _, rfl, _, _, _, _, _, rfl, .ty _, t2, kit_ty (r := true) (by decide +kernel), rfl, _, rfl, ifF rfl ?_⟩
        refine ⟨_, rfl, a, _, rfl, .inr sa, _, rfl, b, _, rfl, .inr sb, rfl, _, rfl, ifT (decide_eq_true (by rw [la, lb])) ?_⟩
        refine ⟨_, rfl, _, rfl, a, b, xs, ys, rfl, .inr ⟨sa, sb, fun D hD => ?_⟩⟩
        have gD : G D = none := x1.s.free hD
        refine lc_it (walk_zipT (K := K) (a := a) (b := b) (xs := xs) (ys := ys) (n := ds.length) (by omega)) (fun i H' => Ex No G H1 G H' ∧ H' D = some (.lst (List.replicate i (.bl true)))) ⟨Ex.hid x1.s hD, upd_same⟩
          (fun i H' _ h => ⟨SqT.of (h.1.s _ _ ga), SqT.of (h.1.s _ _ gb)⟩) ?_ ?_
        · rintro i y Ha Hb hi ⟨xa, hDa⟩ ⟨tt, u, v, rfl, htt, rfl, hu, hv⟩
          generalize e3 : upd Ha tt _ = H3
          obtain ⟨x3, g3, h3⟩ := ex_hid (M := No) xa.s htt e3
          obtain ⟨d, hd, r1⟩ := ra.get hu
          obtain ⟨d', hd', r2⟩ := rb.get hv
          rw [hd] at hd'
          cases hd'
          refine ⟨tt, _, rfl, SqT.of h3, rfl, _, _, rfl, _, _, rfl, rfl, rfl, _, rfl, _, rfl, G, u, v, d, rfl, x3.s, r1, r2, hF d (List.mem_of_getElem? hd), fun H4 x4 => ?_⟩
          have x14 := xa.trans (x3.trans x4)
          have hD4 : H4 D = some (.lst (List.replicate i (.bl true))) := x4.same _ _ (x3.same _ _ hDa)
          refine ⟨_, hD4, szl (by rw [List.length_replicate]; omega), x14.put gD (.inr hD) (by rw [hD4]; simp), ?_⟩
          rw [upd_same, List.replicate_succ']
        · rintro H' ⟨xa, hDa⟩
          refine ⟨D, List.replicate ds.length true, rfl, SqL.of (by rw [hDa, List.map_replicate]), ?_⟩
          have e : (List.replicate ds.length true).all id = true := by simp
          rw [e]
          exact fin _ xa
theorem same_all (T : Txt K mg A) : ∀ n, FnOk P w K mg base CX0 (2 * n) A.same A.same' ["_law_got", "_law_due"] (spSame (Fit n))
  | 0 => ⟨fun _ _ _ _ h => by obtain ⟨_, _, _, _, _, _, _, _, h, _⟩ := h; exact h.elim, fun _ _ _ _ _ _ _ _ _ _ _ _ _ h => by obtain ⟨_, _, _, _, _, _, _, _, h, _⟩ := h; exact h.elim⟩
  | n + 1 => same_step T (same_all T n)
theorem ok_same (T : Txt K mg A) : FnOk P w K mg base CX0 14 A.same A.same' ["_law_got", "_law_due"] (spSame (Fit 7)) := same_all T 7

end
end LW

namespace LW
open PySem L2 Kt LM DO
section
variable {P : Program} {w : World} {K : PySem.W.Frag} {mg : Str → Option Value} {base : Heap} {A : Ads}
def spByHand : Sp := fun vs H Q _ => ∃ (G : Hp) (l : Addr) (ns : List Str), vs = [.ref l] ∧ Same G H ∧ G l = some (.lst (ns.map V.str)) ∧ ns.length = 2 ∧ ns.Nodup ∧ ∀ G' H', Ex No G H G' H' → Q (.bl true) H'
abbrev handed : List (Int × Int) := [(10 ^ Int.toNat 39 + 7, 10 ^ Int.toNat 19 + 1), (10 ^ Int.toNat 39 - 1, 10 ^ Int.toNat 13), (10 ^ Int.toNat 17 - 1, 10 ^ Int.toNat 17)]
theorem handed_ok : ∀ p ∈ handed, 0 < p.1 ∧ 0 < p.2 ∧ p.1.natAbs < 2 ^ 200 ∧ p.2.natAbs < 2 ^ 200 := by decide +kernel
theorem ok_by_hand_right (T : Txt K mg A) : FnOk P w K mg base CX0 16 A.by_hand_right A.by_hand_right' ["_law_names_here"] spByHand := by
  refine T.by_hand_right.F.ok sc_by_hand_right (fun vs H Q E h => ?_) (fun cdv Ar outer s H vs Q E hr h => ?_)
  · obtain ⟨G, l, ns, rfl, _⟩ := h
    rfl
  · obtain ⟨G, l, ns, rfl, S, hl, hn2, hnd, k⟩ := h
    refine ⟨_, pss_cons (ps_for PassesOwn.never rfl (pi_listK K (pe_lst (pa_cons (pe_tup (pa_cons (pe_op op_add (pe_op op_pow (pe_int) (pe_int)) (pe_int)) (pa_cons (pe_op op_add (pe_op op_pow (pe_int) (pe_int)) (pe_int)) pa_nil))) (pa_cons (pe_tup (pa_cons (pe_op op_sub (pe_op op_pow (pe_int) (pe_int)) (pe_int)) (pa_cons (pe_op op_pow (pe_int) (pe_int)) pa_nil))) (pa_cons (pe_tup (pa_cons (pe_op op_sub (pe_op op_pow (pe_int) (pe_int)) (pe_int)) (pa_cons (pe_op op_pow (pe_int) (pe_int)) pa_nil))) pa_nil))))) (pg_tupK K 2 rfl (pgs_cons (pg_name (i := 1) sc_by_hand_right.nd rfl (Or.inl rfl)) (pgs_cons (pg_name (i := 2) sc_by_hand_right.nd rfl (Or.inl rfl)) pgs_nil)))
        (pss_cons (ps_par (i := 3) (j := 4) rfl sc_by_hand_right.nd rfl rfl (by decide) rfl rfl (pa_cons (pe_make (T.Lot_init.mk_ T.Lot) (ok_Lot_init T) (hr.mono (by decide)) rfl T.Lot.g T.Lot_init.b .nil pass0 (pa_cons (pe_lst (pa_cons (pe_tup (pa_cons (pe_ix (ix_listK K) (pv 0) (pe_int) (fun _ _ => rfl)) (pa_cons (pv 1) pa_nil))) (pa_cons (pe_tup (pa_cons (pe_ix (ix_listK K) (pv 0) (pe_int) (fun _ _ => rfl)) (pa_cons (pe_op op_pow (pe_int) (pe_int)) pa_nil))) pa_nil))) pa_nil)) (pa_cons (pe_make (T.Lot_init.mk_ T.Lot) (ok_Lot_init T) (hr.mono (by decide)) rfl T.Lot.g T.Lot_init.b .nil pass0 (pa_cons (pe_lst (pa_cons (pe_tup (pa_cons (pe_ix (ix_listK K) (pv 0) (pe_int) (fun _ _ => rfl)) (pa_cons (pv 2) pa_nil))) pa_nil)) pa_nil)) pa_nil)) (by rfl))
      (pss_cons (ps_set (i := 5) sc_by_hand_right.nd rfl (Or.inl rfl) (pe_lst (pa_cons (pe_op (OO.op_own (ok_Lot_floordiv T) (hr.mono (by decide)) T.Lot_floordiv.b passL T.Lot.sf T.Lot_floordiv.own) (pv 3) (pv 4)) (pa_cons (OO.pe_ixO (ok_Lot_getitem T) (hr.mono (by decide)) T.Lot_getitem.b pass0 T.Lot_getitem.own T.Lot_getitem.fin (pe_op (OO.op_own (ok_Lot_mod T) (hr.mono (by decide)) T.Lot_mod.b passL T.Lot.sf T.Lot_mod.own) (pv 3) (pv 4)) (pe_ix (ix_listK K) (pv 0) (pe_int) (fun _ _ => rfl))) (pa_cons (pe_op (OO.op_own (ok_Lot_floordiv T) (hr.mono (by decide)) T.Lot_floordiv.b passL T.Lot.sf T.Lot_floordiv.own) (pe_op (OO.op_ownI (ok_Lot_mul T) (hr.mono (by decide)) T.Lot_mul.b pass0 T.Lot.sf T.Lot_mul_I) (pv 4) (pe_op op_pow (pe_int) (pe_int))) (pv 4)) pa_nil)))))
      (pss_one (ps_if (pt_not (pt_val (pe_call (ok_same T) (hr.mono (by decide)) rfl T.same.g T.same.F.kp T.same.b .nil pass0 (pa_cons (pv 5) (pa_cons (pe_lst (pa_cons (pe_op op_fdivW (pv 1) (pv 2)) (pa_cons (pe_op op_sub (pv 1) (pe_op op_mulW (pv 2) (pe_op op_fdivW (pv 1) (pv 2)))) (pa_cons (pe_op op_pow (pe_int) (pe_int)) pa_nil)))) pa_nil))))) (pss_one (ps_ret (pe_bl))) (pss_nil))))))
      (pss_one (ps_ret (pe_bl))), ?_⟩
    obtain ⟨na, nb, rfl⟩ : ∃ a b, ns = [a, b] := by
      match ns, hn2 with
      | [a, b], _ => exact ⟨_, _, rfl⟩
    have hab : na ≠ nb := by
      rintro rfl
      simp at hnd
    have cp : ∀ {i j : Int}, (decide (0 ≤ j) && decide (j ≤ 1000000) && decide (i.natAbs < 2 ^ 64)) = true → CPow i j := fun h => by
      simp only [Bool.and_eq_true, decide_eq_true_eq] at h
      exact ⟨h.1.1, h.1.2, h.2⟩
    refine ⟨_, _, rfl, rfl, cp rfl, _, _, rfl, rfl, _, _, rfl, rfl, cp rfl, _, _, rfl, rfl, sz rfl, fun t1 h1 => ?_⟩
    generalize e1 : upd H t1 _ = H1
    obtain ⟨G1, x1, g1⟩ := ex_new (M := No) S h1 e1
    refine ⟨_, _, rfl, rfl, cp rfl, _, _, rfl, rfl, _, _, rfl, rfl, cp rfl, sz rfl, fun t2 h2 => ?_⟩
    generalize e2 : upd H1 t2 _ = H2
    obtain ⟨G2, x2, g2⟩ := ex_new (M := No) x1.s h2 e2
    refine ⟨_, _, rfl, rfl, cp rfl, _, _, rfl, rfl, _, _, rfl, rfl, cp rfl, sz rfl, fun t3 h3 => ?_⟩
    generalize e3 : upd H2 t3 _ = H3
    obtain ⟨G3, x3, g3⟩ := ex_new (M := No) x2.s h3 e3
    refine ⟨sz rfl, fun q h4 => ?_⟩
    generalize e4 : upd H3 q _ = H4
    obtain ⟨G4, x4, g4⟩ := ex_new (M := No) x3.s h4 e4
    have rs : RpA G4 [.ref t1, .ref t2, .ref t3] (handed.map fun p => .tuple [.int p.1, .int p.2]) :=
      .cons (.tup (x4.g _ _ (x3.g _ _ (x2.g _ _ g1))) (.cons (.int _) (.cons (.int _) .nil))) (.cons (.tup (x4.g _ _ (x3.g _ _ g2)) (.cons (.int _) (.cons (.int _) .nil))) (.cons (.tup (x4.g _ _ g3) (.cons (.int _) (.cons (.int _) .nil))) .nil))
    have x04 := x1.trans (x2.trans (x3.trans x4))
    have hl4 := x04.g _ _ hl
    refine ⟨q, rfl, ⟨_, SqL.of (x4.s _ _ g4)⟩, ?_⟩
    refine for_it (walk_list (K := K) (a := q)) (fun i σ H' => ∃ (G' : Hp) (v1 v2 v3 v4 v5 : Option V), σ = [some (.ref l), v1, v2, v3, v4, v5] ∧ Ex No G4 H4 G' H') ⟨G4, _, _, _, _, _, rfl, Ex.refl x4.s⟩
      (fun i σ H' _ h => by obtain ⟨G', _, _, _, _, _, _, x⟩ := h; exact SqL.of (x.s _ _ (x.g _ _ g4))) ?_ ?_
    · rintro i y σ Ha Hb hi ⟨G', v1, v2, v3, v4, v5, rfl, xa⟩ ⟨rfl, hy⟩
      obtain ⟨d, hd, hr1⟩ := rs.get hy
      obtain ⟨⟨mi, it⟩, hp, rfl⟩ := map_at hd
      obtain ⟨hm0, hi0, hmb, hib⟩ := handed_ok _ (List.mem_of_getElem? hp)
      dsimp only at hm0 hi0 hmb hib
      obtain ⟨tt, w1, w2, rfl, htt, r1, r2⟩ := of_tup2 hr1
      cases of_int r1
      cases of_int r2
      have hlb := xa.g _ _ hl4
      refine ⟨tt, _, rfl, SqT.of (xa.s _ _ (xa.g _ _ htt)), rfl, _, _, rfl, _, _, rfl, rfl, ?_⟩
      -- one
      refine ⟨_, rfl, l, _, _, _, rfl, rfl, SqL.of (xa.s _ _ hlb), rfl, _, rfl, sz rfl, fun t5 h5 => ?_⟩
      generalize e5 : upd Hb t5 _ = H5
      obtain ⟨G5, x5, g5⟩ := ex_new (M := No) xa.s h5 e5
      have hl5 := x5.g _ _ hlb
      refine ⟨_, rfl, l, _, _, _, rfl, rfl, SqL.of (x5.s _ _ hl5), rfl, _, _, rfl, rfl, cp rfl, sz rfl, fun t6 h6 => ?_⟩
      generalize e6 : upd H5 t6 _ = H6
      obtain ⟨G6, x6, g6⟩ := ex_new (M := No) x5.s h6 e6
      refine ⟨sz rfl, fun t7 h7 => ?_⟩
      generalize e7 : upd H6 t7 _ = H7
      obtain ⟨G7, x7, g7⟩ := ex_new (M := No) x6.s h7 e7
      have g6 : G6 t6 = some (.tup [.str nb, .int (10 ^ Int.toNat 50)]) := g6
      have b50 : (0 : Int) < 10 ^ Int.toNat 50 ∧ ((10 : Int) ^ Int.toNat 50).natAbs < 2 ^ 200 := by decide +kernel
      have b30 : (0 : Int) < 10 ^ Int.toNat 30 ∧ ((10 : Int) ^ Int.toNat 30).natAbs < 2 ^ 200 := by decide +kernel
      generalize e50 : (10 : Int) ^ Int.toNat 50 = c50 at b50 g6
      generalize e30 : (10 : Int) ^ Int.toNat 30 = c30 at b30
      have nn1 : ∀ p ∈ [(na, mi), (nb, c50)], 0 ≤ p.2 := fun p hp => by
        rcases List.mem_cons.mp hp with rfl | hp
        · exact Int.le_of_lt hm0
        · rw [List.mem_singleton.mp hp]; exact Int.le_of_lt b50.1
      have nn2 : ∀ p ∈ [(na, it)], 0 ≤ p.2 := fun p hp => by
        rw [List.mem_singleton.mp hp]; exact Int.le_of_lt hi0
      intro one dX hX hdX hne
      refine make_lotX (ps := [(na, mi), (nb, c50)]) (Ks := [na, nb]) x7.s (.inr (.lst g7 (.cons (.tup (x7.g _ _ (x6.g _ _ g5)) (.cons (.str _) (.cons (.int _) .nil))) (.cons (.tup (x7.g _ _ g6) (.cons (.str _) (.cons (.int _) .nil))) .nil)))) nn1 (by simp) (fun p hp => ?_) (by simp) hX hdX hne fun G8 H8 x8 ho => ⟨rfl, ?_⟩
      · rcases List.mem_cons.mp hp with rfl | hp
        · simp
        · rw [List.mem_singleton.mp hp]; simp
      have hl8 := x8.g _ _ (x7.g _ _ (x6.g _ _ hl5))
      refine ⟨_, rfl, l, _, _, _, rfl, rfl, SqL.of (x8.s _ _ hl8), rfl, _, rfl, sz rfl, fun t9 h9 => ?_⟩
      generalize e9 : upd H8 t9 _ = H9
      obtain ⟨G9, x9, g9⟩ := ex_new (M := No) x8.s h9 e9
      refine ⟨sz rfl, fun t10 h10 => ?_⟩
      generalize e10 : upd H9 t10 _ = H10
      obtain ⟨G10, x10, g10⟩ := ex_new (M := No) x9.s h10 e10
      intro two dX hX hdX hne
      refine make_lotX (ps := [(na, it)]) (Ks := [na]) x10.s (.inr (.lst g10 (.cons (.tup (x10.g _ _ g9) (.cons (.str _) (.cons (.int _) .nil))) .nil))) nn2 (by simp) (fun p hp => by rw [List.mem_singleton.mp hp]; simp) (by simp) hX hdX hne fun G11 H11 x11 hw => ⟨rfl, ?_⟩
      -- got
      have ho11 := ho.mono ((x9.trans (x10.trans x11)).g)
      have ok1 := ho.ok
      have ok2 := hw.ok
      have l1 : ∀ k, lk (mkLot [(na, mi), (nb, c50)]) k = (if na = k then mi else 0) + ((if nb = k then c50 else 0) + 0) := fun k => lk_mk nn1 k
      have l2 : ∀ k, lk (mkLot [(na, it)]) k = (if na = k then it else 0) + 0 := fun k => lk_mk nn2 k
      have l1a : lk (mkLot [(na, mi), (nb, c50)]) na = mi := by rw [l1, if_pos rfl, if_neg hab.symm]; omega
      have l2a : lk (mkLot [(na, it)]) na = it := by rw [l2, if_pos rfl]; omega
      have m2 : ∀ p ∈ mkLot [(na, it)], p = (na, it) := fun p hp => one_mem hi0 hp
      have in2 : (na, it) ∈ mkLot [(na, it)] := by
        have := lk_pos_mem (m := mkLot [(na, it)]) (k := na) (by omega)
        rw [l2a] at this; exact this
      have big2 : ∀ p ∈ mkLot [(na, it)], p.2.natAbs < 2 ^ 400 := fun p hp => by
        rw [m2 p hp]; exact Nat.lt_trans hib (by decide)
      have big1 : ∀ p ∈ mkLot [(na, mi), (nb, c50)], p.2.natAbs < 2 ^ 400 := fun p hp => by
        have := ok1.lk_mem hp
        rw [l1] at this
        have h0 := ok1.pos p hp
        have k1 := hmb
        have k2 := b50.2
        have k3 : (2 : Nat) ^ 200 + 2 ^ 200 < 2 ^ 400 := by decide
        split at this <;> split at this <;> omega
      have ne2 : mkLot [(na, it)] ≠ [] := fun e => by rw [e] at in2; cases in2
      generalize mkLot [(na, mi), (nb, c50)] = m at *
      generalize mkLot [(na, it)] = n at *
      obtain ⟨dx, fs, k1⟩ := id ho11.ins
      obtain ⟨dy, gs, k2⟩ := id hw.ins
      refine ⟨_, _, rfl, _, rfl, _, rfl, one, two, dx, dy, _, _, rfl, rfl, x11.s _ _ k1, x11.s _ _ k2, G11, one, two, m, n, rfl, x11.s, ho11, hw, big2, (fun e => absurd e ne2), fun _ G12 H12 q1 x12 q1a q1b => ?_⟩
      have eq1 : q1 = mi / it := by
        obtain ⟨p, hp, e⟩ := q1a
        rw [m2 p hp] at e
        rw [e, l1a]
      have ho12 := ho11.mono x12.g
      have hw12 := hw.mono x12.g
      refine ⟨_, rfl, _, rfl, one, two, dx, dy, _, _, rfl, rfl, x12.s _ _ (x12.g _ _ k1), x12.s _ _ (x12.g _ _ k2), G12, one, two, m, n, rfl, x12.s, ho12, hw12, big2, big1, (fun e => absurd e ne2), fun _ q2 q2a q2b G13 H13 z x13 _ hz => ?_⟩
      have eq2 : q2 = mi / it := by
        obtain ⟨p, hp, e⟩ := q2a
        rw [m2 p hp] at e
        rw [e, l1a]
      have lz := mod_lk ok1 ok2 q2a q2b na
      rw [l1a, l2a, eq2] at lz
      obtain ⟨dz, hs, k3⟩ := id hz.ins
      have x813 := x9.trans (x10.trans (x11.trans (x12.trans x13)))
      refine ⟨_, rfl, l, _, _, _, rfl, rfl, SqL.of (x13.s _ _ (x813.g _ _ hl8)), rfl, z, dz, _, rfl, x13.s _ _ k3, G13, z, _, na, rfl, x13.s, hz, ?_⟩
      rw [eq2, lz]
      have hw13 := hw12.mono x13.g
      refine ⟨_, rfl, _, _, rfl, rfl, cp rfl, two, _, dy, _, rfl, rfl, x13.s _ _ (x13.g _ _ (x12.g _ _ k2)), G13, two, n, c30, ?_, x13.s, hw13, Int.le_of_lt b30.1, big2, Nat.lt_trans b30.2 (by decide), fun G14 H14 y x14 _ hy => ?_⟩
      · rw [← e30]
      have hw14 := hw13.mono x14.g
      obtain ⟨dv, vs, k4⟩ := id hy.ins
      refine ⟨_, rfl, y, two, dv, dy, _, _, rfl, rfl, x14.s _ _ k4, x14.s _ _ (x14.g _ _ (x13.g _ _ (x12.g _ _ k2))), G14, y, two, _, n, rfl, x14.s, hy, hw14, big2, (fun e => absurd e ne2), fun _ G15 H15 q3 x15 q3a q3b => ?_⟩
      have eq3 : q3 = c30 := by
        obtain ⟨p, hp, e⟩ := q3a
        rw [m2 p hp] at e
        rw [e, mul_lk ok2 (Int.le_of_lt b30.1), l2a]
        exact Int.mul_ediv_cancel_left _ (by show it ≠ 0; omega)
      rw [eq1, eq3]
      refine ⟨sz rfl, fun g h16 => ?_⟩
      generalize e16 : upd H15 g _ = H16
      obtain ⟨G16, x16, g16⟩ := ex_new (M := No) x15.s h16 e16
      -- due
      have hd : CDivW mi it := wide_div hi0 (b := 200) hib (by decide) (by decide)
      refine ⟨_, rfl, _, rfl, _, rfl, _, _, rfl, rfl, hd, _, rfl, _, rfl, _, rfl, _, rfl, _, _, rfl, rfl, hd, _, _, rfl, rfl, ?_, _, _, rfl, rfl, _, _, rfl, rfl, cp rfl, sz rfl, fun u h17 => ?_⟩
      · have h1 := Int.ediv_le_self (a := mi) it (Int.le_of_lt hm0)
        have h2 := Int.ediv_nonneg (Int.le_of_lt hm0) (Int.le_of_lt hi0)
        exact wide_mul (a := 200) (b := 200) hib (by show (mi / it).natAbs < 2 ^ 200; omega) (by decide) (by decide) (by decide)
      generalize e17 : upd H16 u _ = H17
      obtain ⟨G17, x17, g17⟩ := ex_new (M := No) x16.s h17 e17
      refine ⟨G17, .ref g, .ref u, .list [.int (mi / it), .int (mi - it * (mi / it)), .int c30], rfl, x17.s, .lst (x17.g _ _ g16) (.cons (.int _) (.cons (.int _) (.cons (.int _) .nil))), .lst g17 (.cons (.int _) (.cons (.int _) (.cons ?_ .nil))), fit_list (by simp) ?_, fun H18 x18 => ?_⟩
      · rw [← e30]; exact .int _
      · intro e he
        simp only [List.mem_cons, List.mem_nil_iff, or_false] at he
        rcases he with rfl | rfl | rfl <;> exact fit_int _
      refine ⟨_, rfl, ifF rfl ?_⟩
      exact ⟨G17, _, _, _, _, _, rfl, xa.trans (x5.trans (x6.trans (x7.trans (x8.trans (x813.trans (x14.trans (x15.trans (x16.trans (x17.trans x18)))))))))⟩
    · rintro σ Ha ⟨G', v1, v2, v3, v4, v5, rfl, xa⟩
      exact k _ _ (x04.trans xa)

end
end LW

namespace LW
open PySem L2 Kt LM DO
section
variable {P : Program} {w : World} {K : PySem.W.Frag} {mg : Str → Option Value} {base : Heap} {A : Ads}
theorem ok_take (T : Txt K mg A) : FnOk P w K mg base CX0 1 A.take A.take' ["_law_box_here", "_law_below"] spTake := by
  refine T.take.F.ok sc_take (fun vs H Q E h => ?_) (fun cdv Ar outer s H vs Q E hr h => ?_)
  · obtain ⟨G, p, m, c, rfl, _⟩ := h
    rfl
  · obtain ⟨G, p, m, c, rfl, S, hc1, hm, hm2, k⟩ := h
    obtain ⟨a, b, ha, hc, hp⟩ := S.b
    refine ⟨_, pss_cons (ps_if (pt_cmpR op_gt (pe_ix (ix_listK K) (pv 0) (pe_int) (fun _ _ => rfl)) (pe_int) (nomark _)) (pss_cons (ps_set (i := 2) sc_take.nd rfl (Or.inl rfl) (pe_op op_mod (pe_callTy call_int1 (by rfl) T.b_int (by decide +kernel) (pa_cons (pe_ix (ix_listK K) (pv 0) (pe_int) (fun _ _ => rfl)) pa_nil)) (pv 1)))
      (pss_cons (ps_asg (pe_op op_fdivW (pe_ix (ix_listK K) (pv 0) (pe_int) (fun _ _ => rfl)) (pv 1)) (pg_sub (pv 0) (pe_int) set_list))
      (pss_one (ps_ret (pv 2))))) (pss_nil))
      (pss_cons (ps_asg (pe_op op_add (pe_ix (ix_listK K) (pv 0) (pe_int) (fun _ _ => rfl)) (pe_int)) (pg_sub (pv 0) (pe_int) set_list))
      (pss_cons (ps_set (i := 3) sc_take.nd rfl (Or.inl rfl) (pe_op op_mod (pe_callTy call_int1 (by rfl) T.b_int (by decide +kernel) (pa_cons (pe_op op_mul (pe_op op_add (pe_ix (ix_listK K) (pv 0) (pe_int) (fun _ _ => rfl)) (pe_op op_mul (pe_int) (pe_ix (ix_listK K) (pv 0) (pe_int) (fun _ _ => rfl)))) (pe_op op_add (pe_int) (pe_ix (ix_listK K) (pv 0) (pe_int) (fun _ _ => rfl)))) pa_nil)) (pe_int)))
      (pss_cons (ps_set (i := 4) sc_take.nd rfl (Or.inl rfl) (pe_op op_add (pe_op op_mod (pe_callTy call_int1 (by rfl) T.b_int (by decide +kernel) (pa_cons (pv 3) pa_nil)) (pe_int)) (pe_int)))
      (pss_cons (ps_set (i := 5) sc_take.nd rfl (Or.inl rfl) (pe_op op_mod (pe_callTy call_int1 (by rfl) T.b_int (by decide +kernel) (pa_cons (pe_op op_mul (pe_op op_add (pe_op op_add (pv 3) (pe_ix (ix_listK K) (pv 0) (pe_int) (fun _ _ => rfl))) (pe_op op_fdivW (pe_ix (ix_listK K) (pv 0) (pe_int) (fun _ _ => rfl)) (pe_int))) (pv 4)) pa_nil)) (pe_int)))
      (pss_one (ps_ret (pe_op op_mod (pe_callTy call_int1 (by rfl) T.b_int (by decide +kernel) (pa_cons (pe_op op_fdivW (pe_op op_mod (pe_callTy call_int1 (by rfl) T.b_int (by decide +kernel) (pa_cons (pe_op op_add (pe_op op_mul (pv 5) (pe_int)) (pv 3)) pa_nil)) (pe_int)) (pe_int)) pa_nil)) (pv 1)))))))), ?_⟩
    refine ⟨_, rfl, p, _, _, _, rfl, rfl, SqL.of hp, rfl, _, _, rfl, rfl, _, rfl, ?_⟩
    refine ite2 (fun q => ?_) (fun q => ?_)
    · have ha0 : 0 < a := of_decide_eq_true q
      refine ⟨_, rfl, p, _, _, _, rfl, rfl, SqL.of hp, rfl, .inl ⟨_, rfl, _, rfl, _, _, rfl, rfl, hm, ?_⟩⟩
      refine ⟨_, rfl, p, _, _, _, rfl, rfl, SqL.of hp, rfl, _, rfl, _, _, rfl, rfl, div_ok hm hm2, ?_⟩
      refine ⟨_, rfl, p, _, _, _, rfl, rfl, hp, rfl, ?_⟩
      refine ⟨_, rfl, ?_⟩
      generalize e2 : upd H p _ = H2
      obtain ⟨x2, S2, _⟩ := sx_box S (Int.ediv_nonneg ha (Int.le_of_lt hm)) hc e2
      exact k _ _ c x2 S2 (by omega) (mod_in hm).1 (mod_in hm).2
    · refine ⟨_, rfl, p, _, _, _, rfl, rfl, SqL.of hp, rfl, _, _, rfl, rfl, ?_⟩
      refine ⟨_, rfl, p, _, _, _, rfl, rfl, hp, rfl, ?_⟩
      generalize e2 : upd H p _ = H2
      obtain ⟨x2, S2, hp2⟩ := sx_box (i := a) (j := b) (k := c + 1) S ha (by omega) e2
      refine ⟨_, rfl, p, _, _, _, rfl, rfl, SqL.of hp2, rfl, _, rfl, p, _, _, _, rfl, rfl, SqL.of hp2, rfl, _, _, rfl, rfl, .inl ⟨by decide, by decide⟩, _, _, rfl, rfl, ?_⟩
      refine ⟨_, rfl, p, _, _, _, rfl, rfl, SqL.of hp2, rfl, _, _, rfl, rfl, _, _, rfl, rfl, .inr ⟨by omega, by omega⟩, .inl ⟨_, rfl, _, _, rfl, rfl, p0 rfl, ?_⟩⟩
      refine ⟨_, rfl, .inl ⟨_, rfl, _, _, rfl, rfl, p0 rfl, _, _, rfl, rfl, ?_⟩⟩
      have z := mod_in (i := (b + 48271 * (c + 1)) * (39373 + (c + 1)) % 2147483647) (m := 40009) (by decide)
      refine ⟨_, rfl, _, rfl, p, _, _, _, rfl, rfl, SqL.of hp2, rfl, _, _, rfl, rfl, _, rfl, p, _, _, _, rfl, rfl, SqL.of hp2, rfl, _, _, rfl, rfl, div_ok (by decide) (by decide), _, _, rfl, rfl, ?_⟩
      refine ⟨_, rfl, _, _, rfl, rfl, .inr ⟨by omega, by omega⟩, .inl ⟨_, rfl, _, _, rfl, rfl, p0 rfl, ?_⟩⟩
      refine ⟨_, rfl, _, _, rfl, rfl, .inr ⟨by decide, by decide⟩, _, rfl, _, _, rfl, rfl, .inl ⟨_, rfl, _, _, rfl, rfl, p0 rfl, _, _, rfl, rfl, div_ok (by decide) (by decide), .inl ⟨_, rfl, _, rfl, _, _, rfl, rfl, hm, ?_⟩⟩⟩
      exact k _ _ _ x2 S2 (by omega) (mod_in hm).1 (mod_in hm).2

end
end LW

namespace LW
open PySem L2 Kt LM DO
section
variable {P : Program} {w : World} {K : PySem.W.Frag} {mg : Str → Option Value} {base : Heap} {A : Ads}
theorem ok_of (T : Txt K mg A) : FnOk P w K mg base CX0 3 A.of A.of' ["_law_box_here", "_law_some"] spOf := by
  refine T.of.F.ok sc_of (fun vs H Q E h => ?_) (fun cdv Ar outer s H vs Q E hr h => ?_)
  · obtain ⟨G, p, l, xs, c, rfl, _⟩ := h
    rfl
  · obtain ⟨G, p, l, xs, c, rfl, S, hc, hl, h0, h1, k⟩ := h
    refine ⟨_, pss_one (ps_ret (pe_ix (ix_listK K) (pv 1) (pe_call (ok_take T) (hr.mono (by decide)) rfl T.take.g T.take.F.kp T.take.b .nil pass0 (pa_cons (pv 0) (pa_cons (pe_callB (call_len_seqK K) (by rfl) T.b_len (by decide +kernel) (pa_cons (pv 1) pa_nil)) pa_nil))) (fun _ _ => rfl))), ?_⟩
    refine ⟨_, rfl, _, rfl, _, rfl, l, xs, rfl, .inl (SqL.of (S.s _ _ hl)), G, p, _, c, rfl, S, hc, by omega, by omega, fun H' r c' x S' hc' hr0 hr1 => ?_⟩
    obtain ⟨v, hv, hm⟩ := atI_in hr0 hr1
    exact ⟨l, xs, r, v, rfl, rfl, SqL.of (S'.s _ _ hl), hv, k H' v c' x S' hc' hm⟩

end
end LW

namespace LW
open PySem L2 Kt LM DO
section
variable {P : Program} {w : World} {K : PySem.W.Frag} {mg : Str → Option Value} {base : Heap} {A : Ads}
theorem ok_names (T : Txt K mg A) : FnOk P w K mg base CX0 5 A.names A.names' ["_law_box_here", "_law_some"] spNames := by
  refine T.names.F.ok sc_names (fun vs H Q E h => ?_) (fun cdv Ar outer s H vs Q E hr h => ?_)
  · obtain ⟨G, p, c, n, rfl, _⟩ := h
    rfl
  · obtain ⟨G, p, c, n, rfl, S, hc, hn, k⟩ := h
    refine ⟨_, pss_cons (ps_set (i := 2) sc_names.nd rfl (Or.inr rfl) (pe_str))
      (pss_cons (ps_set (i := 3) sc_names.nd rfl (Or.inl rfl) (pe_join (pe_str) (pe_lc (own := [("_law_k", 4)]) (g := (gName 4)) rfl sc_names.nd (pi_range1 rfl T.b_range (pa_cons (pe_int) pa_nil)) (blkOk_by (own := [("_law_k", 4)]) (N := N_names) (sc := defScope s_names) (by decide +kernel)) (fun _ _ _ _ _ => pg_name (i := 4) sc_names.nd rfl (Or.inl rfl)) (fun _ _ _ _ _ => pts_nil) (fun _ _ _ _ _ => by exact pe_ix ix_str (pv 2) (pe_call (ok_take T) (hr.mono (by decide)) rfl T.take.g T.take.F.kp T.take.b .nil pass0 (pa_cons (pv 0) (pa_cons (pe_int) pa_nil))) (fun _ _ => rfl)))))
      (pss_cons (ps_par3 (i := 5) (j := 6) (l := 7) rfl sc_names.nd rfl rfl rfl (by decide) (by decide) (by decide) rfl rfl rfl (pa_cons (pe_op op_add (pe_int) (pe_call (ok_take T) (hr.mono (by decide)) rfl T.take.g T.take.F.kp T.take.b .nil pass0 (pa_cons (pv 0) (pa_cons (pe_int) pa_nil)))) (pa_cons (pe_call (ok_take T) (hr.mono (by decide)) rfl T.take.g T.take.F.kp T.take.b .nil pass0 (pa_cons (pv 0) (pa_cons (pe_int) pa_nil))) (pa_cons (pe_call (ok_take T) (hr.mono (by decide)) rfl T.take.g T.take.F.kp T.take.b .nil pass0 (pa_cons (pv 0) (pa_cons (pe_int) pa_nil))) pa_nil))) (by rfl))
      (pss_cons (ps_set (i := 8) sc_names.nd rfl (Or.inl rfl) (pe_call (ok_take T) (hr.mono (by decide)) rfl T.take.g T.take.F.kp T.take.b .nil pass0 (pa_cons (pv 0) (pa_cons (pe_int) pa_nil))))
      (pss_cons (ps_set (i := 9) sc_names.nd rfl (Or.inl rfl) (pe_call (ok_of T) (hr.mono (by decide)) rfl T.of.g T.of.F.kp T.of.b .nil pass0 (pa_cons (pv 0) (pa_cons (pe_lst (pa_cons (pe_int) (pa_cons (pe_int) (pa_cons (pe_int) (pa_cons (pe_int) (pa_cons (pe_int) (pa_cons (pe_int) (pa_cons (pe_int) (pa_cons (pe_int) (pa_cons (pe_int) (pa_cons (pe_int) (pa_cons (pe_int) (pa_cons (pe_int) pa_nil))))))))))))) pa_nil))))
      (pss_cons (ps_set (i := 10) sc_names.nd rfl (Or.inl rfl) (pe_lst pa_nil))
      (pss_cons (ps_for PassesOwn.never rfl (pi_range1 rfl T.b_range (pa_cons (pv 1) pa_nil)) (pg_name (i := 4) sc_names.nd rfl (Or.inl rfl))
        (C8.pss_cut (ps_set (i := 11) sc_names.nd rfl (Or.inl rfl) (pe_ifExp (pt_cmpR op_eq (pv 7) (pe_int) (nomark _)) (pv 5) (pe_op op_add (pe_int) (pe_call (ok_take T) (hr.mono (by decide)) rfl T.take.g T.take.F.kp T.take.b .nil pass0 (pa_cons (pv 0) (pa_cons (pe_int) pa_nil))))))
      (pss_cons (ps_set (i := 12) sc_names.nd rfl (Or.inl rfl) (pe_slice sl_str (pv 3) po_none (po_some (pv 11))))
      (C8.pss_cut (ps_if (pt_cmpR op_gt (pv 7) (pe_int) (nomark _)) (pss_one (ps_set (i := 12) sc_names.nd rfl (Or.inl rfl) (pe_join (pe_str) (pe_lc (own := [("_law_turn", 13)]) (g := (gName 13)) rfl sc_names.nd (pi_range1 rfl T.b_range (pa_cons (pv 11) pa_nil)) (blkOk_by (own := [("_law_turn", 13)]) (N := N_names) (sc := defScope s_names) (by decide +kernel)) (fun _ _ _ _ _ => pg_name (i := 13) sc_names.nd rfl (Or.inl rfl)) (fun _ _ _ _ _ => pts_nil) (fun _ _ _ _ _ => by exact pe_ix ix_str (pv 2) (pe_call (ok_take T) (hr.mono (by decide)) rfl T.take.g T.take.F.kp T.take.b .nil pass0 (pa_cons (pv 0) (pa_cons (pe_int) pa_nil))) (fun _ _ => rfl)))))) (pss_nil))
      (pss_cons (ps_set (i := 14) sc_names.nd rfl (Or.inl rfl) (pe_op op_mod (pe_callTy call_int1 (by rfl) T.b_int (by decide +kernel) (pa_cons (pv 6) pa_nil)) (pv 11)))
      (pss_cons (ps_set (i := 15) sc_names.nd rfl (Or.inl rfl) (pe_ix ix_str (pv 2) (pe_op op_mod (pe_callTy call_int1 (by rfl) T.b_int (by decide +kernel) (pa_cons (pe_op op_add (pv 8) (pe_op op_mul (pv 9) (pv 4))) pa_nil)) (pe_int)) (fun _ _ => rfl)))
      (pss_one (ps_expr (pe_bmK K PySem.F.plainAttrs_list PySem.F.slot_list_append PySem.F.type_list_append mt_append (pv 10) (pa_cons (pe_op op_add_str (pe_op op_add_str (pe_slice sl_str (pv 12) po_none (po_some (pv 14))) (pv 15)) (pe_slice sl_str (pv 12) (po_some (pe_op op_add (pv 14) (pe_int))) po_none)) pa_nil))))))))))
      (pss_one (ps_ret (pv 10))))))))), ?_⟩
    -- base
    refine ⟨⟨_, rfl⟩, _, rfl, by decide, by decide, fun D hD => ?_⟩
    have gD : G D = none := S.s.free hD
    have nDp : D ≠ p := S.ne' hD
    refine lc_range (lo := 0) (n := 8) (fun i H' => ∃ (cs : List Nat) (c' : Int), Ex (On p) G H G H' ∧ Sx G H' p c' ∧ c' ≤ c + i ∧ H' D = some (.lst ((cs.map sgn).map V.str)) ∧ cs.length = i ∧ ∀ z ∈ cs, 97 ≤ z ∧ z ≤ 122)
      ⟨[], c, Ex.hid S.s hD, S.put gD nDp, by omega, upd_same, rfl, fun z hz => by cases hz⟩ ?_ ?_
    · rintro i Ha hi ⟨cs, c', x1, S1, hc1, hDa, hl, hlet⟩
      refine ⟨rfl, _, rfl, _, rfl, G, p, _, c', rfl, S1, by omega, by decide, by decide, fun H2 r c2 x2 S2 hc2 hr0 hr1 => ?_⟩
      refine ⟨_, _, _, rfl, rfl, letters_len, letter_at hr0 hr1, _, x2.h _ _ nDp hDa, szl (by rw [List.length_map, List.length_map]; omega), cs ++ [97 + r.toNat], c2, (x1.trans x2).put gD (.inr hD) (by rw [x2.h _ _ nDp hDa]; simp), S2.put gD nDp, by omega, ?_, by rw [List.length_append, hl]; rfl, fun z hz => ?_⟩
      · rw [upd_same, List.map_append, List.map_append]; rfl
      · rcases List.mem_append.mp hz with hz | hz
        · exact hlet z hz
        · rw [List.mem_singleton.mp hz]; omega
    rintro Ha ⟨bs, c1, x1, S1, hc1, hDa, hbl, hbs⟩
    refine ⟨_, D, bs.map sgn, rfl, rfl, .inl (SqL.of hDa), ?_, ?_⟩
    · have e : ((bs.map sgn).map (·.length)).sum = 8 := by
        rw [List.map_map]
        have : bs.map ((·.length) ∘ sgn) = List.replicate 8 1 := by
          rw [List.eq_replicate_iff]
          refine ⟨by rw [List.length_map]; exact hbl, fun z hz => ?_⟩
          obtain ⟨y, _, rfl⟩ := List.mem_map.mp hz
          rfl
        rw [this]; rfl
      rw [e, List.length_map]
      show 8 + bs.length * 0 ≤ 16777216
      omega
    have hbase := join_codes bs
    generalize Txt.join (Str.ofString "") (bs.map sgn) = base' at hbase ⊢
    -- far, place, near
    refine ⟨_, rfl, G, p, _, c1, rfl, S1, by omega, by decide, by decide, fun H2 far c2 x2 S2 hc2 hf0 hf1 => ?_⟩
    refine ⟨_, _, rfl, rfl, _, rfl, G, p, _, c2, rfl, S2, by omega, by decide, by decide, fun H3 place c3 x3 S3 hc3 hp0 hp1 => ?_⟩
    refine ⟨_, rfl, G, p, _, c3, rfl, S3, by omega, by decide, by decide, fun H4 near c4 x4 S4 hc4 hn0 hn1 => ?_⟩
    refine ⟨_, _, _, rfl, ?_⟩
    -- first
    refine ⟨_, rfl, G, p, _, c4, rfl, S4, by omega, by decide, by decide, fun H5 first c5 x5 S5 hc5 hs0 hs1 => ?_⟩
    -- step
    refine ⟨_, rfl, sz rfl, fun l6 h6 => ?_⟩
    generalize e6 : upd H5 l6 _ = H6
    obtain ⟨G6, x6, S6, g6⟩ := sx_new S5 h6 e6
    refine ⟨G6, p, l6, steps.map V.int, c5, rfl, S6, by omega, g6, by decide, by decide, fun H7 sv c7 x7 S7 hc7 hsv => ?_⟩
    obtain ⟨step, hstep, rfl⟩ := List.mem_map.mp hsv
    have hsb : 0 ≤ step ∧ step < 26 := (by decide : ∀ s ∈ steps, 0 ≤ s ∧ s < 26) step hstep
    -- done
    refine ⟨Nat.zero_le _, fun L hL => ?_⟩
    generalize e8 : upd H7 L _ = H8
    obtain ⟨x8, S8, gL, nLp, hL8⟩ := sx_hid S7 hL e8
    have x08 : Ex (On p) G H G6 H8 := x1.trans (x2.trans (x3.trans (x4.trans (x5.trans (x6.trans (x7.trans x8))))))
    have L0 : H L = none := (x1.trans (x2.trans (x3.trans (x4.trans (x5.trans (x6.trans x7)))))).f _ hL
    refine ⟨_, rfl, _, rfl, by omega, by omega, ?_⟩
    refine for_range (lo := 0) (n := ((n : Nat) : Int).toNat) (fun i σ H' => ∃ (v4 v11 v12 v13 v14 v15 : Option V) (ns : List Str) (c' : Int), σ = [some (.ref p), some (.int n), some (.str letters), some (.str base'), v4, some (.int (1 + far)), some (.int place), some (.int near), some (.int first), some (.int step), some (.ref L), v11, v12, v13, v14, v15] ∧
        Ex (On p) G H G6 H' ∧ Sx G6 H' p c' ∧ c' ≤ c + 20 + 10 * i ∧ H' L = some (.lst (ns.map V.str)) ∧ ns.length = i ∧ ∀ j x, ns[j]? = some x → Wd place first step j x)
      ⟨_, _, _, _, _, _, [], c7, rfl, x08, S8, by omega, hL8, rfl, fun j x h => by simp at h⟩ ?_ ?_
    · rintro i σ Ha hi ⟨v4, v11, v12, v13, v14, v15, ns, c', rfl, xa, Sa, hca, hLa, hnl, hW⟩
      rw [Int.toNat_natCast] at hi
      -- size
      refine ⟨fun σ' H' => ∃ (sz : Nat) (c2 : Int), σ' = [some (.ref p), some (.int n), some (.str letters), some (.str base'), some (.int (0 + i)), some (.int (1 + far)), some (.int place), some (.int near), some (.int first), some (.int step), some (.ref L), some (.int sz), v12, v13, v14, v15] ∧ 0 < sz ∧ sz ≤ 8 ∧ (near = 0 → (sz : Int) = 1 + far) ∧ Ex (On p) G H G6 H' ∧ Sx G6 H' p c2 ∧ c2 ≤ c' + 1 ∧ H' L = some (.lst (ns.map V.str)), ?_, ?_⟩
      · refine ⟨_, rfl, rfl, _, rfl, ?_⟩
        refine if2 (fun hz => ?_) (fun hz => ?_)
        · have hz0 : near = 0 := by have := of_decide_eq_true hz; injection this
          refine ⟨_, rfl, (1 + far).toNat, c', ?_, by omega, by omega, fun _ => by omega, xa, Sa, by omega, hLa⟩
          rw [show (((1 + far).toNat : Nat) : Int) = 1 + far by omega]
          rfl
        · refine ⟨_, rfl, G6, p, _, c', rfl, Sa, by omega, by decide, by decide, fun H2 r c2 x2 S2 hc2 hr0 hr1 => ?_⟩
          refine ⟨_, _, rfl, rfl, (1 + r).toNat, c2, ?_, by omega, by omega, fun h0 => absurd (decide_eq_true (congrArg V.int h0)) (by rw [hz]; simp), xa.trans x2, S2, by omega, x2.h _ _ nLp hLa⟩
          rw [show (((1 + r).toNat : Nat) : Int) = 1 + r by omega]
          rfl
      rintro σ' Hb ⟨sz', c2, rfl, hsz0, hsz8, hszf, xb, Sb, hc2, hLb⟩
      -- word
      refine ⟨_, rfl, _, rfl, _, rfl, _, rfl, ?_, ?_⟩
      · show base'.cps.size ≤ sizeLine
        rw [← Array.length_toList, hbase, hbl]
        decide
      have hw1 := (cutS_codes base' sz').1
      refine ⟨fun σ' H' => ∃ (wd : Str) (v13 : Option V) (c3 : Int), σ' = [some (.ref p), some (.int n), some (.str letters), some (.str base'), some (.int (0 + i)), some (.int (1 + far)), some (.int place), some (.int near), some (.int first), some (.int step), some (.ref L), some (.int sz'), some (.str wd), v13, v14, v15] ∧ wd.cps.toList.length = sz' ∧ (∀ z ∈ wd.cps.toList, 97 ≤ z ∧ z ≤ 122) ∧ Ex (On p) G H G6 H' ∧ Sx G6 H' p c3 ∧ c3 ≤ c' + 9 ∧ H' L = some (.lst (ns.map V.str)), ?_, ?_⟩
      · refine ⟨_, rfl, _, _, rfl, rfl, _, rfl, ?_⟩
        refine if2 (fun hz => ?_) (fun hz => ?_)
        · refine ⟨⟨_, rfl⟩, _, rfl, _, rfl, by omega, by omega, fun D2 hD2 => ?_⟩
          have gD2 : G6 D2 = none := Sb.s.free hD2
          have nDp2 : D2 ≠ p := Sb.ne' hD2
          have nDL : D2 ≠ L := (ne_of_none hLb hD2).symm
          refine lc_range (lo := 0) (n := ((sz' : Nat) : Int).toNat) (fun i H' => ∃ (cs : List Nat) (c' : Int), Ex (On p) G6 Hb G6 H' ∧ Sx G6 H' p c' ∧ c' ≤ c2 + i ∧ H' D2 = some (.lst ((cs.map sgn).map V.str)) ∧ H' L = some (.lst (ns.map V.str)) ∧ cs.length = i ∧ ∀ z ∈ cs, 97 ≤ z ∧ z ≤ 122)
            ⟨[], c2, Ex.hid Sb.s hD2, Sb.put gD2 nDp2, by omega, upd_same, by rw [upd_ne nDL.symm]; exact hLb, rfl, fun z hz => by cases hz⟩ ?_ ?_
          · rintro i Hc hi2 ⟨cs, c', x1, S1, hc1, hDa, hLc, hl, hlet⟩
            rw [Int.toNat_natCast] at hi2
            refine ⟨rfl, _, rfl, _, rfl, G6, p, _, c', rfl, S1, by omega, by decide, by decide, fun H2 r c2 x2 S2 hc2 hr0 hr1 => ?_⟩
            refine ⟨_, _, _, rfl, rfl, letters_len, letter_at hr0 hr1, _, x2.h _ _ nDp2 hDa, szl (by rw [List.length_map, List.length_map]; omega), cs ++ [97 + r.toNat], c2, (x1.trans x2).put gD2 (.inr hD2) (by rw [x2.h _ _ nDp2 hDa]; simp), S2.put gD2 nDp2, by omega, ?_, by rw [upd_ne nDL.symm]; exact x2.h _ _ nLp hLc, by rw [List.length_append, hl]; rfl, fun z hz => ?_⟩
            · rw [upd_same, List.map_append, List.map_append]; rfl
            · rcases List.mem_append.mp hz with hz | hz
              · exact hlet z hz
              · rw [List.mem_singleton.mp hz]; omega
          · rintro Hc ⟨cs, c3, x1, S1, hc1, hDa, hLc, hl, hlet⟩
            rw [Int.toNat_natCast] at hl hc1
            refine ⟨_, D2, cs.map sgn, rfl, rfl, .inl (SqL.of hDa), ?_, ?_⟩
            · have e : ((cs.map sgn).map (·.length)).sum = cs.length := by
                rw [List.map_map]
                have : cs.map ((·.length) ∘ sgn) = List.replicate cs.length 1 := by
                  rw [List.eq_replicate_iff]
                  refine ⟨by rw [List.length_map], fun z hz => ?_⟩
                  obtain ⟨y, _, rfl⟩ := List.mem_map.mp hz
                  rfl
                rw [this, List.sum_replicate_nat, Nat.mul_one]
              rw [e, List.length_map]
              show cs.length + cs.length * 0 ≤ 16777216
              omega
            · have hj := join_codes cs
              exact ⟨_, _, c3, rfl, by rw [hj, hl], by rw [hj]; exact hlet, xb.trans x1, S1, by omega, hLc⟩
        · have hz0 : near = 0 := by have := of_decide_eq_false hz; omega
          have hf := hszf hz0
          refine ⟨_, _, c2, rfl, by rw [hw1, List.length_take, hbase, hbl]; omega, fun z hz => ?_, xb, Sb, by omega, hLb⟩
          rw [hw1] at hz
          rw [hbase] at hz
          exact hbs z (List.mem_of_mem_take hz)
      rintro σ' Hc ⟨wd, v13', c3, rfl, hwl, hwlet, xc, Sc, hc3, hLc⟩
      -- at
      refine ⟨_, rfl, .inl ⟨_, rfl, _, rfl, _, _, rfl, rfl, by show (0 : Int) < (sz' : Int); omega, ?_⟩⟩
      have hat := mod_in (i := place) (m := (sz' : Int)) (by omega)
      obtain ⟨at_, hat2⟩ : ∃ a : Nat, place % (sz' : Int) = (a : Int) := ⟨(place % (sz' : Int)).toNat, by omega⟩
      dsimp only
      rw [hat2]
      have hal : at_ < sz' := by omega
      -- sign
      have hsg := mod_in (i := first + step * (0 + (i : Int))) (m := 26) (by decide)
      refine ⟨_, rfl, _, rfl, _, rfl, _, rfl, _, _, rfl, rfl, .inl ⟨by omega, by omega⟩, _, _, rfl, rfl, .inl ⟨_, rfl, _, _, rfl, rfl, p0 rfl, ?_⟩⟩
      refine ⟨_, _, _, rfl, rfl, letters_len, letter_at hsg.1 hsg.2, ?_⟩
      -- done.append(..)
      have hc1 := (cutS_codes wd at_).1
      have hc2' := (cutS_codes wd (at_ + 1)).2
      have wlen : wd.length = sz' := by rw [← hwl]; exact (Array.length_toList ..).symm
      have len1 : (cutS wd none (some ((at_ : Nat) : Int))).length = at_ := by
        show (cutS wd none (some ((at_ : Nat) : Int))).cps.size = at_
        rw [← Array.length_toList, hc1, List.length_take, hwl]; omega
      refine ⟨_, rfl, .inl ⟨rfl, _, SqL.of hLc⟩, _, rfl, _, rfl, _, rfl, _, rfl, szL (by omega), _, rfl, _, _, rfl, rfl, szL (by rw [len1]; show at_ + 1 ≤ _; omega), ?_⟩
      refine ⟨_, rfl, _, rfl, _, _, rfl, rfl, _, rfl, _, rfl, szL (by omega), _, _, rfl, rfl, ?_, ?_⟩
      · refine szL ?_
        have l2 : (cutS wd (some ((at_ : Int) + 1)) none).length ≤ 8 := by
          show (cutS wd (some (((at_ + 1 : Nat)) : Int)) none).cps.size ≤ 8
          rw [← Array.length_toList, hc2', List.length_drop, hwl]; omega
        have l3 : (cutS wd none (some ((at_ : Nat) : Int)) ++ (⟨#[97 + ((first + step * (0 + (i : Int))) % 26).toNat]⟩ : Str)).length = at_ + 1 := by
          show (cutS wd none (some ((at_ : Nat) : Int)) ++ (⟨#[97 + ((first + step * (0 + (i : Int))) % 26).toNat]⟩ : Str)).cps.size = at_ + 1
          rw [← Array.length_toList]
          rw [show (cutS wd none (some ((at_ : Nat) : Int)) ++ (⟨#[97 + ((first + step * (0 + (i : Int))) % 26).toNat]⟩ : Str)).cps.toList = _ from TL.tl_append _ _, List.length_append]
          show (cutS wd none (some ((at_ : Nat) : Int))).cps.toList.length + 1 = at_ + 1
          rw [hc1, List.length_take, hwl]
          omega
        rw [l3]
        omega
      generalize ew : (cutS wd none (some ((at_ : Nat) : Int)) ++ (⟨#[97 + ((first + step * (0 + (i : Int))) % 26).toNat]⟩ : Str) ++ cutS wd (some ((at_ : Int) + 1)) none) = new
      have hnew : new.cps.toList = wd.cps.toList.take at_ ++ (97 + ((first + step * (i : Int)) % 26).toNat) :: wd.cps.toList.drop (at_ + 1) := by
        rw [← ew]
        refine (TL.tl_append _ _).trans ?_
        rw [TL.tl_append]
        show ((cutS wd none (some ((at_ : Nat) : Int))).cps.toList ++ [97 + ((first + step * (0 + (i : Int))) % 26).toNat]) ++ (cutS wd (some (((at_ + 1 : Nat)) : Int)) none).cps.toList = _
        rw [hc1, hc2', Int.zero_add, List.append_assoc]; rfl
      have hnl2 : new.cps.toList.length = sz' := by
        rw [hnew, List.length_append, List.length_cons, List.length_take, List.length_drop, hwl]; omega
      have gL' : G6 L = none := gL
      refine ⟨L, _, _, rfl, rfl, hLc, szl (by rw [List.length_map]; omega), ?_⟩
      refine ⟨_, _, _, _, _, _, ns ++ [new], c3, rfl, xc.put gL' (.inr L0) (by rw [hLc]; simp), Sc.put gL' nLp, by omega, ?_, by rw [List.length_append, hnl]; rfl, fun j x hj => ?_⟩
      · rw [upd_same, List.map_append]; rfl
      · by_cases hji : j < ns.length
        · rw [List.getElem?_append_left hji] at hj
          exact hW j x hj
        · rw [List.getElem?_append_right (by omega)] at hj
          have hj0 : j - ns.length = 0 := by
            rcases Nat.eq_zero_or_pos (j - ns.length) with h | h
            · exact h
            · rw [List.getElem?_eq_none (by simp; omega)] at hj; cases hj
          rw [hj0] at hj
          cases hj
          have ej : j = i := by omega
          subst ej
          refine ⟨⟨by omega, by omega, fun z hz => ?_⟩, ?_⟩
          · rw [hnew] at hz
            rcases List.mem_append.mp hz with hz | hz
            · exact hwlet z (List.mem_of_mem_take hz)
            · rcases List.mem_cons.mp hz with rfl | hz
              · have := mod_in (i := first + step * (j : Int)) (m := 26) (by decide)
                omega
              · exact hwlet z (List.mem_of_mem_drop hz)
          · rw [hnl2, hat2, Int.toNat_natCast, hnew, List.getElem?_append_right (by rw [List.length_take]; omega)]
            rw [List.length_take, hwl, Nat.min_eq_left (by omega), Nat.sub_self]
            rfl
    · rintro σ Ha ⟨v4, v11, v12, v13, v14, v15, ns, c', rfl, xa, Sa, hca, hLa, hnl, hW⟩
      rw [Int.toNat_natCast] at hca hnl
      have x9 := xa.tell hLa (S.s.free L0) L0
      refine ⟨_, rfl, k _ Ha c' L ns x9 (Sa.tell hLa gL nLp) (by omega) upd_same hnl (fun x hx => ?_) (wd_nodup hstep (by omega) hW)⟩
      obtain ⟨j, hj, e⟩ := List.getElem_of_mem hx
      exact (hW j x (e ▸ List.getElem?_eq_getElem hj)).1

end
end LW

namespace LW
open PySem L2 Kt LM DO
section
variable {P : Program} {w : World} {K : PySem.W.Frag} {mg : Str → Option Value} {base : Heap} {A : Ads}
theorem ok_counted (T : Txt K mg A) : FnOk P w K mg base CX0 1 A.counted A.counted' ["_law_pairs_so"] spCounted := by
  refine T.counted.F.ok sc_counted (fun vs H Q E h => ?_) (fun cdv Ar outer s H vs Q E hr h => ?_)
  · obtain ⟨G, v, ps, rfl, _⟩ := h
    rfl
  · obtain ⟨G, v, ps, rfl, S, hv, hlen, k⟩ := h
    refine ⟨_, pss_cons (ps_set (i := 1) sc_counted.nd rfl (Or.inl rfl) (pe_dnewK))
      (pss_cons (ps_for PassesOwn.never rfl (pi_seqK K (pv 0)) (pg_tupK K 2 rfl (pgs_cons (pg_name (i := 2) sc_counted.nd rfl (Or.inl rfl)) (pgs_cons (pg_name (i := 3) sc_counted.nd rfl (Or.inl rfl)) pgs_nil)))
        (pss_one (ps_dput (hu_of hr) (pv 1) (pv 2) (pe_op op_add (pe_dget2 (hu_of hr) (pv 1) (pv 2) (pe_int) ⟨rfl, rfl, rfl, rfl⟩) (pv 3)) rfl)))
      (pss_one (ps_ret (pv 1)))), ?_⟩
    obtain ⟨q, xs, rfl, hq, rq⟩ : ∃ q xs, v = .ref q ∧ (SqL K G q xs ∨ SqT K G q xs) ∧ RpA G xs (ps.map encP) := by
      rcases hv with h | h
      · obtain ⟨q, xs, e, g, r⟩ := of_lst h; exact ⟨q, xs, e, .inl (SqL.of g), r⟩
      · obtain ⟨q, xs, e, g, r⟩ := of_tup h; exact ⟨q, xs, e, .inr (SqT.of g), r⟩
    have lx := rq.length
    rw [List.length_map] at lx
    intro f hf
    generalize e1 : upd H f _ = H1
    obtain ⟨x1, gf, hf1⟩ := ex_hid (M := No) S hf e1
    refine ⟨_, rfl, q, G, xs, rfl, x1.s, hq, fun J wJ => ?_⟩
    refine for_it wJ (fun i σ H' => ∃ (v2 v3 : Option V), σ = [some (.ref q), some (.ref f), v2, v3] ∧ Ex No G H G H' ∧ H' f = some (.dK (encD (tally (ps.take i)))))
      ⟨none, none, rfl, x1, hf1⟩ (fun i σ H' _ h => by obtain ⟨_, _, _, h, _⟩ := h; exact h.s) ?_ ?_
    · rintro i y σ Ha Hb hi ⟨v3, v4, rfl, xa, hfa⟩ ⟨rfl, hy⟩
      obtain ⟨d, hd, hr1⟩ := rq.get hy
      obtain ⟨⟨kd, n⟩, hp, rfl⟩ := map_at hd
      obtain ⟨t, v1, v2, rfl, ht, r1, r2⟩ := of_tup2 hr1
      cases of_str r1
      cases of_int r2
      refine ⟨t, _, rfl, SqT.of (xa.s _ _ ht), rfl, _, _, rfl, _, _, rfl, rfl, ?_⟩
      refine ⟨_, rfl, f, rfl, .inl ⟨_, .inl hfa⟩, _, rfl, _, DGet.k (k := Sum.inr kd) hfa, ?_⟩
      have ev : (valV (encD (tally (ps.take i))) (Sum.inr kd)).getD (.int 0) = .int ((look (tally (ps.take i)) kd).getD 0) := by
        rw [val_enc]; cases look (tally (ps.take i)) kd <;> rfl
      refine ⟨_, rfl, _, _, ev, rfl, ?_⟩
      have hl := tally_length (ps.take i)
      refine ⟨_, rfl, _, rfl, f, _, rfl, DPut.k (k := Sum.inr kd) hfa (szl (by rw [encD, List.length_map]; rw [List.length_take] at hl; omega)), ?_⟩
      refine ⟨_, _, rfl, xa.put gf (.inr hf) (by rw [hfa]; simp), ?_⟩
      rw [upd_same, put_enc, ← tally_take hp]
    · rintro σ Ha ⟨v3, v4, rfl, xa, hfa⟩
      rw [lx, List.take_of_length_le (Nat.le_refl _)] at hfa
      exact ⟨_, rfl, k Ha f xa hf hfa⟩

end
end LW

namespace LW
open PySem L2 Kt LM DO
section
variable {P : Program} {w : World} {K : PySem.W.Frag} {mg : Str → Option Value} {base : Heap} {A : Ads}
theorem ok_mixed (T : Txt K mg A) : FnOk P w K mg base CX0 3 A.mixed A.mixed' ["_law_box_here", "_law_rows_so"] spMixed := by
  refine T.mixed.F.ok sc_mixed (fun vs H Q E h => ?_) (fun cdv Ar outer s H vs Q E hr h => ?_)
  · obtain ⟨G, p, c, v, ds, rfl, _⟩ := h
    rfl
  · obtain ⟨G, p, c, v, ds, rfl, S, hc, hv, hlen, k⟩ := h
    refine ⟨_, pss_cons (ps_par (i := 2) (j := 3) rfl sc_mixed.nd rfl rfl (by decide) rfl rfl (pa_cons (pe_callTy (call_list_ofK K) (by rfl) T.b_list (by decide +kernel) (pa_cons (pv 1) pa_nil)) (pa_cons (pe_lst pa_nil) pa_nil)) (by rfl))
      (pss_cons (ps_for PassesOwn.never rfl (pi_range1 rfl T.b_range (pa_cons (pe_callB (call_len_seqK K) (by rfl) T.b_len (by decide +kernel) (pa_cons (pv 1) pa_nil)) pa_nil)) (pg_name (i := 4) sc_mixed.nd rfl (Or.inl rfl))
        (pss_cons (ps_set (i := 5) sc_mixed.nd rfl (Or.inl rfl) (pe_call (ok_take T) (hr.mono (by decide)) rfl T.take.g T.take.F.kp T.take.b .nil pass0 (pa_cons (pv 0) (pa_cons (pe_callB (call_len_seqK K) (by rfl) T.b_len (by decide +kernel) (pa_cons (pv 2) pa_nil)) pa_nil))))
      (pss_cons (ps_expr (pe_bmK K PySem.F.plainAttrs_list PySem.F.slot_list_append PySem.F.type_list_append mt_append (pv 3) (pa_cons (pe_ix (ix_listK K) (pv 2) (pv 5) (fun _ _ => rfl)) pa_nil)))
      (pss_one (ps_set (i := 2) sc_mixed.nd rfl (Or.inl rfl) (pe_op op_cat (pe_slice (sl_listK K) (pv 2) po_none (po_some (pv 5))) (pe_slice (sl_listK K) (pv 2) (po_some (pe_op op_add (pv 5) (pe_int))) po_none)))))))
      (pss_one (ps_ret (pv 3)))), ?_⟩
    obtain ⟨q, xs, rfl, hq, rq⟩ : ∃ q xs, v = .ref q ∧ (SqL K G q xs ∨ SqT K G q xs) ∧ RpA G xs ds := by
      rcases hv with h | h
      · obtain ⟨q, xs, e, g, r⟩ := of_lst h; exact ⟨q, xs, e, .inl (SqL.of g), r⟩
      · obtain ⟨q, xs, e, g, r⟩ := of_tup h; exact ⟨q, xs, e, .inr (SqT.of g), r⟩
    have hqm : ∀ {H' : Hp}, Same G H' → (SqL K H' q xs ∨ SqT K H' q xs) := fun {H'} s => hq.elim (fun h => .inl (Kt.SqL.mono s h)) fun h => .inr (Kt.SqT.mono s h)
    have lx := rq.length
    refine ⟨_, rfl, q, xs, rfl, hqm S.s, fun l0 hl0 => ?_⟩
    generalize e1 : upd H l0 _ = H1
    obtain ⟨G1, x1, S1, g1⟩ := sx_new S hl0 e1
    refine ⟨Nat.zero_le _, fun D hD => ?_⟩
    generalize e2 : upd H1 D _ = H2
    obtain ⟨x2, S2, gD, nDp, hD2⟩ := sx_hid S1 hD e2
    have D0 : H D = none := x1.f _ hD
    refine ⟨_, _, rfl, ?_⟩
    refine ⟨_, rfl, q, xs, rfl, hqm (x1.g.trans (x2.g.trans x2.s)), _, rfl, by omega, by omega, ?_⟩
    refine for_range (lo := 0) (n := ((xs.length : Nat) : Int).toNat) (fun i σ H' => ∃ (v4 v5 : Option V) (u : V) (G3 : Hp) (acc : List V) (es fs : List PyData) (c' : Int), σ = [some (.ref p), some (.ref q), some u, some (.ref D), v4, v5] ∧ Ex (On p) G H G3 H' ∧ Sx G3 H' p c' ∧ c' ≤ c + i ∧ G3 D = none ∧ H' D = some (.lst acc) ∧ RpA G3 acc es ∧ Rp G3 u (.list fs) ∧ (es ++ fs).Perm ds ∧ fs.length + i = ds.length)
      ⟨_, _, .ref l0, G1, [], [], ds, c, rfl, x1.trans x2, S2, by omega, gD, hD2, .nil, .lst g1 (rq.mono x1.g), List.Perm.refl _, by omega⟩ ?_ ?_
    · rintro i σ Ha hi ⟨v4, v5, u, G3, acc, es, fs, c', rfl, x3, S3, hc3, gD3, hD3, racc, ru, hperm, hl3⟩
      rw [Int.toNat_natCast] at hi
      obtain ⟨l, ys, rfl, gl, rl⟩ := of_lst ru
      have ll := rl.length
      -- at = take(box, len(rest))
      refine ⟨_, rfl, _, rfl, l, ys, rfl, .inl (SqL.of (S3.s _ _ gl)), G3, p, _, c', rfl, S3, by omega, by omega, by omega, fun H4 r c4 x4 S4 hc4 hr0 hr1 => ?_⟩
      obtain ⟨j, y, ej, hat, hy, hj⟩ := atI_ix (xs := ys) hr0 hr1
      subst ej
      obtain ⟨d, hd, rd⟩ := rl.get hy
      have hD4 : H4 D = some (.lst acc) := x4.h _ _ nDp hD3
      have la : acc.length ≤ 1000 := by
        have h1 := racc.length
        have h2 := hperm.length_eq
        rw [List.length_append] at h2
        omega
      refine ⟨_, rfl, .inl ⟨rfl, _, SqL.of hD4⟩, _, rfl, _, rfl, l, ys, _, y, rfl, rfl, SqL.of (S4.s _ _ gl), hat, D, acc, y, rfl, rfl, hD4, szl (by omega), ?_⟩
      generalize e5 : upd H4 D _ = H5
      have S5 : Sx G3 H5 p c4 := e5 ▸ S4.put gD3 nDp
      have x5 : Ex (On p) G H G3 H5 := e5 ▸ (x3.trans x4).put gD3 (.inr D0) (by rw [hD4]; simp)
      have hD5 : H5 D = some (.lst (acc ++ [y])) := by rw [← e5]; exact upd_same
      -- rest = rest[:at] + rest[at + 1:]
      refine ⟨_, rfl, _, rfl, _, rfl, l, _, rfl, SqL.of (S5.s _ _ gl), fun a6 h6 => ?_⟩
      generalize e6 : upd H5 a6 _ = H6
      obtain ⟨G6, x6, S6, g6⟩ := sx_new S5 h6 e6
      rw [cut_to] at g6
      refine ⟨_, rfl, _, rfl, _, _, rfl, rfl, _, rfl, l, _, rfl, SqL.of (S6.s _ _ (x6.g _ _ gl)), fun a7 h7 => ?_⟩
      generalize e7 : upd H6 a7 _ = H7
      obtain ⟨G7, x7, S7, g7⟩ := sx_new S6 h7 e7
      have g7 : G7 a7 = some (.lst (ys.drop (j + 1))) := by rw [g7]; exact congrArg (fun z => some (HO.lst z)) (cut_from ys (j + 1))
      refine ⟨a6, a7, _, _, rfl, rfl, S7.s _ _ (x7.g _ _ g6), S7.s _ _ g7, szL (by rw [List.length_take, List.length_drop]; omega), fun a8 h8 => ?_⟩
      generalize e8 : upd H7 a8 _ = H8
      obtain ⟨G8, x8, S8, g8⟩ := sx_new S7 h8 e8
      have x58 : Ex (On p) G3 H5 G8 H8 := x6.trans (x7.trans x8)
      have gD8 : G8 D = none := x58.un gD3 (by rw [hD5]; simp)
      have rl8 := rl.mono x58.g
      have hjd : j < fs.length := by omega
      refine ⟨_, _, .ref a8, G8, acc ++ [y], es ++ [d], fs.take j ++ fs.drop (j + 1), c4, rfl, x5.trans x58, S8, by omega, gD8, x58.h _ _ nDp hD5, (racc.mono x58.g).app (.cons (rd.mono x58.g) .nil), .lst g8 ((rl8.take j).app (rl8.drop (j + 1))), ?_, ?_⟩
      · refine List.Perm.trans ?_ hperm
        rw [List.append_assoc]
        refine List.Perm.append_left es ?_
        have e9 : fs = fs.take j ++ d :: fs.drop (j + 1) := by
          have : fs.drop j = d :: fs.drop (j + 1) := by rw [List.drop_eq_getElem_cons hjd, (List.getElem?_eq_some_iff.mp hd).2]
          rw [← this, List.take_append_drop]
        conv => rhs; rw [e9]
        show (d :: (fs.take j ++ fs.drop (j + 1))).Perm _
        exact List.perm_middle.symm
      · rw [List.length_append, List.length_take, List.length_drop]; omega
    · rintro σ Ha ⟨v4, v5, u, G3, acc, es, fs, c', rfl, x3, S3, hc3, gD3, hD3, racc, ru, hperm, hl3⟩
      rw [Int.toNat_natCast] at hc3 hl3
      have hf : fs = [] := List.length_eq_zero_iff.mp (by omega)
      subst hf
      rw [List.append_nil] at hperm
      have x4 := x3.tell hD3 (S.s.free D0) D0
      exact ⟨_, rfl, k _ Ha _ es c' x4 (S3.tell hD3 gD3 nDp) (by omega) hperm (.lst upd_same (racc.mono (same_new gD3)))⟩

end
end LW

namespace LW
open PySem L2 Kt LM DO
section
variable {P : Program} {w : World} {K : PySem.W.Frag} {mg : Str → Option Value} {base : Heap} {A : Ads}
theorem ok_rising (T : Txt K mg A) : FnOk P w K mg base CX0 1 A.rising A.rising' ["_law_rows_so"] spRising := by
  refine T.rising.F.ok sc_rising (fun vs H Q E h => ?_) (fun cdv Ar outer s H vs Q E hr h => ?_)
  · obtain ⟨G, v, ds, rfl, _⟩ := h
    rfl
  · obtain ⟨G, v, ds, rfl, S, hv, hsh, hcm, hlen, k⟩ := h
    refine ⟨_, pss_cons (ps_set (i := 1) sc_rising.nd rfl (Or.inl rfl) (pe_lst pa_nil))
      (pss_cons (ps_for PassesOwn.never rfl (pi_seqK K (pv 0)) (pg_name (i := 2) sc_rising.nd rfl (Or.inr rfl))
        (pss_cons (ps_set (i := 3) sc_rising.nd rfl (Or.inl rfl) (pe_callB (call_len_seqK K) (by rfl) T.b_len (by decide +kernel) (pa_cons (pe_lc (own := [("_law_own", 4)]) (g := (gName 4)) rfl sc_rising.nd (pi_listK K (pv 1)) (blkOk_by (own := [("_law_own", 4)]) (N := N_rising) (sc := defScope s_rising) (by decide +kernel)) (fun _ _ _ _ _ => pg_name (i := 4) sc_rising.nd rfl (Or.inl rfl)) (fun _ _ _ _ _ => pts_one (pt_cmpR (DO.op_leP K (DO.room66 hr)) (pv 4) (pv 2) (nomark _))) (fun _ _ _ _ _ => by exact pe_int)) pa_nil)))
      (pss_one (ps_set (i := 1) sc_rising.nd rfl (Or.inl rfl) (pe_op op_cat (pe_op op_cat (pe_slice (sl_listK K) (pv 1) po_none (po_some (pv 3))) (pe_lst (pa_cons (pv 2) pa_nil))) (pe_slice (sl_listK K) (pv 1) (po_some (pv 3)) po_none))))))
      (pss_one (ps_ret (pv 1)))), ?_⟩
    obtain ⟨q, xs, rfl, hq, rq⟩ : ∃ q xs, v = .ref q ∧ (SqL K G q xs ∨ SqT K G q xs) ∧ RpA G xs ds := by
      rcases hv with h | h
      · obtain ⟨q, xs, e, g, r⟩ := of_lst h; exact ⟨q, xs, e, .inl (SqL.of g), r⟩
      · obtain ⟨q, xs, e, g, r⟩ := of_tup h; exact ⟨q, xs, e, .inr (SqT.of g), r⟩
    have lx := rq.length
    refine ⟨Nat.zero_le _, fun l0 hl0 => ?_⟩
    generalize e1 : upd H l0 _ = H1
    obtain ⟨G1, x1, g1⟩ := ex_new (M := No) S hl0 e1
    refine ⟨_, rfl, q, G, xs, rfl, x1.g.trans x1.s, hq, fun J wJ => ?_⟩
    refine for_it wJ (fun i σ H' => ∃ (v2 v3 v4 : Option V) (u : V) (G2 : Hp), σ = [some (.ref q), some u, v2, v3, v4] ∧ Ex No G H G2 H' ∧ Rp G2 u (.list (risD (ds.take i))))
      ⟨_, _, _, _, G1, rfl, x1, .lst g1 .nil⟩ (fun i σ H' _ h => by obtain ⟨_, _, _, _, G2, _, x2, _⟩ := h; exact x2.g.trans x2.s) ?_ ?_
    · rintro i y σ Ha Hb hi ⟨v2, v3, v4, u, G2, rfl, x2, r2⟩ ⟨rfl, hy⟩
      obtain ⟨d, hd, rd⟩ := rq.get hy
      have hdm : d ∈ ds := List.mem_of_getElem? hd
      have rd2 := rd.mono x2.g
      obtain ⟨l, ys, rfl, gl, rl⟩ := of_lst r2
      have hperm := risD_perm (ds.take i)
      have hin : ∀ e ∈ risD (ds.take i), e ∈ ds := fun e he => List.mem_of_mem_take (hperm.mem_iff.mp he)
      have ll := rl.length
      rw [hperm.length_eq, List.length_take] at ll
      -- at = len([1 for own in done if own <= row])
      refine ⟨_, rfl, l, rfl, ⟨_, SqL.of (x2.s _ _ gl)⟩, fun D hD => ?_⟩
      have D2 : G2 D = none := x2.s.free hD
      refine lc_it (walk_list (K := K) (a := l) (xs := ys)) (fun j H' => Ex No G2 Hb G2 H' ∧ H' D = some (.lst (List.replicate (((risD (ds.take i)).take j).filter fun e => leD e d).length (.int 1))))
        ⟨Ex.hid x2.s hD, upd_same⟩ (fun j H' _ h => SqL.of (h.1.s _ _ gl)) ?_ ?_
      · rintro j z Hc Hd hj ⟨x3, hDc⟩ ⟨rfl, hz⟩
        obtain ⟨e, he, re⟩ := rl.get hz
        have hem : e ∈ ds := hin e (List.mem_of_getElem? he)
        have et : (risD (ds.take i)).take (j + 1) = (risD (ds.take i)).take j ++ [e] := by rw [List.take_add_one, he]; rfl
        refine ⟨rfl, _, rfl, _, rfl, e, d, (re.mono x3.s).dp, (rd2.mono x3.s).dp, hsh e hem, hsh d hdm, hcm e hem d hdm, _, rfl, ?_⟩
        refine if2 (fun hb => ?_) (fun hb => ?_)
        · refine ⟨_, hDc, szl ?_, x3.put D2 (.inr hD) (by rw [hDc]; simp), ?_⟩
          · rw [List.length_replicate]
            have := List.length_filter_le (fun e => leD e d) ((risD (ds.take i)).take j)
            rw [List.length_take] at this
            rw [hperm.length_eq, List.length_take] at this
            omega
          · rw [upd_same, et, List.filter_append, List.length_append]
            simp only [List.filter_cons, hb, if_true, List.filter_nil, List.length_singleton]
            rw [List.replicate_succ']
        · refine ⟨x3, ?_⟩
          rw [hDc, et, List.filter_append]
          simp [hb]
      · rintro Hc ⟨x3, hDc⟩
        have lyl : ys.length = (risD (ds.take i)).length := by rw [ll, hperm.length_eq, List.length_take]
        rw [lyl, List.take_of_length_le (Nat.le_refl _)] at hDc
        refine ⟨D, _, rfl, .inl (SqL.of hDc), ?_⟩
        rw [List.length_replicate]
        have cn := List.length_filter_le (fun e => leD e d) (risD (ds.take i))
        generalize hcnt : ((risD (ds.take i)).filter fun e => leD e d).length = cnt at *
        -- done[:at] + [row] + done[at:]
        refine ⟨_, rfl, _, rfl, _, rfl, l, _, rfl, SqL.of (x3.s _ _ gl), fun a4 h4 => ?_⟩
        generalize e4 : upd Hc a4 _ = H4
        obtain ⟨G4, x4, g4⟩ := ex_new (M := No) x3.s h4 e4
        rw [cut_to] at g4
        refine ⟨_, rfl, sz rfl, fun a5 h5 => ?_⟩
        generalize e5 : upd H4 a5 _ = H5
        obtain ⟨G5, x5, g5⟩ := ex_new (M := No) x4.s h5 e5
        refine ⟨a4, a5, _, _, rfl, rfl, x5.s _ _ (x5.g _ _ g4), x5.s _ _ g5, szL (by rw [List.length_take]; simp; omega), fun a6 h6 => ?_⟩
        generalize e6 : upd H5 a6 _ = H6
        obtain ⟨G6, x6, g6⟩ := ex_new (M := No) x5.s h6 e6
        refine ⟨_, rfl, _, rfl, _, rfl, l, _, rfl, SqL.of (x6.s _ _ (x6.g _ _ (x5.g _ _ (x4.g _ _ gl)))), fun a7 h7 => ?_⟩
        generalize e7 : upd H6 a7 _ = H7
        obtain ⟨G7, x7, g7⟩ := ex_new (M := No) x6.s h7 e7
        rw [cut_from] at g7
        refine ⟨a6, a7, _, _, rfl, rfl, x7.s _ _ (x7.g _ _ g6), x7.s _ _ g7, szL (by rw [List.length_append, List.length_take, List.length_drop]; simp; omega), fun a8 h8 => ?_⟩
        generalize e8 : upd H7 a8 _ = H8
        obtain ⟨G8, x8, g8⟩ := ex_new (M := No) x7.s h8 e8
        have x48 : Ex No G2 Hb G8 H8 := x3.trans (x4.trans (x5.trans (x6.trans (x7.trans x8))))
        refine ⟨_, _, _, _, G8, rfl, x2.trans x48, .lst g8 ?_⟩
        rw [risD_take hd]
        unfold insD
        rw [hcnt]
        have rl8 := rl.mono x48.g
        exact ((rl8.take cnt).app (.cons (rd2.mono x48.g) .nil)).app (rl8.drop cnt)
    · rintro σ Ha ⟨v2, v3, v4, u, G2, rfl, x2, r2⟩
      rw [lx, List.take_of_length_le (Nat.le_refl _)] at r2
      exact ⟨_, rfl, k G2 Ha u x2 r2⟩

end
end LW

namespace LW
open PySem L2 Kt LM DO
section
variable {P : Program} {w : World} {K : PySem.W.Frag} {mg : Str → Option Value} {base : Heap} {A : Ads}
theorem ok_pairs (T : Txt K mg A) : FnOk P w K mg base CX0 3 A.pairs A.pairs' ["_law_numbers_so"] spPairs := by
  refine T.pairs.F.ok sc_pairs (fun vs H Q E h => ?_) (fun cdv Ar outer s H vs Q E hr h => ?_)
  · obtain ⟨G, a, d, rfl, _⟩ := h
    rfl
  · obtain ⟨G, a, d, rfl, S, ha, hn, hl, hsh, k⟩ := h
    refine ⟨_, pss_cons (ps_lock (ps_setLc (i := 1) (own := [("_law_own", 2)]) (g := (gName 2)) rfl sc_pairs.nd rfl rfl (sw_true rfl rfl rfl (by decide +kernel)) (pi_keys (pv 0)) (blkOk_by (own := [("_law_own", 2)]) (N := N_pairs) (sc := defScope s_pairs) (by decide +kernel)) (fun _ _ _ _ _ => pg_name (i := 2) sc_pairs.nd rfl (Or.inl rfl)) (fun _ _ _ _ _ => pts_one (pt_cmpR op_gt (pe_dget (hu_of hr) (pv 0) (pv 2) (fun _ _ => rfl)) (pe_int) (nomark _))) (fun _ _ _ _ _ => by exact pe_tup (pa_cons (pv 2) (pa_cons (pe_dget (hu_of hr) (pv 0) (pv 2) (fun _ _ => rfl)) pa_nil)))))
      (pss_one (ps_ret (pe_callTy (call_tuple_ofK K) (by rfl) T.b_tuple (by decide +kernel) (pa_cons (pe_call (ok_rising T) (hr.mono (by decide)) rfl T.rising.g T.rising.F.kp T.rising.b .nil pass0 (pa_cons (pv 1) pa_nil)) pa_nil)))), ?_⟩
    have hfa := S _ _ ha
    refine ⟨a, _, hfa, trivial, fun od => ?_⟩
    generalize e2 : upd H a _ = H2
    have hf2 : H2 a = some (.frz od (.dK (encD d))) := by rw [← e2]; exact upd_same
    refine ⟨_, rfl, a, od, rfl, .inl ⟨_, hf2, fun D hD => ?_⟩⟩
    have nDa : D ≠ a := (ne_of_none hf2 hD).symm
    have hDH : H D = none := by rw [← e2, upd_ne nDa] at hD; exact hD
    have kl : (encD d).length = d.length := by rw [encD, List.length_map]
    -- new tuples: a heap that keeps all of H but a, the dict, locked at a, the list at D
    refine lc_it (walk_keys (kvs := encD d)) (fun i H' => ∃ (G1 Hu : Hp) (acc : List V), Ex No G H G1 Hu ∧ Hu D = none ∧ H' = upd (upd Hu a (.frz od (.dK (encD d)))) D (.lst acc) ∧ RpA G1 acc (((d.take i).filter fun p => decide (0 < p.2)).map encP))
      ⟨G, H, [], Ex.refl S, hDH, by rw [e2], .nil⟩ (fun i H' _ h => by
        obtain ⟨G1, Hu, acc, _, _, e, _⟩ := h
        rw [e, upd_ne nDa.symm, upd_same]) ?_ ?_
    · rintro i y Hb Hc hi ⟨G1, Hu, acc, x1, hDu, eH, ra⟩ ⟨rfl, kk, vv, hk, rfl⟩
      obtain ⟨⟨kd, n⟩, hp, ep⟩ := map_at hk
      cases ep
      have hm := List.mem_of_getElem? hp
      have hfb : Hc a = some (.frz od (.dK (encD d))) := by rw [eH, upd_ne nDa.symm, upd_same]
      have hg : DGet Hc a (.str kd) (some (.int n)) := .inl ⟨_, Sum.inr kd, .inr ⟨od, hfb⟩, rfl, by
        rw [val_enc, look_mem hn hm]; rfl⟩
      have et : d.take (i + 1) = d.take i ++ [(kd, n)] := by rw [List.take_add_one, hp]; rfl
      refine ⟨rfl, _, rfl, _, rfl, a, _, rfl, hg, _, _, rfl, rfl, _, rfl, ?_⟩
      refine if2 (fun hpos => ?_) (fun hpos => ?_)
      · have hpos : 0 < n := of_decide_eq_true hpos
        refine ⟨_, rfl, _, rfl, _, rfl, a, _, rfl, hg, sz rfl, fun t ht => ?_⟩
        have ntD : t ≠ D := by
          rintro rfl
          rw [eH, upd_same] at ht
          cases ht
        have nta : t ≠ a := by
          rintro rfl
          rw [hfb] at ht
          cases ht
        have htu : Hu t = none := by
          rw [eH, upd_ne ntD, upd_ne nta] at ht
          exact ht
        obtain ⟨G2, x2, g2⟩ := ex_new (M := No) (o := .tup [.str kd, .int n]) x1.s htu rfl
        refine ⟨acc, ?_, szl ?_, G2, upd Hu t (.tup [.str kd, .int n]), acc ++ [.ref t], x1.trans x2, ?_, ?_, ?_⟩
        · rw [upd_ne ntD.symm, eH, upd_same]
        · have := ra.length
          rw [List.length_map] at this
          have h2 := List.length_filter_le (fun p : Str × Int => decide (0 < p.2)) (d.take i)
          rw [List.length_take] at h2
          omega
        · rw [upd_ne ntD.symm]; exact hDu
        · rw [eH]
          funext b
          unfold upd
          by_cases h1 : b = D
          · simp [h1]
          · by_cases h2 : b = t
            · subst h2; simp [h1, nta]; rfl
            · simp [h1, h2]
        · rw [et, List.filter_append, List.map_append]
          simp only [List.filter_cons, hpos, decide_true, if_true, List.filter_nil, List.map_cons, List.map_nil]
          exact (ra.mono x2.g).app (.cons (.tup g2 (.cons (.str _) (.cons (.int _) .nil))) .nil)
      · have hpos : ¬ 0 < n := of_decide_eq_false hpos
        refine ⟨G1, Hu, acc, x1, hDu, eH, ?_⟩
        rw [et, List.filter_append]
        simp only [List.filter_cons, hpos, decide_false, List.filter_nil, List.append_nil, Bool.false_eq_true, if_false]
        exact ra
    · rintro Hb ⟨G1, Hu, acc, x1, hDu, rfl, ra⟩
      rw [kl, List.take_of_length_le (Nat.le_refl _)] at ra
      have hau : Hu a = some (.dK (encD d)) := x1.same _ _ hfa
      refine ⟨by rw [upd_ne nDa.symm, upd_same], ?_⟩
      have e3 : upd (upd (upd Hu a (.frz od (.dK (encD d)))) D (.lst acc)) a (.dK (encD d)) = upd Hu D (.lst acc) := by
        funext b
        unfold upd
        by_cases h1 : b = a
        · subst h1; simp [nDa.symm, hau]
        · simp [h1]
      rw [e3]
      generalize e4 : upd Hu D _ = H4
      obtain ⟨G4, x4, g4⟩ := ex_new (M := No) x1.s hDu e4
      have x14 := x1.trans x4
      have ra4 := ra.mono x4.g
      have hsub : ∀ x ∈ d.filter (fun p => decide (0 < p.2)), x ∈ d := fun x hx => (List.mem_filter.mp hx).1
      refine ⟨_, rfl, G4, .ref D, _, rfl, x14.s, .inl (.lst g4 ra4), fun e he => ?_, fun e he f hf => ?_, ?_, fun G5 H5 v5 x5 r5 => ?_⟩
      · obtain ⟨x, hx, rfl⟩ := List.mem_map.mp he
        exact hsh x (hsub x hx)
      · obtain ⟨x, hx, rfl⟩ := List.mem_map.mp he
        obtain ⟨y, hy, rfl⟩ := List.mem_map.mp hf
        exact cmp_encP x y
      · rw [List.length_map]
        exact Nat.le_trans (List.length_filter_le _ _) hl
      · rw [ris_pairs (List.Nodup.sublist (List.filter_sublist.map _) hn) (fun x hx => of_decide_eq_true (List.mem_filter.mp hx).2)] at r5
        obtain ⟨l5, ys, rfl, g5, r5'⟩ := of_lst r5
        refine ⟨l5, ys, rfl, .inl ⟨SqL.of (x5.s _ _ g5), fun t ht => ?_⟩⟩
        generalize e6 : upd H5 t _ = H6
        obtain ⟨G6, x6, g6⟩ := ex_new (M := No) x5.s ht e6
        exact k G6 H6 _ (x14.trans (x5.trans x6)) (.tup g6 (r5'.mono x6.g))

end
end LW

namespace LW
open PySem L2 Kt LM DO
section
variable {P : Program} {w : World} {K : PySem.W.Frag} {mg : Str → Option Value} {base : Heap} {A : Ads}
/-- an empty lot refuses -/
def spRefused (C : Addr) : Sp := fun vs H Q _ => ∃ (G : Hp) (a b : Addr) (m : Pr) (i : Int), vs = [.ref a, .ref b, .int i] ∧ Same G H ∧ LotAt C G a m ∧ LotAt C G b [] ∧ (∀ p ∈ m, p.2.natAbs < 2 ^ 400) ∧
  ∀ G' H' v, Ex No G H G' H' → Rp G' v (.tuple [.bool true, .bool false]) → Q v H'
theorem ok_refused (T : Txt K mg A) : FnOk P w K mg base CX0 7 A.refused A.refused' ["_law_one_so", "_law_two_so", "_law_sort"] (spRefused A.Lot) := by
  refine T.refused.F.ok sc_refused (fun vs H Q E h => ?_) (fun cdv Ar outer s H vs Q E hr h => ?_)
  · obtain ⟨G, a, b, m, i, rfl, _⟩ := h
    rfl
  · obtain ⟨G, a, b, m, i, rfl, S, ha, hb, hm, k⟩ := h
    refine ⟨_, pss_cons (ps_asg (pe_tup (pa_cons (pe_non) (pa_cons (pe_non) pa_nil))) (pg_tupK K 2 rfl (pgs_cons (pg_name (i := 3) sc_refused.nd rfl (Or.inl rfl)) (pgs_cons (pg_name (i := 4) sc_refused.nd rfl (Or.inl rfl)) pgs_nil))))
      (pss_cons (ps_try_asT (i := 5) rfl rfl rfl sc_refused.nd rfl rfl ⟨rfl, by decide, .inl T.Nothing.g⟩ takes_no (fun W pn xe tk po => by exact pss_one (ps_set (i := 4) sc_refused.nd rfl (Or.inl rfl) (pe_ifExp (pt_cmpR op_eq (pv 2) (pe_int) (nomark _)) (pe_op (OO.op_own (ok_Lot_floordiv T) (hr.mono (by decide)) T.Lot_floordiv.b (passes_len 6 tk) T.Lot.sf T.Lot_floordiv.own) (pv 0) (pv 1)) (pe_op (OO.op_own (ok_Lot_mod T) (hr.mono (by decide)) T.Lot_mod.b (passes_len 6 tk) T.Lot.sf T.Lot_mod.own) (pv 0) (pv 1))))) (fun a oe cls d pn z hd => by exact pss_one (ps_set (i := 3) sc_refused.nd rfl (Or.inl rfl) (pv 5))))
      (pss_cons (ps_if (pt_cmpR op_isN (pv 3) (pe_non) (nomark _)) (pss_one (ps_ret (pe_cmpR op_isN (pv 4) (pe_non) (nomark _)))) (pss_nil))
      (pss_one (ps_ret (pe_tup (pa_cons (pe_callB (call_isT K) (by rfl) T.b_isinstance (by decide +kernel) (pa_cons (pv 3) (pa_cons (pe_bltn (v := .ty "ZeroDivisionError") (by rfl) T.b_ZeroDivisionError (by decide +kernel) rfl) pa_nil))) (pa_cons (pe_callB (call_isT K) (by rfl) T.b_isinstance (by decide +kernel) (pa_cons (pv 3) (pa_cons (pe_bltn (v := .ty "ValueError") (by rfl) T.b_ValueError (by decide +kernel) rfl) pa_nil))) pa_nil))))))), ?_⟩
    obtain ⟨dx, fs, h1⟩ := id ha.ins
    obtain ⟨dy, gs, h2⟩ := id hb.ins
    refine ⟨sz rfl, fun t ht => ?_⟩
    generalize e0 : upd H t _ = H0
    obtain ⟨x0, g0, h0⟩ := ex_hid (M := No) S ht e0
    refine ⟨t, _, rfl, SqT.of h0, rfl, _, _, rfl, _, _, rfl, rfl, ?_⟩
    refine ⟨_, rfl, rfl, _, rfl, ?_⟩
    refine if2 (fun hz => ?_) (fun hz => ?_)
    · refine ⟨_, rfl, _, rfl, a, b, dx, dy, _, _, rfl, rfl, x0.s _ _ h1, x0.s _ _ h2, G, a, b, m, [], rfl, x0.s, ha, hb, (fun p hp => nomatch hp), fun _ => ?_, fun h => absurd rfl h⟩
      rintro σ hσ
      obtain ⟨s0, s1, s2, s3, s4, s5, rfl⟩ : ∃ s0 s1 s2 s3 s4 s5, σ = [s0, s1, s2, s3, s4, s5] := by
        match σ, hσ with
        | [s0, s1, s2, s3, s4, s5], _ => exact ⟨_, _, _, _, _, _, rfl⟩
      refine ⟨true, T.Nothing.em, fun _ e he => ?_, fun h => by cases h⟩
      refine ⟨_, rfl, ?_⟩
      obtain ⟨x1, g1, h1'⟩ := ex_hid (M := No) (o := exT e (.ref A.Nothing) none) x0.s he rfl
      refine ⟨_, rfl, rfl, _, rfl, ifF rfl ?_⟩
      refine ⟨_, rfl, e, _, _, _, _, rfl, h1', T.Nothing.c, .ty _, T.is_Nothing_ZeroDivisionError_true, _, rfl, e, _, _, _, _, rfl, h1', T.Nothing.c, .ty _, T.is_Nothing_ValueError_false, sz rfl, fun u hu => ?_⟩
      generalize e2 : upd _ u _ = H2
      obtain ⟨G2, x2, g2⟩ := ex_new (M := No) x1.s hu e2
      exact k G2 H2 _ (x0.trans (x1.trans x2)) (.tup g2 (.cons (.bl _) (.cons (.bl _) .nil)))
    · refine ⟨_, rfl, _, rfl, a, b, dx, dy, _, _, rfl, rfl, x0.s _ _ h1, x0.s _ _ h2, G, a, b, m, [], rfl, x0.s, ha, hb, (fun p hp => nomatch hp), hm, fun _ => ?_, fun h => absurd rfl h⟩
      rintro σ hσ
      obtain ⟨s0, s1, s2, s3, s4, s5, rfl⟩ : ∃ s0 s1 s2 s3 s4 s5, σ = [s0, s1, s2, s3, s4, s5] := by
        match σ, hσ with
        | [s0, s1, s2, s3, s4, s5], _ => exact ⟨_, _, _, _, _, _, rfl⟩
      refine ⟨true, T.Nothing.em, fun _ e he => ?_, fun h => by cases h⟩
      refine ⟨_, rfl, ?_⟩
      obtain ⟨x1, g1, h1'⟩ := ex_hid (M := No) (o := exT e (.ref A.Nothing) none) x0.s he rfl
      refine ⟨_, rfl, rfl, _, rfl, ifF rfl ?_⟩
      refine ⟨_, rfl, e, _, _, _, _, rfl, h1', T.Nothing.c, .ty _, T.is_Nothing_ZeroDivisionError_true, _, rfl, e, _, _, _, _, rfl, h1', T.Nothing.c, .ty _, T.is_Nothing_ValueError_false, sz rfl, fun u hu => ?_⟩
      generalize e2 : upd _ u _ = H2
      obtain ⟨G2, x2, g2⟩ := ex_new (M := No) x1.s hu e2
      exact k G2 H2 _ (x0.trans (x1.trans x2)) (.tup g2 (.cons (.bl _) (.cons (.bl _) .nil)))

end
end LW

namespace LW
open PySem L2 Kt LM DO
section
variable {P : Program} {w : World} {K : PySem.W.Frag} {mg : Str → Option Value} {base : Heap} {A : Ads}
theorem ok_Lot_add (T : Txt K mg A) : FnOk P w K mg base CX0 3 A.Lot_add A.Lot_add' ["self", "other"] (spLotAdd A.Lot) := by
  refine T.Lot_add.F.ok sc_Lot_add (fun vs H Q E h => ?_) (fun cdv Ar outer s H vs Q E hr h => ?_)
  · obtain ⟨G, a, b, m, n, Ks, rfl, _⟩ := h
    rfl
  · obtain ⟨G, a, b, m, n, Ks, rfl, S, ha, hb, hK, hm, hn, k⟩ := h
    refine ⟨_, pss_one (ps_ret (pe_make (T.Lot_init.mk_ T.Lot) (ok_Lot_init T) (hr.mono (by decide)) rfl T.Lot.g T.Lot_init.b .nil pass0 (pa_cons (pe_op (op_catAK K) (pe_meth0 (pv 0) T.Lot.cl T.Lot_pairs.me (ok_Lot_pairs T) (hr.mono (by decide)) T.Lot_pairs.b .nil pass0) (pe_meth0 (pv 1) T.Lot.cl T.Lot_pairs.me (ok_Lot_pairs T) (hr.mono (by decide)) T.Lot_pairs.b .nil pass0)) pa_nil))), ?_⟩
    obtain ⟨dx, fs, h1⟩ := id ha.ins
    obtain ⟨dy, gs, h2⟩ := id hb.ins
    have l1 := ha.len
    have l2 := hb.len
    refine ⟨_, rfl, a, dx, _, rfl, S _ _ h1, ha.noat h1 (by decide +kernel), G, a, m, rfl, S, ha, fun G1 H1 v1 x1 r1 => ?_⟩
    refine ⟨_, rfl, b, dy, _, rfl, x1.hs S h2, hb.noat h2 (by decide +kernel), G1, b, n, rfl, x1.s, hb.mono x1.g, fun G2 H2 v2 x2 r2 => ?_⟩
    refine cat_rd (ds := m.map encP) (es := n.map encP) x2.s (r1.mono x2.g) r2 (by rw [List.length_map, List.length_map]; omega) fun G3 H3 v3 x3 r3 => ?_
    rw [← List.map_append] at r3
    refine make_lotR (Ks := Ks) x3.s (.inl r3) (fun p hp => ?_) hK (fun p hp => ?_) (by rw [List.length_append]; omega) fun G4 H4 z x4 z4 h4 => k _ _ _ (x1.trans (x2.trans (x3.trans x4))) ((x1.trans (x2.trans x3)).f _ z4) h4
    · rcases List.mem_append.mp hp with h | h
      · exact Int.le_of_lt (ha.ok.pos p h)
      · exact Int.le_of_lt (hb.ok.pos p h)
    · rcases List.mem_append.mp hp with h | h
      · exact hm p h
      · exact hn p h

end
end LW

namespace LW
open PySem L2 Kt LM DO
section
variable {P : Program} {w : World} {K : PySem.W.Frag} {mg : Str → Option Value} {base : Heap} {A : Ads}
theorem ok_Lot_iadd (T : Txt K mg A) : FnOk P w K mg base CX0 5 A.Lot_iadd A.Lot_iadd' ["self", "other"] (spLotIadd A.Lot) := by
  refine T.Lot_iadd.F.ok sc_Lot_iadd (fun vs H Q E h => ?_) (fun cdv Ar outer s H vs Q E hr h => ?_)
  · obtain ⟨G, a, b, m, n, Ks, rfl, _⟩ := h
    rfl
  · obtain ⟨G, a, b, m, n, Ks, rfl, S, ga, ha, hb, hK, hm, hn, k⟩ := h
    refine ⟨_, pss_cons (ps_fld (pv 0) (pe_fldK K (pe_op (OO.op_own (ok_Lot_add T) (hr.mono (by decide)) T.Lot_add.b pass0 T.Lot.sf T.Lot_add.own) (pv 0) (pv 1)) rfl) rfl)
      (pss_one (ps_ret (pv 0))), ?_⟩
    obtain ⟨dx, fs, h1⟩ := id ha.ins
    obtain ⟨dy, gs, h2⟩ := id hb.ins
    refine ⟨_, rfl, _, rfl, a, b, dx, dy, _, _, rfl, rfl, h1, h2, H, a, b, m, n, Ks, rfl, Same.refl H, ha, hb, hK, hm, hn, fun G1 H1 z x1 _ hz => ?_⟩
    obtain ⟨dz, dd, d, z1, z2, z3⟩ := id hz
    refine ⟨z, A.Lot, dz, _, _, rfl, x1.s _ _ z1, T.Lot.cl, T.no_Lot_own_many, rfl, _, rfl, a, A.Lot, dx, _, rfl, x1.s _ _ (x1.g _ _ h1), T.Lot.cl, T.no_Lot_own_many, ?_, ?_⟩
    · obtain ⟨dx', dd', d', q1, _⟩ := ha
      rw [q1] at h1
      cases h1
      exact Nat.lt_of_lt_of_le (by show 1 < 2; decide) (by decide)
    · generalize e2 : upd H1 a _ = H2
      have efs : putF (Str.ofString "own_many") (V.ref dd) fs = ([(Str.ofString "own_many", V.ref dd)] : List (Str × V)) := by
        obtain ⟨dx', dd', d', q1, _⟩ := ha
        rw [q1] at h1
        cases h1
        rfl
      have x2 : Ex (On a) G H G H2 := e2 ▸ ⟨Same.refl G, fun b o hb e => by rw [upd_ne hb]; exact x1.same _ _ e, same_put (S.trans (x1.g.trans x1.s)) ga, fun b o e => .inl e, fun b e => by
        by_cases hb : b = a
        · subst hb; rw [upd_same] at e; cases e
        · rw [upd_ne hb] at e; exact x1.f b e⟩
      have nda : dd ≠ a := by
        rintro rfl
        rw [x1.g _ _ h1] at z2
        cases z2
      refine ⟨_, rfl, k H2 x2 ⟨dx, dd, d, ?_, ?_, z3⟩⟩
      · rw [← e2, upd_same, efs]
      · rw [← e2, upd_ne nda]; exact x1.s _ _ z2

end
end LW

namespace LW
open PySem L2 Kt LM DO
section
variable {P : Program} {w : World} {K : PySem.W.Frag} {mg : Str → Option Value} {base : Heap} {A : Ads}
theorem ok_right (T : Txt K mg A) : FnOk P w K mg base CX0 18 A.right A.right' ["_law_box_here"] spRight := by
  refine T.right.F.ok sc_right (fun vs H Q E h => ?_) (fun cdv Ar outer s H vs Q E hr h => ?_)
  · obtain ⟨G, p, c, rfl, _⟩ := h
    rfl
  · obtain ⟨G, p, c, rfl, S, hc, k⟩ := h
    refine ⟨_, pss_cons (ps_if (pt_not (pt_val (pe_call (ok_by_hand_right T) (hr.mono (by decide)) rfl T.by_hand_right.g T.by_hand_right.F.kp T.by_hand_right.b .nil pass0 (pa_cons (pe_call (ok_names T) (hr.mono (by decide)) rfl T.names.g T.names.F.kp T.names.b .nil pass0 (pa_cons (pv 0) (pa_cons (pe_int) pa_nil))) pa_nil)))) (pss_one (ps_ret (pe_bl))) (pss_nil))
      (pss_cons (ps_for PassesOwn.never rfl (pi_range1 rfl T.b_range (pa_cons (pe_int) pa_nil)) (pg_name (i := 1) sc_right.nd rfl (Or.inl rfl))
        (pss_cons (ps_asg (pe_tup (pa_cons (pe_call (ok_names T) (hr.mono (by decide)) rfl T.names.g T.names.F.kp T.names.b .nil pass0 (pa_cons (pv 0) (pa_cons (pe_int) pa_nil))) (pa_cons (pe_call (ok_of T) (hr.mono (by decide)) rfl T.of.g T.of.F.kp T.of.b .nil pass0 (pa_cons (pv 0) (pa_cons (pe_lst (pa_cons (pe_int) (pa_cons (pe_int) (pa_cons (pe_op op_pow (pe_int) (pe_int)) pa_nil)))) pa_nil))) pa_nil))) (pg_tupK K 2 rfl (pgs_cons (pg_name (i := 2) sc_right.nd rfl (Or.inl rfl)) (pgs_cons (pg_name (i := 3) sc_right.nd rfl (Or.inr rfl)) pgs_nil))))
      (pss_cons (ps_set (i := 4) sc_right.nd rfl (Or.inl rfl) (pe_call (ok_counted T) (hr.mono (by decide)) rfl T.counted.g T.counted.F.kp T.counted.b .nil pass0 (pa_cons (pe_lc (own := [("_law_own", 5)]) (g := (gName 5)) rfl sc_right.nd (pi_listK K (pv 2)) (blkOk_by (own := [("_law_own", 5)]) (N := N_right) (sc := defScope s_right) (by decide +kernel)) (fun _ _ _ _ _ => pg_name (i := 5) sc_right.nd rfl (Or.inl rfl)) (fun _ _ _ _ _ => pts_one (pt_cmpR op_eq (pe_call (ok_take T) (hr.mono (by decide)) rfl T.take.g T.take.F.kp T.take.b .nil pass0 (pa_cons (pv 0) (pa_cons (pe_int) pa_nil))) (pe_int) (nomark _))) (fun _ _ _ _ _ => by exact pe_tup (pa_cons (pv 5) (pa_cons (pe_call (ok_take T) (hr.mono (by decide)) rfl T.take.g T.take.F.kp T.take.b .nil pass0 (pa_cons (pv 0) (pa_cons (pv 3) pa_nil))) pa_nil)))) pa_nil)))
      (pss_cons (ps_par (i := 6) (j := 7) rfl sc_right.nd rfl rfl (by decide) rfl rfl (pa_cons (pe_call (ok_of T) (hr.mono (by decide)) rfl T.of.g T.of.F.kp T.of.b .nil pass0 (pa_cons (pv 0) (pa_cons (pe_lst (pa_cons (pe_int) (pa_cons (pe_int) (pa_cons (pe_int) (pa_cons (pe_op op_pow (pe_int) (pe_int)) pa_nil))))) pa_nil))) (pa_cons (pe_dnewK) pa_nil)) (by rfl))
      (pss_cons (ps_for PassesOwn.never rfl (pi_listK K (pv 2)) (pg_name (i := 5) sc_right.nd rfl (Or.inl rfl))
        (pss_one (ps_dput (hu_of hr) (pv 7) (pv 5) (pe_op op_add (pe_op op_mul (pe_dget2 (hu_of hr) (pv 4) (pv 5) (pe_int) ⟨rfl, rfl, rfl, rfl⟩) (pv 6)) (pe_call (ok_take T) (hr.mono (by decide)) rfl T.take.g T.take.F.kp T.take.b .nil pass0 (pa_cons (pv 0) (pa_cons (pv 3) pa_nil)))) rfl)))
      (pss_cons (ps_par (i := 8) (j := 9) rfl sc_right.nd rfl rfl (by decide) rfl rfl (pa_cons (pe_make (T.Lot_init.mk_ T.Lot) (ok_Lot_init T) (hr.mono (by decide)) rfl T.Lot.g T.Lot_init.b .nil pass0 (pa_cons (pe_call (ok_mixed T) (hr.mono (by decide)) rfl T.mixed.g T.mixed.F.kp T.mixed.b .nil pass0 (pa_cons (pv 0) (pa_cons (pe_call (ok_pairs T) (hr.mono (by decide)) rfl T.pairs.g T.pairs.F.kp T.pairs.b .nil pass0 (pa_cons (pv 7) pa_nil)) pa_nil))) pa_nil)) (pa_cons (pe_make (T.Lot_init.mk_ T.Lot) (ok_Lot_init T) (hr.mono (by decide)) rfl T.Lot.g T.Lot_init.b .nil pass0 (pa_cons (pe_call (ok_mixed T) (hr.mono (by decide)) rfl T.mixed.g T.mixed.F.kp T.mixed.b .nil pass0 (pa_cons (pv 0) (pa_cons (pe_call (ok_pairs T) (hr.mono (by decide)) rfl T.pairs.g T.pairs.F.kp T.pairs.b .nil pass0 (pa_cons (pv 4) pa_nil)) pa_nil))) pa_nil)) pa_nil)) (by rfl))
      (pss_one (ps_if (pt_cmpR (op_eqDK K (by exact hr.units)) (pe_call (ok_pairs T) (hr.mono (by decide)) rfl T.pairs.g T.pairs.F.kp T.pairs.b .nil pass0 (pa_cons (pv 4) pa_nil)) (pe_tup pa_nil) (nomark _)) (pss_cons (ps_set (i := 10) sc_right.nd rfl (Or.inl rfl) (pe_lst (pa_cons (pe_call (ok_refused T) (hr.mono (by decide)) rfl T.refused.g T.refused.F.kp T.refused.b .nil pass0 (pa_cons (pv 8) (pa_cons (pv 9) (pa_cons (pe_int) pa_nil)))) (pa_cons (pe_call (ok_refused T) (hr.mono (by decide)) rfl T.refused.g T.refused.F.kp T.refused.b .nil pass0 (pa_cons (pv 8) (pa_cons (pv 9) (pa_cons (pe_int) pa_nil)))) (pa_cons (pe_call (ok_refused T) (hr.mono (by decide)) rfl T.refused.g T.refused.F.kp T.refused.b .nil pass0 (pa_cons (pv 9) (pa_cons (pv 9) (pa_cons (pe_int) pa_nil)))) pa_nil)))))
      (pss_one (ps_if (pt_not (pt_val (pe_call (ok_same T) (hr.mono (by decide)) rfl T.same.g T.same.F.kp T.same.b .nil pass0 (pa_cons (pv 10) (pa_cons (pe_lst (pa_cons (pe_tup (pa_cons (pe_bl) (pa_cons (pe_bl) pa_nil))) (pa_cons (pe_tup (pa_cons (pe_bl) (pa_cons (pe_bl) pa_nil))) (pa_cons (pe_tup (pa_cons (pe_bl) (pa_cons (pe_bl) pa_nil))) pa_nil)))) pa_nil))))) (pss_one (ps_ret (pe_bl))) (pss_nil)))) (pss_cons (ps_set (i := 11) sc_right.nd rfl (Or.inl rfl) (pe_op (OO.op_own (ok_Lot_floordiv T) (hr.mono (by decide)) T.Lot_floordiv.b passL T.Lot.sf T.Lot_floordiv.own) (pv 8) (pv 9)))
      (pss_cons (ps_if (PW.pt (pw_or (pt_not (pt_val (pe_callB call_isi (by rfl) T.b_isinstance (by decide +kernel) (pa_cons (pv 11) (pa_cons (pe_bltn (v := .ty "int") (by rfl) T.b_int (by decide +kernel) rfl) pa_nil))))) (pw_or (pt_val (pe_callB call_isi (by rfl) T.b_isinstance (by decide +kernel) (pa_cons (pv 11) (pa_cons (pe_bltn (v := .ty "bool") (by rfl) T.b_bool (by decide +kernel) rfl) pa_nil)))) (pw_or1 (pt_cmpR op_lt (pv 11) (pv 6) (nomark _)))))) (pss_one (ps_ret (pe_bl))) (pss_nil))
      (pss_cons (ps_asg (pe_tup (pa_cons (pe_dnewK) (pa_cons (pe_int) pa_nil))) (pg_tupK K 2 rfl (pgs_cons (pg_name (i := 12) sc_right.nd rfl (Or.inr rfl)) (pgs_cons (pg_name (i := 13) sc_right.nd rfl (Or.inl rfl)) pgs_nil))))
      (pss_cons (ps_for PassesOwn.never rfl (pi_listK K (pv 2)) (pg_name (i := 5) sc_right.nd rfl (Or.inl rfl))
        (pss_cons (ps_dput (hu_of hr) (pv 12) (pv 5) (pe_op op_sub (pe_dget (hu_of hr) (pv 7) (pv 5) (fun _ _ => rfl)) (pe_op op_mul (pe_dget2 (hu_of hr) (pv 4) (pv 5) (pe_int) ⟨rfl, rfl, rfl, rfl⟩) (pv 11))) rfl)
      (pss_one (ps_if (pt_cmpR op_gt (pe_dget2 (hu_of hr) (pv 4) (pv 5) (pe_int) ⟨rfl, rfl, rfl, rfl⟩) (pe_dget (hu_of hr) (pv 12) (pv 5) (fun _ _ => rfl)) (nomark _)) (pss_one (ps_set (i := 13) sc_right.nd rfl (Or.inl rfl) (pe_op op_add (pv 13) (pe_int)))) (pss_nil)))))
      (pss_cons (ps_if (PW.pt (pw_or (pt_cmpR (op_neDK K (by exact hr.units)) (pe_lc (own := [("_law_own", 5)]) (g := (gName 5)) rfl sc_right.nd (pi_listK K (pv 2)) (blkOk_by (own := [("_law_own", 5)]) (N := N_right) (sc := defScope s_right) (by decide +kernel)) (fun _ _ _ _ _ => pg_name (i := 5) sc_right.nd rfl (Or.inl rfl)) (fun _ _ _ _ _ => pts_one (pt_cmpR op_lt (pe_dget (hu_of hr) (pv 12) (pv 5) (fun _ _ => rfl)) (pe_int) (nomark _))) (fun _ _ _ _ _ => by exact pv 5)) (pe_lst pa_nil) (nomark _)) (pw_or1 (pt_cmpR op_eq (pv 13) (pe_int) (nomark _))))) (pss_one (ps_ret (pe_bl))) (pss_nil))
      (pss_cons (ps_set (i := 10) sc_right.nd rfl (Or.inl rfl) (pe_lst (pa_cons (pe_meth0 (pe_op (OO.op_own (ok_Lot_mod T) (hr.mono (by decide)) T.Lot_mod.b passL T.Lot.sf T.Lot_mod.own) (pv 8) (pv 9)) T.Lot.cl T.Lot_pairs.me (ok_Lot_pairs T) (hr.mono (by decide)) T.Lot_pairs.b .nil pass0) (pa_cons (pe_meth0 (pv 8) T.Lot.cl T.Lot_pairs.me (ok_Lot_pairs T) (hr.mono (by decide)) T.Lot_pairs.b .nil pass0) (pa_cons (pe_meth0 (pv 9) T.Lot.cl T.Lot_pairs.me (ok_Lot_pairs T) (hr.mono (by decide)) T.Lot_pairs.b .nil pass0) pa_nil)))))
      (pss_cons (ps_if (pt_not (pt_val (pe_call (ok_same T) (hr.mono (by decide)) rfl T.same.g T.same.F.kp T.same.b .nil pass0 (pa_cons (pv 10) (pa_cons (pe_lst (pa_cons (pe_call (ok_pairs T) (hr.mono (by decide)) rfl T.pairs.g T.pairs.F.kp T.pairs.b .nil pass0 (pa_cons (pv 12) pa_nil)) (pa_cons (pe_call (ok_pairs T) (hr.mono (by decide)) rfl T.pairs.g T.pairs.F.kp T.pairs.b .nil pass0 (pa_cons (pv 7) pa_nil)) (pa_cons (pe_call (ok_pairs T) (hr.mono (by decide)) rfl T.pairs.g T.pairs.F.kp T.pairs.b .nil pass0 (pa_cons (pv 4) pa_nil)) pa_nil)))) pa_nil))))) (pss_one (ps_ret (pe_bl))) (pss_nil))
      (pss_cons (ps_set (i := 14) sc_right.nd rfl (Or.inl rfl) (pe_op (OO.op_own (ok_Lot_mod T) (hr.mono (by decide)) T.Lot_mod.b passL T.Lot.sf T.Lot_mod.own) (pv 8) (pv 9)))
      (pss_cons (ps_aug (i := 14) sc_right.nd rfl (Or.inl rfl) (pe_make (T.Lot_init.mk_ T.Lot) (ok_Lot_init T) (hr.mono (by decide)) rfl T.Lot.g T.Lot_init.b .nil pass0 (pa_cons (pe_lst (pa_cons (pe_tup (pa_cons (pe_ix (ix_listK K) (pv 2) (pe_int) (fun _ _ => rfl)) (pa_cons (pe_int) pa_nil))) pa_nil)) pa_nil)) (OO.ip_own (ok_Lot_iadd T) (hr.mono (by decide)) T.Lot_iadd.b pass0 T.Lot.sf T.Lot_iadd.own))
      (pss_one (ps_if (pt_not (pt_val (pe_call (ok_same T) (hr.mono (by decide)) rfl T.same.g T.same.F.kp T.same.b .nil pass0 (pa_cons (pe_lst (pa_cons (pe_meth0 (pv 8) T.Lot.cl T.Lot_pairs.me (ok_Lot_pairs T) (hr.mono (by decide)) T.Lot_pairs.b .nil pass0) (pa_cons (pe_meth0 (pv 9) T.Lot.cl T.Lot_pairs.me (ok_Lot_pairs T) (hr.mono (by decide)) T.Lot_pairs.b .nil pass0) pa_nil))) (pa_cons (pe_lst (pa_cons (pe_call (ok_pairs T) (hr.mono (by decide)) rfl T.pairs.g T.pairs.F.kp T.pairs.b .nil pass0 (pa_cons (pv 7) pa_nil)) (pa_cons (pe_call (ok_pairs T) (hr.mono (by decide)) rfl T.pairs.g T.pairs.F.kp T.pairs.b .nil pass0 (pa_cons (pv 4) pa_nil)) pa_nil))) pa_nil))))) (pss_one (ps_ret (pe_bl))) (pss_nil))))))))))))))))))))
      (pss_one (ps_ret (pe_bl)))), ?_⟩
    have cp : ∀ {i j : Int}, (decide (0 ≤ j) && decide (j ≤ 1000000) && decide (i.natAbs < 2 ^ 64)) = true → CPow i j := fun h => by
      simp only [Bool.and_eq_true, decide_eq_true_eq] at h
      exact ⟨h.1.1, h.1.2, h.2⟩
    refine ⟨_, rfl, G, p, c, 2, rfl, S, by omega, by decide, fun G1 H1 c1 l1 ns1 x1 S1 hc1 hl1 hn1 hk1 hd1 => ?_⟩
    refine ⟨G1, l1, ns1, rfl, S1.s, hl1, hn1, hd1, fun G2 H2 x2 => ?_⟩
    have S2 := S1.go x2
    refine ⟨_, rfl, ifF rfl ?_⟩
    have x02 := x1.trans x2.on
    refine ⟨_, rfl, by decide, by decide, ?_⟩
    refine for_range (lo := 0) (n := 6) (fun i σ H' => ∃ (G' : Hp) (c' : Int) (v1 v2 v3 v4 v5 v6 v7 v8 v9 v10 v11 v12 v13 v14 : Option V), σ = [some (.ref p), v1, v2, v3, v4, v5, v6, v7, v8, v9, v10, v11, v12, v13, v14] ∧
      Ex (On p) G H G' H' ∧ Sx G' H' p c' ∧ c' ≤ c + 1000 + 4000 * i) ⟨G2, c1, _, _, _, _, _, _, _, _, _, _, _, _, _, _, rfl, x02, S2, by omega⟩ ?_ ?_
    · rintro i_ σ Ha hi ⟨Ga, ca, v1, v2, v3, v4, v5, v6, v7, v8, v9, v10, v11, v12, v13, v14, rfl, xa, Sa, hca⟩
      -- names, bound
      refine ⟨_, rfl, Ga, p, ca, 6, rfl, Sa, by omega, by decide, fun G3 H3 c3 l ns x3 S3 hc3 hl hn6 hkd hnd => ?_⟩
      refine ⟨_, rfl, _, _, rfl, rfl, cp rfl, sz rfl, fun q4 h4 => ?_⟩
      generalize e4 : upd H3 q4 _ = H4
      obtain ⟨G4, x4, S4, g4⟩ := sx_new S3 h4 e4
      refine ⟨G4, p, q4, _, c3, rfl, S4, by omega, g4, by simp, by simp, fun H5 bv c5 x5 S5 hc5 hbv => ?_⟩
      obtain ⟨bd, rfl, hb0, hb1⟩ : ∃ bd : Int, bv = .int bd ∧ 0 < bd ∧ bd ≤ 1000000 := by
        simp only [List.mem_cons, List.mem_nil_iff, or_false] at hbv
        rcases hbv with rfl | rfl | rfl
        · exact ⟨3, rfl, by decide, by decide⟩
        · exact ⟨20, rfl, by decide, by decide⟩
        · exact ⟨_, rfl, by decide, by decide⟩
      refine ⟨sz rfl, fun q6 h6 => ?_⟩
      generalize e6 : upd H5 q6 _ = H6
      obtain ⟨x6, S6, g6, n6, h6'⟩ := sx_hid S5 h6 e6
      refine ⟨q6, _, rfl, SqT.of h6', rfl, _, _, rfl, _, _, rfl, rfl, ?_⟩
      have hl6 := x4.g _ _ hl
      -- its
      refine ⟨_, rfl, l, rfl, ⟨_, SqL.of (S6.s _ _ hl6)⟩, fun D hD => ?_⟩
      have gD : G4 D = none := S6.s.free hD
      have nDp : D ≠ p := S6.ne' hD
      refine lc_it (walk_list (K := K) (a := l) (xs := ns.map V.str)) (fun i H' => ∃ (G' : Hp) (acc : List V) (c' : Int) (ps : Pr), Ex (On p) G4 H6 G' H' ∧ Sx G' H' p c' ∧ c' ≤ c5 + 2 * i ∧ G' D = none ∧ H' D = some (.lst acc) ∧ RpA G' acc (ps.map encP) ∧ (∀ x ∈ ps, x.1 ∈ ns ∧ 0 ≤ x.2 ∧ x.2 ≤ 1000000) ∧ ps.length ≤ i)
        ⟨G4, [], c5, [], Ex.hid S6.s hD, S6.put gD nDp, by omega, gD, upd_same, .nil, (fun x hx => nomatch hx), Nat.le_refl _⟩ (fun i H' _ h => by obtain ⟨G', acc, c', ps, x, _⟩ := h; exact SqL.of (x.s _ _ (x.g _ _ hl6))) ?_ ?_
      · rintro i y Hb Hc hi ⟨G', acc, c', ps, x', S', hc', gD', hDa, ra, hps, hpl⟩ ⟨rfl, hy⟩
        rw [List.length_map, hn6] at hi
        obtain ⟨kd, hk, rfl⟩ := map_at hy
        refine ⟨rfl, _, rfl, G', p, 2, c', rfl, S', by omega, by decide, by decide, fun H7 r c7 x7 S7 hc7 hr0 hr1 => ⟨rfl, _, rfl, ?_⟩⟩
        have hD7 : H7 D = some (.lst acc) := x7.h _ _ nDp hDa
        refine if2 (fun _ => ?_) (fun _ => ?_)
        · refine ⟨_, rfl, _, rfl, _, rfl, G', p, bd, c7, rfl, S7, by omega, hb0, by omega, fun H8 e c8 x8 S8 hc8 he0 he1 => ⟨sz rfl, fun t ht => ?_⟩⟩
          have hD8 : H8 D = some (.lst acc) := x8.h _ _ nDp hD7
          generalize e9 : upd H8 t _ = H9
          obtain ⟨G9, x9, S9, g9⟩ := sx_new S8 ht e9
          have gD9 : G9 D = none := x9.un gD' (by rw [hD8]; simp)
          have hD9 : H9 D = some (.lst acc) := x9.h _ _ nDp hD8
          have la := ra.length
          rw [List.length_map] at la
          refine ⟨acc, hD9, szl (by omega), G9, acc ++ [.ref t], c8, ps ++ [(kd, e)], (x'.trans (x7.trans (x8.trans x9))).put gD9 (.inr hD) (by rw [hD9]; simp), S9.put gD9 nDp, by omega, gD9, upd_same, ?_, fun x hx => ?_, by rw [List.length_append]; simp; omega⟩
          · rw [List.map_append]
            exact (ra.mono x9.g).app (.cons (.tup g9 (.cons (.str _) (.cons (.int _) .nil))) .nil)
          · rcases List.mem_append.mp hx with hx | hx
            · exact hps x hx
            · rw [List.mem_singleton.mp hx]
              exact ⟨List.mem_of_getElem? hk, he0, by show e ≤ 1000000; omega⟩
        · exact ⟨G', acc, c7, ps, x'.trans x7, S7, by omega, gD', hD7, ra, hps, by omega⟩
      rintro Hb ⟨G7, acc, c7, ps, x7, S7, hc7, gD7, hD7, ra, hps, hpl⟩
      rw [List.length_map, hn6] at hc7 hpl
      have x8 := x7.tell hD7 gD hD
      have S8 := S7.tell hD7 gD7 nDp
      refine ⟨_, .ref D, ps, rfl, S8.s, .inl (.lst upd_same (ra.mono (same_new gD7))), by omega, fun H9 a x9 ha0 ha => ?_⟩
      have x9t := x9.tell ha (S8.s.free ha0) ha0
      have S10 := S8.go x9t
      have hdn := tally_nodup ps
      have hdv : ∀ x ∈ tally ps, x.1 ∈ ns ∧ 0 ≤ x.2 ∧ x.2 ≤ 6000000 := fun x hx => by
        obtain ⟨h1, h2⟩ := tally_vals hx
        obtain ⟨y, hy, e⟩ := List.mem_map.mp h2
        have h3 := sumK_le (B := 1000000) (fun x hx => (hps x hx).2) (by decide) x.1
        refine ⟨by rw [← e]; exact (hps y hy).1, by rw [h1]; exact sumK_nn (fun x hx => (hps x hx).2.1) _, ?_⟩
        rw [h1]
        omega
      have hdl : (tally ps).length ≤ 6 := Nat.le_trans (tally_length ps) hpl
      generalize e10 : tally ps = d at *
      generalize eG : upd (upd G7 D _) a _ = G10 at *
      have ga10 : G10 a = some (.dK (encD d)) := by rw [← eG]; exact upd_same
      have x410 : Ex (On p) G4 H6 G10 H9 := x8.trans x9t.on
      have hl10 := x410.g _ _ hl6
      -- by, mine
      refine ⟨_, rfl, _, _, rfl, rfl, cp rfl, sz rfl, fun q11 h11 => ?_⟩
      generalize e11 : upd H9 q11 _ = H11
      obtain ⟨G11, x11, S11, g11⟩ := sx_new S10 h11 e11
      refine ⟨G11, p, q11, _, c7, rfl, S11, by omega, g11, by simp, by simp, fun H12 bv c12 x12 S12 hc12 hbv => ?_⟩
      obtain ⟨by_, rfl, hy0, hy1⟩ : ∃ bd : Int, bv = .int bd ∧ 0 ≤ bd ∧ bd ≤ 1000000 := by
        simp only [List.mem_cons, List.mem_nil_iff, or_false] at hbv
        rcases hbv with rfl | rfl | rfl | rfl
        · exact ⟨0, rfl, by decide, by decide⟩
        · exact ⟨1, rfl, by decide, by decide⟩
        · exact ⟨3, rfl, by decide, by decide⟩
        · exact ⟨_, rfl, by decide, by decide⟩
      refine fun M hM => ⟨_, _, rfl, ?_⟩
      generalize e13 : upd H12 M _ = H13
      obtain ⟨x13, S13, gM, nMp, hM13⟩ := sx_hid S12 hM e13
      have x913 := x11.trans (x12.trans x13)
      have hl13 := x913.g _ _ hl10
      have ga13 := x913.g _ _ ga10
      refine ⟨_, rfl, l, rfl, ⟨_, SqL.of (S13.s _ _ hl13)⟩, ?_⟩
      refine for_it (walk_list (K := K) (a := l) (xs := ns.map V.str)) (fun i σ H' => ∃ (dm : Pr) (c' : Int) (v5 v8 v9 v10 v11 v12 v13 v14 : Option V), σ = [some (.ref p), some (.int (0 + i_)), some (.ref l), some (.int bd), some (.ref a), v5, some (.int by_), some (.ref M), v8, v9, v10, v11, v12, v13, v14] ∧
        Ex (On p) G11 H12 G11 H' ∧ Sx G11 H' p c' ∧ c' ≤ c12 + i ∧ H' M = some (.dK (encD dm)) ∧ dm.map (·.1) = ns.take i ∧ ∀ x ∈ dm, (look d x.1).getD 0 * by_ ≤ x.2 ∧ x.2 ≤ (look d x.1).getD 0 * by_ + 1000000)
        ⟨[], c12, _, _, _, _, _, _, _, _, rfl, x13, S13, by omega, hM13, rfl, fun x hx => nomatch hx⟩ (fun i σ H' _ h => by obtain ⟨dm, c', _, _, _, _, _, _, _, _, _, _, S', _⟩ := h; exact SqL.of (S'.s _ _ hl13)) ?_ ?_
      · rintro i y σ Hb Hc hi ⟨dm, c', v5', v8', v9', v10', v11', v12', v13', v14', rfl, x', S', hc', hMb, hkeys, hvals⟩ ⟨rfl, hy⟩
        rw [List.length_map, hn6] at hi
        obtain ⟨kd, hk, rfl⟩ := map_at hy
        refine ⟨_, rfl, a, rfl, .inl ⟨_, .inl (S'.s _ _ ga13)⟩, _, rfl, _, DGet.k (k := Sum.inr kd) (S'.s _ _ ga13), _, rfl, _, _, ev_get d kd, rfl, .inr ⟨by omega, by omega⟩, ?_⟩
        refine ⟨_, rfl, _, rfl, G11, p, bd, c', rfl, S', by omega, hb0, by omega, fun H7 e c7' x7 S7 hc7' he0 he1 => ?_⟩
        have hM7 : H7 M = some (.dK (encD dm)) := x7.h _ _ nMp hMb
        have hdml : dm.length ≤ i := by
          have := congrArg List.length hkeys
          rw [List.length_map, List.length_take] at this
          omega
        refine ⟨_, _, rfl, rfl, _, rfl, _, rfl, M, _, rfl, DPut.k (k := Sum.inr kd) hM7 (szl (by rw [encD, List.length_map]; omega)), ?_⟩
        have hnk : kd ∉ dm.map (·.1) := by
          rw [hkeys]
          exact nodup_take hnd hk
        refine ⟨dm ++ [(kd, (look d kd).getD 0 * by_ + e)], c7', _, _, _, _, _, _, _, _, rfl, (x'.trans x7).put gM (.inr hM) (by rw [hM7]; simp), S7.put gM nMp, by omega, ?_, ?_, fun x hx => ?_⟩
        · rw [upd_same, put_enc, putD_new hnk]
        · rw [List.map_append, hkeys, List.take_add_one, hk]; rfl
        · rcases List.mem_append.mp hx with hx | hx
          · exact hvals x hx
          · rw [List.mem_singleton.mp hx]
            exact ⟨by show (look d kd).getD 0 * by_ ≤ (look d kd).getD 0 * by_ + e; omega, by show (look d kd).getD 0 * by_ + e ≤ (look d kd).getD 0 * by_ + 1000000; omega⟩
      rintro σ Hb ⟨dm, c14, v5', v8', v9', v10', v11', v12', v13', v14', rfl, x14, S14, hc14, hM14, hkeys, hvals⟩
      rw [List.length_map, hn6] at hc14
      rw [List.length_map, List.take_of_length_le (by omega)] at hkeys
      have x14t := x14.tell hM14 gM hM
      have S15 := S14.tell hM14 gM nMp
      generalize eG15 : upd G11 M _ = G15 at *
      have gM15 : G15 M = some (.dK (encD dm)) := by rw [← eG15]; exact upd_same
      have ga15 := x14t.g _ _ ga13
      have hl15 := x14t.g _ _ hl13
      have x315 : Ex (On p) G11 H12 G15 Hb := x14t
      have hdmn : (dm.map (·.1)).Nodup := by rw [hkeys]; exact hnd
      have hdml : dm.length ≤ 6 := by
        have := congrArg List.length hkeys
        rw [List.length_map] at this; omega
      have gd0 : ∀ k, 0 ≤ (look d k).getD 0 ∧ (look d k).getD 0 ≤ 6000000 := fun k => by
        cases e : look d k with
        | none => exact ⟨Int.le_refl _, by decide⟩
        | some n => exact (hdv _ (look_some_mem e)).2
      have hdm0 : ∀ x ∈ dm, 0 ≤ x.2 ∧ x.2 < 2 ^ 60 := fun x hx => by
        have h1 := hvals x hx
        have h2 := gd0 x.1
        have h3 := Int.mul_nonneg h2.1 hy0
        have h4 := Int.mul_le_mul h2.2 hy1 hy0 (by decide)
        omega
      have hd0 : ∀ x ∈ d, 0 ≤ x.2 := fun x hx => (hdv x hx).2.1
      have hmk : ∀ x ∈ dm, x.1 ∈ ns := fun x hx => by rw [← hkeys]; exact List.mem_map.mpr ⟨x, hx, rfl⟩
      have hdk : ∀ x ∈ d, x.1 ∈ ns := fun x hx => (hdv x hx).1
      -- the two lots
      refine ⟨_, rfl, _, rfl, G15, M, dm, rfl, S15.s, gM15, hdmn, by omega, (fun x hx => shaped_encP (hkd _ (hmk x hx)).ok), fun G16 H16 w16 x16 r16 => ?_⟩
      have S16 := S15.go x16
      have lM : (lotD dm).length ≤ 6 := by have := lotD_len hmk; omega
      have lN : (lotD d).length ≤ 6 := by have := lotD_len hdk; omega
      refine ⟨G16, p, c14, w16, _, rfl, S16, by omega, .inr r16, by rw [List.length_map]; exact Nat.le_trans lM (by decide), fun G17 H17 w17 es c17 x17 S17 hc17 hperm r17 => ?_⟩
      obtain ⟨qs, pq, rfl⟩ := perm_map_inv hperm _ rfl
      have okM := lotD_ok dm
      have okN := lotD_ok d
      have eM : mkLot qs = lotD dm := mk_perm okM pq
      intro one dX hX hdX hne
      refine make_lotX (ps := qs) (Ks := ns) S17.s (.inr r17) (fun x hx => Int.le_of_lt (okM.pos x (pq.mem_iff.mp hx))) (by omega) (fun x hx => lotD_keys hmk x (pq.mem_iff.mp hx)) (by rw [pq.length_eq]; exact Nat.le_trans lM (by decide)) hX hdX hne fun G18 H18 x18 ho => ⟨rfl, ?_⟩
      rw [eM] at ho
      have S18 := S17.go x18
      have x1518 : Ex (On p) G15 Hb G18 H18 := x16.on.trans (x17.trans x18.on)
      refine ⟨_, rfl, _, rfl, G18, a, d, rfl, S18.s, x1518.g _ _ ga15, hdn, by omega, (fun x hx => shaped_encP (hkd _ (hdk x hx)).ok), fun G19 H19 w19 x19 r19 => ?_⟩
      have S19 := S18.go x19
      refine ⟨G19, p, c17, w19, _, rfl, S19, by omega, .inr r19, by rw [List.length_map]; exact Nat.le_trans lN (by decide), fun G20 H20 w20 es c20 x20 S20 hc20 hperm r20 => ?_⟩
      obtain ⟨qs2, pq2, rfl⟩ := perm_map_inv hperm _ rfl
      have eN : mkLot qs2 = lotD d := mk_perm okN pq2
      intro two dY hY hdY hne2
      refine make_lotX (ps := qs2) (Ks := ns) S20.s (.inr r20) (fun x hx => Int.le_of_lt (okN.pos x (pq2.mem_iff.mp hx))) (by omega) (fun x hx => lotD_keys hdk x (pq2.mem_iff.mp hx)) (by rw [pq2.length_eq]; exact Nat.le_trans lN (by decide)) hY hdY hne2 fun G21 H21 x21 hw => ⟨rfl, ?_⟩
      rw [eN] at hw
      have S21 := S20.go x21
      have x1821 : Ex (On p) G18 H18 G21 H21 := x19.on.trans (x20.trans x21.on)
      have ho21 := ho.mono x1821.g
      have x1521 := x1518.trans x1821
      have ga21 := x1521.g _ _ ga15
      have gM21 := x1521.g _ _ gM15
      have hl21 := x1521.g _ _ hl15
      refine ⟨_, _, rfl, ?_⟩
      have lkM : ∀ k, lk (lotD dm) k = (look dm k).getD 0 := lk_lotD hdmn fun x hx => (hdm0 x hx).1
      have lkN : ∀ k, lk (lotD d) k = (look d k).getD 0 := lk_lotD hdn hd0
      have bigM : ∀ x ∈ lotD dm, x.2.natAbs < 2 ^ 400 := fun x hx => by
        have h := hdm0 x (lotD_mem hdmn (fun x hx => (hdm0 x hx).1) hx).1
        exact Nat.lt_trans (show x.2.natAbs < 2 ^ 60 by omega) (by decide)
      have bigN : ∀ x ∈ lotD d, x.2.natAbs < 2 ^ 400 := fun x hx => by
        have h := (hdv x (lotD_mem hdn hd0 hx).1).2
        exact Nat.lt_trans (show x.2.natAbs < 2 ^ 60 by omega) (by decide)
      have shN : SeqAt.shaped (.tuple ((lotD d).map encP)) = true := (shd_tup (n := 1) fun e he => by
        obtain ⟨x, hx, rfl⟩ := List.mem_map.mp he
        exact shd_encP (hkd _ (lotD_keys hdk x hx)).ok).shaped (by decide)
      have xall : Ex (On p) G H G21 H21 := xa.trans (x3.trans (x4.trans (x5.trans (x6.trans (x410.trans (x11.trans (x12.trans (x14t.trans x1521))))))))
      -- pairs(its) == ()
      refine ⟨_, rfl, G21, a, d, rfl, S21.s, ga21, hdn, by omega, (fun x hx => shaped_encP (hkd _ (hdk x hx)).ok), fun G22 H22 w22 x22 r22 => ?_⟩
      have S22 := S21.go x22
      refine ⟨sz rfl, fun q23 h23 => ?_⟩
      generalize e23 : upd H22 q23 _ = H23
      obtain ⟨G23, x23, S23, g23⟩ := sx_new S22 h23 e23
      refine ⟨_, _, ((r22.mono x23.g).mono S23.s).dp, .tup (SqT.of (S23.s _ _ g23)) .nil, shN, rfl, _, rfl, ?_⟩
      have ho23 := ho21.mono (x22.on.trans x23).g
      have hw23 := hw.mono (x22.on.trans x23).g
      have xall23 := xall.trans (x22.on.trans x23)
      have ga23 := (x22.on.trans x23).g _ _ ga21
      have gM23 := (x22.on.trans x23).g _ _ gM21
      have hl23 := (x22.on.trans x23).g _ _ hl21
      generalize eM' : lotD dm = m at *
      generalize eN' : lotD d = n at *
      refine if2 (fun hz => ?_) (fun hz => ?_)
      · have en : n = [] := by
          rw [← eN']
          have hz : PyData.eqv (.tuple ((lotD d).map encP)) (.tuple []) = true := hz
          cases e : lotD d with
          | nil => rfl
          | cons x r => rw [e] at hz; cases hz
        subst en
        refine ⟨_, rfl, _, rfl, G23, one, two, m, 0, rfl, S23.s, ho23, hw23, bigM, fun G24 H24 w24 x24 r24 => ?_⟩
        refine ⟨_, rfl, _, rfl, G24, one, two, m, 1, rfl, x24.s, ho23.mono x24.g, hw23.mono x24.g, bigM, fun G25 H25 w25 x25 r25 => ?_⟩
        have x2325 := x24.trans x25
        refine ⟨_, rfl, _, rfl, G25, two, two, [], 1, rfl, x25.s, hw23.mono x2325.g, hw23.mono x2325.g, (fun x hx => nomatch hx), fun G26 H26 w26 x26 r26 => ?_⟩
        refine ⟨sz rfl, fun q27 h27 => ?_⟩
        generalize e27 : upd H26 q27 _ = H27
        obtain ⟨G27, x27, g27⟩ := ex_new (M := No) x26.s h27 e27
        refine ⟨_, rfl, sz rfl, fun q28 h28 => ?_⟩
        generalize e28 : upd H27 q28 _ = H28
        obtain ⟨G28, x28, g28⟩ := ex_new (M := No) x27.s h28 e28
        refine ⟨sz rfl, fun q29 h29 => ?_⟩
        generalize e29 : upd H28 q29 _ = H29
        obtain ⟨G29, x29, g29⟩ := ex_new (M := No) x28.s h29 e29
        refine ⟨sz rfl, fun q30 h30 => ?_⟩
        generalize e30 : upd H29 q30 _ = H30
        obtain ⟨G30, x30, g30⟩ := ex_new (M := No) x29.s h30 e30
        refine ⟨sz rfl, fun q31 h31 => ?_⟩
        generalize e31 : upd H30 q31 _ = H31
        obtain ⟨G31, x31, g31⟩ := ex_new (M := No) x30.s h31 e31
        have x2831 := x29.trans (x30.trans x31)
        have x2731 := x28.trans x2831
        have x2631 := x27.trans x2731
        have x2531 := x26.trans x2631
        have x2431 := x25.trans x2531
        have x2331 := x24.trans x2431
        have tf : ∀ {a : Addr}, G31 a = some (.tup [.bl true, .bl false]) → Rp G31 (.ref a) (.tuple [.bool true, .bool false]) := fun h => .tup h (.cons (.bl _) (.cons (.bl _) .nil))
        refine ⟨G31, .ref q27, .ref q31, .list [.tuple [.bool true, .bool false], .tuple [.bool true, .bool false], .tuple [.bool true, .bool false]], rfl, x31.s,
          .lst (x2731.g _ _ g27) (.cons (r24.mono x2431.g) (.cons (r25.mono x2531.g) (.cons (r26.mono x2631.g) .nil))),
          .lst g31 (.cons (tf (x2831.g _ _ g28)) (.cons (tf ((x30.trans x31).g _ _ g29)) (.cons (tf (x31.g _ _ g30)) .nil))), fit_list (by simp) (fun e he => ?_), fun H32 x32 => ?_⟩
        · have : e = .tuple [.bool true, .bool false] := by simpa using he
          rw [this]
          exact fit_tup (by simp) fun e he => by
            rcases List.mem_cons.mp he with rfl | he
            · exact fit_bl _
            · rw [List.mem_singleton.mp he]; exact fit_bl _
        refine ⟨_, rfl, ifF rfl ?_⟩
        exact ⟨G31, c20, _, _, _, _, _, _, _, _, _, _, _, _, _, _, rfl, xall23.trans (x2331.trans x32).on, S23.go (x2331.trans x32), by omega⟩
      · have en : n ≠ [] := by
          intro e
          rw [← eN'] at e
          have hz : PyData.eqv (.tuple ((lotD d).map encP)) (.tuple []) = false := hz
          rw [e] at hz
          cases hz
        obtain ⟨dx, fs, k1⟩ := id ho23.ins
        obtain ⟨dy, gs, k2⟩ := id hw23.ins
        refine ⟨_, rfl, _, rfl, one, two, dx, dy, _, _, rfl, rfl, S23.s _ _ k1, S23.s _ _ k2, G23, one, two, m, n, rfl, S23.s, ho23, hw23, bigN, (fun e => absurd e en), fun _ G24 H24 q x24 qa qb => ?_⟩
        have S24 := S23.go x24
        have ti : TyX K H24 (.int q) (.type "int") := .base (.int q)
        have q0 : 0 ≤ q := div_nn okM okN qa
        have hby : by_ ≤ q := by
          obtain ⟨x, hx, rfl⟩ := qa
          have h1 := okN.lk_mem hx
          have h2 := okN.pos x hx
          rw [lkN] at h1
          have h3 : x.1 ∈ ns := lotD_keys hdk x (eN' ▸ hx)
          rw [← hkeys] at h3
          obtain ⟨y, hy, e⟩ := List.mem_map.mp h3
          have h4 := look_mem hdmn hy
          have h5 := (hvals y hy).1
          rw [lkM, ← e, h4]
          rw [e, h1] at h5
          exact Int.le_ediv_of_mul_le h2 (by rw [Int.mul_comm]; exact h5)
        refine ⟨_, rfl, _, _, _, _, _, rfl, .ty _, ti, kit_ty (r := true) (by decide +kernel), _, rfl, ifF rfl ?_⟩
        refine ⟨_, rfl, _, _, _, _, _, rfl, .ty _, ti, kit_ty (r := false) (by decide +kernel), _, rfl, ifF rfl ?_⟩
        refine ⟨_, rfl, _, rfl, _, _, rfl, rfl, _, rfl, ifF (decide_eq_false (by omega)) ?_⟩
        -- due, more
        refine fun U hU => ⟨sz rfl, fun t25 h25 => ?_⟩
        generalize e25 : upd H24 U _ = H25 at *
        obtain ⟨x25, S25, gU, nUp, hU25⟩ := sx_hid S24 hU e25
        generalize e26 : upd H25 t25 _ = H26
        obtain ⟨x26, S26, gt26, nt26, ht26⟩ := sx_hid S25 h25 e26
        refine ⟨t25, _, rfl, SqT.of ht26, rfl, _, _, rfl, _, _, rfl, rfl, ?_⟩
        have nUt : U ≠ t25 := ne_of_none hU25 h25
        have hU26 : H26 U = some (.dK []) := x26.h _ _ nUp hU25
        have hl24 := x24.g _ _ hl23
        have ga24 := x24.g _ _ ga23
        have gM24 := x24.g _ _ gM23
        refine ⟨_, rfl, l, rfl, ⟨_, SqL.of (S26.s _ _ hl24)⟩, ?_⟩
        have x2426 : Ex (On p) G24 H24 G24 H26 := x25.trans x26
        have mul64 : ∀ kd, CMul ((look d kd).getD 0) q := fun kd => .inl (by have := gd0 kd; omega)
        have dm_at : ∀ (i : Nat) (kd : Str), ns[i]? = some kd → ∃ v, dm[i]? = some (kd, v) ∧ look dm kd = some v := fun i kd hk => by
          rw [← hkeys] at hk
          obtain ⟨⟨k', v⟩, h1, h2⟩ := map_at hk
          simp only at h2
          subst h2
          exact ⟨v, h1, look_mem hdmn (List.mem_of_getElem? h1)⟩
        refine for_it (walk_list (K := K) (a := l) (xs := ns.map V.str)) (fun i σ H' => ∃ (du : Pr) (mr : Int) (v5 v8 v9 v10 v14 : Option V), σ = [some (.ref p), some (.int (0 + i_)), some (.ref l), some (.int bd), some (.ref a), v5, some (.int by_), some (.ref M), some (.ref one), some (.ref two), v10, some (.int q), some (.ref U), some (.int mr), v14] ∧
          Ex (On p) G24 H24 G24 H' ∧ Sx G24 H' p c20 ∧ H' U = some (.dK (encD du)) ∧ du = (dm.take i).map (fun x => (x.1, x.2 - (look d x.1).getD 0 * q)) ∧ 0 ≤ mr ∧ (mr = 0 → ∀ x ∈ dm.take i, (look d x.1).getD 0 ≤ x.2 - (look d x.1).getD 0 * q))
          ⟨[], 0, _, none, none, _, _, rfl, x2426, S26, hU26, rfl, Int.le_refl _, fun _ x hx => nomatch hx⟩ (fun i σ H' _ h => by obtain ⟨du, mr, _, _, _, _, _, _, _, S', _⟩ := h; exact SqL.of (S'.s _ _ hl24)) ?_ ?_
        · rintro i y σ Hc Hd hi ⟨du, mr, v5'', v8'', v9'', v10'', v14'', rfl, x', S', hUb, edu, hmr, hmr0⟩ ⟨rfl, hy⟩
          rw [List.length_map, hn6] at hi
          obtain ⟨kd, hk, rfl⟩ := map_at hy
          obtain ⟨v, hv, hlv⟩ := dm_at i kd hk
          have hMc := S'.s _ _ gM24
          have hac := S'.s _ _ ga24
          refine ⟨_, rfl, _, rfl, M, .int v, rfl, .inl ⟨_, Sum.inr kd, .inl hMc, rfl, by rw [val_enc, hlv]; rfl⟩, ?_⟩
          refine ⟨_, rfl, a, rfl, .inl ⟨_, .inl hac⟩, _, rfl, _, DGet.k (k := Sum.inr kd) hac, _, rfl, _, _, ev_get d kd, rfl, mul64 kd, _, _, rfl, rfl, ?_⟩
          have hdul : du.length ≤ 6 := by rw [edu, List.length_map, List.length_take]; omega
          refine ⟨_, rfl, _, rfl, U, _, rfl, DPut.k (k := Sum.inr kd) hUb (szl (by rw [encD, List.length_map]; omega)), ?_⟩
          have hnk : kd ∉ du.map (·.1) := by
            have : du.map (·.1) = ns.take i := by rw [edu, List.map_map, ← hkeys, ← List.map_take]; rfl
            rw [this]
            exact nodup_take hnd hk
          rw [put_enc, putD_new hnk]
          generalize e27 : upd Hd U _ = H27
          have hU27 : H27 U = some (.dK (encD (du ++ [(kd, v - (look d kd).getD 0 * q)]))) := by rw [← e27]; exact upd_same
          have x27 : Ex (On p) G24 H24 G24 H27 := e27 ▸ x'.put gU (.inr hU) (by rw [hUb]; simp)
          have S27 : Sx G24 H27 p c20 := e27 ▸ S'.put gU nUp
          have hac7 := S27.s _ _ ga24
          have et : dm.take (i + 1) = dm.take i ++ [(kd, v)] := by rw [List.take_add_one, hv]; rfl
          have hlu : look (du ++ [(kd, v - (look d kd).getD 0 * q)]) kd = some (v - (look d kd).getD 0 * q) := by
            rw [look_app, look_none hnk]; simp [look]
          have edu' : du ++ [(kd, v - (look d kd).getD 0 * q)] = (dm.take (i + 1)).map (fun x => (x.1, x.2 - (look d x.1).getD 0 * q)) := by rw [et, List.map_append, ← edu]; rfl
          refine ⟨_, rfl, a, rfl, .inl ⟨_, .inl hac7⟩, _, rfl, _, DGet.k (k := Sum.inr kd) hac7, _, rfl, _, rfl, U, .int (v - (look d kd).getD 0 * q), rfl, .inl ⟨_, Sum.inr kd, .inl hU27, rfl, by rw [val_enc, hlu]; rfl⟩, _, _, ev_get d kd, rfl, _, rfl, ?_⟩
          refine if2 (fun hg => ?_) (fun hg => ?_)
          · refine ⟨_, rfl, _, _, rfl, rfl, ?_⟩
            exact ⟨_, mr + 1, _, v8'', v9'', _, _, rfl, x27, S27, hU27, edu', by omega, fun h => by omega⟩
          · have hg := of_decide_eq_false hg
            refine ⟨_, mr, _, v8'', v9'', _, _, rfl, x27, S27, hU27, edu', hmr, fun h x hx => ?_⟩
            rw [et] at hx
            rcases List.mem_append.mp hx with hx | hx
            · exact hmr0 h x hx
            · rw [List.mem_singleton.mp hx]
              show (look d kd).getD 0 ≤ v - (look d kd).getD 0 * q
              omega
        rintro σ Hc ⟨du, mr, v5'', v8'', v9'', v10'', v14'', rfl, x27, S27, hU27, edu, hmr, hmr0⟩
        rw [List.length_map, List.take_of_length_le (by omega)] at edu hmr0
        have x28 := x27.tell hU27 gU hU
        have S28 := S27.tell hU27 gU nUp
        generalize eG28 : upd G24 U _ = G28 at *
        have gU28 : G28 U = some (.dK (encD du)) := by rw [← eG28]; exact upd_same
        have duk : du.map (·.1) = ns := by rw [edu, List.map_map]; exact hkeys
        have dun : (du.map (·.1)).Nodup := by rw [duk]; exact hnd
        have lku : ∀ k, (look du k).getD 0 = lk m k - lk n k * q := fun k => by
          have h0 := div_nn okM okN qa
          have h3 := div_le okM okN qb k
          have h4 := Int.mul_nonneg (okN.lk_nn k) h0
          rw [lkM k, lkN k] at *
          cases e : look dm k with
          | none =>
            rw [e] at h3
            have : look du k = none := look_none (by
              rw [duk, ← hkeys]
              intro hm
              obtain ⟨x, hx, e2⟩ := List.mem_map.mp hm
              have := look_mem hdmn hx
              rw [e2, e] at this
              cases this)
            rw [this]
            show (0 : Int) = 0 - _
            have h3' : (look d k).getD 0 * q ≤ 0 := h3
            omega
          | some v =>
            have hm := look_some_mem e
            have : look du k = some (v - (look d k).getD 0 * q) := look_mem (p := (k, v - (look d k).getD 0 * q)) dun (by rw [edu]; exact List.mem_map.mpr ⟨(k, v), hm, rfl⟩)
            rw [this]; rfl
        have du0 : ∀ x ∈ du, 0 ≤ x.2 := fun x hx => by
          have h1 := look_mem dun hx
          have h2 := lku x.1
          rw [h1] at h2
          have h3 := div_le okM okN qb x.1
          simp only [Option.getD_some] at h2
          omega
        have hmrp : mr ≠ 0 := by
          intro h
          obtain ⟨x, hx, hlt⟩ := mod_less okM okN qa
          have h3 : x.1 ∈ ns := lotD_keys hdk x (eN' ▸ hx)
          rw [← hkeys] at h3
          obtain ⟨y, hy, e⟩ := List.mem_map.mp h3
          have h4 := hmr0 h y hy
          have h5 := look_mem hdmn hy
          rw [lkM, lkN, ← e, h5] at hlt
          simp only [Option.getD_some] at hlt
          omega
        -- none below 0, some that would be less
        refine ⟨_, rfl, l, rfl, ⟨_, SqL.of (S28.s _ _ (x28.g _ _ hl24))⟩, fun D hD => ?_⟩
        refine lc_it (walk_list (K := K) (a := l) (xs := ns.map V.str)) (fun i H' => Ex No G28 Hc G28 H' ∧ H' D = some (.lst [])) ⟨Ex.hid S28.s hD, upd_same⟩ (fun i H' _ h => SqL.of (h.1.s _ _ (x28.g _ _ hl24))) ?_ ?_
        · rintro i y Hd He hi ⟨x', hDb⟩ ⟨rfl, hy⟩
          obtain ⟨kd, hk, rfl⟩ := map_at hy
          have h3 : kd ∈ du.map (·.1) := by rw [duk]; exact List.mem_of_getElem? hk
          obtain ⟨⟨k', v⟩, hv, e⟩ := List.mem_map.mp h3
          simp only at e
          subst e
          have h4 := look_mem dun hv
          have h5 : 0 ≤ v := du0 _ hv
          refine ⟨rfl, _, rfl, _, rfl, U, .int v, rfl, .inl ⟨_, Sum.inr k', .inl (x'.s _ _ gU28), rfl, by rw [val_enc, h4]; rfl⟩, _, _, rfl, rfl, _, rfl, ?_⟩
          exact ifF (decide_eq_false (by omega)) ⟨x', hDb⟩
        rintro Hd ⟨x29, hD29⟩
        refine ⟨sz rfl, fun q30 h30 => ?_⟩
        generalize e30 : upd Hd q30 _ = H30
        obtain ⟨x30, g30, h30'⟩ := ex_hid (M := No) x29.s h30 e30
        refine ⟨_, _, .lst (SqL.of (x30.same _ _ hD29)) .nil, .lst (SqL.of h30') .nil, rfl, rfl, _, rfl, ifF rfl ?_⟩
        refine ⟨_, rfl, rfl, _, rfl, ifF (decide_eq_false (by intro e; injection e with e; exact hmrp e)) ?_⟩
        have x2830 := x29.trans x30
        have S30 := S28.go x2830
        have x2330 : Ex (On p) G23 H23 G28 H30 := x24.on.trans (x28.trans x2830.on)
        have ho30 := ho23.mono x2330.g
        have hw30 := hw23.mono x2330.g
        have ga30 := x2330.g _ _ ga23
        have gM30 := x2330.g _ _ gM23
        have hl30 := x2330.g _ _ hl23
        have k1' := x2330.g _ _ k1
        have k2' := x2330.g _ _ k2
        -- got
        refine ⟨_, rfl, _, rfl, one, two, dx, dy, _, _, rfl, rfl, S30.s _ _ k1', S30.s _ _ k2', G28, one, two, m, n, rfl, S30.s, ho30, hw30, bigN, bigM, (fun e => absurd e en), fun _ q' qa' qb' G31 H31 z x31 hz0 hz => ?_⟩
        have eqq : q' = q := by
          obtain ⟨x, hx, e⟩ := qa
          obtain ⟨x', hx', e'⟩ := qa'
          have h1 := qb x' hx'
          have h2 := qb' x hx
          omega
        subst eqq
        have okR := hz.ok
        have lkR := mod_lk okM okN qa qb
        have lR := hz.len
        generalize eR : mkLot (m.map fun p => (p.1, p.2 - lk n p.1 * q')) = r at hz okR lkR lR
        have eR' : lotD du = r := Ok.ext (lotD_ok du) okR fun k => by rw [lk_lotD dun du0, lku, lkR]
        obtain ⟨dz, zs, k3⟩ := id hz.ins
        refine ⟨z, dz, _, rfl, x31.s _ _ k3, hz.noat k3 (by decide +kernel), G31, z, r, rfl, x31.s, hz, fun G32 H32 w32 x32 r32 => ?_⟩
        have x3032 := x31.trans x32
        have ho32 := ho30.mono x3032.g
        have hw32 := hw30.mono x3032.g
        refine ⟨_, rfl, one, dx, _, rfl, x32.s _ _ (x3032.g _ _ k1'), ho32.noat (x3032.g _ _ k1') (by decide +kernel), G32, one, m, rfl, x32.s, ho32, fun G33 H33 w33 x33 r33 => ?_⟩
        refine ⟨_, rfl, two, dy, _, rfl, x33.s _ _ (x33.g _ _ (x3032.g _ _ k2')), (hw32.mono x33.g).noat (x33.g _ _ (x3032.g _ _ k2')) (by decide +kernel), G33, two, n, rfl, x33.s, hw32.mono x33.g, fun G34 H34 w34 x34 r34 => ?_⟩
        refine ⟨sz rfl, fun q35 h35 => ?_⟩
        generalize e35 : upd H34 q35 _ = H35
        obtain ⟨G35, x35, g35⟩ := ex_new (M := No) x34.s h35 e35
        have x3035 := x3032.trans (x33.trans (x34.trans x35))
        have hduk : ∀ x ∈ du, x.1 ∈ ns := fun x hx => by rw [← duk]; exact List.mem_map.mpr ⟨x, hx, rfl⟩
        have dul : du.length ≤ 6 := by
          have := congrArg List.length duk
          rw [List.length_map] at this; omega
        refine ⟨_, rfl, _, rfl, G35, U, du, rfl, x35.s, x3035.g _ _ gU28, dun, by omega, (fun x hx => shaped_encP (hkd _ (hduk x hx)).ok), fun G36 H36 w36 x36 r36 => ?_⟩
        refine ⟨_, rfl, G36, M, dm, rfl, x36.s, (x3035.trans x36).g _ _ gM30, hdmn, by omega, (fun x hx => shaped_encP (hkd _ (hmk x hx)).ok), fun G37 H37 w37 x37 r37 => ?_⟩
        refine ⟨_, rfl, G37, a, d, rfl, x37.s, (x3035.trans (x36.trans x37)).g _ _ ga30, hdn, by omega, (fun x hx => shaped_encP (hkd _ (hdk x hx)).ok), fun G38 H38 w38 x38 r38 => ?_⟩
        change Rp G36 w36 (.tuple ((lotD du).map encP)) at r36
        change Rp G37 w37 (.tuple ((lotD dm).map encP)) at r37
        change Rp G38 w38 (.tuple ((lotD d).map encP)) at r38
        rw [eR'] at r36
        rw [eM'] at r37
        rw [eN'] at r38
        refine ⟨sz rfl, fun q39 h39 => ?_⟩
        generalize e39 : upd H38 q39 _ = H39
        obtain ⟨G39, x39, g39⟩ := ex_new (M := No) x38.s h39 e39
        have x3739 := x38.trans x39
        have x3639 := x37.trans x3739
        have x3539 := x36.trans x3639
        refine ⟨G39, .ref q35, .ref q39, .list [.tuple (r.map encP), .tuple (m.map encP), .tuple (n.map encP)], rfl, x39.s,
          .lst (x3539.g _ _ g35) (.cons (r32.mono (x33.trans (x34.trans (x35.trans x3539))).g) (.cons (r33.mono (x34.trans (x35.trans x3539)).g) (.cons (r34.mono (x35.trans x3539).g) .nil))),
          .lst g39 (.cons (r36.mono x3639.g) (.cons (r37.mono x3739.g) (.cons (r38.mono x39.g) .nil))), fit_list (by simp) (fun e he => ?_), fun H40 x40 => ?_⟩
        · have hm64 := ho23.len
          have hn64 := hw23.len
          simp only [List.mem_cons, List.mem_nil_iff, or_false] at he
          rcases he with rfl | rfl | rfl <;> exact fit_pairs (by omega)
        refine ⟨_, rfl, ifF rfl ?_⟩
        have x3040 := x3035.trans (x3539.trans x40)
        have ho40 := ho30.mono x3040.g
        have hw40 := hw30.mono x3040.g
        have k1'' := x3040.g _ _ k1'
        have k2'' := x3040.g _ _ k2'
        -- fresh
        refine ⟨_, rfl, _, rfl, one, two, dx, dy, _, _, rfl, rfl, x40.s _ _ k1'', x40.s _ _ k2'', G39, one, two, m, n, rfl, x40.s, ho40, hw40, bigN, bigM, (fun e => absurd e en), fun _ q'' qa'' qb'' G41 H41 f x41 hf0 hf => ?_⟩
        have x41f := x41.forget
        have fk : ∀ x ∈ mkLot (m.map fun p => (p.1, p.2 - lk n p.1 * q'')), x.1 ∈ ns := fun x hx => by
          have := keys_mk (mod_nn okM okN qb'') hx
          rw [List.map_map] at this
          obtain ⟨y, hy, e⟩ := List.mem_map.mp this
          rw [← e]
          exact lotD_keys hmk y (eM' ▸ hy)
        have hfH := hf.mono x41.s
        generalize mkLot (m.map fun p => (p.1, p.2 - lk n p.1 * q'')) = rf at hf hfH fk
        obtain ⟨n0, hn0⟩ : ∃ n0, ns[0]? = some n0 := ⟨ns[0], List.getElem?_eq_getElem (by omega)⟩
        have hl41 := x3040.g _ _ hl30
        refine ⟨_, rfl, _, rfl, l, _, _, _, rfl, rfl, SqL.of (x41f.s _ _ hl41), atI_nat (j := 0) (v := .str n0) (by rw [List.getElem?_map, hn0]; rfl), sz rfl, fun t42 h42 => ?_⟩
        generalize e42 : upd H41 t42 _ = H42
        obtain ⟨G42, x42, g42⟩ := ex_new (M := No) x41f.s h42 e42
        refine ⟨sz rfl, fun q43 h43 => ?_⟩
        generalize e43 : upd H42 q43 _ = H43
        obtain ⟨G43, x43, g43⟩ := ex_new (M := No) x42.s h43 e43
        intro b4 dB hB hdB hne3
        refine make_lotX (ps := [(n0, 4)]) (Ks := [n0]) x43.s (.inr (.lst g43 (.cons (.tup (x43.g _ _ g42) (.cons (.str _) (.cons (.int _) .nil))) .nil))) (fun x hx => by rw [List.mem_singleton.mp hx]; show (0 : Int) ≤ 4; decide) (by simp) (fun x hx => by rw [List.mem_singleton.mp hx]; simp) (by simp) hB hdB hne3 fun G44 H44 x44 hb4 => ⟨rfl, ?_⟩
        have x4144 := x42.trans (x43.trans x44)
        have gf : G44 f = none := x4144.un (x40.s.free hf0) (by
          obtain ⟨_, _, e⟩ := hfH.ins
          rw [e]; simp)
        have hf44 := hfH.mono x4144.same
        have hb44 := hb4.mono x44.s
        obtain ⟨df, fv, kf⟩ := id hf44.ins
        have mk4 : ∀ x ∈ mkLot [(n0, 4)], x.1 ∈ ns := fun x hx => by
          rw [one_mem (by decide) hx]
          exact List.mem_of_getElem? hn0
        refine ⟨f, df, _, rfl, kf, G44, f, b4, rf, _, ns, rfl, x44.s, gf, hf44, hb44, by omega, fk, mk4, fun H45 x45 _ => ?_⟩
        have x4045 : Ex No G39 H40 G44 H45 := (x41f.trans x4144).onNew x45 hf0
        have x3045 := x3040.trans x4045
        have ho45 := ho30.mono x3045.g
        have hw45 := hw30.mono x3045.g
        have k1b := x3045.g _ _ k1'
        have k2b := x3045.g _ _ k2'
        refine ⟨_, rfl, one, dx, _, rfl, x45.s _ _ k1b, ho45.noat k1b (by decide +kernel), G44, one, m, rfl, x45.s, ho45, fun G46 H46 w46 x46 r46 => ?_⟩
        refine ⟨_, rfl, two, dy, _, rfl, x46.s _ _ (x46.g _ _ k2b), (hw45.mono x46.g).noat (x46.g _ _ k2b) (by decide +kernel), G46, two, n, rfl, x46.s, hw45.mono x46.g, fun G47 H47 w47 x47 r47 => ?_⟩
        refine ⟨sz rfl, fun q48 h48 => ?_⟩
        generalize e48 : upd H47 q48 _ = H48
        obtain ⟨G48, x48, g48⟩ := ex_new (M := No) x47.s h48 e48
        have x3048 := x3045.trans (x46.trans (x47.trans x48))
        refine ⟨_, rfl, G48, M, dm, rfl, x48.s, x3048.g _ _ gM30, hdmn, by omega, (fun x hx => shaped_encP (hkd _ (hmk x hx)).ok), fun G49 H49 w49 x49 r49 => ?_⟩
        refine ⟨_, rfl, G49, a, d, rfl, x49.s, (x3048.trans x49).g _ _ ga30, hdn, by omega, (fun x hx => shaped_encP (hkd _ (hdk x hx)).ok), fun G50 H50 w50 x50 r50 => ?_⟩
        change Rp G49 w49 (.tuple ((lotD dm).map encP)) at r49
        change Rp G50 w50 (.tuple ((lotD d).map encP)) at r50
        rw [eM'] at r49
        rw [eN'] at r50
        refine ⟨sz rfl, fun q51 h51 => ?_⟩
        generalize e51 : upd H50 q51 _ = H51
        obtain ⟨G51, x51, g51⟩ := ex_new (M := No) x50.s h51 e51
        have x4951 := x50.trans x51
        have x4851 := x49.trans x4951
        refine ⟨G51, .ref q48, .ref q51, .list [.tuple (m.map encP), .tuple (n.map encP)], rfl, x51.s,
          .lst (x4851.g _ _ g48) (.cons (r46.mono (x47.trans (x48.trans x4851)).g) (.cons (r47.mono (x48.trans x4851).g) .nil)),
          .lst g51 (.cons (r49.mono x4951.g) (.cons (r50.mono x51.g) .nil)), fit_list (by simp) (fun e he => ?_), fun H52 x52 => ?_⟩
        · have hm64 := ho23.len
          have hn64 := hw23.len
          simp only [List.mem_cons, List.mem_nil_iff, or_false] at he
          rcases he with rfl | rfl <;> exact fit_pairs (by omega)
        refine ⟨_, rfl, ifF rfl ?_⟩
        have x3052 := x3048.trans (x4851.trans x52)
        exact ⟨G51, c20, _, _, _, _, _, _, _, _, _, _, _, _, _, _, rfl, xall23.trans (x2330.trans x3052.on), S30.go x3052, by omega⟩
    · rintro σ Ha ⟨Ga, ca, v1, v2, v3, v4, v5, v6, v7, v8, v9, v10, v11, v12, v13, v14, rfl, xa, Sa, hca⟩
      exact k _ _ _ xa Sa

end
end LW

namespace LW
open PySem L2 Kt LM DO
section
variable {P : Program} {w : World} {K : PySem.W.Frag} {mg : Str → Option Value} {base : Heap} {A : Ads}
theorem ok_box (T : Txt K mg A) : FnOk P w K mg base CX0 1 A.box A.box' ["_law_script", "_law_k"] spBox := by
  refine T.box.F.ok sc_box (fun vs H Q E h => ?_) (fun cdv Ar outer s H vs Q E hr h => ?_)
  · obtain ⟨G, a, ns, j, rfl, _⟩ := h
    rfl
  · obtain ⟨G, a, ns, j, rfl, S, ha, hj, hn, k⟩ := h
    obtain ⟨v, hv⟩ : ∃ v, ns[j]? = some v := ⟨_, List.getElem?_eq_getElem hj⟩
    have hat : atI (ns.map V.int) (j : Int) = some (.int v) := atI_nat (by rw [List.getElem?_map, hv]; rfl)
    refine ⟨_, pss_cons (ps_set (i := 2) sc_box.nd rfl (Or.inl rfl) (pe_ifExp (pt_cmpR op_lt (pv 1) (pe_callB (call_len_seqK K) (by rfl) T.b_len (by decide +kernel) (pa_cons (pv 0) pa_nil)) (nomark _)) (pe_ix (ix_listK K) (pv 0) (pv 1) (fun _ _ => rfl)) (pe_int)))
      (pss_one (ps_ret (pe_lst (pa_cons (pe_op op_mul (pe_callB call_abs (by rfl) T.b_abs (by decide +kernel) (pa_cons (pv 2) pa_nil)) (pe_callTy call_int1 (by rfl) T.b_int (by decide +kernel) (pa_cons (pe_cmpR op_ge (pe_callB call_abs (by rfl) T.b_abs (by decide +kernel) (pa_cons (pv 2) pa_nil)) (pe_op op_pow (pe_int) (pe_int)) (nomark _)) pa_nil))) (pa_cons (pe_op op_add (pe_op op_add (pe_op op_mod (pe_callTy call_int1 (by rfl) T.b_int (by decide +kernel) (pa_cons (pv 2) pa_nil)) (pe_int)) (pe_op op_mul (pe_int) (pv 1))) (pe_int)) (pa_cons (pe_int) pa_nil)))))), ?_⟩
    refine ⟨_, rfl, _, rfl, a, _, rfl, .inl (SqL.of (S _ _ ha)), _, _, rfl, rfl, _, rfl, ?_⟩
    refine ifT (decide_eq_true (by rw [List.length_map]; omega)) ?_
    refine ⟨_, rfl, _, rfl, a, _, _, _, rfl, rfl, SqL.of (S _ _ ha), hat, ?_⟩
    have h0 : (0 : Int) ≤ (if v < 0 then -v else v) := by split <;> omega
    refine ⟨_, rfl, _, rfl, _, rfl, _, rfl, _, _, rfl, rfl, ⟨by decide, by decide, by decide⟩, _, _, rfl, rfl, .inr ⟨_, rfl, ?_⟩⟩
    refine ⟨_, _, rfl, rfl, .inr ?_, ?_⟩
    · exact (b01 _).1
    refine ⟨_, rfl, .inl ⟨_, rfl, _, _, rfl, rfl, p0 rfl, _, rfl, _, _, rfl, rfl, .inl ⟨by decide, by decide⟩, _, _, rfl, rfl, _, _, rfl, rfl, ?_⟩⟩
    refine ⟨sz rfl, fun q hq => ?_⟩
    generalize e1 : upd H q _ = H1
    obtain ⟨x1, gq, hq1⟩ := ex_hid (M := No) S hq e1
    refine k H1 q x1 ⟨x1.s, ⟨_, _, ?_, by decide, hq1⟩, gq⟩ hq
    exact Int.mul_nonneg h0 (b01 _).2

end
end LW

namespace LW
open PySem L2 Kt LM DO
section
variable {P : Program} {w : World} {K : PySem.W.Frag} {mg : Str → Option Value} {base : Heap} {A : Ads}
theorem ok_law (T : Txt K mg A) : FnOk P w K mg base CX0 20 A.law A.law' ["_law_script"] (spLaw K) := by
  refine T.law.F.ok sc_law (fun vs H Q E h => ?_) (fun cdv Ar outer s H vs Q E hr h => ?_)
  · obtain ⟨a, ns, rfl, _⟩ := h
    rfl
  · obtain ⟨a, ns, rfl, ha, hn, k⟩ := h
    refine ⟨_, pss_cons (ps_set (i := 1) sc_law.nd rfl (Or.inr rfl) (pe_call (ok_cells T) (hr.mono (by decide)) rfl T.cells.g T.cells.F.kp T.cells.b .nil pass0 (pa_cons (pv 0) (pa_cons (pe_int) pa_nil))))
      (pss_one (ps_ret (pe_callB (cr_allK K rfl) (by rfl) T.b_all (by decide +kernel) (pa_cons (pe_lc (own := [("_law_k", 2)]) (g := (gName 2)) rfl sc_law.nd (pi_range1 rfl T.b_range (pa_cons (pe_callB (call_len_seqK K) (by rfl) T.b_len (by decide +kernel) (pa_cons (pv 1) pa_nil)) pa_nil)) (blkOk_by (own := [("_law_k", 2)]) (N := N_law) (sc := defScope s_law) (by decide +kernel)) (fun _ _ _ _ _ => pg_name (i := 2) sc_law.nd rfl (Or.inl rfl)) (fun _ _ _ _ _ => pts_nil) (fun _ _ _ _ _ => by exact pe_call (ok_right T) (hr.mono (by decide)) rfl T.right.g T.right.F.kp T.right.b .nil pass0 (pa_cons (pe_call (ok_box T) (hr.mono (by decide)) rfl T.box.g T.box.F.kp T.box.b .nil pass0 (pa_cons (pv 1) (pa_cons (pv 2) pa_nil))) pa_nil))) pa_nil)))), ?_⟩
    refine ⟨_, rfl, a, ns, _, rfl, ha, hn, by decide, by decide, fun H1 l cs x1 hl hcs => ?_⟩
    refine ⟨_, rfl, l, _, rfl, .inl (SqL.of hl), _, rfl, by omega, by rw [List.length_map]; omega, fun D hD => ?_⟩
    have hDl : D ≠ l := (ne_of_none hl hD).symm
    refine lc_range (lo := 0) (n := ((cs.map V.int).length : Int).toNat) (fun i H' => Same H1 H' ∧ H' D = some (.lst (List.replicate i (.bl true)))) ⟨same_new hD, upd_same⟩ ?_ ?_
    · rintro i H' hi ⟨sH, hD'⟩
      rw [List.length_map, Int.toNat_natCast] at hi
      refine ⟨rfl, _, rfl, _, rfl, H1, l, cs, i, by rw [Int.zero_add]; rfl, sH, hl, hi, by omega, fun H2 p x2 S2 hp => ?_⟩
      refine ⟨H1, p, 0, rfl, S2, by decide, fun G3 H3 c3 x3 S3 => ?_⟩
      have nDp : D ≠ p := ne_of_none hD' hp
      have hD3 : H3 D = some (.lst (List.replicate i (.bl true))) := x3.h _ _ nDp (x2.same _ _ hD')
      refine ⟨_, hD3, szl (by rw [List.length_replicate]; omega), same_put (x3.g.trans x3.s) hD, ?_⟩
      rw [upd_same, List.replicate_succ']
    · rintro H' ⟨sH, hD'⟩
      refine ⟨D, List.replicate cs.length true, rfl, SqL.of (by rw [hD', List.map_replicate, List.length_map, Int.toNat_natCast]), ?_⟩
      have e : (List.replicate cs.length true).all id = true := by simp
      rw [e]
      exact k _

end
end LW

namespace LW
open PySem L2 Kt LM DO
theorem all_mk {l : PySem.W.OpenLaw} {w : World} {K : PySem.W.Frag} {h : Heap} {mg : Str → Option Value} {fa : Addr} {C_Lot : Addr} {C_Nothing : Addr} {f_cells : Addr} {oc_cells kV_cells do_cells pm_cells cd_cells ct_cells : Value} {od_cells an_cells : Option Addr} {sl_cells : Array (Option Value)} {f_Lot_init : Addr} {oc_Lot_init kV_Lot_init do_Lot_init pm_Lot_init cd_Lot_init ct_Lot_init : Value} {od_Lot_init an_Lot_init : Option Addr} {sl_Lot_init : Array (Option Value)} {T_Lot_init : Addr} {u_Lot_init cT_Lot_init : Value} {dT_Lot_init : Option Addr} {nT_Lot_init : Nat} {sT_Lot_init : Array (Option Value)} {f_Lot_len : Addr} {oc_Lot_len kV_Lot_len do_Lot_len pm_Lot_len cd_Lot_len ct_Lot_len : Value} {od_Lot_len an_Lot_len : Option Addr} {sl_Lot_len : Array (Option Value)} {f_Lot_pairs : Addr} {oc_Lot_pairs kV_Lot_pairs do_Lot_pairs pm_Lot_pairs cd_Lot_pairs ct_Lot_pairs : Value} {od_Lot_pairs an_Lot_pairs : Option Addr} {sl_Lot_pairs : Array (Option Value)} {f_Lot_getitem : Addr} {oc_Lot_getitem kV_Lot_getitem do_Lot_getitem pm_Lot_getitem cd_Lot_getitem ct_Lot_getitem : Value} {od_Lot_getitem an_Lot_getitem : Option Addr} {sl_Lot_getitem : Array (Option Value)} {f_Lot_floordiv : Addr} {oc_Lot_floordiv kV_Lot_floordiv do_Lot_floordiv pm_Lot_floordiv cd_Lot_floordiv ct_Lot_floordiv : Value} {od_Lot_floordiv an_Lot_floordiv : Option Addr} {sl_Lot_floordiv : Array (Option Value)} {f_Lot_mul : Addr} {oc_Lot_mul kV_Lot_mul do_Lot_mul pm_Lot_mul cd_Lot_mul ct_Lot_mul : Value} {od_Lot_mul an_Lot_mul : Option Addr} {sl_Lot_mul : Array (Option Value)} {f_Lot_sub : Addr} {oc_Lot_sub kV_Lot_sub do_Lot_sub pm_Lot_sub cd_Lot_sub ct_Lot_sub : Value} {od_Lot_sub an_Lot_sub : Option Addr} {sl_Lot_sub : Array (Option Value)} {f_Lot_mod : Addr} {oc_Lot_mod kV_Lot_mod do_Lot_mod pm_Lot_mod cd_Lot_mod ct_Lot_mod : Value} {od_Lot_mod an_Lot_mod : Option Addr} {sl_Lot_mod : Array (Option Value)} {f_same : Addr} {oc_same kV_same do_same pm_same cd_same ct_same : Value} {od_same an_same : Option Addr} {sl_same : Array (Option Value)} {f_by_hand_right : Addr} {oc_by_hand_right kV_by_hand_right do_by_hand_right pm_by_hand_right cd_by_hand_right ct_by_hand_right : Value} {od_by_hand_right an_by_hand_right : Option Addr} {sl_by_hand_right : Array (Option Value)} {f_take : Addr} {oc_take kV_take do_take pm_take cd_take ct_take : Value} {od_take an_take : Option Addr} {sl_take : Array (Option Value)} {f_of : Addr} {oc_of kV_of do_of pm_of cd_of ct_of : Value} {od_of an_of : Option Addr} {sl_of : Array (Option Value)} {f_names : Addr} {oc_names kV_names do_names pm_names cd_names ct_names : Value} {od_names an_names : Option Addr} {sl_names : Array (Option Value)} {f_counted : Addr} {oc_counted kV_counted do_counted pm_counted cd_counted ct_counted : Value} {od_counted an_counted : Option Addr} {sl_counted : Array (Option Value)} {f_mixed : Addr} {oc_mixed kV_mixed do_mixed pm_mixed cd_mixed ct_mixed : Value} {od_mixed an_mixed : Option Addr} {sl_mixed : Array (Option Value)} {f_rising : Addr} {oc_rising kV_rising do_rising pm_rising cd_rising ct_rising : Value} {od_rising an_rising : Option Addr} {sl_rising : Array (Option Value)} {f_pairs : Addr} {oc_pairs kV_pairs do_pairs pm_pairs cd_pairs ct_pairs : Value} {od_pairs an_pairs : Option Addr} {sl_pairs : Array (Option Value)} {f_refused : Addr} {oc_refused kV_refused do_refused pm_refused cd_refused ct_refused : Value} {od_refused an_refused : Option Addr} {sl_refused : Array (Option Value)} {f_Lot_add : Addr} {oc_Lot_add kV_Lot_add do_Lot_add pm_Lot_add cd_Lot_add ct_Lot_add : Value} {od_Lot_add an_Lot_add : Option Addr} {sl_Lot_add : Array (Option Value)} {f_Lot_iadd : Addr} {oc_Lot_iadd kV_Lot_iadd do_Lot_iadd pm_Lot_iadd cd_Lot_iadd ct_Lot_iadd : Value} {od_Lot_iadd an_Lot_iadd : Option Addr} {sl_Lot_iadd : Array (Option Value)} {f_right : Addr} {oc_right kV_right do_right pm_right cd_right ct_right : Value} {od_right an_right : Option Addr} {sl_right : Array (Option Value)} {f_box : Addr} {oc_box kV_box do_box pm_box cd_box ct_box : Value} {od_box an_box : Option Addr} {sl_box : Array (Option Value)} {f_law : Addr} {oc_law kV_law do_law pm_law cd_law ct_law : Value} {od_law an_law : Option Addr} {sl_law : Array (Option Value)} {rg_Lot_mul : Addr} {fo_Lot_mul ro_Lot_mul : Option Value} (X : K.In h) (G : h.Ns mainGlobals mg) (hfa : mg "law" = some (.ref fa))
    (a_Lot : PySem.W.nsIn K mainGlobals "Lot" = some (some (.ref C_Lot)))
    (a_Nothing : PySem.W.nsIn K mainGlobals "Nothing" = some (some (.ref C_Nothing)))
    (z_ValueError : PySem.W.nsIn K mainGlobals "ValueError" = some none)
    (z_ZeroDivisionError : PySem.W.nsIn K mainGlobals "ZeroDivisionError" = some none)
    (z_abs : PySem.W.nsIn K mainGlobals "abs" = some none)
    (z_all : PySem.W.nsIn K mainGlobals "all" = some none)
    (z_bool : PySem.W.nsIn K mainGlobals "bool" = some none)
    (z_dict : PySem.W.nsIn K mainGlobals "dict" = some none)
    (z_enumerate : PySem.W.nsIn K mainGlobals "enumerate" = some none)
    (z_int : PySem.W.nsIn K mainGlobals "int" = some none)
    (z_isinstance : PySem.W.nsIn K mainGlobals "isinstance" = some none)
    (z_len : PySem.W.nsIn K mainGlobals "len" = some none)
    (z_list : PySem.W.nsIn K mainGlobals "list" = some none)
    (z_min : PySem.W.nsIn K mainGlobals "min" = some none)
    (z_range : PySem.W.nsIn K mainGlobals "range" = some none)
    (z_sorted : PySem.W.nsIn K mainGlobals "sorted" = some none)
    (z_str : PySem.W.nsIn K mainGlobals "str" = some none)
    (z_tuple : PySem.W.nsIn K mainGlobals "tuple" = some none)
    (z_zip : PySem.W.nsIn K mainGlobals "zip" = some none)
    (pg_Lot : PySem.W.plainGet K C_Lot Str.empty = true)
    (hd_Lot : PySem.W.hasDictIn K C_Lot = true)
    (po_Lot : PySem.W.plainOver K C_Lot = true)
    (sa_Lot : PySem.W.findIn K (.ref C_Lot) "__setattr__" = some (some (.builtin "object.__setattr__")))
    (sf_Lot : PySem.W.selfFirst K C_Lot = true)
    (ns_Lot : PySem.W.noSeq K C_Lot = true)
    (mi_Lot : PySem.W.makesIn K C_Lot = true)
    (kc_Lot : PySem.W.keepIn K (.ref C_Lot) = true)
    (xi_Nothing : PySem.W.excIn K C_Nothing [.type "ZeroDivisionError", .type "ArithmeticError", .type "Exception", .type "BaseException", .type "object"] "ZeroDivisionError.__new__" = true)
    (k_Nothing : PySem.W.keepIn K (.ref C_Nothing) = true)
    (b_Nothing : PySem.W.subIn K (.ref C_Nothing) (.type "BaseException") = some true)
    (t_Nothing : PySem.W.typeIn K (.ref C_Nothing) = some (.type "type"))
    (hg_Nothing : PySem.W.findIn K (.ref C_Nothing) "__getattribute__" = some (some (.builtin "BaseException.__getattribute__")))
    (hk_Nothing : PySem.W.findIn K (.ref C_Nothing) "__getattr__" = some none)
    (hd_Nothing : PySem.W.hasDictIn K C_Nothing = true)
    (ha_Nothing : PySem.W.findIn K (.ref C_Nothing) "__class__" = some (some (.builtin "object.__class__")))
    (hn_Nothing : PySem.W.specialIn K (.builtin "object.__class__") "__get__" = some (some (.builtin "getset_descriptor.__get__")))
    (ht_Nothing : PySem.W.takesIn K (.builtin "object.__class__") = some true)
    (hm_Nothing : PySem.W.mroIn K C_Nothing (.type "object") = some true)
    (ic_Nothing : PySem.W.isClsIn K C_Nothing = true)
    (ss_Nothing : PySem.W.subIn K (.ref C_Nothing) (.ref C_Nothing) = some true)
    (is_Nothing_ValueError : PySem.W.subIn K (.ref C_Nothing) (.type "ValueError") = some false)
    (is_Nothing_ZeroDivisionError : PySem.W.subIn K (.ref C_Nothing) (.type "ZeroDivisionError") = some true)
    (no_Lot_own_many : PySem.W.findIn K (.ref C_Lot) "own_many" = some none)
    (a_cells : PySem.W.nsIn K mainGlobals "_law_cells" = some (some (.ref f_cells)))
    (l_cells : K.lookup f_cells = some ⟨oc_cells, od_cells, .func (PySem.W.fnOf "_law_cells" "_law_cells" (defArgs s_cells) (defBody s_cells) (defScope s_cells) .none kV_cells do_cells pm_cells an_cells cd_cells ct_cells), sl_cells⟩)
    (c_cells : PySem.W.codeIn K cd_cells "_law_cells" = true)
    (k_cells : PySem.W.keepIn K (.ref f_cells) = true)
    (a_Lot_init : PySem.W.findIn K (.ref C_Lot) "__init__" = some (some (.ref f_Lot_init)))
    (i_Lot_init : PySem.W.isFn K (.ref f_Lot_init) = true)
    (l_Lot_init : K.lookup f_Lot_init = some ⟨oc_Lot_init, od_Lot_init, .func (PySem.W.fnOf "__init__" "Lot.__init__" (defArgs s_Lot_init) (defBody s_Lot_init) (defScope s_Lot_init) (.ref T_Lot_init) kV_Lot_init do_Lot_init pm_Lot_init an_Lot_init cd_Lot_init ct_Lot_init), sl_Lot_init⟩)
    (c_Lot_init : PySem.W.codeIn K cd_Lot_init "Lot.__init__" = true)
    (k_Lot_init : PySem.W.keepIn K (.ref f_Lot_init) = true)
    (n_Lot_init : PySem.W.fnIn K f_Lot_init = true)
    (lT_Lot_init : K.lookup T_Lot_init = some ⟨cT_Lot_init, dT_Lot_init, .seq #[u_Lot_init] nT_Lot_init, sT_Lot_init⟩)
    (a_Lot_len : PySem.W.findIn K (.ref C_Lot) "__len__" = some (some (.ref f_Lot_len)))
    (i_Lot_len : PySem.W.isFn K (.ref f_Lot_len) = true)
    (l_Lot_len : K.lookup f_Lot_len = some ⟨oc_Lot_len, od_Lot_len, .func (PySem.W.fnOf "__len__" "Lot.__len__" (defArgs s_Lot_len) (defBody s_Lot_len) (defScope s_Lot_len) .none kV_Lot_len do_Lot_len pm_Lot_len an_Lot_len cd_Lot_len ct_Lot_len), sl_Lot_len⟩)
    (c_Lot_len : PySem.W.codeIn K cd_Lot_len "Lot.__len__" = true)
    (k_Lot_len : PySem.W.keepIn K (.ref f_Lot_len) = true)
    (n_Lot_len : PySem.W.fnIn K f_Lot_len = true)
    (a_Lot_pairs : PySem.W.findIn K (.ref C_Lot) "pairs" = some (some (.ref f_Lot_pairs)))
    (i_Lot_pairs : PySem.W.isFn K (.ref f_Lot_pairs) = true)
    (l_Lot_pairs : K.lookup f_Lot_pairs = some ⟨oc_Lot_pairs, od_Lot_pairs, .func (PySem.W.fnOf "pairs" "Lot.pairs" (defArgs s_Lot_pairs) (defBody s_Lot_pairs) (defScope s_Lot_pairs) .none kV_Lot_pairs do_Lot_pairs pm_Lot_pairs an_Lot_pairs cd_Lot_pairs ct_Lot_pairs), sl_Lot_pairs⟩)
    (c_Lot_pairs : PySem.W.codeIn K cd_Lot_pairs "Lot.pairs" = true)
    (k_Lot_pairs : PySem.W.keepIn K (.ref f_Lot_pairs) = true)
    (n_Lot_pairs : PySem.W.fnIn K f_Lot_pairs = true)
    (a_Lot_getitem : PySem.W.findIn K (.ref C_Lot) "__getitem__" = some (some (.ref f_Lot_getitem)))
    (i_Lot_getitem : PySem.W.isFn K (.ref f_Lot_getitem) = true)
    (l_Lot_getitem : K.lookup f_Lot_getitem = some ⟨oc_Lot_getitem, od_Lot_getitem, .func (PySem.W.fnOf "__getitem__" "Lot.__getitem__" (defArgs s_Lot_getitem) (defBody s_Lot_getitem) (defScope s_Lot_getitem) .none kV_Lot_getitem do_Lot_getitem pm_Lot_getitem an_Lot_getitem cd_Lot_getitem ct_Lot_getitem), sl_Lot_getitem⟩)
    (c_Lot_getitem : PySem.W.codeIn K cd_Lot_getitem "Lot.__getitem__" = true)
    (k_Lot_getitem : PySem.W.keepIn K (.ref f_Lot_getitem) = true)
    (n_Lot_getitem : PySem.W.fnIn K f_Lot_getitem = true)
    (a_Lot_floordiv : PySem.W.findIn K (.ref C_Lot) "__floordiv__" = some (some (.ref f_Lot_floordiv)))
    (i_Lot_floordiv : PySem.W.isFn K (.ref f_Lot_floordiv) = true)
    (l_Lot_floordiv : K.lookup f_Lot_floordiv = some ⟨oc_Lot_floordiv, od_Lot_floordiv, .func (PySem.W.fnOf "__floordiv__" "Lot.__floordiv__" (defArgs s_Lot_floordiv) (defBody s_Lot_floordiv) (defScope s_Lot_floordiv) .none kV_Lot_floordiv do_Lot_floordiv pm_Lot_floordiv an_Lot_floordiv cd_Lot_floordiv ct_Lot_floordiv), sl_Lot_floordiv⟩)
    (c_Lot_floordiv : PySem.W.codeIn K cd_Lot_floordiv "Lot.__floordiv__" = true)
    (k_Lot_floordiv : PySem.W.keepIn K (.ref f_Lot_floordiv) = true)
    (n_Lot_floordiv : PySem.W.fnIn K f_Lot_floordiv = true)
    (a_Lot_mul : PySem.W.findIn K (.ref C_Lot) "__mul__" = some (some (.ref f_Lot_mul)))
    (i_Lot_mul : PySem.W.isFn K (.ref f_Lot_mul) = true)
    (l_Lot_mul : K.lookup f_Lot_mul = some ⟨oc_Lot_mul, od_Lot_mul, .func (PySem.W.fnOf "__mul__" "Lot.__mul__" (defArgs s_Lot_mul) (defBody s_Lot_mul) (defScope s_Lot_mul) .none kV_Lot_mul do_Lot_mul pm_Lot_mul an_Lot_mul cd_Lot_mul ct_Lot_mul), sl_Lot_mul⟩)
    (c_Lot_mul : PySem.W.codeIn K cd_Lot_mul "Lot.__mul__" = true)
    (k_Lot_mul : PySem.W.keepIn K (.ref f_Lot_mul) = true)
    (n_Lot_mul : PySem.W.fnIn K f_Lot_mul = true)
    (a_Lot_sub : PySem.W.findIn K (.ref C_Lot) "__sub__" = some (some (.ref f_Lot_sub)))
    (i_Lot_sub : PySem.W.isFn K (.ref f_Lot_sub) = true)
    (l_Lot_sub : K.lookup f_Lot_sub = some ⟨oc_Lot_sub, od_Lot_sub, .func (PySem.W.fnOf "__sub__" "Lot.__sub__" (defArgs s_Lot_sub) (defBody s_Lot_sub) (defScope s_Lot_sub) .none kV_Lot_sub do_Lot_sub pm_Lot_sub an_Lot_sub cd_Lot_sub ct_Lot_sub), sl_Lot_sub⟩)
    (c_Lot_sub : PySem.W.codeIn K cd_Lot_sub "Lot.__sub__" = true)
    (k_Lot_sub : PySem.W.keepIn K (.ref f_Lot_sub) = true)
    (n_Lot_sub : PySem.W.fnIn K f_Lot_sub = true)
    (a_Lot_mod : PySem.W.findIn K (.ref C_Lot) "__mod__" = some (some (.ref f_Lot_mod)))
    (i_Lot_mod : PySem.W.isFn K (.ref f_Lot_mod) = true)
    (l_Lot_mod : K.lookup f_Lot_mod = some ⟨oc_Lot_mod, od_Lot_mod, .func (PySem.W.fnOf "__mod__" "Lot.__mod__" (defArgs s_Lot_mod) (defBody s_Lot_mod) (defScope s_Lot_mod) .none kV_Lot_mod do_Lot_mod pm_Lot_mod an_Lot_mod cd_Lot_mod ct_Lot_mod), sl_Lot_mod⟩)
    (c_Lot_mod : PySem.W.codeIn K cd_Lot_mod "Lot.__mod__" = true)
    (k_Lot_mod : PySem.W.keepIn K (.ref f_Lot_mod) = true)
    (n_Lot_mod : PySem.W.fnIn K f_Lot_mod = true)
    (a_same : PySem.W.nsIn K mainGlobals "_law_same" = some (some (.ref f_same)))
    (l_same : K.lookup f_same = some ⟨oc_same, od_same, .func (PySem.W.fnOf "_law_same" "_law_same" (defArgs s_same) (defBody s_same) (defScope s_same) .none kV_same do_same pm_same an_same cd_same ct_same), sl_same⟩)
    (c_same : PySem.W.codeIn K cd_same "_law_same" = true)
    (k_same : PySem.W.keepIn K (.ref f_same) = true)
    (a_by_hand_right : PySem.W.nsIn K mainGlobals "_law_by_hand_right" = some (some (.ref f_by_hand_right)))
    (l_by_hand_right : K.lookup f_by_hand_right = some ⟨oc_by_hand_right, od_by_hand_right, .func (PySem.W.fnOf "_law_by_hand_right" "_law_by_hand_right" (defArgs s_by_hand_right) (defBody s_by_hand_right) (defScope s_by_hand_right) .none kV_by_hand_right do_by_hand_right pm_by_hand_right an_by_hand_right cd_by_hand_right ct_by_hand_right), sl_by_hand_right⟩)
    (c_by_hand_right : PySem.W.codeIn K cd_by_hand_right "_law_by_hand_right" = true)
    (k_by_hand_right : PySem.W.keepIn K (.ref f_by_hand_right) = true)
    (a_take : PySem.W.nsIn K mainGlobals "_law_take" = some (some (.ref f_take)))
    (l_take : K.lookup f_take = some ⟨oc_take, od_take, .func (PySem.W.fnOf "_law_take" "_law_take" (defArgs s_take) (defBody s_take) (defScope s_take) .none kV_take do_take pm_take an_take cd_take ct_take), sl_take⟩)
    (c_take : PySem.W.codeIn K cd_take "_law_take" = true)
    (k_take : PySem.W.keepIn K (.ref f_take) = true)
    (a_of : PySem.W.nsIn K mainGlobals "_law_of" = some (some (.ref f_of)))
    (l_of : K.lookup f_of = some ⟨oc_of, od_of, .func (PySem.W.fnOf "_law_of" "_law_of" (defArgs s_of) (defBody s_of) (defScope s_of) .none kV_of do_of pm_of an_of cd_of ct_of), sl_of⟩)
    (c_of : PySem.W.codeIn K cd_of "_law_of" = true)
    (k_of : PySem.W.keepIn K (.ref f_of) = true)
    (a_names : PySem.W.nsIn K mainGlobals "_law_names" = some (some (.ref f_names)))
    (l_names : K.lookup f_names = some ⟨oc_names, od_names, .func (PySem.W.fnOf "_law_names" "_law_names" (defArgs s_names) (defBody s_names) (defScope s_names) .none kV_names do_names pm_names an_names cd_names ct_names), sl_names⟩)
    (c_names : PySem.W.codeIn K cd_names "_law_names" = true)
    (k_names : PySem.W.keepIn K (.ref f_names) = true)
    (a_counted : PySem.W.nsIn K mainGlobals "_law_counted" = some (some (.ref f_counted)))
    (l_counted : K.lookup f_counted = some ⟨oc_counted, od_counted, .func (PySem.W.fnOf "_law_counted" "_law_counted" (defArgs s_counted) (defBody s_counted) (defScope s_counted) .none kV_counted do_counted pm_counted an_counted cd_counted ct_counted), sl_counted⟩)
    (c_counted : PySem.W.codeIn K cd_counted "_law_counted" = true)
    (k_counted : PySem.W.keepIn K (.ref f_counted) = true)
    (a_mixed : PySem.W.nsIn K mainGlobals "_law_mixed" = some (some (.ref f_mixed)))
    (l_mixed : K.lookup f_mixed = some ⟨oc_mixed, od_mixed, .func (PySem.W.fnOf "_law_mixed" "_law_mixed" (defArgs s_mixed) (defBody s_mixed) (defScope s_mixed) .none kV_mixed do_mixed pm_mixed an_mixed cd_mixed ct_mixed), sl_mixed⟩)
    (c_mixed : PySem.W.codeIn K cd_mixed "_law_mixed" = true)
    (k_mixed : PySem.W.keepIn K (.ref f_mixed) = true)
    (a_rising : PySem.W.nsIn K mainGlobals "_law_rising" = some (some (.ref f_rising)))
    (l_rising : K.lookup f_rising = some ⟨oc_rising, od_rising, .func (PySem.W.fnOf "_law_rising" "_law_rising" (defArgs s_rising) (defBody s_rising) (defScope s_rising) .none kV_rising do_rising pm_rising an_rising cd_rising ct_rising), sl_rising⟩)
    (c_rising : PySem.W.codeIn K cd_rising "_law_rising" = true)
    (k_rising : PySem.W.keepIn K (.ref f_rising) = true)
    (a_pairs : PySem.W.nsIn K mainGlobals "_law_pairs" = some (some (.ref f_pairs)))
    (l_pairs : K.lookup f_pairs = some ⟨oc_pairs, od_pairs, .func (PySem.W.fnOf "_law_pairs" "_law_pairs" (defArgs s_pairs) (defBody s_pairs) (defScope s_pairs) .none kV_pairs do_pairs pm_pairs an_pairs cd_pairs ct_pairs), sl_pairs⟩)
    (c_pairs : PySem.W.codeIn K cd_pairs "_law_pairs" = true)
    (k_pairs : PySem.W.keepIn K (.ref f_pairs) = true)
    (a_refused : PySem.W.nsIn K mainGlobals "_law_refused" = some (some (.ref f_refused)))
    (l_refused : K.lookup f_refused = some ⟨oc_refused, od_refused, .func (PySem.W.fnOf "_law_refused" "_law_refused" (defArgs s_refused) (defBody s_refused) (defScope s_refused) .none kV_refused do_refused pm_refused an_refused cd_refused ct_refused), sl_refused⟩)
    (c_refused : PySem.W.codeIn K cd_refused "_law_refused" = true)
    (k_refused : PySem.W.keepIn K (.ref f_refused) = true)
    (a_Lot_add : PySem.W.findIn K (.ref C_Lot) "__add__" = some (some (.ref f_Lot_add)))
    (i_Lot_add : PySem.W.isFn K (.ref f_Lot_add) = true)
    (l_Lot_add : K.lookup f_Lot_add = some ⟨oc_Lot_add, od_Lot_add, .func (PySem.W.fnOf "__add__" "Lot.__add__" (defArgs s_Lot_add) (defBody s_Lot_add) (defScope s_Lot_add) .none kV_Lot_add do_Lot_add pm_Lot_add an_Lot_add cd_Lot_add ct_Lot_add), sl_Lot_add⟩)
    (c_Lot_add : PySem.W.codeIn K cd_Lot_add "Lot.__add__" = true)
    (k_Lot_add : PySem.W.keepIn K (.ref f_Lot_add) = true)
    (n_Lot_add : PySem.W.fnIn K f_Lot_add = true)
    (a_Lot_iadd : PySem.W.findIn K (.ref C_Lot) "__iadd__" = some (some (.ref f_Lot_iadd)))
    (i_Lot_iadd : PySem.W.isFn K (.ref f_Lot_iadd) = true)
    (l_Lot_iadd : K.lookup f_Lot_iadd = some ⟨oc_Lot_iadd, od_Lot_iadd, .func (PySem.W.fnOf "__iadd__" "Lot.__iadd__" (defArgs s_Lot_iadd) (defBody s_Lot_iadd) (defScope s_Lot_iadd) .none kV_Lot_iadd do_Lot_iadd pm_Lot_iadd an_Lot_iadd cd_Lot_iadd ct_Lot_iadd), sl_Lot_iadd⟩)
    (c_Lot_iadd : PySem.W.codeIn K cd_Lot_iadd "Lot.__iadd__" = true)
    (k_Lot_iadd : PySem.W.keepIn K (.ref f_Lot_iadd) = true)
    (n_Lot_iadd : PySem.W.fnIn K f_Lot_iadd = true)
    (a_right : PySem.W.nsIn K mainGlobals "_law_right" = some (some (.ref f_right)))
    (l_right : K.lookup f_right = some ⟨oc_right, od_right, .func (PySem.W.fnOf "_law_right" "_law_right" (defArgs s_right) (defBody s_right) (defScope s_right) .none kV_right do_right pm_right an_right cd_right ct_right), sl_right⟩)
    (c_right : PySem.W.codeIn K cd_right "_law_right" = true)
    (k_right : PySem.W.keepIn K (.ref f_right) = true)
    (a_box : PySem.W.nsIn K mainGlobals "_law_box" = some (some (.ref f_box)))
    (l_box : K.lookup f_box = some ⟨oc_box, od_box, .func (PySem.W.fnOf "_law_box" "_law_box" (defArgs s_box) (defBody s_box) (defScope s_box) .none kV_box do_box pm_box an_box cd_box ct_box), sl_box⟩)
    (c_box : PySem.W.codeIn K cd_box "_law_box" = true)
    (k_box : PySem.W.keepIn K (.ref f_box) = true)
    (a_law : PySem.W.nsIn K mainGlobals "law" = some (some (.ref f_law)))
    (l_law : K.lookup f_law = some ⟨oc_law, od_law, .func (PySem.W.fnOf "law" "law" (defArgs s_law) (defBody s_law) (defScope s_law) .none kV_law do_law pm_law an_law cd_law ct_law), sl_law⟩)
    (c_law : PySem.W.codeIn K cd_law "law" = true)
    (k_law : PySem.W.keepIn K (.ref f_law) = true)
    (ir_Lot_mul : PySem.W.findIn K (.ref C_Lot) "__rmul__" = some (some (.ref rg_Lot_mul)))
    (i1_Lot_mul : PySem.W.findIn K (.type "int") "__mul__" = some fo_Lot_mul)
    (i2_Lot_mul : PySem.W.findIn K (.type "int") "__rmul__" = some ro_Lot_mul)
    (i3_Lot_mul : PySem.W.subIn K (.type "int") (.ref C_Lot) = some false)
    : ∃ fd : FuncData, (∀ (s : Shared) (v : Value), BindsTo s fd ⟨[v], []⟩ [("_law_script", v)]) ∧ ∀ base : Heap, K.In base → base.Ns mainGlobals mg → FnOk l.prog w K mg base CX0 20 fa fd ["_law_script"] (spLaw K) := by
  have e := hfa.symm.trans (PySem.W.mg_of X G a_law)
  cases e
  have T : Txt K mg { Lot := C_Lot, Nothing := C_Nothing, cells := f_cells, cells' := PySem.W.fnOf "_law_cells" "_law_cells" (defArgs s_cells) (defBody s_cells) (defScope s_cells) .none kV_cells do_cells pm_cells an_cells cd_cells ct_cells, Lot_init := f_Lot_init, Lot_init' := PySem.W.fnOf "__init__" "Lot.__init__" (defArgs s_Lot_init) (defBody s_Lot_init) (defScope s_Lot_init) (.ref T_Lot_init) kV_Lot_init do_Lot_init pm_Lot_init an_Lot_init cd_Lot_init ct_Lot_init, Lot_len := f_Lot_len, Lot_len' := PySem.W.fnOf "__len__" "Lot.__len__" (defArgs s_Lot_len) (defBody s_Lot_len) (defScope s_Lot_len) .none kV_Lot_len do_Lot_len pm_Lot_len an_Lot_len cd_Lot_len ct_Lot_len, Lot_pairs := f_Lot_pairs, Lot_pairs' := PySem.W.fnOf "pairs" "Lot.pairs" (defArgs s_Lot_pairs) (defBody s_Lot_pairs) (defScope s_Lot_pairs) .none kV_Lot_pairs do_Lot_pairs pm_Lot_pairs an_Lot_pairs cd_Lot_pairs ct_Lot_pairs, Lot_getitem := f_Lot_getitem, Lot_getitem' := PySem.W.fnOf "__getitem__" "Lot.__getitem__" (defArgs s_Lot_getitem) (defBody s_Lot_getitem) (defScope s_Lot_getitem) .none kV_Lot_getitem do_Lot_getitem pm_Lot_getitem an_Lot_getitem cd_Lot_getitem ct_Lot_getitem, Lot_floordiv := f_Lot_floordiv, Lot_floordiv' := PySem.W.fnOf "__floordiv__" "Lot.__floordiv__" (defArgs s_Lot_floordiv) (defBody s_Lot_floordiv) (defScope s_Lot_floordiv) .none kV_Lot_floordiv do_Lot_floordiv pm_Lot_floordiv an_Lot_floordiv cd_Lot_floordiv ct_Lot_floordiv, Lot_mul := f_Lot_mul, Lot_mul' := PySem.W.fnOf "__mul__" "Lot.__mul__" (defArgs s_Lot_mul) (defBody s_Lot_mul) (defScope s_Lot_mul) .none kV_Lot_mul do_Lot_mul pm_Lot_mul an_Lot_mul cd_Lot_mul ct_Lot_mul, Lot_sub := f_Lot_sub, Lot_sub' := PySem.W.fnOf "__sub__" "Lot.__sub__" (defArgs s_Lot_sub) (defBody s_Lot_sub) (defScope s_Lot_sub) .none kV_Lot_sub do_Lot_sub pm_Lot_sub an_Lot_sub cd_Lot_sub ct_Lot_sub, Lot_mod := f_Lot_mod, Lot_mod' := PySem.W.fnOf "__mod__" "Lot.__mod__" (defArgs s_Lot_mod) (defBody s_Lot_mod) (defScope s_Lot_mod) .none kV_Lot_mod do_Lot_mod pm_Lot_mod an_Lot_mod cd_Lot_mod ct_Lot_mod, same := f_same, same' := PySem.W.fnOf "_law_same" "_law_same" (defArgs s_same) (defBody s_same) (defScope s_same) .none kV_same do_same pm_same an_same cd_same ct_same, by_hand_right := f_by_hand_right, by_hand_right' := PySem.W.fnOf "_law_by_hand_right" "_law_by_hand_right" (defArgs s_by_hand_right) (defBody s_by_hand_right) (defScope s_by_hand_right) .none kV_by_hand_right do_by_hand_right pm_by_hand_right an_by_hand_right cd_by_hand_right ct_by_hand_right, take := f_take, take' := PySem.W.fnOf "_law_take" "_law_take" (defArgs s_take) (defBody s_take) (defScope s_take) .none kV_take do_take pm_take an_take cd_take ct_take, of := f_of, of' := PySem.W.fnOf "_law_of" "_law_of" (defArgs s_of) (defBody s_of) (defScope s_of) .none kV_of do_of pm_of an_of cd_of ct_of, names := f_names, names' := PySem.W.fnOf "_law_names" "_law_names" (defArgs s_names) (defBody s_names) (defScope s_names) .none kV_names do_names pm_names an_names cd_names ct_names, counted := f_counted, counted' := PySem.W.fnOf "_law_counted" "_law_counted" (defArgs s_counted) (defBody s_counted) (defScope s_counted) .none kV_counted do_counted pm_counted an_counted cd_counted ct_counted, mixed := f_mixed, mixed' := PySem.W.fnOf "_law_mixed" "_law_mixed" (defArgs s_mixed) (defBody s_mixed) (defScope s_mixed) .none kV_mixed do_mixed pm_mixed an_mixed cd_mixed ct_mixed, rising := f_rising, rising' := PySem.W.fnOf "_law_rising" "_law_rising" (defArgs s_rising) (defBody s_rising) (defScope s_rising) .none kV_rising do_rising pm_rising an_rising cd_rising ct_rising, pairs := f_pairs, pairs' := PySem.W.fnOf "_law_pairs" "_law_pairs" (defArgs s_pairs) (defBody s_pairs) (defScope s_pairs) .none kV_pairs do_pairs pm_pairs an_pairs cd_pairs ct_pairs, refused := f_refused, refused' := PySem.W.fnOf "_law_refused" "_law_refused" (defArgs s_refused) (defBody s_refused) (defScope s_refused) .none kV_refused do_refused pm_refused an_refused cd_refused ct_refused, Lot_add := f_Lot_add, Lot_add' := PySem.W.fnOf "__add__" "Lot.__add__" (defArgs s_Lot_add) (defBody s_Lot_add) (defScope s_Lot_add) .none kV_Lot_add do_Lot_add pm_Lot_add an_Lot_add cd_Lot_add ct_Lot_add, Lot_iadd := f_Lot_iadd, Lot_iadd' := PySem.W.fnOf "__iadd__" "Lot.__iadd__" (defArgs s_Lot_iadd) (defBody s_Lot_iadd) (defScope s_Lot_iadd) .none kV_Lot_iadd do_Lot_iadd pm_Lot_iadd an_Lot_iadd cd_Lot_iadd ct_Lot_iadd, right := f_right, right' := PySem.W.fnOf "_law_right" "_law_right" (defArgs s_right) (defBody s_right) (defScope s_right) .none kV_right do_right pm_right an_right cd_right ct_right, box := f_box, box' := PySem.W.fnOf "_law_box" "_law_box" (defArgs s_box) (defBody s_box) (defScope s_box) .none kV_box do_box pm_box an_box cd_box ct_box, law := fa, law' := PySem.W.fnOf "law" "law" (defArgs s_law) (defBody s_law) (defScope s_law) .none kV_law do_law pm_law an_law cd_law ct_law } := {
    b_ValueError := PySem.W.mg_none_of X G z_ValueError,
    b_ZeroDivisionError := PySem.W.mg_none_of X G z_ZeroDivisionError,
    b_abs := PySem.W.mg_none_of X G z_abs,
    b_all := PySem.W.mg_none_of X G z_all,
    b_bool := PySem.W.mg_none_of X G z_bool,
    b_dict := PySem.W.mg_none_of X G z_dict,
    b_enumerate := PySem.W.mg_none_of X G z_enumerate,
    b_int := PySem.W.mg_none_of X G z_int,
    b_isinstance := PySem.W.mg_none_of X G z_isinstance,
    b_len := PySem.W.mg_none_of X G z_len,
    b_list := PySem.W.mg_none_of X G z_list,
    b_min := PySem.W.mg_none_of X G z_min,
    b_range := PySem.W.mg_none_of X G z_range,
    b_sorted := PySem.W.mg_none_of X G z_sorted,
    b_str := PySem.W.mg_none_of X G z_str,
    b_tuple := PySem.W.mg_none_of X G z_tuple,
    b_zip := PySem.W.mg_none_of X G z_zip,
    Lot := ⟨PySem.W.mg_of X G a_Lot, ⟨pg_Lot, hd_Lot, po_Lot, sa_Lot⟩, sf_Lot, ns_Lot, mi_Lot, kc_Lot⟩,
    Nothing := ⟨PySem.W.mg_of X G a_Nothing, xi_Nothing, k_Nothing, b_Nothing, t_Nothing, ⟨hg_Nothing, hk_Nothing, b_Nothing, hd_Nothing, ha_Nothing, hn_Nothing, ht_Nothing, hm_Nothing⟩, exm_ref b_Nothing ic_Nothing t_Nothing ss_Nothing⟩,
    is_Nothing_ValueError_false := kit_sub (by decide +kernel) is_Nothing_ValueError,
    is_Nothing_ZeroDivisionError_true := kit_sub (by decide +kernel) is_Nothing_ZeroDivisionError,
    no_Lot_own_many := no_Lot_own_many,
    cells := def_of X G a_cells l_cells c_cells k_cells (fun _ _ _ _ _ _ us hl => match us, hl with | [_, _], _ => rfl),
    Lot_init := met_ofD a_Lot_init i_Lot_init l_Lot_init c_Lot_init k_Lot_init n_Lot_init lT_Lot_init (fun _ _ _ _ _ _ _ _ us hl => match us, hl with | [_, _], _ => ⟨_, rfl, rfl⟩),
    Lot_len := met_of a_Lot_len i_Lot_len l_Lot_len c_Lot_len k_Lot_len n_Lot_len (fun _ _ _ _ _ _ us hl => match us, hl with | [_], _ => rfl),
    Lot_pairs := met_of a_Lot_pairs i_Lot_pairs l_Lot_pairs c_Lot_pairs k_Lot_pairs n_Lot_pairs (fun _ _ _ _ _ _ us hl => match us, hl with | [_], _ => rfl),
    Lot_getitem := met_of a_Lot_getitem i_Lot_getitem l_Lot_getitem c_Lot_getitem k_Lot_getitem n_Lot_getitem (fun _ _ _ _ _ _ us hl => match us, hl with | [_, _], _ => rfl),
    Lot_floordiv := met_of a_Lot_floordiv i_Lot_floordiv l_Lot_floordiv c_Lot_floordiv k_Lot_floordiv n_Lot_floordiv (fun _ _ _ _ _ _ us hl => match us, hl with | [_, _], _ => rfl),
    Lot_mul := met_of a_Lot_mul i_Lot_mul l_Lot_mul c_Lot_mul k_Lot_mul n_Lot_mul (fun _ _ _ _ _ _ us hl => match us, hl with | [_, _], _ => rfl),
    Lot_sub := met_of a_Lot_sub i_Lot_sub l_Lot_sub c_Lot_sub k_Lot_sub n_Lot_sub (fun _ _ _ _ _ _ us hl => match us, hl with | [_, _], _ => rfl),
    Lot_mod := met_of a_Lot_mod i_Lot_mod l_Lot_mod c_Lot_mod k_Lot_mod n_Lot_mod (fun _ _ _ _ _ _ us hl => match us, hl with | [_, _], _ => rfl),
    same := def_of X G a_same l_same c_same k_same (fun _ _ _ _ _ _ us hl => match us, hl with | [_, _], _ => rfl),
    by_hand_right := def_of X G a_by_hand_right l_by_hand_right c_by_hand_right k_by_hand_right (fun _ _ _ _ _ _ us hl => match us, hl with | [_], _ => rfl),
    take := def_of X G a_take l_take c_take k_take (fun _ _ _ _ _ _ us hl => match us, hl with | [_, _], _ => rfl),
    of := def_of X G a_of l_of c_of k_of (fun _ _ _ _ _ _ us hl => match us, hl with | [_, _], _ => rfl),
    names := def_of X G a_names l_names c_names k_names (fun _ _ _ _ _ _ us hl => match us, hl with | [_, _], _ => rfl),
    counted := def_of X G a_counted l_counted c_counted k_counted (fun _ _ _ _ _ _ us hl => match us, hl with | [_], _ => rfl),
    mixed := def_of X G a_mixed l_mixed c_mixed k_mixed (fun _ _ _ _ _ _ us hl => match us, hl with | [_, _], _ => rfl),
    rising := def_of X G a_rising l_rising c_rising k_rising (fun _ _ _ _ _ _ us hl => match us, hl with | [_], _ => rfl),
    pairs := def_of X G a_pairs l_pairs c_pairs k_pairs (fun _ _ _ _ _ _ us hl => match us, hl with | [_], _ => rfl),
    refused := def_of X G a_refused l_refused c_refused k_refused (fun _ _ _ _ _ _ us hl => match us, hl with | [_, _, _], _ => rfl),
    Lot_add := met_of a_Lot_add i_Lot_add l_Lot_add c_Lot_add k_Lot_add n_Lot_add (fun _ _ _ _ _ _ us hl => match us, hl with | [_, _], _ => rfl),
    Lot_iadd := met_of a_Lot_iadd i_Lot_iadd l_Lot_iadd c_Lot_iadd k_Lot_iadd n_Lot_iadd (fun _ _ _ _ _ _ us hl => match us, hl with | [_, _], _ => rfl),
    right := def_of X G a_right l_right c_right k_right (fun _ _ _ _ _ _ us hl => match us, hl with | [_], _ => rfl),
    box := def_of X G a_box l_box c_box k_box (fun _ _ _ _ _ _ us hl => match us, hl with | [_, _], _ => rfl),
    law := def_of X G a_law l_law c_law k_law (fun _ _ _ _ _ _ us hl => match us, hl with | [_], _ => rfl),
    Lot_mul_I := ⟨⟨a_Lot_mul, i_Lot_mul⟩, ⟨_, ir_Lot_mul, .inr ⟨_, rfl⟩⟩, ⟨_, i1_Lot_mul⟩, ⟨_, i2_Lot_mul⟩, i3_Lot_mul⟩ }
  exact ⟨_, fun s v => .of_eq rfl, fun base _ _ => ok_law T⟩
theorem walk {l : PySem.W.OpenLaw} {q : Program} {loose : List Str} {XP : (Str → Option Value) → Heap → Prop} {YP : World → Heap → Prop} {d : DefRec} {K : Params → PySem.W.Frag} (hn : l.most = some 63) (hdf : d.params.defaults = [])
    (hY : ∀ (w : World) (h : Heap), YP w h → (K w.params).In h)
    (F : ∀ (w : World) (mg : Str → Option Value) (fa : Addr) (h : Heap), (K w.params).In h → h.Ns mainGlobals mg → mg d.name = some (.ref fa) →
      ∃ fd : FuncData, (∀ (s : Shared) (u : Value), BindsTo s fd ⟨[u], []⟩ [("_law_script", u)]) ∧ ∀ base : Heap, (K w.params).In base → base.Ns mainGlobals mg → FnOk l.prog w (K w.params) mg base CX0 20 fa fd ["_law_script"] (spLaw (K w.params))) :
    PySem.W.WalkO q loose XP YP l.row.toRowW d [] (fun f vs => PySem.call f vs) :=
  L2.walk_of (n := 63) (k := 20) (x := "_law_script") (CX := fun _ => CX0) (sp := fun w => spLaw (K w.params)) hn (by decide) hdf ⟨rfl, by decide, by decide⟩ hY F (fun _ _ a ns hl _ hS => ⟨a, ns, rfl, hS, hl, fun _ => rfl⟩) fun _ _ _ _ _ z => z
end LW
open PySem PySem.W PyProof.Rows in
set_option maxRecDepth 100000 in
set_option maxHeartbeats 0 in
theorem PySem.Challenge.cw_onceopened_k05_how_often_and_what_is_lef_holds : PySem.Challenge.rw_onceopened_k05_how_often_and_what_is_lef.Holds := by
  w_on; o_law; k_head; (case hw => w_witness2)
  k_fill
  refine LW.walk (l := PySem.Challenge.rw_onceopened_k05_how_often_and_what_is_lef) rfl rfl (fun w h Y => PySem.W.kIn_of Y) ?F
  case F =>
    intro w mg fa h KX G hmg
    refine' LW.all_mk KX G hmg ?a_Lot ?a_Nothing ?z_ValueError ?z_ZeroDivisionError ?z_abs ?z_all ?z_bool ?z_dict ?z_enumerate ?z_int ?z_isinstance ?z_len ?z_list ?z_min ?z_range ?z_sorted ?z_str ?z_tuple ?z_zip ?pg_Lot ?hd_Lot ?po_Lot ?sa_Lot ?sf_Lot ?ns_Lot ?mi_Lot ?kc_Lot ?xi_Nothing ?k_Nothing ?b_Nothing ?t_Nothing ?hg_Nothing ?hk_Nothing ?hd_Nothing ?ha_Nothing ?hn_Nothing ?ht_Nothing ?hm_Nothing ?ic_Nothing ?ss_Nothing ?is_Nothing_ValueError ?is_Nothing_ZeroDivisionError ?no_Lot_own_many ?a_cells ?l_cells ?c_cells ?k_cells ?a_Lot_init ?i_Lot_init ?l_Lot_init ?c_Lot_init ?k_Lot_init ?n_Lot_init ?lT_Lot_init ?a_Lot_len ?i_Lot_len ?l_Lot_len ?c_Lot_len ?k_Lot_len ?n_Lot_len ?a_Lot_pairs ?i_Lot_pairs ?l_Lot_pairs ?c_Lot_pairs ?k_Lot_pairs ?n_Lot_pairs ?a_Lot_getitem ?i_Lot_getitem ?l_Lot_getitem ?c_Lot_getitem ?k_Lot_getitem ?n_Lot_getitem ?a_Lot_floordiv ?i_Lot_floordiv ?l_Lot_floordiv ?c_Lot_floordiv ?k_Lot_floordiv ?n_Lot_floordiv ?a_Lot_mul ?i_Lot_mul ?l_Lot_mul ?c_Lot_mul ?k_Lot_mul ?n_Lot_mul ?a_Lot_sub ?i_Lot_sub ?l_Lot_sub ?c_Lot_sub ?k_Lot_sub ?n_Lot_sub ?a_Lot_mod ?i_Lot_mod ?l_Lot_mod ?c_Lot_mod ?k_Lot_mod ?n_Lot_mod ?a_same ?l_same ?c_same ?k_same ?a_by_hand_right ?l_by_hand_right ?c_by_hand_right ?k_by_hand_right ?a_take ?l_take ?c_take ?k_take ?a_of ?l_of ?c_of ?k_of ?a_names ?l_names ?c_names ?k_names ?a_counted ?l_counted ?c_counted ?k_counted ?a_mixed ?l_mixed ?c_mixed ?k_mixed ?a_rising ?l_rising ?c_rising ?k_rising ?a_pairs ?l_pairs ?c_pairs ?k_pairs ?a_refused ?l_refused ?c_refused ?k_refused ?a_Lot_add ?i_Lot_add ?l_Lot_add ?c_Lot_add ?k_Lot_add ?n_Lot_add ?a_Lot_iadd ?i_Lot_iadd ?l_Lot_iadd ?c_Lot_iadd ?k_Lot_iadd ?n_Lot_iadd ?a_right ?l_right ?c_right ?k_right ?a_box ?l_box ?c_box ?k_box ?a_law ?l_law ?c_law ?k_law ?ir_Lot_mul ?i1_Lot_mul ?i2_Lot_mul ?i3_Lot_mul
    (case a_Lot => k_is)
    (case a_Nothing => k_is)
    (case z_ValueError => k_is)
    (case z_ZeroDivisionError => k_is)
    (case z_abs => k_is)
    (case z_all => k_is)
    (case z_bool => k_is)
    (case z_dict => k_is)
    (case z_enumerate => k_is)
    (case z_int => k_is)
    (case z_isinstance => k_is)
    (case z_len => k_is)
    (case z_list => k_is)
    (case z_min => k_is)
    (case z_range => k_is)
    (case z_sorted => k_is)
    (case z_str => k_is)
    (case z_tuple => k_is)
    (case z_zip => k_is)
    (case pg_Lot => k_is)
    (case hd_Lot => k_is)
    (case po_Lot => k_is)
    (case sa_Lot => k_is)
    (case sf_Lot => k_is)
    (case ns_Lot => k_is)
    (case mi_Lot => k_is)
    (case kc_Lot => k_is)
    (case xi_Nothing => k_exc)
    (case k_Nothing => k_is)
    (case b_Nothing => k_is)
    (case t_Nothing => k_is)
    (case hg_Nothing => k_is)
    (case hk_Nothing => k_is)
    (case hd_Nothing => k_is)
    (case ha_Nothing => k_is)
    (case hn_Nothing => k_is)
    (case ht_Nothing => k_is)
    (case hm_Nothing => k_is)
    (case ic_Nothing => k_is)
    (case ss_Nothing => first | rfl | k_is)
    (case is_Nothing_ValueError => k_is)
    (case is_Nothing_ZeroDivisionError => k_is)
    (case no_Lot_own_many => k_is)
    (case a_cells => k_is)
    (case l_cells => k_is)
    (case c_cells => k_is)
    (case k_cells => k_is)
    (case a_Lot_init => k_is)
    (case i_Lot_init => k_is)
    (case l_Lot_init => k_is)
    (case c_Lot_init => k_is)
    (case k_Lot_init => k_is)
    (case n_Lot_init => k_is)
    (case lT_Lot_init => k_is)
    (case a_Lot_len => k_is)
    (case i_Lot_len => k_is)
    (case l_Lot_len => k_is)
    (case c_Lot_len => k_is)
    (case k_Lot_len => k_is)
    (case n_Lot_len => k_is)
    (case a_Lot_pairs => k_is)
    (case i_Lot_pairs => k_is)
    (case l_Lot_pairs => k_is)
    (case c_Lot_pairs => k_is)
    (case k_Lot_pairs => k_is)
    (case n_Lot_pairs => k_is)
    (case a_Lot_getitem => k_is)
    (case i_Lot_getitem => k_is)
    (case l_Lot_getitem => k_is)
    (case c_Lot_getitem => k_is)
    (case k_Lot_getitem => k_is)
    (case n_Lot_getitem => k_is)
    (case a_Lot_floordiv => k_is)
    (case i_Lot_floordiv => k_is)
    (case l_Lot_floordiv => k_is)
    (case c_Lot_floordiv => k_is)
    (case k_Lot_floordiv => k_is)
    (case n_Lot_floordiv => k_is)
    (case a_Lot_mul => k_is)
    (case i_Lot_mul => k_is)
    (case l_Lot_mul => k_is)
    (case c_Lot_mul => k_is)
    (case k_Lot_mul => k_is)
    (case n_Lot_mul => k_is)
    (case a_Lot_sub => k_is)
    (case i_Lot_sub => k_is)
    (case l_Lot_sub => k_is)
    (case c_Lot_sub => k_is)
    (case k_Lot_sub => k_is)
    (case n_Lot_sub => k_is)
    (case a_Lot_mod => k_is)
    (case i_Lot_mod => k_is)
    (case l_Lot_mod => k_is)
    (case c_Lot_mod => k_is)
    (case k_Lot_mod => k_is)
    (case n_Lot_mod => k_is)
    (case a_same => k_is)
    (case l_same => k_is)
    (case c_same => k_is)
    (case k_same => k_is)
    (case a_by_hand_right => k_is)
    (case l_by_hand_right => k_is)
    (case c_by_hand_right => k_is)
    (case k_by_hand_right => k_is)
    (case a_take => k_is)
    (case l_take => k_is)
    (case c_take => k_is)
    (case k_take => k_is)
    (case a_of => k_is)
    (case l_of => k_is)
    (case c_of => k_is)
    (case k_of => k_is)
    (case a_names => k_is)
    (case l_names => k_is)
    (case c_names => k_is)
    (case k_names => k_is)
    (case a_counted => k_is)
    (case l_counted => k_is)
    (case c_counted => k_is)
    (case k_counted => k_is)
    (case a_mixed => k_is)
    (case l_mixed => k_is)
    (case c_mixed => k_is)
    (case k_mixed => k_is)
    (case a_rising => k_is)
    (case l_rising => k_is)
    (case c_rising => k_is)
    (case k_rising => k_is)
    (case a_pairs => k_is)
    (case l_pairs => k_is)
    (case c_pairs => k_is)
    (case k_pairs => k_is)
    (case a_refused => k_is)
    (case l_refused => k_is)
    (case c_refused => k_is)
    (case k_refused => k_is)
    (case a_Lot_add => k_is)
    (case i_Lot_add => k_is)
    (case l_Lot_add => k_is)
    (case c_Lot_add => k_is)
    (case k_Lot_add => k_is)
    (case n_Lot_add => k_is)
    (case a_Lot_iadd => k_is)
    (case i_Lot_iadd => k_is)
    (case l_Lot_iadd => k_is)
    (case c_Lot_iadd => k_is)
    (case k_Lot_iadd => k_is)
    (case n_Lot_iadd => k_is)
    (case a_right => k_is)
    (case l_right => k_is)
    (case c_right => k_is)
    (case k_right => k_is)
    (case a_box => k_is)
    (case l_box => k_is)
    (case c_box => k_is)
    (case k_box => k_is)
    (case a_law => k_is)
    (case l_law => k_is)
    (case c_law => k_is)
    (case k_law => k_is)
    (case ir_Lot_mul => k_is)
    (case i1_Lot_mul => k_is)
    (case i2_Lot_mul => k_is)
    (case i3_Lot_mul => k_is)
