import PyProof.Rows.All
import Wide.All
import OpenK.AllK
import Wide.FinOn
import HandS.ForMost
import HandS.Codes
import HandS.Star
import PySem.Challenge.RW_noneorsome_k26_whole_steps_are_results
import HandS.ClsMeth
import HandS.SetFor
import HandS.DictComp
import HandS.DictSub
import HandS.Walk
import HandS.Defaults
import HandS.RaiseMore
import HandS.Conv
import HandS.Wide
import HandS.Head0
import HandS.Head1
import HandS.Head2
import HandS.HeadHook1
import HandS.HeadHook2
import HandS.GenList
import KE.KStateDown
import HandS.Ends
import HandS.TupAny
import HandS.Set
import HandS.TupSets
import HandS.Strs
set_option Elab.async false
set_option linter.all false
set_option maxRecDepth 100000
set_option maxHeartbeats 4000000
/-! Own classes' special methods, as rules of the layer's kind. -/
namespace KK
open PySem PySem.Spec PyProof.Rows L2
/-- a method of an own class, with all that the special lookups ask -/
structure Own (P : Program) (w : World) (K : PySem.W.Frag) (mg : Str → Option Value) (base : Heap) (k : Nat) (C : Addr) (m : Str) (sp : Sp) : Prop where
  ex : ∃ (f : Addr) (fd : FuncData) (ps : List Str),
    Cls K C ∧ Meth K C m f ∧ PySem.W.fnIn K f = true ∧
    FnOk P w K mg base C8.CX0 k f fd ps sp ∧ Binds K fd ps []
theorem Own.met {P : Program} {w : World} {K : PySem.W.Frag} {mg : Str → Option Value} {base : Heap} {k : Nat} {C : Addr} {m : Str} {sp : Sp}
    (c : Own P w K mg base k C m sp) : C8.Met P w K mg base k C m sp [] := by
  obtain ⟨f, fd, ps, h1, h2, _, h4, h5⟩ := c.ex
  exact ⟨f, fd, ps, [], h1, h2, h4, h5, .nil⟩
section
variable {X : Cx} {pins : List (Addr × Obj)} {σ : L2.St} {H : Hp} {s : Shared}
/-- a callee run under another surrounding of the same frames -/
theorem run_under {A : Around} {k : Nat} {f : Addr} {fd : FuncData} {ps : List Str} {sp : Sp} {Q : VK} {us : List Value} {vs : List V}
    (F : FnOk X.prog X.w X.K X.mg X.base C8.CX0 k f fd ps sp)
    (hr : Room k A) (hf : A.frames = some X.stack) (hb : Binds X.K fd ps [])
    (I : Inv X pins σ H s) (r : Vals vs us) (h : sp vs H Q C8.E0) :
    wpAny (model X.prog X.w) A (call (.ref f) us) (EP X pins σ Q) X.xe s := by
  have e0 := I.env0
  have e1 : Env0 X.prog X.w X.K X.mg X.base A X.stack s H :=
    ⟨hf, e0.mod, e0.bs, e0.bsz, e0.funs, e0.frf, e0.hok, e0.bare⟩
  have hl : (us ++ []).length = ps.length := by
    rw [List.append_nil, ← r.length]
    exact F.len _ _ _ _ h
  have bt := hb s us I.kIn hl
  rw [List.append_nil] at bt
  refine wpAny_call (codeAny_mono (F.run A X.stack s H ⟨us, []⟩ us vs Q C8.E0 hr e1 bt r h) fun q s' hq => ?_)
  cases q with
  | error e => exact False.elim hq
  | ok fl =>
    cases fl with
    | ret u => exact I.after hq
    | next => exact False.elim hq
    | brk => exact False.elim hq
    | cont => exact False.elim hq
theorem rr (p : Addr) : RelV (.ref p) (Value.ref p) := rfl
theorem inst_of {a C dx : Addr} {fs : List (Str × V)} (I : Inv X pins σ H s) (h : H a = some (.ins C dx fs)) :
    ∃ ox od, PySem.W.InstAt s.heap a ox C od ∧ ox.data = .plain := by
  obtain ⟨mA, O, _⟩ := ins_get I.hok h
  obtain ⟨od, J, _⟩ := O.look
  exact ⟨_, _, J, rfl⟩
end
section
variable {X : Cx} {k j : Nat} {C : Addr} {sp : Sp} {a b e : Expr} {ta tb te : TE} {pos : Pos}
/-- o[i] by an own __getitem__ -/
def tGetO (C : Addr) (sp : Sp) (ta tb : TE) : TE := fun σ H Q =>
  ta σ H fun x H1 => tb σ H1 fun y H2 => ∃ p dx fs, x = .ref p ∧ H2 p = some (.ins C dx fs) ∧ sp [x, y] H2 Q C8.E0
theorem pe_getO (c : Own X.prog X.w X.K X.mg X.base k C "__getitem__" sp) (hr : Room j X.A) (hk : k + 1 ≤ j)
    (ha : PE X a ta) (hb : PE X b tb)
    (hs : ∀ (o i : Value), subscripted b true o i = runValue (.builtin "lifetime.subscript" ⟨[o, i], []⟩) := by intro _ _; rfl) :
    PE X (.Subscript a b pos) (tGetO C sp ta tb) := by
  refine ⟨fun pins s σ H Q I h => ?_⟩
  obtain ⟨f, fd, ps, hc, hm, hfn, F, hbd⟩ := c.ex
  refine Subscript_ (binT ha hb I h fun v u s2 x y H2 I2 rx ry q => ?_)
  obtain ⟨p, dx, fs, ex, hp, q2⟩ := q
  subst ex
  obtain rfl : v = Value.ref p := rx
  obtain ⟨m, Fr0⟩ := I2.fr
  obtain ⟨ox, od, J, hd⟩ := inst_of I2 hp
  have hr1 : Room k X.A.in1 := (hr.mono hk).in1
  refine PySem.W.sub_K Fr0 I2.mod.kin J hm.at_ hfn hm.fn ?_ (hs _ _)
  exact run_under F hr1 I2.ok.frames hbd I2 (.cons (rr p) (.cons ry .nil)) q2
/-- len(o) by an own __len__ -/
def rLenO (C : Addr) (sp : Sp) : List V → Hp → VK → Prop := fun xs H Q =>
  ∃ p dx fs, xs = [.ref p] ∧ H p = some (.ins C dx fs) ∧ sp [.ref p] H (fun v H' => ∃ n : Nat, v = .int n ∧ n < 2 ^ 63 ∧ Q (.int n) H') C8.E0
theorem call_lenO (c : Own X.prog X.w X.K X.mg X.base k C "__len__" sp) (hr : Room j X.A) (hk : k + 1 ≤ j) :
    CallR X (.builtin "len") (rLenO C sp) := by
  intro pins s σ H xs us Q I r h
  obtain ⟨f, fd, ps, hc, hm, hfn, F, hbd⟩ := c.ex
  obtain ⟨p, dx, fs, rfl, hp, q⟩ := h
  obtain ⟨u, rfl, rx⟩ := vals1 r
  obtain rfl : u = Value.ref p := rx
  obtain ⟨m, Fr0⟩ := I.fr
  obtain ⟨ox, od, J, hd⟩ := inst_of I hp
  have hr1 : Room k X.A.in1 := (hr.mono hk).in1
  refine PySem.W.len_K Fr0 I.mod.kin J hm.at_ hm.fn (thn (run_under F hr1 I.ok.frames hbd I (.cons (rr p) .nil) q) fun v s' hv => ?_)
  obtain ⟨z, H', I', rz, n, rfl, hn, q'⟩ := hv
  obtain ⟨t, rfl⟩ := rz
  exact ⟨⟨Int.natCast_nonneg _, by omega⟩, .int n, H', I'.tok _, ⟨_, rfl⟩, q'⟩
/-- v in o, v not in o by an own __contains__ that answers a bool -/
def rInO (neg : Bool) (C : Addr) (sp : Sp) : R2 := fun x y H Q =>
  ∃ p dx fs, y = .ref p ∧ H p = some (.ins C dx fs) ∧ sp [.ref p, x] H (fun v H' => ∃ z : Bool, v = .bl z ∧ Q (.bl (if neg then !z else z)) H') C8.E0
theorem op_inO (c : Own X.prog X.w X.K X.mg X.base k C "__contains__" sp) (hr : Room j X.A) (hk : k ≤ j) :
    OpR X (compareOp .In) (rInO false C sp) := by
  intro pins s σ H x y v u Q I rx ry h
  obtain ⟨f, fd, ps, hc, hm, hfn, F, hbd⟩ := c.ex
  obtain ⟨p, dx, fs, rfl, hp, q⟩ := h
  obtain rfl : u = Value.ref p := ry
  obtain ⟨m, Fr0⟩ := I.fr
  obtain ⟨ox, od, J, hd⟩ := inst_of I hp
  refine PySem.W.in_K Fr0 I.mod.kin J hm.at_ hm.fn (thn (run_under F (hr.mono hk) I.ok.frames hbd I (.cons (rr p) (.cons rx .nil)) q) fun w' s' hv => ?_)
  obtain ⟨g, H', I', rz, z, rfl, q'⟩ := hv
  obtain rfl : w' = Value.bool z := rz
  exact wpAny_truthy_bool ⟨.bl z, H', I', rfl, q'⟩
theorem op_notInO (c : Own X.prog X.w X.K X.mg X.base k C "__contains__" sp) (hr : Room j X.A) (hk : k ≤ j) :
    OpR X (compareOp .NotIn) (rInO true C sp) := by
  intro pins s σ H x y v u Q I rx ry h
  obtain ⟨f, fd, ps, hc, hm, hfn, F, hbd⟩ := c.ex
  obtain ⟨p, dx, fs, rfl, hp, q⟩ := h
  obtain rfl : u = Value.ref p := ry
  obtain ⟨m, Fr0⟩ := I.fr
  obtain ⟨ox, od, J, hd⟩ := inst_of I hp
  refine PySem.W.notIn_K Fr0 I.mod.kin J hm.at_ hm.fn (thn (run_under F (hr.mono hk) I.ok.frames hbd I (.cons (rr p) (.cons rx .nil)) q) fun w' s' hv => ?_)
  obtain ⟨g, H', I', rz, z, rfl, q'⟩ := hv
  obtain rfl : w' = Value.bool z := rz
  exact wpAny_truthy_bool ⟨.bl (!z), H', I', rfl, q'⟩
/-- o[i] = v by an own __setitem__ -/
def rSetO (C : Addr) (sp : Sp) : TSet := fun o i v H Q =>
  ∃ p dx fs, o = .ref p ∧ H p = some (.ins C dx fs) ∧ sp [o, i, v] H (fun _ H' => Q H') C8.E0
theorem set_own (c : Own X.prog X.w X.K X.mg X.base k C "__setitem__" sp) (hr : Room j X.A) (hk : k ≤ j)
    (hq : PySem.W.noSeq X.K C = true) : PSet X (rSetO C sp) := by
  intro pins s σ H o i v ov iv vv Q I ro ri rv h
  obtain ⟨f, fd, ps, hc, hm, hfn, F, hbd⟩ := c.ex
  obtain ⟨p, dx, fs, rfl, hp, q⟩ := h
  obtain rfl : ov = Value.ref p := ro
  obtain ⟨m, Fr0⟩ := I.fr
  obtain ⟨ox, od, J, hd⟩ := inst_of I hp
  refine PySem.W.ksp_setItem Fr0 I.mod.kin J hq hm.at_ hm.fn (thn (run_under F (hr.mono hk) I.ok.frames hbd I (.cons (rr p) (.cons ri (.cons rv .nil))) q) fun w' s' hv => ?_)
  obtain ⟨g, H', I', _, q'⟩ := hv
  exact ⟨H', I', q'⟩
/-- ~o -/
def rInvO (C : Addr) (sp : Sp) : V → Hp → VK → Prop := fun x H Q =>
  ∃ p dx fs, x = .ref p ∧ H p = some (.ins C dx fs) ∧ sp [x] H Q C8.E0
theorem un_invO (c : Own X.prog X.w X.K X.mg X.base k C "__invert__" sp) (hr : Room j X.A) (hk : k ≤ j) :
    UnR X (unaryOp .Invert) (rInvO C sp) := by
  intro pins s σ H x v Q I rx h
  obtain ⟨f, fd, ps, hc, hm, hfn, F, hbd⟩ := c.ex
  obtain ⟨p, dx, fs, rfl, hp, q⟩ := h
  obtain rfl : v = Value.ref p := rx
  obtain ⟨m, Fr0⟩ := I.fr
  obtain ⟨ox, od, J, hd⟩ := inst_of I hp
  exact PySem.W.ksp_inv Fr0 I.mod.kin J hm.at_ hm.fn (run_under F (hr.mono hk) I.ok.frames hbd I (.cons (rr p) .nil) q)
/-- o & u, o | u where both are of one own class and the method answers an object -/
def rBinO (C : Addr) (sp : Sp) : R2 := fun x y H Q =>
  ∃ p dx fs q dy gs, x = .ref p ∧ H p = some (.ins C dx fs) ∧ y = .ref q ∧ H q = some (.ins C dy gs) ∧
    sp [x, y] H (fun v H' => ∃ r, v = .ref r ∧ Q v H') C8.E0
theorem op_binO {op : Operator} {m : Str} (hop : PySem.dunder op.info.2 = m) (c : Own X.prog X.w X.K X.mg X.base k C m sp) (hr : Room j X.A) (hk : k ≤ j)
    (hsf : PySem.W.selfFirst X.K C = true) : OpR X (binaryOp op) (rBinO C sp) := by
  intro pins s σ H x y v u Q I rx ry h
  obtain ⟨f, fd, ps, hc, hm, hfn, F, hbd⟩ := c.ex
  obtain ⟨p, dx, fs, q, dy, gs, rfl, hp, rfl, hq, q2⟩ := h
  obtain rfl : v = Value.ref p := rx
  obtain rfl : u = Value.ref q := ry
  obtain ⟨m', Fr0⟩ := I.fr
  obtain ⟨ox, od, J, hd⟩ := inst_of I hp
  obtain ⟨oy, oe, J2, hd2⟩ := inst_of I hq
  subst hop
  refine PySem.W.binop_K Fr0 I.mod.kin J J2.type hsf hm.at_ hm.fn (thn (run_under F (hr.mono hk) I.ok.frames hbd I (.cons (rr p) (.cons (rr q) .nil)) q2) fun w' s' hv => ?_)
  obtain ⟨g, H', I', rg, z, rfl, q'⟩ := hv
  obtain rfl : w' = Value.ref z := rg
  exact ⟨.ref z, H', I', rfl, q'⟩
end
end KK


set_option Elab.async false
set_option linter.all false
set_option maxRecDepth 100000
set_option maxHeartbeats 4000000
namespace KK
open PySem PySem.Spec PyProof.Rows L2
section
variable {X : Cx} {pins : List (Addr × Obj)} {σ : L2.St} {H : Hp} {s : Shared}
/-! ### == and != with an empty list, whatever the items -/
theorem list_raw {a : Addr} {xs : List V} (I : Inv X pins σ H s) (h : SqL X.K H a xs) :
    ∃ (its : List Value) (n : Nat) (dd : Option Addr) (sl : Array (Option Value)), Vals xs its ∧ s.heap.get? a = some ⟨.type "list", dd, .seq its.toArray n, sl⟩ := by
  obtain ⟨its, rv, ⟨⟨cls, dd, data, sl⟩, n, ho, hc, hdn, hd⟩, _⟩ := I.list h
  simp only at hc hd
  subst hc hd
  exact ⟨its, n, dd, sl, rv, ho⟩
/-- x == [] and x != [] -/
def rNil (K : PySem.W.Frag) (neg : Bool) : R2 := fun x y H Q =>
  ∃ a b xs, x = .ref a ∧ y = .ref b ∧ SqL K H a xs ∧ SqL K H b [] ∧ Q (.bl (if neg then !xs.isEmpty else xs.isEmpty)) H
theorem op_eqNil (hu : X.A.units < cLine) : OpR X (compareOp .Eq) (rNil X.K false) := by
  intro pins s σ H x y v u Q I rx ry h
  obtain ⟨a, b, xs, rfl, rfl, ha, hb, q⟩ := h
  obtain rfl : v = Value.ref a := rx
  obtain rfl : u = Value.ref b := ry
  obtain ⟨is1, n1, d1, s1, r1, e1⟩ := list_raw I ha
  obtain ⟨is2, n2, d2, s2, r2, e2⟩ := list_raw I hb
  cases r2
  cases r1 with
  | nil =>
    exact richCompare_meets_room (op := .Eq) ⟨_, e1, rfl⟩ ⟨_, e2, rfl⟩ PySem.F.slot_list_eq PySem.F.entry_list_eq (PySem.F.args_list_eq_2 _ _)
      (SeqAt.list_eqAt a b _ _ n1 n2 d1 d2 s1 s2 rfl fun _ => true)
      ⟨e1, e2, fun j h1 => absurd h1 (by simp), (fun z => nomatch z), ⟨.bl true, H, I, rfl, q⟩⟩ hu
  | cons r rs =>
    exact richCompare_meets_room (op := .Eq) ⟨_, e1, rfl⟩ ⟨_, e2, rfl⟩ PySem.F.slot_list_eq PySem.F.entry_list_eq (PySem.F.args_list_eq_2 _ _)
      (SeqAt.list_eq_lengthsAt a b _ _ n1 n2 d1 d2 s1 s2 (by simp))
      ⟨e1, e2, (fun z => nomatch z), ⟨.bl false, H, I, rfl, q⟩⟩ hu
theorem op_neNil (hu : X.A.units < cLine) : OpR X (compareOp .NotEq) (rNil X.K true) := by
  intro pins s σ H x y v u Q I rx ry h
  obtain ⟨a, b, xs, rfl, rfl, ha, hb, q⟩ := h
  obtain rfl : v = Value.ref a := rx
  obtain rfl : u = Value.ref b := ry
  obtain ⟨is1, n1, d1, s1, r1, e1⟩ := list_raw I ha
  obtain ⟨is2, n2, d2, s2, r2, e2⟩ := list_raw I hb
  cases r2
  cases r1 with
  | nil =>
    exact richCompare_meets_room (op := .NotEq) ⟨_, e1, rfl⟩ ⟨_, e2, rfl⟩ PySem.F.slot_list_ne PySem.F.entry_list_ne (PySem.F.args_list_ne_2 _ _)
      (SeqAt.list_neAt a b _ _ n1 n2 d1 d2 s1 s2 rfl fun _ => true)
      ⟨e1, e2, fun j h1 => absurd h1 (by simp), (fun z => nomatch z), ⟨.bl false, H, I, rfl, q⟩⟩ hu
  | cons r rs =>
    exact richCompare_meets_room (op := .NotEq) ⟨_, e1, rfl⟩ ⟨_, e2, rfl⟩ PySem.F.slot_list_ne PySem.F.entry_list_ne (PySem.F.args_list_ne_2 _ _)
      (SeqAt.list_ne_lengthsAt a b _ _ n1 n2 d1 d2 s1 s2 (by simp))
      ⟨e1, e2, (fun z => nomatch z), ⟨.bl true, H, I, rfl, q⟩⟩ hu
/-! ### x is True, x is not False, where x may be None, a bool, a text -/
def plainV : V → Bool
  | .non => true
  | .bl _ => true
  | .str _ => true
  | _ => false
def rIsC (neg : Bool) : R2 := fun x y H Q =>
  ∃ b : Bool, plainV x = true ∧ y = .bl b ∧ Q (.bl (if neg then !decide (x = .bl b) else decide (x = .bl b))) H
theorem op_isC : OpR X (compareOp .Is) (rIsC false) := by
  intro pins s σ H x y v u Q I rx ry h
  obtain ⟨b, hp, rfl, q⟩ := h
  obtain rfl : u = Value.bool b := ry
  cases x with
  | non =>
    obtain rfl : v = Value.none := rx
    exact wpAny_is_other rfl (fun z => nomatch z) ⟨.bl false, H, I, rfl, q⟩
  | bl a =>
    obtain rfl : v = Value.bool a := rx
    by_cases e : a = b
    · subst e
      exact wpAny_is_self rfl ⟨.bl true, H, I, rfl, by simpa using q⟩
    · exact wpAny_is_other rfl (fun z => e (Value.bool.inj z)) ⟨.bl false, H, I, rfl, by simpa [e] using q⟩
  | str z =>
    obtain ⟨t, rfl⟩ := rx
    exact wpAny_is_other rfl (fun z => nomatch z) ⟨.bl false, H, I, rfl, q⟩
  | _ => cases hp
theorem op_isNotC : OpR X (compareOp .IsNot) (rIsC true) := by
  intro pins s σ H x y v u Q I rx ry h
  obtain ⟨b, hp, rfl, q⟩ := h
  obtain rfl : u = Value.bool b := ry
  cases x with
  | non =>
    obtain rfl : v = Value.none := rx
    exact wpAny_isNot_other rfl (fun z => nomatch z) ⟨.bl true, H, I, rfl, q⟩
  | bl a =>
    obtain rfl : v = Value.bool a := rx
    by_cases e : a = b
    · subst e
      exact wpAny_isNot_self rfl ⟨.bl false, H, I, rfl, by simpa using q⟩
    · exact wpAny_isNot_other rfl (fun z => e (Value.bool.inj z)) ⟨.bl true, H, I, rfl, by simpa [e] using q⟩
  | str z =>
    obtain ⟨t, rfl⟩ := rx
    exact wpAny_isNot_other rfl (fun z => nomatch z) ⟨.bl true, H, I, rfl, q⟩
  | _ => cases hp
/-! ### xs.count(text) -/
def eqs (k : Str) (v : Value) : Bool := match v with
  | .str x _ => x == k
  | _ => false
theorem eqs_gives {k : Str} {t : Tok} : ∀ {us : List Value} {zs : List Str}, Vals (zs.map V.str) us → ∀ y ∈ us, MeetsSeq.EqGives y (.str k t) (eqs k y)
  | _, [], .nil, _, hy => nomatch hy
  | _, z :: zs, .cons r rs, y, hy => by
    rcases List.mem_cons.mp hy with e | hy
    · subst e
      obtain ⟨t', rfl⟩ := r
      exact eqGives_str z k _ t
    · exact eqs_gives rs y hy
theorem eqs_count {k : Str} : ∀ {us : List Value} {zs : List Str}, Vals (zs.map V.str) us → us.countP (eqs k) = zs.countP fun z => z == k
  | _, [], .nil => rfl
  | _, z :: zs, .cons r rs => by
    obtain ⟨t, rfl⟩ := r
    rw [List.countP_cons, List.countP_cons, eqs_count rs]
    rfl
def rCntS (K : PySem.W.Frag) : V → List V → Hp → VK → Prop := fun x xs H Q =>
  ∃ (p : Addr) (zs : List Str) (k : Str), x = .ref p ∧ xs = [.str k] ∧ SqL K H p (zs.map V.str) ∧ Q (.int ((zs.countP fun z => z == k : Nat) : Int)) H
theorem mt_scount : MtR X "list.count" (rCntS X.K) := by
  intro pins s σ H x xs v us Q I rx rxs h
  obtain ⟨p, zs, k, rfl, rfl, hs, q⟩ := h
  obtain rfl : v = Value.ref p := rx
  obtain ⟨u, rfl, ru⟩ := rxs.one
  obtain ⟨t, rfl⟩ := ru
  obtain ⟨its, n, dd, sl, rv, ho⟩ := list_raw I hs
  refine call_meets PySem.F.slot_list_count ⟨_, ho, rfl⟩ PySem.F.entry_list_count (PySem.F.args_list_count_2 _ _)
    (SeqAt.list_countAt p its.toArray n dd sl (.str k t) (eqs k)) ⟨ho, fun y hy => (eqs_gives rv y (by simpa using hy)).at _ _, ?_⟩
  have ec : its.toArray.toList.countP (eqs k) = zs.countP fun z => z == k := eqs_count rv
  rw [ec]
  exact ⟨.int _, H, I.tok _, ⟨s.toks, rfl⟩, q⟩
end
end KK


set_option Elab.async false
set_option linter.all false
set_option maxRecDepth 100000
set_option maxHeartbeats 4000000
namespace KK
open PySem PySem.Spec PyProof.Rows L2
/-! ### static methods, read off their class -/
structure SMet (P : Program) (w : World) (K : PySem.W.Frag) (mg : Str → Option Value) (base : Heap) (k : Nat) (C : Addr) (m : Str) (sp : Sp) : Prop where
  ex : ∃ (mc : Value) (p g : Addr) (rest : List Value) (fd : FuncData) (ps : List Str),
    ClX.CRead K C mc ∧ PySem.W.typeIn K (.ref C) = some mc ∧
    PySem.W.findCls K (.ref C) mc m = some (.get (.builtin "staticmethod.__get__") (.ref p) .none (.ref C)) ∧
    PySem.W.recIn K p "staticmethod" = some (.ref g :: rest) ∧ PySem.W.keepIn K (.ref g) = true ∧
    FnOk P w K mg base C8.CX0 k g fd ps sp ∧ Binds K fd ps []
def tSMeth (C : Addr) (sp : Sp) (ta : TE) (t : TA) : TE := fun σ H Q =>
  ta σ H fun x H1 => x = .ref C ∧ t σ H1 fun vs H2 => sp vs H2 Q C8.E0
section
variable {X : Cx} {k j : Nat} {C : Addr} {m : Str} {sp : Sp} {o e : Expr} {es : List Expr} {ta te : TE} {t : TA} {pos apos : Pos} {pl : Sem Bool}
theorem pe_smeth (c : SMet X.prog X.w X.K X.mg X.base k C m sp) (hr : Room j X.A) (hk : k ≤ j) (he : PE X o ta) (ha : PA X (e :: es) t)
    (hst : starEach (e :: es) X.env = (false, eval e X.env) :: starEach es X.env := by rfl)
    (hpl : (backTo pos (starEach es X.env)).any (·.1) = false := by rfl)
    (ht : eval (.Call (.Attribute o m apos) (e :: es) [] pos) X.env = (do
      let ov ← eval o X.env
      standAt apos.atName
      let (f, first) ← holding [ov] (getMethod ov m pl)
      callWith pos f first (backTo pos (starEach (e :: es) X.env))
        (backToKw pos (keywordEach [] X.env))) := by rfl) :
    PE X (.Call (.Attribute o m apos) (e :: es) [] pos) (tSMeth C sp ta t) := by
  refine ⟨fun pins s σ H Q I h => ?_⟩
  obtain ⟨mc, p, g, rest, fd, ps, r, hty, hfc, hrc, hkp, F, hb⟩ := c.ex
  refine PySem.W.methodCall_KW (pl := pl) (thn (he.run pins s σ H _ I h) fun u s1 ⟨x, H1, I1, rx, ex, q⟩ => ?_) ht
  subst ex
  obtain rfl : u = Value.ref C := rx
  obtain ⟨m0, Fr0⟩ := I1.fr
  refine PySem.W.method_cls I1.kIn r.ga ?_
  refine PySem.W.cls_sm Fr0 I1.mod.kin hty r.rd hfc hrc rfl ?_
  have I2 := I1.tok (s1.toks + 1)
  refine PySem.W.callWith_K (h₀ := X.base) (first := []) I.ok.mod.kin hkp (thn (ha.run pos pins _ σ H1 _ I2 q) fun us s3 ⟨vs, H2, I3, rv, q2⟩ => ⟨I3.kIn, ?_⟩) hst hpl
  exact run_under F (hr.mono hk) I3.ok.frames hb I3 rv q2
theorem pe_smeth0 (c : SMet X.prog X.w X.K X.mg X.base k C m sp) (hr : Room j X.A) (hk : k ≤ j) (he : PE X o ta)
    (ht : eval (.Call (.Attribute o m apos) [] [] pos) X.env = (do
      let ov ← eval o X.env
      standAt apos.atName
      let (f, first) ← holding [ov] (getMethod ov m pl)
      callWith pos f first (backTo pos (starEach [] X.env))
        (backToKw pos (keywordEach [] X.env))) := by rfl) :
    PE X (.Call (.Attribute o m apos) [] [] pos) (tSMeth C sp ta tNil) := by
  refine ⟨fun pins s σ H Q I h => ?_⟩
  obtain ⟨mc, p, g, rest, fd, ps, r, hty, hfc, hrc, hkp, F, hb⟩ := c.ex
  refine PySem.W.methodCall_KW (pl := pl) (thn (he.run pins s σ H _ I h) fun u s1 ⟨x, H1, I1, rx, ex, q⟩ => ?_) ht
  subst ex
  obtain rfl : u = Value.ref C := rx
  obtain ⟨m0, Fr0⟩ := I1.fr
  refine PySem.W.method_cls I1.kIn r.ga ?_
  refine PySem.W.cls_sm Fr0 I1.mod.kin hty r.rd hfc hrc rfl ?_
  have I2 := I1.tok (s1.toks + 1)
  exact PySem.W.callWith_K0 (first := []) I2.kIn hkp (run_under (vs := []) F (hr.mono hk) I2.ok.frames hb I2 .nil q)
/-! ### o.f(e, ..), f a field that holds an instance that may be called -/
def tCallF (K : PySem.W.Frag) (C : Addr) (fl : Str) (sp : Sp) (ta : TE) (t : TA) : TE := fun σ H Q =>
  ta σ H fun x H1 => ∃ a D dx fs p, x = .ref a ∧ H1 a = some (.ins D dx fs) ∧ Cls K D ∧ NoAttr K D fl ∧ fs.lookup fl = some (.ref p) ∧
    t σ H1 fun vs H2 => (∃ dy gs, H2 p = some (.ins C dy gs)) ∧ sp (.ref p :: vs) H2 Q C8.E0
theorem pe_callF (c : Own X.prog X.w X.K X.mg X.base k C "__call__" sp) (hr : Room j X.A) (hk : k ≤ j) (he : PE X o ta) (ha : PA X (e :: es) t)
    (hst : starEach (e :: es) X.env = (false, eval e X.env) :: starEach es X.env := by rfl)
    (hpl : (backTo pos (starEach es X.env)).any (·.1) = false := by rfl)
    (ht : eval (.Call (.Attribute o m apos) (e :: es) [] pos) X.env = (do
      let ov ← eval o X.env
      standAt apos.atName
      let (f, first) ← holding [ov] (getMethod ov m pl)
      callWith pos f first (backTo pos (starEach (e :: es) X.env))
        (backToKw pos (keywordEach [] X.env))) := by rfl) :
    PE X (.Call (.Attribute o m apos) (e :: es) [] pos) (tCallF X.K C m sp ta t) := by
  refine ⟨fun pins s σ H Q I h => ?_⟩
  obtain ⟨f, fd, ps, hc, hm, hfn, F, hbd⟩ := c.ex
  refine PySem.W.methodCall_KW (pl := pl) (thn (he.run pins s σ H _ I h) fun u s1 ⟨x, H1, I1, rx, a, D, dx, fs, p, ex, ea, hD, hn, hl, q⟩ => ?_) ht
  subst ex
  obtain rfl : u = Value.ref a := rx
  obtain ⟨ox, od, J, hd⟩ := inst_of I1 ea
  have pg := PySem.W.plainGet_of (hD.get m)
  refine PySem.W.method_usual (r := none) I1.kIn J pg.1 pg.2 hn rfl ?_
  refine getattr_ok I1 ea hD hn hl fun v s2 I2 rv => ?_
  obtain rfl : v = Value.ref p := rv
  refine StX.callO_with (thn (ha.run pos pins s2 σ H1 _ I2 q) fun us s3 ⟨vs, H2, I3, r, hp, q2⟩ => ?_) hst hpl
  obtain ⟨dy, gs, hp⟩ := hp
  obtain ⟨oy, oe, J2, hd2⟩ := inst_of I3 hp
  refine ⟨⟨C, oy, oe, J2, hd2⟩, ?_⟩
  have hb2 := F.raw (dvs := []) hbd .nil
  refine wpAny_call (PySem.W.kco_code I3.kIn J2 hd2 hm.at_ hm.fn hfn ?_)
  exact run_fnR (us := .ref p :: us) (vs := .ref p :: vs) hb2 (hr.mono hk) C8.pass0 I3 (.cons rfl r) (by rw [List.append_nil]; exact q2)
end
end KK


set_option Elab.async false
set_option linter.all false
set_option maxRecDepth 100000
set_option maxHeartbeats 4000000
/-! Regions of the heap, and comprehensions whose steps change nothing. -/
namespace KK
open PySem PySem.Spec PyProof.Rows L2
/-- the region U of H stands in H' too; nothing vanished -/
structure Gr (U : Addr → Prop) (H H' : Hp) : Prop where
  k : ∀ a o, U a → H a = some o → H' a = some o
  f : ∀ a, H' a = none → H a = none
theorem Gr.refl (U : Addr → Prop) (H : Hp) : Gr U H H := ⟨fun _ _ _ h => h, fun _ h => h⟩
theorem Gr.trans {U : Addr → Prop} {H H1 H2 : Hp} (a : Gr U H H1) (b : Gr U H1 H2) : Gr U H H2 :=
  ⟨fun c o u h => b.k c o u (a.k c o u h), fun c h => a.f c (b.f c h)⟩
theorem gr_same {U : Addr → Prop} {H H' : Hp} (s : Same H H') : Gr U H H' := ⟨fun c o _ h => s c o h, fun c h => s.free h⟩
theorem Gr.sub {U V : Addr → Prop} {H H' : Hp} (g : Gr U H H') (h : ∀ a, V a → U a) : Gr V H H' := ⟨fun c o u e => g.k c o (h c u) e, g.f⟩
theorem same_new {H : Hp} {p : Addr} {o : HO} (h : H p = none) : Same H (upd H p o) := fun a u e => by
  rw [upd_ne (ne_of_none e h)]
  exact e
/-- an object that U does not hold changes -/
theorem gr_upd {U : Addr → Prop} {H : Hp} {p : Addr} {o : HO} (h : ¬ U p) : Gr U H (upd H p o) := by
  refine ⟨fun a u ua e => ?_, fun a e => ?_⟩
  · rw [upd_ne (fun z => by subst z; exact h ua)]
    exact e
  · by_cases z : a = p
    · subst z
      rw [upd_same] at e
      cases e
    · rwa [upd_ne z] at e
/-- what H does not know yet is held by U -/
def Fresh (U : Addr → Prop) (H : Hp) : Prop := ∀ a, H a = none → U a
theorem Fresh.gr {U : Addr → Prop} {H H' : Hp} (f : Fresh U H) (g : Gr U H H') : Fresh U H' := fun a h => f a (g.f a h)
theorem Fresh.same {U : Addr → Prop} {H H' : Hp} (f : Fresh U H) (g : Same H H') : Fresh U H' := fun a h => f a (g.free h)
/-- the address a, within the region, holds o -/
def At (U : Addr → Prop) (H : Hp) (a : Addr) (o : HO) : Prop := U a ∧ H a = some o
/-- a region seen from another one -/
def Lq (U : Addr → Prop) (H : Hp) (U' : Addr → Prop) (H' : Hp) : Prop := ∀ a o, At U H a o → At U' H' a o
theorem Lq.refl (U : Addr → Prop) (H : Hp) : Lq U H U H := fun _ _ h => h
theorem Lq.trans {U U1 U2 : Addr → Prop} {H H1 H2 : Hp} (a : Lq U H U1 H1) (b : Lq U1 H1 U2 H2) : Lq U H U2 H2 := fun c o h => b c o (a c o h)
theorem Gr.lq {U : Addr → Prop} {H H' : Hp} (g : Gr U H H') : Lq U H U H' := fun a o h => ⟨h.1, g.k a o h.1 h.2⟩
theorem lq_same {U : Addr → Prop} {H H' : Hp} (s : Same H H') : Lq U H U H' := fun a o h => ⟨h.1, s a o h.2⟩
theorem lq_sub {U V : Addr → Prop} {H : Hp} (h : ∀ a, U a → H a ≠ none → V a) : Lq U H V H := fun a o e => ⟨h a e.1 (by rw [e.2]; exact fun z => nomatch z), e.2⟩
theorem At.lq {U U' : Addr → Prop} {H H' : Hp} {a : Addr} {o : HO} (h : At U H a o) (q : Lq U H U' H') : At U' H' a o := q a o h
/-- a list of texts, a tuple of texts -/
def LAt (U : Addr → Prop) (H : Hp) (p : Addr) (zs : List Str) : Prop := At U H p (.lst (zs.map V.str))
def TAt (U : Addr → Prop) (H : Hp) (p : Addr) (zs : List Str) : Prop := At U H p (.tup (zs.map V.str))
/-- a dict, by what it says of each key -/
def DV (U : Addr → Prop) (H : Hp) (p : Addr) (f : Key → Option V) (n : Nat) : Prop := ∃ kvs, At U H p (.dK kvs) ∧ (∀ k, valV kvs k = f k) ∧ kvs.length ≤ n
theorem DV.lq {U U' : Addr → Prop} {H H' : Hp} {p : Addr} {f : Key → Option V} {n : Nat} (h : DV U H p f n) (q : Lq U H U' H') : DV U' H' p f n := by
  obtain ⟨kvs, a, b, c⟩ := h
  exact ⟨kvs, q _ _ a, b, c⟩
theorem DV.mono {U : Addr → Prop} {H : Hp} {p : Addr} {f : Key → Option V} {n m : Nat} (h : DV U H p f n) (l : n ≤ m) : DV U H p f m := by
  obtain ⟨kvs, a, b, c⟩ := h
  exact ⟨kvs, a, b, Nat.le_trans c l⟩
/-- the heaps agree but for D -/
def Off (D : Addr) (H H' : Hp) : Prop := ∀ a o, a ≠ D → H a = some o → H' a = some o
theorem Off.refl (D : Addr) (H : Hp) : Off D H H := fun _ _ _ h => h
theorem Off.trans {D : Addr} {H H1 H2 : Hp} (a : Off D H H1) (b : Off D H1 H2) : Off D H H2 := fun c o n h => b c o n (a c o n h)
theorem off_same {D : Addr} {H H' : Hp} (s : Same H H') : Off D H H' := fun c o _ h => s c o h
theorem off_upd {D : Addr} {H : Hp} {o : HO} : Off D H (upd H D o) := fun c u n h => by rw [upd_ne n]; exact h
theorem Off.same {D : Addr} {H H' : Hp} (s : Off D H H') (h : H D = none) : Same H H' := fun c o e => s c o (ne_of_none e h) e
theorem paired_mono {α β : Type} {F G : α → β → Prop} {l₁ : List α} {l₂ : List β} (h : Paired F l₁ l₂) (f : ∀ a b, F a b → G a b) : Paired G l₁ l₂ := Paired.mapP h f
theorem paired_snoc {α β : Type} {F : α → β → Prop} : ∀ {l : List α} {m : List β} {a : α} {b : β}, Paired F l m → F a b → Paired F (l ++ [a]) (m ++ [b])
  | _, _, _, _, .nil, h => .cons h .nil
  | _, _, _, _, .cons r t, h => .cons r (paired_snoc t h)
theorem paired_map {α β : Type} {f : α → β} : ∀ {l : List α} {m : List β}, Paired (fun x y => y = f x) l m → m = l.map f
  | _, _, .nil => rfl
  | _, _, .cons r t => by rw [List.map_cons, ← paired_map t, ← r]
theorem ifT {b : Bool} {A B : Prop} (e : b = true) (h : A) : if b = true then A else B := by
  rw [if_pos e]
  exact h
theorem ifF {b : Bool} {A B : Prop} (e : b = false) (h : B) : if b = true then A else B := by
  rw [if_neg (by rw [e]; exact Bool.false_ne_true)]
  exact h
theorem dT {p A B : Prop} [Decidable p] (e : p) (h : A) : if decide p = true then A else B := ifT (decide_eq_true e) h
theorem dF {p A B : Prop} [Decidable p] (e : ¬ p) (h : B) : if decide p = true then A else B := ifF (decide_eq_false e) h
/-- the key k is among l -/
def inK (l : List Key) (k : Key) : Bool := l.any fun j => decide (j = k)
theorem inK_iff {l : List Key} {k : Key} : inK l k = true ↔ k ∈ l := by
  unfold inK
  rw [List.any_eq_true]
  exact ⟨fun ⟨j, h, e⟩ => (of_decide_eq_true e) ▸ h, fun h => ⟨k, h, decide_eq_true rfl⟩⟩
theorem inK_snoc {l : List Key} {j k : Key} : inK (l ++ [j]) k = (inK l k || decide (j = k)) := by
  unfold inK
  rw [List.any_append]
  simp
theorem cut_from (xs : List V) {k : Nat} (h : k ≤ xs.length) : cutV xs (some (k : Int)) none = xs.drop k := by
  unfold cutV
  rw [HT.sIx_nat, HT.sIx_none, Nat.min_eq_left h, List.take_of_length_le]
  rw [List.length_drop]
  exact Nat.le_refl _
theorem cut_to (xs : List V) {k : Nat} (h : k ≤ xs.length) : cutV xs none (some (k : Int)) = xs.take k := by
  unfold cutV
  rw [HT.sIx_nat, HT.sIx_none, Nat.min_eq_left h, List.drop_zero, Nat.sub_zero]
theorem cut_mid (xs : List V) {i j : Nat} (h : i ≤ xs.length) (h2 : j ≤ xs.length) : cutV xs (some (i : Int)) (some (j : Int)) = (xs.drop i).take (j - i) := by
  unfold cutV
  rw [HT.sIx_nat, HT.sIx_nat, Nat.min_eq_left h, Nat.min_eq_left h2]
theorem paired_zip {α β : Type} {F : α → β → Prop} : ∀ {l : List α} {m : List β}, Paired F l m → ∃ zs : List (α × β), zs.map (·.1) = l ∧ zs.map (·.2) = m ∧ ∀ z ∈ zs, F z.1 z.2
  | _, _, .nil => ⟨[], rfl, rfl, fun _ h => nomatch h⟩
  | _, _, .cons (a := a) (b := b) r t => by
    obtain ⟨zs, h1, h2, h3⟩ := paired_zip t
    refine ⟨(a, b) :: zs, by rw [List.map_cons, h1], by rw [List.map_cons, h2], fun z hz => ?_⟩
    rcases List.mem_cons.mp hz with e | e
    · rw [e]
      exact r
    · exact h3 z e
/-- values that are addresses of such things -/
theorem paired_refs {α β : Type} {F : Addr → β → Prop} {g : α → β} : ∀ {l : List α} {m : List V}, Paired (fun z y => ∃ q, y = .ref q ∧ F q (g z)) l m → ∃ qs : List Addr, m = qs.map V.ref ∧ Paired (fun q f => F q f) qs (l.map g)
  | _, _, .nil => ⟨[], rfl, .nil⟩
  | _, _, .cons r t => by
    obtain ⟨q, e, h⟩ := r
    obtain ⟨qs, h1, h2⟩ := paired_refs t
    exact ⟨q :: qs, by rw [e, h1]; rfl, .cons h h2⟩
theorem paired_ix {α β : Type} {F : α → β → Prop} : ∀ {l : List α} {m : List β} {i : Nat} {b : β}, Paired F l m → m[i]? = some b → ∃ a, l[i]? = some a ∧ F a b
  | _, _, _, _, .nil, h => by simp at h
  | _, _, 0, _, .cons r _, h => ⟨_, rfl, by rw [← Option.some.inj h]; exact r⟩
  | _, _, i + 1, _, .cons _ t, h => by
    obtain ⟨a, h1, h2⟩ := paired_ix (i := i) t h
    exact ⟨a, h1, h2⟩
/-- what a walk gives: the i-th of zs, as a value -/
def Gives {α : Type} (zs : List α) (inj : α → V) (Y : Nat → Hp → V → Hp → Prop) : Prop := ∀ i H x H', Y i H x H' → H' = H ∧ ∃ z, zs[i]? = some z ∧ x = inj z
theorem gives_list {α : Type} {zs : List α} {inj : α → V} : Gives zs inj (YAt (zs.map inj)) := by
  rintro i H x H' ⟨e, h⟩
  refine ⟨e, ?_⟩
  rw [List.getElem?_map] at h
  cases q : zs[i]? with
  | none =>
    rw [q] at h
    cases h
  | some z =>
    rw [q] at h
    exact ⟨z, rfl, (Option.some.inj h).symm⟩
theorem gives_range {lo : Int} {n : Nat} : ∀ i H x H', i < n → YFn (fun i => .int (lo + i)) i H x H' → H' = H ∧ ∃ z, (List.range n)[i]? = some z ∧ x = V.int (lo + (z : Nat)) := by
  rintro i H x H' hi ⟨e, h⟩
  exact ⟨e, i, by simp [hi], h⟩
/-- a walk over zs, each as a value -/
def Wk {α : Type} (J : It) (zs : List α) (inj : α → V) (G : Hp → Prop) : Prop :=
  Walk J zs.length G fun i H x H' => H' = H ∧ ∃ z, zs[i]? = some z ∧ x = inj z
theorem wk_list {K : PySem.W.Frag} {a : Addr} {α : Type} {zs : List α} {inj : α → V} : Wk (Itl K a) zs inj (fun H => SqL K H a (zs.map inj)) := by
  have w := walk_list (K := K) (a := a) (xs := zs.map inj)
  rw [List.length_map] at w
  exact w.mono (fun _ h => h) fun i H x H' _ _ y => gives_list i H x H' y
theorem wk_tup {K : PySem.W.Frag} {a : Addr} {α : Type} {zs : List α} {inj : α → V} : Wk (Itt K a) zs inj (fun H => SqT K H a (zs.map inj)) := by
  have w := walk_tup (K := K) (a := a) (xs := zs.map inj)
  rw [List.length_map] at w
  exact w.mono (fun _ h => h) fun i H x H' _ _ y => gives_list i H x H' y
theorem wk_range {n : Nat} : Wk (Itr 0 n) (List.range n) (fun i => .int (i : Nat)) (fun _ => True) := by
  have w := walk_range (lo := 0) (n := n)
  have e : (List.range n).length = n := List.length_range
  unfold Wk
  rw [e]
  refine w.mono (fun _ h => h) fun i H x H' hi _ y => ?_
  obtain ⟨e, z, h, q⟩ := gives_range i H x H' hi y
  exact ⟨e, z, h, by rw [q, Int.zero_add]⟩
theorem wk_str {z : Str} : Wk (Its z) z.cps.toList (fun c => .str ⟨#[c]⟩) (fun _ => True) := by
  have w := walk_str (z := z)
  have e : z.cps.toList.length = z.cps.size := Array.length_toList
  unfold Wk
  rw [e]
  refine w.mono (fun _ h => h) fun i H x H' hi _ y => ?_
  obtain ⟨e, c, h, q⟩ := y
  exact ⟨e, c, by rw [Array.getElem?_toList]; exact h, q⟩
theorem wk_keys {d : Addr} {o : Obj} {kvs : List (Key × V)} : Wk (Itk d o kvs) kvs (fun kv => kV kv.1) (fun H => H d = some (.frz o (.dK kvs))) := by
  refine (walk_keys (d := d) (o := o) (kvs := kvs)).mono (fun _ h => h) fun i H x H' hi _ y => ?_
  obtain ⟨e, k, v, h, q⟩ := y
  exact ⟨e, (k, v), h, q⟩
section
variable {α : Type} {J : It} {zs : List α} {inj : α → V} {G : Hp → Prop}
/-- [e for x in xs if t], where no step changes what stands: E says what a kept item gives -/
theorem lc_pure (w : Wk J zs inj G) {i : Nat} {tt : TT} {te : TE} {vs : List Nat} {σ : L2.St} {H1 : Hp} {D : Addr} {Qd : Hp → Prop}
    (E : α → V → Hp → Prop) (b : α → Bool) (hn : H1 D = none) (hz : zs.length < sizeLine)
    (hw : ∀ x, wipe ((wipe σ vs).set i (some x)) vs = wipe σ vs)
    (hG : ∀ H, Same H1 H → G H)
    (hE : ∀ x y Ha Hb, Off D Ha Hb → E x y Ha → E x y Hb)
    (ht : ∀ z ∈ zs, ∀ H, Same H1 H → ∀ R : Bool → Hp → Prop, (∀ H', Same H H' → R (b z) H') → tt ((wipe σ vs).set i (some (inj z))) H R)
    (he : ∀ z ∈ zs, b z = true → ∀ H, Same H1 H → H D ≠ none → ∀ R : VK, (∀ y H', Same H H' → E z y H' → R y H') → te ((wipe σ vs).set i (some (inj z))) H R)
    (hd : ∀ H ys, Same H1 H → H D = some (.lst ys) → Paired (fun z y => E z y H) (zs.filter b) ys → Qd H) :
    ∃ W : Nat → Nat → Hp → Prop, (∃ m, W 0 m (upd H1 D (.lst []))) ∧ ∀ i' m H, W i' m H →
      (J.stop i' H ∧ Qd H) ∨ (J.go i' H ∧ ∃ Nx : Hp → Prop, (∀ H', Nx H' → ∃ m', m' < m ∧ W (i' + 1) m' H') ∧ ∀ x H', J.yld i' H x H' → gName i x (wipe σ vs) H' fun σ2 H2 => wipe σ2 vs = wipe σ vs ∧ tt σ2 H2 fun b H3 =>
        if b = true then te σ2 H3 fun y H4 => ∃ acc, H4 D = some (.lst acc) ∧ acc.length < sizeLine ∧ Nx (upd H4 D (.lst (acc ++ [y]))) else Nx H3) := by
  refine lc_it w (g := gName i) (fun n H => n ≤ zs.length ∧ Same H1 H ∧ ∃ ys, H D = some (.lst ys) ∧ Paired (fun z y => E z y H) ((zs.take n).filter b) ys)
    ⟨Nat.zero_le _, same_new hn, [], upd_same, .nil⟩ (fun n H _ p => hG H p.2.1) ?_ ?_
  · rintro n x H H' hi ⟨_, s, ys, hD, r⟩ ⟨rfl, z, hz1, rfl⟩
    have hm : z ∈ zs := List.mem_of_getElem? hz1
    have et : zs.take (n + 1) = zs.take n ++ [z] := by
      rw [List.take_add_one, hz1]
      rfl
    have hl : ys.length ≤ zs.length := by
      rw [← Paired.length r]
      exact Nat.le_trans (List.length_filter_le _ _) (by rw [List.length_take]; omega)
    refine ⟨hw _, ht z hm _ s _ fun H3 s3 => ?_⟩
    cases hb : b z with
    | true =>
      refine iteT ?_
      refine he z hm hb H3 (s.trans s3) (by rw [s3 _ _ hD]; exact fun q => nomatch q) _ fun y H4 s4 hy => ?_
      have hD4 : H4 D = some (.lst ys) := s4 _ _ (s3 _ _ hD)
      refine ⟨ys, hD4, by omega, hi, ?_, ys ++ [y], upd_same, ?_⟩
      · exact Off.same (((off_same s).trans (off_same (s3.trans s4))).trans off_upd) hn
      · rw [et, List.filter_append]
        have ef : [z].filter b = [z] := by simp [hb]
        rw [ef]
        exact paired_snoc (paired_mono r fun a c q => hE a c _ _ ((off_same (s3.trans s4)).trans off_upd) q) (hE z y _ _ off_upd hy)
    | false =>
      refine iteF ?_
      refine ⟨hi, s.trans s3, ys, s3 _ _ hD, ?_⟩
      rw [et, List.filter_append]
      have ef : [z].filter b = [] := by simp [hb]
      rw [ef, List.append_nil]
      exact paired_mono r fun a c q => hE a c _ _ (off_same s3) q
  · rintro H ⟨_, s, ys, hD, r⟩
    rw [List.take_length] at r
    exact hd H ys s hD r
/-- .. where a kept item gives a value told by f -/
theorem lc_map (w : Wk J zs inj G) {i : Nat} {tt : TT} {te : TE} {vs : List Nat} {σ : L2.St} {H1 : Hp} {D : Addr} {Qd : Hp → Prop}
    (f : α → V) (b : α → Bool) (hn : H1 D = none) (hz : zs.length < sizeLine)
    (hw : ∀ x, wipe ((wipe σ vs).set i (some x)) vs = wipe σ vs)
    (hG : ∀ H, Same H1 H → G H)
    (ht : ∀ z ∈ zs, ∀ H, Same H1 H → ∀ R : Bool → Hp → Prop, (∀ H', Same H H' → R (b z) H') → tt ((wipe σ vs).set i (some (inj z))) H R)
    (he : ∀ z ∈ zs, b z = true → ∀ H, Same H1 H → ∀ R : VK, (∀ H', Same H H' → R (f z) H') → te ((wipe σ vs).set i (some (inj z))) H R)
    (hd : ∀ H, Same H1 H → H D = some (.lst ((zs.filter b).map f)) → Qd H) :
    ∃ W : Nat → Nat → Hp → Prop, (∃ m, W 0 m (upd H1 D (.lst []))) ∧ ∀ i' m H, W i' m H →
      (J.stop i' H ∧ Qd H) ∨ (J.go i' H ∧ ∃ Nx : Hp → Prop, (∀ H', Nx H' → ∃ m', m' < m ∧ W (i' + 1) m' H') ∧ ∀ x H', J.yld i' H x H' → gName i x (wipe σ vs) H' fun σ2 H2 => wipe σ2 vs = wipe σ vs ∧ tt σ2 H2 fun b H3 =>
        if b = true then te σ2 H3 fun y H4 => ∃ acc, H4 D = some (.lst acc) ∧ acc.length < sizeLine ∧ Nx (upd H4 D (.lst (acc ++ [y]))) else Nx H3) := by
  refine lc_pure w (fun z y _ => y = f z) b hn hz hw hG (fun _ _ _ _ _ q => q) ht (fun z hm hb H s _ R hR => he z hm hb H s R fun H' s' => hR _ H' s' rfl) fun H ys s hD r => ?_
  have e := paired_map r
  subst e
  exact hd H s hD
/-- .. of all items -/
theorem lc_all (w : Wk J zs inj G) {i : Nat} {te : TE} {vs : List Nat} {σ : L2.St} {H1 : Hp} {D : Addr} {Qd : Hp → Prop}
    (f : α → V) (hn : H1 D = none) (hz : zs.length < sizeLine)
    (hw : ∀ x, wipe ((wipe σ vs).set i (some x)) vs = wipe σ vs)
    (hG : ∀ H, Same H1 H → G H)
    (he : ∀ z ∈ zs, ∀ H, Same H1 H → ∀ R : VK, (∀ H', Same H H' → R (f z) H') → te ((wipe σ vs).set i (some (inj z))) H R)
    (hd : ∀ H, Same H1 H → H D = some (.lst (zs.map f)) → Qd H) :
    ∃ W : Nat → Nat → Hp → Prop, (∃ m, W 0 m (upd H1 D (.lst []))) ∧ ∀ i' m H, W i' m H →
      (J.stop i' H ∧ Qd H) ∨ (J.go i' H ∧ ∃ Nx : Hp → Prop, (∀ H', Nx H' → ∃ m', m' < m ∧ W (i' + 1) m' H') ∧ ∀ x H', J.yld i' H x H' → gName i x (wipe σ vs) H' fun σ2 H2 => wipe σ2 vs = wipe σ vs ∧ tYes σ2 H2 fun b H3 =>
        if b = true then te σ2 H3 fun y H4 => ∃ acc, H4 D = some (.lst acc) ∧ acc.length < sizeLine ∧ Nx (upd H4 D (.lst (acc ++ [y]))) else Nx H3) :=
  lc_map w f (fun _ => true) hn hz hw hG (fun z _ H1 _ R hR => hR H1 (Same.refl H1)) (fun z hm _ => he z hm) fun H s hD => hd H s (by
    rw [hD]
    have e : zs.filter (fun _ => true) = zs := List.filter_eq_self.mpr fun _ _ => rfl
    rw [e])
/-- .. of all items, where E says what an item gives -/
theorem lc_allE (w : Wk J zs inj G) {i : Nat} {te : TE} {vs : List Nat} {σ : L2.St} {H1 : Hp} {D : Addr} {Qd : Hp → Prop}
    (E : α → V → Hp → Prop) (hn : H1 D = none) (hz : zs.length < sizeLine)
    (hw : ∀ x, wipe ((wipe σ vs).set i (some x)) vs = wipe σ vs)
    (hG : ∀ H, Same H1 H → G H)
    (hE : ∀ x y Ha Hb, Off D Ha Hb → E x y Ha → E x y Hb)
    (he : ∀ z ∈ zs, ∀ H, Same H1 H → H D ≠ none → ∀ R : VK, (∀ y H', Same H H' → E z y H' → R y H') → te ((wipe σ vs).set i (some (inj z))) H R)
    (hd : ∀ H ys, Same H1 H → H D = some (.lst ys) → Paired (fun z y => E z y H) zs ys → Qd H) :
    ∃ W : Nat → Nat → Hp → Prop, (∃ m, W 0 m (upd H1 D (.lst []))) ∧ ∀ i' m H, W i' m H →
      (J.stop i' H ∧ Qd H) ∨ (J.go i' H ∧ ∃ Nx : Hp → Prop, (∀ H', Nx H' → ∃ m', m' < m ∧ W (i' + 1) m' H') ∧ ∀ x H', J.yld i' H x H' → gName i x (wipe σ vs) H' fun σ2 H2 => wipe σ2 vs = wipe σ vs ∧ tYes σ2 H2 fun b H3 =>
        if b = true then te σ2 H3 fun y H4 => ∃ acc, H4 D = some (.lst acc) ∧ acc.length < sizeLine ∧ Nx (upd H4 D (.lst (acc ++ [y]))) else Nx H3) :=
  lc_pure w E (fun _ => true) hn hz hw hG hE (fun z _ H1 _ R hR => hR H1 (Same.refl H1)) (fun z hm _ => he z hm) fun H ys s hD r => hd H ys s hD (by
    have e : zs.filter (fun _ => true) = zs := List.filter_eq_self.mpr fun _ _ => rfl
    rw [e] at r
    exact r)
/-- {k: v for x in xs if t}, where no step changes what stands: the value of a key is told by h -/
theorem dc_pure (w : Wk J zs inj G) {i : Nat} {tt : TT} {tk tv : TE} {vs : List Nat} {σ : L2.St} {H1 : Hp} {D : Addr} {Qd : Hp → Prop}
    (kf : α → Key) (h : Key → V) (b : α → Bool) (hn : H1 D = none) (hz : zs.length < sizeLine)
    (hw : ∀ x, wipe ((wipe σ vs).set i (some x)) vs = wipe σ vs)
    (hG : ∀ H, Same H1 H → G H)
    (ht : ∀ z ∈ zs, ∀ H, Same H1 H → ∀ R : Bool → Hp → Prop, (∀ H', Same H H' → R (b z) H') → tt ((wipe σ vs).set i (some (inj z))) H R)
    (hk : ∀ z ∈ zs, b z = true → ∀ H, Same H1 H → ∀ R : VK, (∀ H', Same H H' → R (kV (kf z)) H') → tk ((wipe σ vs).set i (some (inj z))) H R)
    (he : ∀ z ∈ zs, b z = true → ∀ H, Same H1 H → ∀ R : VK, (∀ H', Same H H' → R (h (kf z)) H') → tv ((wipe σ vs).set i (some (inj z))) H R)
    (hd : ∀ H kvs, Same H1 H → H D = some (.dK kvs) → (∀ k : Key, valV kvs k = if inK ((zs.filter b).map kf) k = true then some (h k) else none) → kvs.length ≤ zs.length → Qd H) :
    ∃ W : Nat → Nat → Hp → Prop, (∃ m, W 0 m (upd H1 D (.dK []))) ∧ ∀ i' m H, W i' m H →
      (J.stop i' H ∧ Qd H) ∨ (J.go i' H ∧ ∃ Nx : Hp → Prop, (∀ H', Nx H' → ∃ m', m' < m ∧ W (i' + 1) m' H') ∧ ∀ x H', J.yld i' H x H' → gName i x (wipe σ vs) H' fun σ2 H2 => wipe σ2 vs = wipe σ vs ∧ tt σ2 H2 fun b H3 =>
        if b = true then tk σ2 H3 fun y H4 => tv σ2 H4 fun z H5 => ∃ kvs k, y = kV k ∧ H5 D = some (.dK kvs) ∧ kvs.length < sizeLine ∧ Nx (upd H5 D (.dK (putK kvs k z))) else Nx H3) := by
  refine ⟨fun n m H => m = zs.length - n ∧ n ≤ zs.length ∧ Same H1 H ∧ ∃ kvs, H D = some (.dK kvs) ∧ kvs.length ≤ n ∧ ∀ k : Key, valV kvs k = if inK (((zs.take n).filter b).map kf) k = true then some (h k) else none,
    ⟨zs.length, rfl, Nat.zero_le _, same_new hn, [], upd_same, Nat.zero_le _, fun k => by simp [valV, inK]⟩, ?_⟩
  rintro n m H ⟨rfl, hle, s, kvs, hD, hl, hv⟩
  have q := hG H s
  by_cases hlt : n < zs.length
  · refine .inr ⟨w.goes n H hlt q, fun H' => n + 1 ≤ zs.length ∧ Same H1 H' ∧ ∃ kvs, H' D = some (.dK kvs) ∧ kvs.length ≤ n + 1 ∧ ∀ k : Key, valV kvs k = if inK (((zs.take (n + 1)).filter b).map kf) k = true then some (h k) else none,
      fun H' p' => ⟨zs.length - (n + 1), by omega, rfl, p'⟩, fun x H' y => ?_⟩
    obtain ⟨e, z, hz1, ex⟩ := w.yields n H x H' hlt q y
    subst e
    subst ex
    have hm : z ∈ zs := List.mem_of_getElem? hz1
    have et : zs.take (n + 1) = zs.take n ++ [z] := by
      rw [List.take_add_one, hz1]
      rfl
    refine ⟨hw _, ht z hm _ s _ fun H3 s3 => ?_⟩
    cases hb : b z with
    | true =>
      refine iteT ?_
      have ef : [z].filter b = [z] := by simp [hb]
      refine hk z hm hb H3 (s.trans s3) _ fun H4 s4 => he z hm hb H4 ((s.trans s3).trans s4) _ fun H5 s5 => ?_
      refine ⟨kvs, kf z, rfl, s5 _ _ (s4 _ _ (s3 _ _ hD)), by omega, hlt, ?_, _, upd_same, Nat.le_trans (DSub.putK_len _ _ _) (by omega), fun k => ?_⟩
      · exact Off.same (((off_same s).trans (off_same ((s3.trans s4).trans s5))).trans off_upd) hn
      · have e3 : ((zs.take n ++ [z]).filter b).map kf = ((zs.take n).filter b).map kf ++ [kf z] := by rw [List.filter_append, ef, List.map_append] <;> rfl
        rw [valV_put, et, e3, inK_snoc, hv k]
        by_cases ek : k = kf z
        · subst ek
          simp
        · have ek2 : ¬ kf z = k := fun q => ek q.symm
          simp [ek, ek2]
    | false =>
      refine iteF ?_
      have ef : [z].filter b = [] := by simp [hb]
      refine ⟨hlt, s.trans s3, kvs, s3 _ _ hD, by omega, fun k => ?_⟩
      rw [hv k, et, List.filter_append, ef, List.append_nil]
  · have e : n = zs.length := by omega
    subst e
    rw [List.take_length] at hv
    exact .inl ⟨w.stops H q, hd H kvs s hD hv hl⟩
end
end KK


set_option Elab.async false
set_option linter.all false
set_option maxRecDepth 100000
set_option maxHeartbeats 4000000
/-! The text by places; what stands behind the top. -/
namespace KK
open PySem PySem.Spec PyProof.Rows L2
/-- the i-th statement of the linked text -/
def top (i : Nat) : Stmt := PySem.Challenge.pw_noneorsome_k26_whole_steps_are_results.main.body.getD i (.Pass ⟨0, 0, 0, 0⟩)
/-- a def under its name -/
def DefK (K : PySem.W.Frag) (mg : Str → Option Value) (x : Str) (st : Stmt) : Prop :=
  ∃ f fd, FunD K x x (defArgs st) (defBody st) (defScope st) [] [] f fd ∧ mg x = some (.ref f)
/-- a method of the class at C, with its defaults -/
def MthK (K : PySem.W.Frag) (C : Addr) (m q : Str) (st : Stmt) (dvs : List V) : Prop :=
  ∃ f fd, FunD K m q (defArgs st) (defBody st) (defScope st) dvs [] f fd ∧ Meth K C m f ∧ PySem.W.fnIn K f = true
section
variable {P : Program} {w : World} {K : PySem.W.Frag} {mg : Str → Option Value} {base : Heap}
/-- a def of the module keeps a promise -/
theorem def_cal {x : Str} {st : Stmt} {N ps : List Str} {k : Nat} {sp : Sp} (D : DefK K mg x st) (S : FnScope N ps (defScope st))
    (hb : ∀ (kV doc pm : Value) (an : Option Addr) (cdv ct : Value) (us : List Value), us.length = ps.length →
      bindArgs (PySem.W.fnOf x x (defArgs st) (defBody st) (defScope st) .none kV doc pm an cdv ct) ⟨us, []⟩ = pure (ps.zip us))
    (len : ∀ vs H Q E, sp vs H Q E → vs.length = ps.length)
    (hbody : ∀ (f : Addr) (cdv : Value) (A : Around) (outer : List Env) (s : Shared) (H : Hp) (vs : List V) (Q : VK) (E : XK),
      Room k (A.deeper (envOfC x (defScope st) s.heap.objs.size f cdv)) → sp vs H Q E →
      ∃ t, PSs (cxOf C8.CX0 P w K mg base N x (defScope st) f cdv A outer s H E).nox (defBody st) t ∧
        t { nx := fun _ H' => Q .non H', rt := Q } (start N vs) H) :
    C8.Cal P w K mg base (k + 1) x sp [] := by
  obtain ⟨f, fd, F, hm⟩ := D
  refine ⟨f, fd, ps, [], F.ok S len (fun cdv A outer s H vs Q E hr hs => ?_), hm, F.kp, F.bindsN hb, .nil⟩
  obtain ⟨t, h1, h2⟩ := hbody f cdv A outer s H vs Q E hr hs
  exact ⟨t, h1.nox, h2⟩
/-- a method keeps a promise -/
theorem mth_own {C : Addr} {m q : Str} {st : Stmt} {N ps : List Str} {k : Nat} {sp : Sp} (c : Cls K C) (D : MthK K C m q st []) (S : FnScope N ps (defScope st))
    (hb : ∀ (kV doc pm : Value) (an : Option Addr) (cdv ct : Value) (us : List Value), us.length = ps.length →
      bindArgs (PySem.W.fnOf m q (defArgs st) (defBody st) (defScope st) .none kV doc pm an cdv ct) ⟨us, []⟩ = pure (ps.zip us))
    (len : ∀ vs H Q E, sp vs H Q E → vs.length = ps.length)
    (hbody : ∀ (f : Addr) (cdv : Value) (A : Around) (outer : List Env) (s : Shared) (H : Hp) (vs : List V) (Q : VK) (E : XK),
      Room k (A.deeper (envOfC q (defScope st) s.heap.objs.size f cdv)) → sp vs H Q E →
      ∃ t, PSs (cxOf C8.CX0 P w K mg base N q (defScope st) f cdv A outer s H E).nox (defBody st) t ∧
        t { nx := fun _ H' => Q .non H', rt := Q } (start N vs) H) :
    Own P w K mg base (k + 1) C m sp := by
  obtain ⟨f, fd, F, hm, hf⟩ := D
  refine ⟨f, fd, ps, c, hm, hf, F.ok S len (fun cdv A outer s H vs Q E hr hs => ?_), F.bindsN hb⟩
  obtain ⟨t, h1, h2⟩ := hbody f cdv A outer s H vs Q E hr hs
  exact ⟨t, h1.nox, h2⟩
end
/-- a method keeps a promise, as one that is called by its name -/
theorem mth_met {P : Program} {w : World} {K : PySem.W.Frag} {mg : Str → Option Value} {base : Heap} {C : Addr} {m q : Str} {st : Stmt} {N ps : List Str} {k : Nat} {sp : Sp} (c : Cls K C) (D : MthK K C m q st []) (S : FnScope N ps (defScope st))
    (hb : ∀ (kV doc pm : Value) (an : Option Addr) (cdv ct : Value) (us : List Value), us.length = ps.length →
      bindArgs (PySem.W.fnOf m q (defArgs st) (defBody st) (defScope st) .none kV doc pm an cdv ct) ⟨us, []⟩ = pure (ps.zip us))
    (len : ∀ vs H Q E, sp vs H Q E → vs.length = ps.length)
    (hbody : ∀ (f : Addr) (cdv : Value) (A : Around) (outer : List Env) (s : Shared) (H : Hp) (vs : List V) (Q : VK) (E : XK),
      Room k (A.deeper (envOfC q (defScope st) s.heap.objs.size f cdv)) → sp vs H Q E →
      ∃ t, PSs (cxOf C8.CX0 P w K mg base N q (defScope st) f cdv A outer s H E).nox (defBody st) t ∧
        t { nx := fun _ H' => Q .non H', rt := Q } (start N vs) H) :
    C8.Met P w K mg base (k + 1) C m sp [] := (mth_own c D S hb len hbody).met
/-- a static method of the class at C -/
def MthS (K : PySem.W.Frag) (C : Addr) (m q : Str) (st : Stmt) : Prop :=
  ∃ (mc : Value) (p g : Addr) (rest : List Value) (fd : FuncData),
    ClX.CRead K C mc ∧ PySem.W.typeIn K (.ref C) = some mc ∧
    PySem.W.findCls K (.ref C) mc m = some (.get (.builtin "staticmethod.__get__") (.ref p) .none (.ref C)) ∧
    PySem.W.recIn K p "staticmethod" = some (.ref g :: rest) ∧
    FunD K m q (defArgs st) (defBody st) (defScope st) [] [] g fd
theorem mth_stat {P : Program} {w : World} {K : PySem.W.Frag} {mg : Str → Option Value} {base : Heap} {C : Addr} {m q : Str} {st : Stmt} {N ps : List Str} {k : Nat} {sp : Sp} (D : MthS K C m q st) (S : FnScope N ps (defScope st))
    (hb : ∀ (kV doc pm : Value) (an : Option Addr) (cdv ct : Value) (us : List Value), us.length = ps.length →
      bindArgs (PySem.W.fnOf m q (defArgs st) (defBody st) (defScope st) .none kV doc pm an cdv ct) ⟨us, []⟩ = pure (ps.zip us))
    (len : ∀ vs H Q E, sp vs H Q E → vs.length = ps.length)
    (hbody : ∀ (f : Addr) (cdv : Value) (A : Around) (outer : List Env) (s : Shared) (H : Hp) (vs : List V) (Q : VK) (E : XK),
      Room k (A.deeper (envOfC q (defScope st) s.heap.objs.size f cdv)) → sp vs H Q E →
      ∃ t, PSs (cxOf C8.CX0 P w K mg base N q (defScope st) f cdv A outer s H E).nox (defBody st) t ∧
        t { nx := fun _ H' => Q .non H', rt := Q } (start N vs) H) :
    SMet P w K mg base (k + 1) C m sp := by
  obtain ⟨mc, p, g, rest, fd, h1, h2, h3, h4, F⟩ := D
  refine ⟨mc, p, g, rest, fd, ps, h1, h2, h3, h4, F.kp, F.ok S len (fun cdv A outer s H vs Q E hr hs => ?_), F.bindsN hb⟩
  obtain ⟨t, h1, h2⟩ := hbody g cdv A outer s H vs Q E hr hs
  exact ⟨t, h1.nox, h2⟩
/-- the __init__ of a class, with its defaults -/
def InitK (K : PySem.W.Frag) (C : Addr) (q : Str) (st : Stmt) (dvs : List V) : Prop :=
  ∃ f fd, FunD K "__init__" q (defArgs st) (defBody st) (defScope st) dvs [] f fd ∧ Mk K C f
/-- a class of the module -/
structure ClsT (K : PySem.W.Frag) (mg : Str → Option Value) (x : Str) (C : Addr) : Prop where
  cl : Cls K C
  mgC : mg x = some (.ref C)
section
variable {P : Program} {w : World} {K : PySem.W.Frag} {mg : Str → Option Value} {base : Heap}
/-- an __init__ whose parameters are all given -/
theorem ini_mak {x : Str} {C : Addr} {q : Str} {st : Stmt} {N ps : List Str} {k : Nat} {sp : Sp} (c : ClsT K mg x C) (D : InitK K C q st []) (S : FnScope N ps (defScope st))
    (hb : ∀ (kV doc pm : Value) (an : Option Addr) (cdv ct : Value) (us : List Value), us.length = ps.length →
      bindArgs (PySem.W.fnOf "__init__" q (defArgs st) (defBody st) (defScope st) .none kV doc pm an cdv ct) ⟨us, []⟩ = pure (ps.zip us))
    (len : ∀ vs H Q E, sp vs H Q E → vs.length = ps.length)
    (hbody : ∀ (f : Addr) (cdv : Value) (A : Around) (outer : List Env) (s : Shared) (H : Hp) (vs : List V) (Q : VK) (E : XK),
      Room k (A.deeper (envOfC q (defScope st) s.heap.objs.size f cdv)) → sp vs H Q E →
      ∃ t, PSs (cxOf C8.CX0 P w K mg base N q (defScope st) f cdv A outer s H E).nox (defBody st) t ∧
        t { nx := fun _ H' => Q .non H', rt := Q } (start N vs) H) :
    C8.Mak P w K mg base (k + 1) x C sp [] := by
  obtain ⟨f, fd, F, hm⟩ := D
  refine ⟨f, fd, ps, [], hm, F.ok S len (fun cdv A outer s H vs Q E hr hs => ?_), c.mgC, F.bindsN hb, .nil⟩
  obtain ⟨t, h1, h2⟩ := hbody f cdv A outer s H vs Q E hr hs
  exact ⟨t, h1.nox, h2⟩
/-- an __init__ with defaults: n values are given (the instance among them), the defaults from the j-th on fill up -/
theorem ini_makD {x : Str} {C : Addr} {q : Str} {st : Stmt} {dvs : List V} {N ps : List Str} {k : Nat} {sp : Sp} (n j : Nat) (hd : dvs ≠ []) (hn : n + (dvs.length - j) = ps.length) (c : ClsT K mg x C) (D : InitK K C q st dvs) (S : FnScope N ps (defScope st))
    (hb : ∀ (T : Addr) (kV doc pm : Value) (an : Option Addr) (cdv ct : Value) (us its : List Value), us.length = n → its.length = dvs.length →
      ∃ k, bindArgs (PySem.W.fnOf "__init__" q (defArgs st) (defBody st) (defScope st) (.ref T) kV doc pm an cdv ct) ⟨us, []⟩ = seqItems? (.ref T) >>= k ∧ k (some its.toArray) = pure (ps.zip (us ++ its.drop j)))
    (len : ∀ vs H Q E, sp vs H Q E → vs.length = ps.length)
    (hbody : ∀ (f : Addr) (cdv : Value) (A : Around) (outer : List Env) (s : Shared) (H : Hp) (vs : List V) (Q : VK) (E : XK),
      Room k (A.deeper (envOfC q (defScope st) s.heap.objs.size f cdv)) → sp vs H Q E →
      ∃ t, PSs (cxOf C8.CX0 P w K mg base N q (defScope st) f cdv A outer s H E).nox (defBody st) t ∧
        t { nx := fun _ H' => Q .non H', rt := Q } (start N vs) H) :
    C8.Mak P w K mg base (k + 1) x C sp (dvs.drop j) := by
  obtain ⟨f, fd, F, hm⟩ := D
  obtain ⟨ds, h1, h2⟩ := F.binds1 (ps := ps) n j hd hn hb
  refine ⟨f, fd, ps, ds, hm, F.ok S len (fun cdv A outer s H vs Q E hr hs => ?_), c.mgC, h2, h1⟩
  obtain ⟨t, h1, h2⟩ := hbody f cdv A outer s H vs Q E hr hs
  exact ⟨t, h1.nox, h2⟩
end
/-! ### names -/
def resL : List Str := ["and", "or", "not", "always", "never"]
def letS : Str := "abcdefghijklmnopqrstuvwxyz"
structure NameOk (z : Str) : Prop where
  lo : 1 ≤ z.length
  hi : z.length ≤ 8
  nr : z ∉ resL
  le : ∀ c ∈ z.cps.toList, c ∈ letS.cps.toList
theorem inV_strs (z : Str) : ∀ zs : List Str, inV (.str z) (zs.map V.str) = decide (z ∈ zs) := by
  intro zs
  unfold inV
  induction zs with
  | nil => simp
  | cons y ys ih =>
    rw [List.map_cons, List.any_cons, ih]
    by_cases e : y = z
    · subst e
      simp [eqV]
    · have e2 : ¬ z = y := fun q => e q.symm
      simp [eqV, e, e2]
theorem strs_flat (zs : List Str) : (zs.map V.str).all flatV = true := by
  rw [List.all_map]
  exact List.all_eq_true.mpr fun _ _ => rfl

/-! ### what stands behind the top -/
def bltL : List Str := ["len", "range", "all", "any", "str", "sorted", "set", "list", "tuple", "dict", "isinstance", "int", "min", "repr"]
structure Txt (K : PySem.W.Frag) (mg : Str → Option Value) : Type where
  cS : Addr
  cR : Addr
  cA : Addr
  cC : Addr
  cO : Addr
  cW : Addr
  blt : ∀ x ∈ bltL, mg x = none
  res : ∃ r, mg "RESERVED" = some (.ref r) ∧ ∀ H, SqT K H r (resL.map V.str)
  ltr : ∃ t, mg "LETTERS" = some (.str letS t)
  S : ClsT K mg "Stock" cS
  R : ClsT K mg "Run" cR
  A : ClsT K mg "Action" cA
  C : ClsT K mg "Condition" cC
  O : ClsT K mg "Outcome" cO
  W : ClsT K mg "World" cW
  nS : NoAttr K cS "table"
  nR : ∀ f ∈ (["inner", "truths", "numbers", "log", "past"] : List Str), NoAttr K cR f
  nA : ∀ f ∈ (["need", "parts"] : List Str), NoAttr K cA f
  nC : NoAttr K cC "tree"
  nO : NoAttr K cO "table"
  nW : ∀ f ∈ (["fact_names", "pile_names", "reserve_names", "table"] : List Str), NoAttr K cW f
  insC : C8.InsC K cC
  selfC : PySem.W.selfFirst K cC = true
  seqW : PySem.W.noSeq K cW = true
  dIsName : DefK K mg "is_name" (top 18)
  dAsc : DefK K mg "ascending" (top 19)
  dCheckNumbers : DefK K mg "check_numbers" (top 22)
  dHolds : DefK K mg "tree_holds" (top 30)
  dNamesIn : DefK K mg "names_in" (top 31)
  dCheckChange : DefK K mg "check_change" (top 38)
  dCheckLists : DefK K mg "check_lists" (top 41)
  dCopiedAction : DefK K mg "copied_action" (top 42)
  dSubTuples : DefK K mg "sub_tuples" (top 43)
  dSameWorld : DefK K mg "same_world" (top 44)
  lDraw : DefK K mg "_law_draw" (top 47)
  lPick : DefK K mg "_law_pick" (top 48)
  lMixed : DefK K mg "_law_mixed" (top 49)
  lSome : DefK K mg "_law_some" (top 50)
  lSame : DefK K mg "_law_same" (top 51)
  lName : DefK K mg "_law_name" (top 52)
  lNames : DefK K mg "_law_names" (top 53)
  lCondition : DefK K mg "_law_condition" (top 54)
  lBuilt : DefK K mg "_law_built" (top 55)
  lSeen : DefK K mg "_law_seen" (top 56)
  lCounters : DefK K mg "_law_counters" (top 57)
  lChanges : DefK K mg "_law_changes" (top 58)
  lAction : DefK K mg "_law_action" (top 59)
  lLists : DefK K mg "_law_lists" (top 60)
  lWorld : DefK K mg "_law_world" (top 61)
  lWide : DefK K mg "_law_wide" (top 62)
  lMade : DefK K mg "_law_made" (top 63)
  lNamed : DefK K mg "_law_named" (top 64)
  lStart : DefK K mg "_law_start" (top 65)
  lAmounts : DefK K mg "_law_amounts" (top 66)
  lLaw : DefK K mg "law" (top 67)
  iS : InitK K cS "Stock.__init__" (inClass (top 21) 0) [.non]
  sGet : MthK K cS "__getitem__" "Stock.__getitem__" (inClass (top 21) 3) []
  iR : InitK K cR "Run.__init__" (inClass (top 26) 0) []
  rStateNow : MthK K cR "state_now" "Run.state_now" (inClass (top 26) 1) []
  rStockNow : MthK K cR "stock_now" "Run.stock_now" (inClass (top 26) 2) []
  rCheckAmounts : MthK K cR "check_amounts" "Run.check_amounts" (inClass (top 26) 3) []
  rStep : MthK K cR "step" "Run.step" (inClass (top 26) 4) []
  rTrueBehind : MthK K cR "true_behind" "Run.true_behind" (inClass (top 26) 5) []
  rBehindStep : MthK K cR "behind_step" "Run.behind_step" (inClass (top 26) 6) []
  iA : InitK K cA "Action.__init__" (inClass (top 28) 0) []
  aOutcome : MthK K cA "outcome" "Action.outcome" (inClass (top 28) 1) []
  aLen : MthK K cA "__len__" "Action.__len__" (inClass (top 28) 2) []
  iC : InitK K cC "Condition.__init__" (inClass (top 36) 0) []
  cOf : MthS K cC "of" "Condition.of" (inClass (top 36) 1)
  cAlways : MthS K cC "always" "Condition.always" (inClass (top 36) 2)
  cNever : MthS K cC "never" "Condition.never" (inClass (top 36) 3)
  cNames : MthK K cC "names" "Condition.names" (inClass (top 36) 4) []
  cCall : MthK K cC "__call__" "Condition.__call__" (inClass (top 36) 5) []
  cAnd : MthK K cC "__and__" "Condition.__and__" (inClass (top 36) 7) []
  cOr : MthK K cC "__or__" "Condition.__or__" (inClass (top 36) 8) []
  cInv : MthK K cC "__invert__" "Condition.__invert__" (inClass (top 36) 9) []
  iO : InitK K cO "Outcome.__init__" (inClass (top 39) 0) [.non]
  oNames : MthK K cO "names" "Outcome.names" (inClass (top 39) 1) []
  oCopy : MthK K cO "copy" "Outcome.copy" (inClass (top 39) 2) []
  oGet : MthK K cO "__getitem__" "Outcome.__getitem__" (inClass (top 39) 3) []
  iW : ∃ a b c, InitK K cW "World.__init__" (inClass (top 45) 0) [.ref a, .ref b, .ref c, .non]
  wFacts : MthK K cW "facts" "World.facts" (inClass (top 45) 1) []
  wPiles : MthK K cW "piles" "World.piles" (inClass (top 45) 2) []
  wSeen : MthK K cW "seen" "World.seen" (inClass (top 45) 4) []
  wCounters : MthK K cW "counters" "World.counters" (inClass (top 45) 5) []
  wCopy : MthK K cW "copy" "World.copy" (inClass (top 45) 7) []
  wCheckChange : MthK K cW "check_change_of" "World.check_change_of" (inClass (top 45) 9) []
  wTakesReserve : MthK K cW "takes_reserve" "World.takes_reserve" (inClass (top 45) 10) []
  wCheckAction : MthK K cW "check_action" "World.check_action" (inClass (top 45) 11) []
  wStateOf : MthK K cW "state_of" "World.state_of" (inClass (top 45) 13) []
  wFits : MthK K cW "fits" "World.fits" (inClass (top 45) 14) []
  wPossible : MthK K cW "possible" "World.possible" (inClass (top 45) 15) []
  wChecked : MthK K cW "checked" "World.checked" (inClass (top 45) 16) []
  wBehind : MthK K cW "behind" "World.behind" (inClass (top 45) 17) []
  wResults : MthK K cW "results" "World.results" (inClass (top 45) 18) []
  wMoves : MthK K cW "moves" "World.moves" (inClass (top 45) 19) []
  wShifts : MthK K cW "shifts" "World.shifts" (inClass (top 45) 20) []
  wGet : MthK K cW "__getitem__" "World.__getitem__" (inClass (top 45) 22) []
  wSet : MthK K cW "__setitem__" "World.__setitem__" (inClass (top 45) 23) []
  wIn : MthK K cW "__contains__" "World.__contains__" (inClass (top 45) 26) []
end KK


set_option Elab.async false
set_option linter.all false
set_option maxRecDepth 100000
set_option maxHeartbeats 4000000
namespace KK
open PySem PySem.Spec PyProof.Rows L2
variable {P : Program} {w : World} {K : PySem.W.Frag} {mg : Str → Option Value} {base : Heap}
/-! ### what stands behind the top, as one list of facts about a part of the heap -/
/-- one def: its object, its name, its text, its defaults, what else is asked of it -/
structure Df where
  adr : PySem.W.Frag → Addr
  name : Str
  qual : Str
  st : Stmt
  dfl : List (PySem.W.Frag → V)
  chk : PySem.W.Frag → Bool
def fnK (K : PySem.W.Frag) (a : Addr) : He.FnW := match K.lookup a with
  | some ⟨_, _, .func f, _⟩ => some (f.name, f.qualname, f.params, f.body, f.scope, f.globals, f.closure, f.builtins)
  | _ => none
def Df.val (d : Df) : He.FnW := some (d.name, d.qual, defArgs d.st, .stmts (defBody d.st), defScope d.st, mainGlobals, [], builtinsNs)
def Df.ok (K : PySem.W.Frag) (d : Df) : Bool := d.chk K && (PySem.W.keepIn K (.ref (d.adr K)) && (match K.lookup (d.adr K) with
  | some ⟨_, _, .func f, _⟩ => PySem.W.codeIn K f.code d.qual && He.dflB K f.defaults (d.dfl.map fun f => f K)
  | _ => false))
theorem Df.fun_ {d : Df} (e : fnK K (d.adr K) = d.val) (c : d.ok K = true) : d.chk K = true ∧ ∃ fd, FunD K d.name d.qual (defArgs d.st) (defBody d.st) (defScope d.st) (d.dfl.map fun f => f K) [] (d.adr K) fd := by
  obtain ⟨c0, c⟩ := He.ba c
  obtain ⟨kp, c⟩ := He.ba c
  refine ⟨c0, ?_⟩
  unfold fnK at e
  cases q : K.lookup (d.adr K) with
  | none =>
    rw [q] at c
    cases c
  | some o =>
    obtain ⟨oc, od, dt, osl⟩ := o
    rw [q] at c e
    cases dt with
    | func f =>
      obtain ⟨m1, m2, m3, m4, m5, m6, m7, m8, m9, m10, m11, m12, m13, m14, m15⟩ := f
      have e2 : (some (m1, m2, m3, m4, m5, m6, m7, m15) : He.FnW) = some (d.name, d.qual, defArgs d.st, .stmts (defBody d.st), defScope d.st, mainGlobals, [], builtinsNs) := e
      simp only [Option.some.injEq, Prod.mk.injEq] at e2
      obtain ⟨h1, h2, h3, h4, h5, h6, h7, h8⟩ := e2
      subst h1 h2 h3 h4 h5 h6 h7 h8
      obtain ⟨k1, k2⟩ := He.ba c
      exact ⟨_, ⟨oc, od, m8, m9, m10, m11, m12, m13, m14, osl, rfl, q, k1, He.dflB_ok k2, .inl rfl⟩, kp⟩
    | _ => cases c
abbrev AlK : Type := Bool × List He.FnW
def obsK (fl : List (PySem.W.Frag → Bool)) (ds : List Df) (K : PySem.W.Frag) : AlK := ((fl.all fun f => f K) && ds.all fun d => d.ok K, ds.map fun d => fnK K (d.adr K))
def valK (ds : List Df) : AlK := (true, ds.map Df.val)
section
variable {fl : List (PySem.W.Frag → Bool)} {ds : List Df}
theorem flag_at (c : obsK fl ds K = valK ds) {i : Nat} {f : PySem.W.Frag → Bool} (e : fl[i]? = some f) : f K = true :=
  List.all_eq_true.mp (He.ba (congrArg Prod.fst c)).1 f (List.mem_of_getElem? e)
theorem def_at (c : obsK fl ds K = valK ds) {i : Nat} {d : Df} (e : ds[i]? = some d) : d.chk K = true ∧ ∃ fd, FunD K d.name d.qual (defArgs d.st) (defBody d.st) (defScope d.st) (d.dfl.map fun f => f K) [] (d.adr K) fd := by
  have e1 := congrArg (fun l : List He.FnW => l[i]?) (congrArg Prod.snd c)
  have e2 : (ds.map fun d => fnK K (d.adr K))[i]? = (ds.map Df.val)[i]? := e1
  rw [List.getElem?_map, List.getElem?_map, e] at e2
  exact Df.fun_ (Option.some.inj e2) (List.all_eq_true.mp (He.ba (congrArg Prod.fst c)).2 d (List.mem_of_getElem? e))
end
/-! ### the part of the heap that the module's names reach -/
def rf (o : Obj) : List Addr := match o.data with
  | .dict es _ => es.toList.flatMap fun e => He.refV e.val
  | .func f => He.refV f.code ++ He.refV f.defaults
  | .cls cd => [cd.ns]
  | .fields vs => vs.toList.flatMap He.refV
  | _ => []
def nxt (g : Addr → Option Obj) (as : List Addr) : List Addr := as.flatMap fun a => match g a with
  | some o => rf o
  | none => []
def lev (g : Addr → Option Obj) : Nat → List Addr
  | 0 => [mainGlobals]
  | n + 1 => nxt g (lev g n)
def reach (g : Addr → Option Obj) : List Addr := mainGlobals :: cStatics :: (lev g 1 ++ (lev g 2 ++ (lev g 3 ++ (lev g 4 ++ lev g 5))))
/-! ### static methods -/
def smAt (K : PySem.W.Frag) (C : Addr) (m : Str) : Option (String × Addr × Addr) := match PySem.W.findCls K (.ref C) (.type "type") m with
  | some (.get (.builtin b) (.ref p) .none (.ref c)) => some (b, p, c)
  | _ => none
theorem smAt_ok {C : Addr} {m : Str} {b : String} {p c : Addr} (h : smAt K C m = some (b, p, c)) : PySem.W.findCls K (.ref C) (.type "type") m = some (.get (.builtin b) (.ref p) .none (.ref c)) := by
  unfold smAt at h
  split at h
  · rename_i q
    cases h
    exact q
  · cases h
def spA (K : PySem.W.Frag) (C : Addr) (m : Str) : Addr := match smAt K C m with
  | some (_, p, _) => p
  | _ => 0
def sgA (K : PySem.W.Frag) (C : Addr) (m : Str) : Addr := match PySem.W.recIn K (spA K C m) "staticmethod" with
  | some (.ref g :: _) => g
  | _ => 0
def staB (K : PySem.W.Frag) (C : Addr) (m : Str) : Bool := decide (smAt K C m = some ("staticmethod.__get__", spA K C m, C)) && ((match PySem.W.recIn K (spA K C m) "staticmethod" with
  | some (.ref _ :: _) => true
  | _ => false) && (PySem.W.readsIn K C (.type "type") && (He.eqO (PySem.W.specialIn K (.ref C) "__getattribute__") (some (some (.builtin "type.__getattribute__"))) && decide (PySem.W.typeIn K (.ref C) = some (.type "type")))))
def insB (x : Str) (K : PySem.W.Frag) : Bool := He.eqO (PySem.W.findIn K (.ref (He.ga K x)) "__class__") (some (some (.builtin "object.__class__"))) && (He.eqO (PySem.W.specialIn K (.builtin "object.__class__") "__get__") (some (some (.builtin "getset_descriptor.__get__"))) &&
  (decide (PySem.W.takesIn K (.builtin "object.__class__") = some true) && (decide (PySem.W.mroIn K (He.ga K x) (.type "object") = some true) && decide (PySem.W.kitOne K (.ref (He.ga K x)) (.ref (He.ga K x)) = some true))))
theorem insB_ok {x : Str} (cl : Cls K (He.ga K x)) (c : insB x K = true) : C8.InsC K (He.ga K x) := by
  obtain ⟨c1, c⟩ := He.ba c
  obtain ⟨c2, c⟩ := He.ba c
  obtain ⟨c3, c⟩ := He.ba c
  obtain ⟨c4, c5⟩ := He.ba c
  exact ⟨cl, He.eqO_ok c1, He.eqO_ok c2, of_decide_eq_true c3, of_decide_eq_true c4, of_decide_eq_true c5⟩
def topF (x : Str) (i : Nat) : Df := ⟨fun K => He.ga K x, x, x, top i, [], (He.Fa.glo x).ok⟩
def mthF (x m q : Str) (st : Stmt) : Df := ⟨fun K => He.ma K (He.ga K x) m, m, q, st, [], fun K => (He.Fa.meth x m).ok K && PySem.W.fnIn K (He.ma K (He.ga K x) m)⟩
def iniF (x q : Str) (st : Stmt) (dv : List (PySem.W.Frag → V)) : Df := ⟨fun K => He.ma K (He.ga K x) "__init__", "__init__", q, st, dv, (He.Fa.mkr x).ok⟩
def staF (x m q : Str) (st : Stmt) : Df := ⟨fun K => sgA K (He.ga K x) m, m, q, st, [], fun K => staB K (He.ga K x) m⟩
def dfW (K : PySem.W.Frag) (i : Nat) : Addr := He.dflAt ("World", some "__init__") i K
section
variable {h : Heap}
theorem top_ok (X : K.In h) (G : h.Ns mainGlobals mg) {x : Str} {i : Nat} (c : (topF x i).chk K = true ∧ ∃ fd, FunD K (topF x i).name (topF x i).qual (defArgs (topF x i).st) (defBody (topF x i).st) (defScope (topF x i).st) ((topF x i).dfl.map fun f => f K) [] ((topF x i).adr K) fd) : DefK K mg x (top i) := by
  obtain ⟨c1, fd, F⟩ := c
  exact ⟨_, fd, F, He.glo_ok X G c1⟩
theorem mth_ok {x m q : Str} {st : Stmt} (c : (mthF x m q st).chk K = true ∧ ∃ fd, FunD K (mthF x m q st).name (mthF x m q st).qual (defArgs (mthF x m q st).st) (defBody (mthF x m q st).st) (defScope (mthF x m q st).st) ((mthF x m q st).dfl.map fun f => f K) [] ((mthF x m q st).adr K) fd) : MthK K (He.ga K x) m q st [] := by
  obtain ⟨c1, fd, F⟩ := c
  obtain ⟨c2, c3⟩ := He.ba c1
  exact ⟨_, fd, F, He.meth_ok c2, c3⟩
theorem ini_ok {x q : Str} {st : Stmt} {dv : List (PySem.W.Frag → V)} (c : (iniF x q st dv).chk K = true ∧ ∃ fd, FunD K (iniF x q st dv).name (iniF x q st dv).qual (defArgs (iniF x q st dv).st) (defBody (iniF x q st dv).st) (defScope (iniF x q st dv).st) ((iniF x q st dv).dfl.map fun f => f K) [] ((iniF x q st dv).adr K) fd) : InitK K (He.ga K x) q st (dv.map fun f => f K) := by
  obtain ⟨c1, fd, F⟩ := c
  exact ⟨_, fd, F, He.mkr_ok c1⟩
theorem sta_ok {x m q : Str} {st : Stmt} (c : (staF x m q st).chk K = true ∧ ∃ fd, FunD K (staF x m q st).name (staF x m q st).qual (defArgs (staF x m q st).st) (defBody (staF x m q st).st) (defScope (staF x m q st).st) ((staF x m q st).dfl.map fun f => f K) [] ((staF x m q st).adr K) fd) : MthS K (He.ga K x) m q st := by
  obtain ⟨c1, fd, F⟩ := c
  obtain ⟨a1, c1⟩ := He.ba c1
  obtain ⟨a2, c1⟩ := He.ba c1
  obtain ⟨a3, c1⟩ := He.ba c1
  obtain ⟨a4, a5⟩ := He.ba c1
  have F' : FunD K m q (defArgs st) (defBody st) (defScope st) [] [] (sgA K (He.ga K x) m) fd := F
  unfold sgA at F'
  cases hr : PySem.W.recIn K (spA K (He.ga K x) m) "staticmethod" with
  | none =>
    rw [hr] at a2
    cases a2
  | some l =>
    rw [hr] at a2 F'
    cases l with
    | nil => cases a2
    | cons v rest =>
      cases v with
      | ref g => exact ⟨.type "type", _, g, rest, fd, ⟨a3, He.eqO_ok a4⟩, of_decide_eq_true a5, smAt_ok (of_decide_eq_true a1), hr, F'⟩
      | _ => cases a2
end
def flags : List (PySem.W.Frag → Bool) := [(He.Fa.free "len").ok, (He.Fa.free "range").ok, (He.Fa.free "all").ok, (He.Fa.free "any").ok, (He.Fa.free "str").ok, (He.Fa.free "sorted").ok, (He.Fa.free "set").ok, (He.Fa.free "list").ok, (He.Fa.free "tuple").ok, (He.Fa.free "dict").ok, (He.Fa.free "isinstance").ok, (He.Fa.free "int").ok, (He.Fa.free "min").ok, (He.Fa.free "repr").ok, (He.Fa.cls "Stock").ok, (He.Fa.glo "Stock").ok, (He.Fa.noat "Stock" "table").ok, (He.Fa.cls "Run").ok, (He.Fa.glo "Run").ok, (He.Fa.noat "Run" "inner").ok, (He.Fa.noat "Run" "truths").ok, (He.Fa.noat "Run" "numbers").ok, (He.Fa.noat "Run" "log").ok, (He.Fa.noat "Run" "past").ok, (He.Fa.cls "Action").ok, (He.Fa.glo "Action").ok, (He.Fa.noat "Action" "need").ok, (He.Fa.noat "Action" "parts").ok, (He.Fa.cls "Condition").ok, (He.Fa.glo "Condition").ok, (He.Fa.noat "Condition" "tree").ok, (He.Fa.cls "Outcome").ok, (He.Fa.glo "Outcome").ok, (He.Fa.noat "Outcome" "table").ok, (He.Fa.cls "World").ok, (He.Fa.glo "World").ok, (He.Fa.noat "World" "fact_names").ok, (He.Fa.noat "World" "pile_names").ok, (He.Fa.noat "World" "reserve_names").ok, (He.Fa.noat "World" "table").ok, (He.Fa.glo "RESERVED").ok, fun K => He.tupB K "RESERVED" [.str "and", .str "or", .str "not", .str "always", .str "never"], (He.Fa.str "LETTERS" letS).ok, insB "Condition", fun K => PySem.W.selfFirst K (He.ga K "Condition"), fun K => PySem.W.noSeq K (He.ga K "World")]
def defs : List Df := [topF "is_name" 18, topF "ascending" 19, topF "check_numbers" 22, topF "tree_holds" 30, topF "names_in" 31, topF "check_change" 38, topF "check_lists" 41, topF "copied_action" 42, topF "sub_tuples" 43, topF "same_world" 44, topF "_law_draw" 47, topF "_law_pick" 48, topF "_law_mixed" 49, topF "_law_some" 50, topF "_law_same" 51, topF "_law_name" 52, topF "_law_names" 53, topF "_law_condition" 54, topF "_law_built" 55, topF "_law_seen" 56, topF "_law_counters" 57, topF "_law_changes" 58, topF "_law_action" 59, topF "_law_lists" 60, topF "_law_world" 61, topF "_law_wide" 62, topF "_law_made" 63, topF "_law_named" 64, topF "_law_start" 65, topF "_law_amounts" 66, topF "law" 67, mthF "Stock" "__getitem__" "Stock.__getitem__" (inClass (top 21) 3), mthF "Run" "state_now" "Run.state_now" (inClass (top 26) 1), mthF "Run" "stock_now" "Run.stock_now" (inClass (top 26) 2), mthF "Run" "check_amounts" "Run.check_amounts" (inClass (top 26) 3), mthF "Run" "step" "Run.step" (inClass (top 26) 4), mthF "Run" "true_behind" "Run.true_behind" (inClass (top 26) 5), mthF "Run" "behind_step" "Run.behind_step" (inClass (top 26) 6), mthF "Action" "outcome" "Action.outcome" (inClass (top 28) 1), mthF "Action" "__len__" "Action.__len__" (inClass (top 28) 2), mthF "Condition" "names" "Condition.names" (inClass (top 36) 4), mthF "Condition" "__call__" "Condition.__call__" (inClass (top 36) 5), mthF "Condition" "__and__" "Condition.__and__" (inClass (top 36) 7), mthF "Condition" "__or__" "Condition.__or__" (inClass (top 36) 8), mthF "Condition" "__invert__" "Condition.__invert__" (inClass (top 36) 9), mthF "Outcome" "names" "Outcome.names" (inClass (top 39) 1), mthF "Outcome" "copy" "Outcome.copy" (inClass (top 39) 2), mthF "Outcome" "__getitem__" "Outcome.__getitem__" (inClass (top 39) 3), mthF "World" "facts" "World.facts" (inClass (top 45) 1), mthF "World" "piles" "World.piles" (inClass (top 45) 2), mthF "World" "seen" "World.seen" (inClass (top 45) 4), mthF "World" "counters" "World.counters" (inClass (top 45) 5), mthF "World" "copy" "World.copy" (inClass (top 45) 7), mthF "World" "check_change_of" "World.check_change_of" (inClass (top 45) 9), mthF "World" "takes_reserve" "World.takes_reserve" (inClass (top 45) 10), mthF "World" "check_action" "World.check_action" (inClass (top 45) 11), mthF "World" "state_of" "World.state_of" (inClass (top 45) 13), mthF "World" "fits" "World.fits" (inClass (top 45) 14), mthF "World" "possible" "World.possible" (inClass (top 45) 15), mthF "World" "checked" "World.checked" (inClass (top 45) 16), mthF "World" "behind" "World.behind" (inClass (top 45) 17), mthF "World" "results" "World.results" (inClass (top 45) 18), mthF "World" "moves" "World.moves" (inClass (top 45) 19), mthF "World" "shifts" "World.shifts" (inClass (top 45) 20), mthF "World" "__getitem__" "World.__getitem__" (inClass (top 45) 22), mthF "World" "__setitem__" "World.__setitem__" (inClass (top 45) 23), mthF "World" "__contains__" "World.__contains__" (inClass (top 45) 26), iniF "Stock" "Stock.__init__" (inClass (top 21) 0) [fun _ => .non], iniF "Run" "Run.__init__" (inClass (top 26) 0) [], iniF "Action" "Action.__init__" (inClass (top 28) 0) [], iniF "Condition" "Condition.__init__" (inClass (top 36) 0) [], iniF "Outcome" "Outcome.__init__" (inClass (top 39) 0) [fun _ => .non], iniF "World" "World.__init__" (inClass (top 45) 0) [fun K => .ref (dfW K 0), fun K => .ref (dfW K 1), fun K => .ref (dfW K 2), fun _ => .non], staF "Condition" "of" "Condition.of" (inClass (top 36) 1), staF "Condition" "always" "Condition.always" (inClass (top 36) 2), staF "Condition" "never" "Condition.never" (inClass (top 36) 3)]
def Says (K : PySem.W.Frag) : Prop := obsK flags defs K = valK defs
section
variable {h : Heap}
theorem Says.fl (c : Says K) (i : Nat) {f : PySem.W.Frag → Bool} (e : flags[i]? = some f := by rfl) : f K = true := flag_at c e
theorem Says.df (c : Says K) (i : Nat) {d : Df} (e : defs[i]? = some d := by rfl) : d.chk K = true ∧ ∃ fd, FunD K d.name d.qual (defArgs d.st) (defBody d.st) (defScope d.st) (d.dfl.map fun f => f K) [] (d.adr K) fd := def_at c e
end
noncomputable def txt_of {h : Heap} (X : K.In h) (G : h.Ns mainGlobals mg) (c : Says K) : Txt K mg where
  cS := He.ga K "Stock"
  cR := He.ga K "Run"
  cA := He.ga K "Action"
  cC := He.ga K "Condition"
  cO := He.ga K "Outcome"
  cW := He.ga K "World"
  blt := fun x hx => by
    simp only [bltL, List.mem_cons, List.not_mem_nil, or_false] at hx
    rcases hx with rfl | rfl | rfl | rfl | rfl | rfl | rfl | rfl | rfl | rfl | rfl | rfl | rfl | rfl
    · exact He.free_ok X G (c.fl 0)
    · exact He.free_ok X G (c.fl 1)
    · exact He.free_ok X G (c.fl 2)
    · exact He.free_ok X G (c.fl 3)
    · exact He.free_ok X G (c.fl 4)
    · exact He.free_ok X G (c.fl 5)
    · exact He.free_ok X G (c.fl 6)
    · exact He.free_ok X G (c.fl 7)
    · exact He.free_ok X G (c.fl 8)
    · exact He.free_ok X G (c.fl 9)
    · exact He.free_ok X G (c.fl 10)
    · exact He.free_ok X G (c.fl 11)
    · exact He.free_ok X G (c.fl 12)
    · exact He.free_ok X G (c.fl 13)
  res := ⟨_, He.glo_ok X G (c.fl 40), fun H => He.tupB_ok (c.fl 41) H⟩
  ltr := He.str_ok X G (c.fl 42)
  S := ⟨He.cls_ok (c.fl 14), He.glo_ok X G (c.fl 15)⟩
  R := ⟨He.cls_ok (c.fl 17), He.glo_ok X G (c.fl 18)⟩
  A := ⟨He.cls_ok (c.fl 24), He.glo_ok X G (c.fl 25)⟩
  C := ⟨He.cls_ok (c.fl 28), He.glo_ok X G (c.fl 29)⟩
  O := ⟨He.cls_ok (c.fl 31), He.glo_ok X G (c.fl 32)⟩
  W := ⟨He.cls_ok (c.fl 34), He.glo_ok X G (c.fl 35)⟩
  nS := He.noat_ok (c.fl 16)
  nR := fun f hf => by
    simp only [List.mem_cons, List.not_mem_nil, or_false] at hf
    rcases hf with rfl | rfl | rfl | rfl | rfl
    · exact He.noat_ok (c.fl 19)
    · exact He.noat_ok (c.fl 20)
    · exact He.noat_ok (c.fl 21)
    · exact He.noat_ok (c.fl 22)
    · exact He.noat_ok (c.fl 23)
  nA := fun f hf => by
    simp only [List.mem_cons, List.not_mem_nil, or_false] at hf
    rcases hf with rfl | rfl
    · exact He.noat_ok (c.fl 26)
    · exact He.noat_ok (c.fl 27)
  nC := He.noat_ok (c.fl 30)
  nO := He.noat_ok (c.fl 33)
  nW := fun f hf => by
    simp only [List.mem_cons, List.not_mem_nil, or_false] at hf
    rcases hf with rfl | rfl | rfl | rfl
    · exact He.noat_ok (c.fl 36)
    · exact He.noat_ok (c.fl 37)
    · exact He.noat_ok (c.fl 38)
    · exact He.noat_ok (c.fl 39)
  insC := insB_ok (He.cls_ok (c.fl 28)) (c.fl 43)
  selfC := c.fl 44
  seqW := c.fl 45
  dIsName := top_ok X G (c.df 0)
  dAsc := top_ok X G (c.df 1)
  dCheckNumbers := top_ok X G (c.df 2)
  dHolds := top_ok X G (c.df 3)
  dNamesIn := top_ok X G (c.df 4)
  dCheckChange := top_ok X G (c.df 5)
  dCheckLists := top_ok X G (c.df 6)
  dCopiedAction := top_ok X G (c.df 7)
  dSubTuples := top_ok X G (c.df 8)
  dSameWorld := top_ok X G (c.df 9)
  lDraw := top_ok X G (c.df 10)
  lPick := top_ok X G (c.df 11)
  lMixed := top_ok X G (c.df 12)
  lSome := top_ok X G (c.df 13)
  lSame := top_ok X G (c.df 14)
  lName := top_ok X G (c.df 15)
  lNames := top_ok X G (c.df 16)
  lCondition := top_ok X G (c.df 17)
  lBuilt := top_ok X G (c.df 18)
  lSeen := top_ok X G (c.df 19)
  lCounters := top_ok X G (c.df 20)
  lChanges := top_ok X G (c.df 21)
  lAction := top_ok X G (c.df 22)
  lLists := top_ok X G (c.df 23)
  lWorld := top_ok X G (c.df 24)
  lWide := top_ok X G (c.df 25)
  lMade := top_ok X G (c.df 26)
  lNamed := top_ok X G (c.df 27)
  lStart := top_ok X G (c.df 28)
  lAmounts := top_ok X G (c.df 29)
  lLaw := top_ok X G (c.df 30)
  sGet := mth_ok (c.df 31)
  rStateNow := mth_ok (c.df 32)
  rStockNow := mth_ok (c.df 33)
  rCheckAmounts := mth_ok (c.df 34)
  rStep := mth_ok (c.df 35)
  rTrueBehind := mth_ok (c.df 36)
  rBehindStep := mth_ok (c.df 37)
  aOutcome := mth_ok (c.df 38)
  aLen := mth_ok (c.df 39)
  cNames := mth_ok (c.df 40)
  cCall := mth_ok (c.df 41)
  cAnd := mth_ok (c.df 42)
  cOr := mth_ok (c.df 43)
  cInv := mth_ok (c.df 44)
  oNames := mth_ok (c.df 45)
  oCopy := mth_ok (c.df 46)
  oGet := mth_ok (c.df 47)
  wFacts := mth_ok (c.df 48)
  wPiles := mth_ok (c.df 49)
  wSeen := mth_ok (c.df 50)
  wCounters := mth_ok (c.df 51)
  wCopy := mth_ok (c.df 52)
  wCheckChange := mth_ok (c.df 53)
  wTakesReserve := mth_ok (c.df 54)
  wCheckAction := mth_ok (c.df 55)
  wStateOf := mth_ok (c.df 56)
  wFits := mth_ok (c.df 57)
  wPossible := mth_ok (c.df 58)
  wChecked := mth_ok (c.df 59)
  wBehind := mth_ok (c.df 60)
  wResults := mth_ok (c.df 61)
  wMoves := mth_ok (c.df 62)
  wShifts := mth_ok (c.df 63)
  wGet := mth_ok (c.df 64)
  wSet := mth_ok (c.df 65)
  wIn := mth_ok (c.df 66)
  iS := ini_ok (c.df 67)
  iR := ini_ok (c.df 68)
  iA := ini_ok (c.df 69)
  iC := ini_ok (c.df 70)
  iO := ini_ok (c.df 71)
  iW := ⟨_, _, _, ini_ok (c.df 72)⟩
  cOf := sta_ok (c.df 73)
  cAlways := sta_ok (c.df 74)
  cNever := sta_ok (c.df 75)
end KK


set_option Elab.async false
set_option linter.all false
set_option maxRecDepth 100000
set_option maxHeartbeats 4000000
namespace KK
open PySem PySem.Spec PyProof.Rows L2
variable {P : Program} {w : World} {K : PySem.W.Frag} {mg : Str → Option Value} {base : Heap}
/-! ### the run of the top -/
abbrev theRow : PySem.W.OpenRow := PySem.W.OpenLaw.row PySem.Challenge.rw_noneorsome_k26_whole_steps_are_results
def hkK : PySem.W.Hook where
  α := AlK
  obs := fun s => obsK flags defs (He.frG s.heap.get? (reach s.heap.get?))
  val := fun _ => valK defs
  says := fun _ h => ∃ K : PySem.W.Frag, K.In h ∧ Says K
  of := fun _ _ e => ⟨_, He.frG_in, e⟩
  keeps := fun _ _ _ ⟨K, hK, c⟩ k => ⟨K, PySem.W.Frag.In.keeps hK k, c⟩
def obT (s : PySem.W.SharedT) : AlK := obsK flags defs (He.frG (HandSHeadRun.getT s) (reach (HandSHeadRun.getT s)))
theorem obT_eq (s : PySem.W.SharedT) : obT s = hkK.obs s.abs := by
  have e : HandSHeadRun.getT s = s.abs.heap.get? := funext fun a => HandSHeadRun.getT_eq s a
  unfold obT
  rw [e]
  rfl
noncomputable abbrev EndT (w : World) (os : OsState) : Option PySem.W.SharedT := HandSHeadRun.endF (HandSHeadRun.stepQ (HandSHeadRun.denQ HandSHeadRun.tabQ) theRow.prog w) 9000 theRow.prog w os
end KK


set_option Elab.async false
set_option linter.all false
set_option maxRecDepth 100000
set_option maxHeartbeats 4000000
namespace KK
open PySem PySem.Spec PyProof.Rows L2
variable {P : Program} {w : World} {K : PySem.W.Frag} {mg : Str → Option Value} {base : Heap}
set_option maxHeartbeats 0
open PySem.W in
theorem run_facts (w : World) (os : OsState) : (EndT w os).map (fun s => obT s) = some (valK defs) := by
  kernel_rfl
end KK


set_option Elab.async false
set_option linter.all false
set_option maxRecDepth 100000
set_option maxHeartbeats 4000000
namespace KK
open PySem PySem.Spec PyProof.Rows L2
variable {P : Program} {w : World} {K : PySem.W.Frag} {mg : Str → Option Value} {base : Heap}
def names1 : List Str := ["_wall", "PlanError", "BadName", "NameInUse", "UnknownName", "BadChange", "NoOutcome", "NoFreeOutcome", "UnknownAction", "NotPossible", "NoState", "BadNumber", "Short", "BadAmount", "RESERVED", "LETTERS", "is_name", "ascending", "Stock", "check_numbers", "sums", "differences", "Run", "Action", "tree_holds", "names_in", "sublists", "implies", "tree_text", "operand_text"]
def names2 : List Str := ["Condition", "check_change", "Outcome", "check_lists", "copied_action", "sub_tuples", "same_world", "World", "_law_draw", "_law_pick", "_law_mixed", "_law_some", "_law_same", "_law_name", "_law_names", "_law_condition", "_law_built", "_law_seen", "_law_counters", "_law_changes", "_law_action", "_law_lists", "_law_world", "_law_wide", "_law_made", "_law_named", "_law_start", "_law_amounts"]
def names : List Str := names1 ++ names2
abbrev theView : Program := PySem.W.view theRow.prog [67]
set_option maxHeartbeats 0
open PySem.W in
theorem run_looks (w : World) (os : OsState) : (EndT w os).map (fun s => HandSHeadRun.looksF theRow.prog (boot_heap w.params) s.abs) = some true := by
  kernel_rfl
end KK


set_option Elab.async false
set_option linter.all false
set_option maxRecDepth 100000
set_option maxHeartbeats 4000000
namespace KK
open PySem PySem.Spec PyProof.Rows L2
variable {P : Program} {w : World} {K : PySem.W.Frag} {mg : Str → Option Value} {base : Heap}
set_option maxHeartbeats 0
open PySem.W in
theorem run_seen (w : World) (os : OsState) : (EndT w os).map (fun s => HandSHeadRun.seenQ theView names (PySem.importedModules theRow.prog.main.body) (fun s => PySem.W.xlAt theView [] s && PySem.W.recOk theRow.toRowW.records s) s.abs) = some (PySem.W.openGood theView names) := by
  kernel_rfl
end KK


set_option Elab.async false
set_option linter.all false
set_option maxRecDepth 100000
set_option maxHeartbeats 4000000
/-! Sets of texts: made of a list, sorted. Of the members only this is told: each stood in the list. -/
namespace KK
open PySem PySem.Spec PyProof.Rows L2
section
variable {P : Program} {w : World}
/-- an entry: a text of the list, under its hash -/
def RowS (w : World) (zs : List Str) (e : Int × Value) : Prop := ∃ z tk, z ∈ zs ∧ e = (hashStr w z, Value.str z tk)
/-- the set at a: each member stands in zs, at most n of them; its table can be walked -/
def SetSR (w : World) (h : Heap) (a : Addr) (zs : List Str) (n : Nat) : Prop :=
  ∃ o es ep t, h.get? a = some o ∧ o.ExactSet ∧ o.data = .set es ep t ∧ (∀ e ∈ es.toList, RowS w zs e) ∧
    es.size ≤ n ∧ es.size < scanBound ∧ t.fits es.size = true ∧ Ris t.place.toList ∧ (w.params.followText "set-order" = true ∨ t.led = true)
theorem SetSR.at {h h' : Heap} {a : Addr} {zs : List Str} {n : Nat} (R : SetSR w h a zs n) (k : ∀ o, h.get? a = some o → h'.get? a = some o) : SetSR w h' a zs n := by
  obtain ⟨o, es, ep, t, ho, r⟩ := R
  exact ⟨o, es, ep, t, k o ho, r⟩
theorem rowS_elems {zs : List Str} {l : List (Int × Value)} (h : ∀ e ∈ l, RowS w zs e) : ElemsOf (mixKind P w) l := fun e he => by
  obtain ⟨z, tk, _, rfl⟩ := h e he
  exact ⟨⟨.inr z, keyIs_str z tk, rfl⟩, rfl⟩
theorem setSR_new {h : Heap} {a : Addr} {zs : List Str}
    (ho : h.get? a = some { cls := .type "set", dict := none, data := .set #[] 0 (.fresh 0 0 (!w.params.followText "set-order")) }) : SetSR w h a zs 0 := by
  refine ⟨_, #[], 0, _, ho, ⟨rfl, rfl, rfl⟩, rfl, fun e he => by simp at he, Nat.le_refl _, by decide, rfl, List.Pairwise.nil, ?_⟩
  show _ ∨ (!w.params.followText "set-order") = true
  cases w.params.followText "set-order"
  · exact .inr rfl
  · exact .inl rfl
end
section
variable {P : Program} {w : World} {A : Around} {E : Value → Shared → Prop} {s : Shared} {a : Addr}
/-- the table is stored, and laid anew where it is full -/
theorem setS_tail {g : Bool → Sem Unit} {zs : List Str} {n : Nat}
    (hg : ∀ (b : Bool) (s1 : Shared) (Q' : Unit → Shared → Prop), Q' () s1 → wpAny (model P w) A (g b) Q' E s1)
    {o : Obj} {es : Array (Int × Value)} {ep : Nat} {t : SetTable} (ho : s.heap.get? a = some o) (hex : o.ExactSet) (hd : o.data = .set es ep t)
    {es1 : Array (Int × Value)} {t2 : SetTable} (g1 : ∀ e ∈ es1.toList, RowS w zs e) (hn : es1.size ≤ n)
    (hb : es1.size < scanBound) (hf : t2.fits es1.size = true) (hr : Ris t2.place.toList)
    (hl : w.params.followText "set-order" = true ∨ t2.led = true) {wd : Bool} {R : Option Bool → Shared → Prop}
    (hR : ∀ h', Heap.SameBut a s.heap h' → SetSR w h' a zs n → R (some true) { s with heap := h' }) :
    wpAny (model P w) A (do
        storeSet a es1 t2
        if (!wd && t2.tooFull) = true then do
            g (relayAll t2 es1 (SetTable.grown es1.size)).2.2
            storeSet a (relayAll t2 es1 (SetTable.grown es1.size)).1
              (relayAll t2 es1 (SetTable.grown es1.size)).2.1
            pure (some true)
          else pure (some true)) R E s := by
  refine wpAny_bind (wpAny_storeSet_of ho hd ?_ (fits_of_scanBound hb))
  have ho1 := store_at (es' := es1) (t' := t2) ho hd
  have sb1 := Heap.SameBut.update s.heap a (Obj.putSet es1 t2)
  by_cases hc : (!wd && t2.tooFull) = true
  · rw [if_pos hc]
    have pm := relayAll_perm t2 es1 (SetTable.grown es1.size)
    have hf3 := relayAll_fits t2 es1 (SetTable.grown es1.size)
    have hr3 := relayAll_ris t2 es1 (SetTable.grown es1.size)
    have hl3 := relayAll_led t2 es1 (SetTable.grown es1.size)
    generalize relayAll t2 es1 (SetTable.grown es1.size) = Z at pm hf3 hr3 hl3 ⊢
    obtain ⟨es2, t3, gave⟩ := Z
    dsimp only at pm hf3 hr3 hl3 ⊢
    have sz : es2.size = es1.size := by
      have q := pm.length_eq
      rw [Array.length_toList, Array.length_toList] at q
      exact q
    refine wpAny_bind (hg _ _ _ (wpAny_bind (wpAny_storeSet_of ho1 rfl ?_ (fits_of_scanBound (by rw [sz]; exact hb)))))
    have ho2 := store_at (es' := es2) (t' := t3) ho1 rfl
    refine wpAny_pure (hR _ (sb1.trans (Heap.SameBut.update _ a _)) ?_)
    exact ⟨_, es2, _, t3, ho2, hex, rfl, fun e he => g1 e (pm.mem_iff.mp he), by omega, by omega, hf3, hr3, hl.imp id fun z => hl3.trans z⟩
  · rw [if_neg hc]
    exact wpAny_pure (hR _ sb1 ⟨_, es1, _, t2, ho1, hex, rfl, g1, hn, hb, hf, hr, hl⟩)
/-- a text of the list is put in -/
theorem setS_add {zs : List Str} {n : Nat} {z : Str} {tk : Tok} {Q : Bool → Shared → Prop} (R : SetSR w s.heap a zs n) (hz : z ∈ zs) (room : n + 1 < scanBound)
    (hQ : ∀ b h', Heap.SameBut a s.heap h' → SetSR w h' a zs (n + 1) → Q b { s with heap := h' }) :
    wpAny (model P w) A (setAddHashed a (.str z tk) ((mixKind P w).hash (.inr z))) Q E s := by
  obtain ⟨o, es, ep, t, ho, hex, hd, g, hn, hb, hf, hr, hl⟩ := R
  have hkey : (mixKind P w).is (.inr z) (.str z tk) = true := keyIs_str z tk
  have hsc : (Value.str z tk).scannable = true := rfl
  have hel : ElemsOf (mixKind P w) es.toList := rowS_elems g
  unfold setAddHashed setAddHashedIn
  refine wpAny_holding (wpAny_bind (wpAny_setState_of ho hd hf ?_))
  dsimp only
  rw [byScan_of hsc hb hel]
  simp only [↓reduceIte]
  unfold setAddByScan
  refine wpAny_bind (wpAny_bind (wpAny_rule (wpAny_bind (wpAny_setScan_of hkey ho hd hf hel ?_))))
  cases hfi : List.findIdx? (fun e => (mixKind P w).is (.inr z) e.2) es.toList with
  | some j =>
    dsimp only
    refine wpAny_pure (wpAny_pure ?_)
    exact hQ _ s.heap (Heap.SameBut.refl a s.heap) ⟨o, es, ep, t, ho, hex, hd, g, Nat.le_succ_of_le hn, hb, hf, hr, hl⟩
  | none =>
    dsimp only
    have hgw : ∀ (b : Bool) {s1 : Shared} {Q' : Unit → Shared → Prop}, Q' () s1 →
        wpAny (model P w) A (match b with | true => rule "set.scan.the-table-gave-way" | false => pure ()) Q' E s1 :=
      fun b s1 Q' q => by cases b <;> first | exact wpAny_pure q | exact wpAny_rule q
    have pm := layNew_perm t es ((mixKind P w).hash (.inr z)) (.str z tk)
    have hf1 := layNew_fits t es ((mixKind P w).hash (.inr z)) (.str z tk)
    have hr1 := layNew_ris t es ((mixKind P w).hash (.inr z)) (.str z tk) hr
    have hl1 := layNew_led t es ((mixKind P w).hash (.inr z)) (.str z tk)
    generalize layNew t es ((mixKind P w).hash (.inr z)) (.str z tk) = Z at pm hf1 hr1 hl1 ⊢
    obtain ⟨es1, t1, wd, gave⟩ := Z
    dsimp only at pm hf1 hr1 hl1 ⊢
    rw [Array.toList_push] at pm
    have g1 : ∀ e ∈ es1.toList, RowS w zs e := fun e he => by
      rcases List.mem_append.mp (pm.mem_iff.mp he) with q | q
      · exact g e q
      · rw [List.mem_singleton.mp q]
        exact ⟨z, tk, hz, rfl⟩
    have sz : es1.size = es.size + 1 := by
      have q := pm.length_eq
      rw [List.length_append, Array.length_toList, Array.length_toList] at q
      exact q
    have hled : w.params.followText "set-order" = true ∨ t1.led = true := hl.imp id fun q => hl1.trans q
    refine wpAny_bind (hgw _ ?_)
    split
    · refine wpAny_bind ?_
      rw [hashByValue_scannable 8 hsc]
      refine wpAny_pure (setS_tail (n := n + 1) (fun b s1 Q' q => ?_) ho hex hd g1 (by omega) (by omega) ?_ ?_ ?_ fun h' sb r => ?_)
      · cases b <;> first | exact wpAny_pure q | exact wpAny_rule q
      · first | (split <;> first | exact hf1 | exact SetTable.fits_plain_off hf1) | exact hf1
      · first | (split <;> exact hr1) | exact hr1
      · first | (split <;> exact hled) | exact hled
      · dsimp only
        exact wpAny_pure (hQ _ h' sb r)
    · refine wpAny_bind (wpAny_pure ?_)
      simp only [↓reduceIte]
      refine setS_tail (n := n + 1) (fun b s1 Q' q => ?_) ho hex hd g1 (by omega) (by omega) hf1 hr1 hled fun h' sb r => ?_
      · cases b <;> first | exact wpAny_pure q | exact wpAny_rule q
      · dsimp only
        exact wpAny_pure (hQ _ h' sb r)
/-- the turns of set(xs) over a list of texts -/
theorem setS_turns {I : Addr} {fp wr : List Addr} {G : Array GenState → Array GenState → Prop} {n : Nat} {Pv : Nat → Value → Prop} {St : Nat → Shared → Prop} {R : Result → Shared → Prop}
    (W : WalksS P w A.in1 I fp wr G n Pv St) (S : Addr) (hSf : S ∉ fp) (zs : List Str) (hb : n + 1 < scanBound)
    (hval : ∀ i v, Pv i v → ∃ z t, z ∈ zs ∧ v = .str z t) :
    ∀ (k i : Nat) (s : Shared), n - i = k → i ≤ n → St i s → SetSR w s.heap S zs i →
      (∀ s', Moved (S :: wr) G s s' → SetSR w s'.heap S zs n → R (.ok (.ret .none)) s') →
      codeAny (model P w) A (.builtin "set.update.loop" ⟨[.ref S, .ref I], []⟩) R s := by
  have hSw : S ∉ wr := fun h => hSf (W.sub _ h)
  have hsub : ∀ b ∈ wr, b ∈ S :: wr := fun b hb => List.mem_cons_of_mem _ hb
  intro k
  induction k with
  | zero =>
    intro i s hk' hi hst hS hR
    have hin : i = n := by omega
    subst hin
    refine codeAny_builtin F.entry_set_update_loop ?_
    rw [Around.under_plainId F.plain_set_update_loop _]
    show wpAny _ A.in1 (pyNext (.ref I) >>= _) _ _ s
    refine wpAny_bind (W.done s _ _ hst fun s' hm => ?_)
    show wpAny _ A.in1 (ret Value.none) _ _ s'
    exact wpAny_pure (hR s' (hm.mono hsub) (hS.at fun o e => hm.heap S o hSw e))
  | succ k ih =>
    intro i s hk' hi hst hS hR
    have hlt : i < n := by omega
    refine codeAny_builtin F.entry_set_update_loop ?_
    rw [Around.under_plainId F.plain_set_update_loop _]
    show wpAny _ A.in1 (pyNext (.ref I) >>= _) _ _ s
    refine wpAny_bind (W.item i s _ _ hlt hst fun v s' hP hst' hm => ?_)
    obtain ⟨z, t, hz, rfl⟩ := hval i v hP
    have hS' : SetSR w s'.heap S zs i := hS.at fun o e => hm.heap S o hSw e
    show wpAny _ A.in1 (holding [Value.str z t] (setAdd S (.str z t)) >>= _) _ _ s'
    refine wpAny_bind (wpAny_holding ?_)
    unfold setAdd
    refine wpAny_holding (wpAny_bind ((mixKind P w).pyHash (k := .inr z) (keyIs_str z t) ?_))
    refine setS_add (s := { s' with toks := s'.toks + 1 }) hS' hz (by omega) fun b0 h' hsb hS2 => ?_
    refine wpAny_pure ⟨plainId_quiet F.plain_set_update_loop _, ih (i + 1) _ (by omega) hlt (W.frame _ s' _ _ hst' (Nat.le_succ _) fun b hb o e => ?_) hS2 fun s'' hm'' hS'' => ?_⟩
    · rw [hsb.2 b (fun h : b = S => hSf (by rw [← h]; exact hb))]
      exact e
    · refine hR s'' (Moved.trans W.gtrans ((hm.mono hsub).then_heap (Nat.le_succ _) fun b o hb e => ?_) hm'') hS''
      rw [hsb.2 b (fun h : b = S => hb (by rw [h]; exact List.mem_cons_self))]
      exact e
end
end KK


set_option Elab.async false
set_option linter.all false
set_option maxRecDepth 100000
set_option maxHeartbeats 4000000
/-! sorted(set(list of texts)) -/
namespace KK
open PySem PySem.Spec PyProof.Rows L2
/-- a set just made -/
abbrev set0 (w : World) : Obj := { cls := .type "set", dict := none, data := .set #[] 0 (.fresh 0 0 (!w.params.followText "set-order")) }
abbrev listIt (l : Addr) : Obj := { cls := .type "list_iterator", data := .fields #[.ref l, .int 0 0] }
section
variable {P : Program} {w : World} {A : Around} {E : Value → Shared → Prop} {s : Shared}
set_option maxHeartbeats 8000000 in
theorem call_setS {l : Addr} {items : Array Value} (zs : List Str) {Q : Value → Shared → Prop} (hh : A.handled = none) (hl : s.heap.IsList l items) (hit : Vals (zs.map V.str) items.toList) (hb : zs.length + 1 < scanBound)
    (h : ∀ (h' : Heap) (tk : Nat), SetSR w h' s.heap.objs.size zs zs.length → (∀ b o, s.heap.get? b = some o → h'.get? b = some o) → Q (.ref s.heap.objs.size) { s with heap := h', toks := tk }) :
    wpAny (model P w) A (call (.type "set") [.ref l]) Q E s := by
  have hisz : items.size = zs.length := by
    have q := hit.length
    rw [List.length_map, Array.length_toList] at q
    exact q.symm
  obtain ⟨c, tl, hmro⟩ := F.called_set.mro
  have hmade := F.called_set.made
  have hsub := F.called_set.sub
  refine wpAny_call (codeAny_of_tree ?_)
  show wpAny _ _ (callAny (.type "set") _) _ _ _
  refine wpAny_pure ⟨Code.quiet_builtin _ (by decide +kernel), codeAny_builtin F.entry_type_call ?_⟩
  rw [Around.under_plain (weight_type_call_type "set" [.ref l] []) rfl]
  have h1 := F.called_set.notType
  have h2 := F.called_set.canCreate
  have hct := F.typeCall_set_1 (.ref l)
  repeat (any_goals (first | assumption | wp_step))

  refine codeAny_mono (code_set_led1 (.ref l) (E := E) (Q₁ := fun obj s₁ => obj = .ref s.heap.objs.size ∧ s₁ = { s with heap := s.heap.push (set0 w) }) ⟨rfl, rfl⟩) fun r s₁ hr => ?_
  cases r with
  | error e => exact hr
  | ok fl =>
    cases fl with
    | ret obj =>
      obtain ⟨rfl, rfl⟩ := hr
      have hS : (s.heap.push (set0 w)).get? s.heap.objs.size = some (set0 w) := Heap.get?_push_size _ rfl
      have hT : Shared.TypeIs { s with heap := s.heap.push (set0 w) } (.ref s.heap.objs.size) "set" := ⟨_, hS, rfl⟩
      have hli := F.called_set.init.lookup
      have hbi := F.called_set.init.bind (.ref s.heap.objs.size)
      repeat (any_goals (first | assumption | wp_step))

      refine codeAny_mono (codeAny_call_builtin (R := wants (fun r s₂ => r = .none ∧ ∃ h' tk, s₂ = { s with heap := h', toks := tk } ∧ SetSR w h' s.heap.objs.size zs zs.length ∧
          (∀ b o, s.heap.get? b = some o → h'.get? b = some o)) E) F.called_set.init.plain F.entry_set_init (check_set_init_1 hT ?_)) fun r₂ s₂ hr₂ => ?_
      · obtain ⟨ol, hol, hcl, nl, hdl⟩ := hl
        obtain ⟨ocls, odict, odata, oslots⟩ := ol
        simp only at hcl hdl
        subst hcl; subst hdl
        have hol' : (s.heap.push (set0 w)).get? l = some { cls := .type "list", dict := odict, data := .seq items nl, slots := oslots } := Heap.get?_push_of_some _ hol
        have hsls := F.sub_list_set
        have hslf := F.sub_list_frozenset
        have hne : (Value.type "list" == Value.type "dict") = false := by decide
        have hl1 : (s.heap.push (set0 w)).IsList l items := ⟨_, hol', rfl, nl, rfl⟩
        unfold Builtin.«set.__init__» noKeywords Builtin.Frozenset.updateFrom
        generalize hPI : pyIter = PI
        wp_walk
        subst hPI

        refine wpAny_pyIter_list hl1 ?_
        refine wpAny_bind (wpAny_runValue ?_)
        have hlS : l < s.heap.objs.size := Heap.lt_size hol
        have hh3 : A.in1.in1.in1.handled = none := by simp [hh]
        have hz1 : (s.heap.push (set0 w)).objs.size = s.heap.objs.size + 1 := Heap.size_push ..
        have hneI : l ≠ (s.heap.push (set0 w)).objs.size := by
          rw [hz1]
          exact Nat.ne_of_lt (Nat.lt_of_lt_of_le hlS (Nat.le_succ _))
        have hSf : s.heap.objs.size ∉ [(s.heap.push (set0 w)).objs.size, l] := by
          rw [hz1]
          simp only [List.mem_cons, List.mem_singleton, List.not_mem_nil, or_false, not_or]
          exact ⟨Nat.ne_of_lt (Nat.lt_succ_self _), Nat.ne_of_gt hlS⟩
        have hval : ∀ (i : Nat) (v : Value), items[i]? = some v → ∃ z t, z ∈ zs ∧ v = .str z t := fun i v hv => by
          have q : items.toList[i]? = some v := by
            rw [Array.getElem?_toList]
            exact hv
          have hi : i < (zs.map V.str).length := by
            rw [hit.length]
            exact (List.getElem?_eq_some_iff.mp q).1
          obtain ⟨u, hu, ru⟩ := hit.get (i := i) (List.getElem?_eq_getElem hi)
          rw [q] at hu
          cases hu
          rw [List.getElem_map] at ru
          obtain ⟨t, e⟩ := ru
          exact ⟨_, t, List.getElem_mem _, e⟩
        have hlen : items.size + 1 < scanBound := by
          rw [hisz]
          exact hb
        refine setS_turns ((Walks.list hh3 _ l hneI items).toS) s.heap.objs.size
          hSf zs hlen hval (items.size - 0) 0 _ (by omega) (Nat.zero_le _)
          ⟨⟨_, Heap.get?_push_size _ rfl, rfl, rfl⟩, (hl1.push _)⟩ ?hS0 ?hR
        case hS0 =>
          exact setSR_new (Heap.get?_push_of_some _ hS)
        case hR =>
          intro s' hm hS'
          obtain ⟨h', g2, d', tk', os'⟩ := s'
          have eg : g2 = s.gens := hm.gens
          have ed : d' = s.drawn := hm.drawn
          have eo : os' = s.os := hm.os
          subst eg; subst ed; subst eo
          show wpAny _ _ _ _ _ _
          refine wpAny_pure ?_
          show wpAny _ _ (ret Value.none) _ _ _
          rw [hisz] at hS'
          refine wpAny_pure ⟨rfl, h', tk', rfl, hS', fun b o e => ?_⟩
          have hb0 : b < s.heap.objs.size := Heap.lt_size e
          have hb2 : b ≠ (s.heap.push (set0 w)).objs.size := by
            rw [hz1]
            exact Nat.ne_of_lt (Nat.lt_of_lt_of_le hb0 (Nat.le_succ _))
          exact hm.heap b o (by simp only [List.mem_cons, List.mem_singleton, List.not_mem_nil, or_false, not_or]; exact ⟨Nat.ne_of_lt hb0, hb2⟩) (Heap.get?_push_of_some _ (Heap.get?_push_of_some _ e))

      · cases r₂ with
        | error e => exact hr₂
        | ok fl₂ =>
          cases fl₂ with
          | ret r =>
            obtain ⟨rfl, h', tk, rfl, hS', hk'⟩ := hr₂
            repeat (any_goals (first | assumption | wp_step))
            exact h _ _ hS' hk'
          | _ => exact hr₂.elim
    | _ => exact hr.elim
theorem strs_list {zs : List Str} : ∀ (vs : List Value), (∀ v ∈ vs, ∃ z tk, z ∈ zs ∧ v = Value.str z tk) → ∃ ys : List Str, Vals (ys.map V.str) vs ∧ ∀ y ∈ ys, y ∈ zs
  | [], _ => ⟨[], .nil, fun _ h => nomatch h⟩
  | v :: vs, h => by
    obtain ⟨z, tk, hz, e⟩ := h v List.mem_cons_self
    obtain ⟨ys, r, m⟩ := strs_list vs fun u hu => h u (List.mem_cons_of_mem _ hu)
    refine ⟨z :: ys, .cons ⟨tk, e⟩ r, fun y hy => ?_⟩
    rcases List.mem_cons.mp hy with q | q
    · rw [q]
      exact hz
    · exact m y q
/-- sorted(set): a new list, its texts stood in zs -/
theorem sorted_setS {a : Addr} {zs : List Str} {n : Nat} {Q : Value → Shared → Prop} (R : SetSR w s.heap a zs n) (hh : A.handled = none) (h64 : n < 64)
    (hQ : ∀ s' p (out : Array Value) (c : Nat) (ys : List Str), (∀ b o, s.heap.get? b = some o → s'.heap.get? b = some o) → s'.gens = s.gens → s'.os = s.os → s.heap.objs.size ≤ p →
      s'.heap.get? p = some (seqObj "list" out c) → Vals (ys.map V.str) out.toList → (∀ y ∈ ys, y ∈ zs) → ys.length ≤ n → Q (.ref p) s') :
    wpAny (model P w) A (call (.builtin "sorted") [.ref a]) Q E s := by
  obtain ⟨o, es, ep, t, ho, hex, hd, g, hn, hb, hf, hr, hl⟩ := R
  refine Calls.call_function_entry kind_sorted plain_sorted entry_sorted (args_sorted1 _) ?_
  unfold Builtin.«sorted»
  refine wpAny_bind (m := checkCount "sorted" 1 1 _) (wpAny_pure ?_)
  refine wpAny_bind (collect_set (A := A.in1) hh ⟨o, ho, hex.1, hd⟩ hf hb hr hl fun s1 vs k1 hz g1 o1 pm => ?_)
  have hvl : vs.length ≤ n := by
    rw [pm.length_eq, List.length_map, Array.length_toList]
    exact hn
  obtain ⟨ys, rv, my⟩ := strs_list vs fun v hv => by
    obtain ⟨e, he, q⟩ := List.mem_map.mp (pm.mem_iff.mp hv)
    obtain ⟨z, tk, h1, e2⟩ := g e he
    exact ⟨z, tk, h1, by rw [← q, e2]⟩
  have hyl : ys.length = vs.length := by
    have q := rv.length
    rwa [List.length_map] at q
  have hS := rv.strs
  refine wpAny_bind (wpAny_newList ?_ (by rw [sizeLine_eq]; omega))
  have hoL : (s1.heap.push (seqObj "list" vs.toArray 0)).get? s1.heap.objs.size = some (seqObj "list" vs.toArray 0) := Heap.get?_push_size _ rfl
  refine wpAny_bind (wpAny_holding (wpAny_call_entry slot_list_sort ⟨_, hoL, rfl⟩ entry_list_sort
    (list_sort_treeK strKind_oneLt hoL hS.keysOf (fun v₁ v₂ rest e => keyKind_strs (by rw [← e]; exact hS)) (by omega) fun st' hp hs => ⟨_, rfl, ?_⟩) (args_list_sort _)))
  obtain ⟨ws, g1', g2, g3⟩ := sorted_out_str hS hp hs
  obtain ⟨c, hc⟩ := sortedHeap_at (vs := vs) (out := (arrOf st').map (·.2)) hoL
  refine wpAny_pure ⟨_, rfl, hQ _ s1.heap.objs.size ((arrOf st').map (·.2)) c ws (fun b u e => ?_) g1 o1 hz hc (vals_of_strs g1') (fun y hy => my y (g2.mem_iff.mp hy)) (by rw [g2.length_eq, hyl]; exact hvl)⟩
  have q := k1 b u e
  have hlt := Heap.lt_size q
  show (sortedHeap (s1.heap.push (seqObj "list" vs.toArray 0)) s1.heap.objs.size vs _).get? b = some u
  rw [sortedHeap_old (Nat.ne_of_lt hlt) (by rw [size_push']; exact Nat.lt_succ_of_lt hlt)]
  exact Heap.get?_push_of_some _ q
end
/-- such a set, as a thing of the heap -/
def SetSO (w : World) (a : Addr) (zs : List Str) (n : Nat) : HO := .ext fun h => SetSR w h a zs n
section
variable {X : Cx}
theorem call_setR (hc : X.calm = true) : CallR X (.type "set") (fun xs H Q => ∃ (l : Addr) (zs : List Str), xs = [.ref l] ∧ SqL X.K H l (zs.map V.str) ∧ zs.length < 64 ∧
    ∀ a, H a = none → Q (.ref a) (upd H a (SetSO X.w a zs zs.length))) := by
  intro pins s σ H xs us Q I r h
  obtain ⟨l, zs, rfl, hl, h64, q⟩ := h
  rw [Vals.ref1 r]
  obtain ⟨its, rv, pl, hz⟩ := I.list hl
  have hn : H s.heap.objs.size = none := I.hok.fresh (Nat.le_refl _)
  refine call_setS (P := X.prog) (w := X.w) zs (I.ok.hd hc) pl.isList (by simpa using rv) (Nat.lt_of_lt_of_le (Nat.succ_lt_succ h64) (by decide)) fun h' tk R k => ?_
  refine ⟨.ref s.heap.objs.size, upd H s.heap.objs.size (SetSO X.w s.heap.objs.size zs zs.length), I.laid (t' := tk) k (Nat.le_refl _) ⟨R, ?_, fun h1 h2 R1 kk => R1.at kk⟩, rfl, q _ hn⟩
  obtain ⟨o, es, ep, t, ho, _⟩ := R
  exact ⟨o, ho⟩
theorem cr_sortedSetS (hc : X.calm = true) : CallR X (.builtin "sorted") (fun vs H Q => ∃ (a : Addr) (zs : List Str) (n : Nat), vs = [V.ref a] ∧ H a = some (SetSO X.w a zs n) ∧ n < 64 ∧
    ∀ (ys : List Str) (p : Addr), (∀ y ∈ ys, y ∈ zs) → ys.length ≤ n → H p = none → Q (.ref p) (upd H p (.lst (ys.map V.str)))) := by
  intro pins s σ H vs us Q I r h
  obtain ⟨a, zs, n, rfl, ha, h64, q⟩ := h
  have R : SetSR X.w s.heap a zs n := (I.hok a _ ha).1
  rw [Vals.ref1 r]
  refine sorted_setS R (I.ok.hd hc) h64 fun s' p out c ys k g o hp hg rv hm hl => ?_
  have hlen : (ys.map V.str).length ≤ sizeLine := by
    rw [List.length_map, sizeLine_eq]
    omega
  have hn : H p = none := I.hok.fresh hp
  have J : Inv X pins σ (upd H p (.lst (ys.map V.str))) { s with heap := s'.heap, gens := s'.gens, drawn := s'.drawn, toks := s'.toks } :=
    I.call (ch := []) (Un.laid k hp hn) (I.hok.laid k hp ⟨hlen, out.toList, c, rv, hg⟩) (by rw [g]; exact I.bare) (fun _ z => nomatch z)
  have e : s' = { s with heap := s'.heap, gens := s'.gens, drawn := s'.drawn, toks := s'.toks } := by
    cases s'
    cases s
    cases o
    rfl
  rw [e]
  exact ⟨.ref p, _, J, rfl, q ys p hm hl hn⟩
end
end KK


set_option Elab.async false
set_option linter.all false
set_option maxRecDepth 100000
set_option maxHeartbeats 4000000
/-! is_name, ascending -/
namespace KK
open PySem PySem.Spec PyProof.Rows L2
variable {P : Program} {w : World} {K : PySem.W.Frag} {mg : Str → Option Value} {base : Heap}
def spIsName : Sp := fun vs H Q _ => ∃ z, vs = [.str z] ∧ NameOk z ∧ ∀ H', Same H H' → Q (.bl true) H'
theorem sc_isName : FnScope ["text", "letter"] ["text"] (defScope (top 18)) := ⟨rfl, rfl, rfl, by decide +kernel, rfl, by decide +kernel, by decide +kernel⟩
theorem ok_isName (T : Txt K mg) : C8.Cal P w K mg base 2 "is_name" spIsName [] := by
  obtain ⟨r, hr1, hr2⟩ := T.res
  obtain ⟨tl, htl⟩ := T.ltr
  refine def_cal T.dIsName sc_isName (fun _ _ _ _ _ _ us hl => match us, hl with | [_], _ => rfl) (fun vs H Q E h => ?_) (fun f cdv A outer s H vs Q E hr h => ?_)
  · obtain ⟨z, rfl, _⟩ := h
    rfl
  · obtain ⟨z, rfl, hz, k⟩ := h
    have zl : (z.length : Int) ≤ 8 := by have := hz.hi; omega
    have zs : z.length ≤ sizeLine := by have := hz.hi; exact Nat.le_trans this (by decide)
    refine ⟨_, pss_cons (ps_if (PW.pt (pw_or (pt_not (pt_chain op_le op_le pe_int (pe_callB call_len_str (by rfl) (T.blt _ (by decide)) PySem.boot_len (pa_cons (pv 0) pa_nil)) pe_int))
        (pw_or1 (pt_cmpR op_in_seq (pv 0) (pe_glob (by rfl) hr1 (rr r)) (by rfl))))) (pss_one (ps_ret pe_bl)) pss_nil)
      (pss_one (ps_ret (pe_callB (cr_all rfl) (by rfl) (T.blt _ (by decide)) (by decide +kernel) (pa_cons
        (pe_lc (own := [("letter", 1)]) (g := gName 1) (by rfl) sc_isName.nd (pi_str (pv 0)) (blkOk_by (own := [("letter", 1)]) (N := ["text", "letter"]) (sc := defScope (top 18)) (by decide +kernel))
          (fun _ _ _ _ _ => pg_name (i := 1) sc_isName.nd rfl (Or.inl rfl)) (fun _ _ _ _ _ => pts_nil)
          (fun _ _ _ _ _ => pe_cmpR op_in_sign (pv 1) (pe_glob (v := .str letS) (by rfl) htl ⟨tl, rfl⟩) (by rfl))) pa_nil)))), ?_⟩
    refine ⟨_, rfl, z, rfl, zs, _, _, rfl, rfl, _, rfl, ?_⟩
    refine dT (by have := hz.lo; omega) ⟨_, _, rfl, rfl, _, rfl, ?_⟩
    show if (!decide ((z.length : Int) ≤ 8)) = true then _ else _
    refine ifF (by rw [decide_eq_true zl]; rfl) ?_
    refine ⟨_, rfl, r, _, rfl, Or.inr (hr2 H), rfl, strs_flat _, _, rfl, ?_⟩
    refine ifF (by rw [inV_strs]; exact decide_eq_false hz.nr) ?_
    refine ⟨_, rfl, z, rfl, fun D hD => ?_⟩
    refine lc_all (wk_str (z := z)) (fun c => .bl (decide (c ∈ letS.cps.toList))) hD (by rw [Array.length_toList]; exact Nat.lt_of_le_of_lt hz.hi (by decide)) (fun _ => rfl) (fun _ _ => trivial)
      (fun c _ H1 _ R hR => ⟨_, rfl, c, letS, rfl, rfl, hR H1 (Same.refl H1)⟩) fun H1 s1 hD1 => ?_
    refine ⟨D, z.cps.toList.map fun c => decide (c ∈ letS.cps.toList), rfl, SqL.of ?_, ?_⟩
    · rw [hD1, List.map_map]
      rfl
    · have e : ((z.cps.toList.map fun c => decide (c ∈ letS.cps.toList)).all id) = true := by
        rw [List.all_map, List.all_eq_true]
        exact fun c hc => decide_eq_true (hz.le c hc)
      rw [e]
      exact k H1 s1
/-- a new list of texts that stood in the given one -/
def spAsc (K : PySem.W.Frag) : Sp := fun vs H Q _ => ∃ (p : Addr) (zs : List Str), vs = [.ref p] ∧ SqL K H p (zs.map V.str) ∧ zs.length < 64 ∧
  ∀ (ys : List Str) (q : Addr) (H' : Hp), (∀ y ∈ ys, y ∈ zs) → ys.length ≤ zs.length → Same H H' → H q = none → H' q = some (.lst (ys.map V.str)) → Q (.ref q) H'
theorem sc_asc : FnScope ["names", "name"] ["names"] (defScope (top 19)) := ⟨rfl, rfl, rfl, by decide +kernel, rfl, by decide +kernel, by decide +kernel⟩
theorem ok_asc (T : Txt K mg) : C8.Cal P w K mg base 1 "ascending" (spAsc K) [] := by
  refine def_cal T.dAsc sc_asc (fun _ _ _ _ _ _ us hl => match us, hl with | [_], _ => rfl) (fun vs H Q E h => ?_) (fun f cdv A outer s H vs Q E hr h => ?_)
  · obtain ⟨p, zs, rfl, _⟩ := h
    rfl
  · obtain ⟨p, zs, rfl, hp, h64, k⟩ := h
    refine ⟨_, pss_one (ps_ret (pe_callB (cr_sortedSetS (by rfl)) (by rfl) (T.blt _ (by decide)) (by decide +kernel) (pa_cons
      (pe_callTy (call_setR (by rfl)) (by rfl) (T.blt _ (by decide)) (by decide +kernel) (pa_cons
        (pe_lc (own := [("name", 1)]) (g := gName 1) (by rfl) sc_asc.nd (pi_list (pv 0)) (blkOk_by (own := [("name", 1)]) (N := ["names", "name"]) (sc := defScope (top 19)) (by decide +kernel))
          (fun _ _ _ _ _ => pg_name (i := 1) sc_asc.nd rfl (Or.inl rfl)) (fun _ _ _ _ _ => pts_nil)
          (fun _ _ _ _ _ => pe_callTy SkE.call_str_str (by rfl) (T.blt _ (by decide)) (by decide +kernel) (pa_cons (pv 1) pa_nil))) pa_nil)) pa_nil))), ?_⟩
    refine ⟨_, rfl, p, rfl, ⟨_, hp⟩, fun D hD => ?_⟩
    refine lc_all (wk_list (zs := zs) (inj := V.str)) V.str hD (Nat.lt_trans h64 (by decide)) (fun _ => rfl) (fun H1 s1 => s1.seq hp)
      (fun z _ H1 _ R hR => ⟨_, rfl, z, rfl, hR H1 (Same.refl H1)⟩) fun H1 s1 hD1 => ?_
    refine ⟨D, zs, rfl, SqL.of hD1, h64, fun a ha => ?_⟩
    refine ⟨a, zs, zs.length, rfl, upd_same, h64, fun ys q hm hl hq => ?_⟩
    have sa : Same H1 (upd H1 a (SetSO w a zs zs.length)) := same_new ha
    exact k ys q _ hm hl ((s1.trans sa).trans (same_new hq)) ((s1.trans sa).free hq) upd_same
end KK


set_option Elab.async false
set_option linter.all false
set_option maxRecDepth 100000
set_option maxHeartbeats 4000000
/-! conditions -/
namespace KK
open PySem PySem.Spec PyProof.Rows L2
inductive Tree where
  | is (z : Str) | always | never | not (t : Tree) | and (a b : Tree) | or (a b : Tree)
def Tree.depth : Tree → Nat
  | .is _ => 1
  | .always => 1
  | .never => 1
  | .not t => t.depth + 1
  | .and a b => max a.depth b.depth + 1
  | .or a b => max a.depth b.depth + 1
def Tree.holds (zs : List Str) : Tree → Bool
  | .is z => decide (z ∈ zs)
  | .always => true
  | .never => false
  | .not t => !t.holds zs
  | .and a b => a.holds zs && b.holds zs
  | .or a b => a.holds zs || b.holds zs
def Tree.names : Tree → List Str
  | .is z => [z]
  | .always => []
  | .never => []
  | .not t => t.names
  | .and a b => a.names ++ b.names
  | .or a b => a.names ++ b.names
/-- how many names at most -/
def Tree.size : Tree → Nat
  | .is _ => 1
  | .always => 0
  | .never => 0
  | .not t => t.size
  | .and a b => a.size + b.size
  | .or a b => a.size + b.size
theorem Tree.names_len : ∀ t : Tree, t.names.length = t.size
  | .is _ => rfl
  | .always => rfl
  | .never => rfl
  | .not t => t.names_len
  | .and a b => by rw [Tree.names, List.length_append, a.names_len, b.names_len]; rfl
  | .or a b => by rw [Tree.names, List.length_append, a.names_len, b.names_len]; rfl
def TrAt (U : Addr → Prop) (H : Hp) : Tree → V → Prop
  | .is z, v => ∃ p, v = .ref p ∧ At U H p (.tup [.str "is", .str z])
  | .always, v => ∃ p, v = .ref p ∧ At U H p (.tup [.str "always"])
  | .never, v => ∃ p, v = .ref p ∧ At U H p (.tup [.str "never"])
  | .not t, v => ∃ p x, v = .ref p ∧ At U H p (.tup [.str "not", x]) ∧ TrAt U H t x
  | .and a b, v => ∃ p x y, v = .ref p ∧ At U H p (.tup [.str "and", x, y]) ∧ TrAt U H a x ∧ TrAt U H b y
  | .or a b, v => ∃ p x y, v = .ref p ∧ At U H p (.tup [.str "or", x, y]) ∧ TrAt U H a x ∧ TrAt U H b y
theorem TrAt.lq {U U' : Addr → Prop} {H H' : Hp} (q : Lq U H U' H') : ∀ {t : Tree} {v : V}, TrAt U H t v → TrAt U' H' t v
  | .is _, _, ⟨p, e, h⟩ => ⟨p, e, q _ _ h⟩
  | .always, _, ⟨p, e, h⟩ => ⟨p, e, q _ _ h⟩
  | .never, _, ⟨p, e, h⟩ => ⟨p, e, q _ _ h⟩
  | .not _, _, ⟨p, x, e, h, a⟩ => ⟨p, x, e, q _ _ h, a.lq q⟩
  | .and _ _, _, ⟨p, x, y, e, h, a, b⟩ => ⟨p, x, y, e, q _ _ h, a.lq q, b.lq q⟩
  | .or _ _, _, ⟨p, x, y, e, h, a, b⟩ => ⟨p, x, y, e, q _ _ h, a.lq q, b.lq q⟩
theorem Tree.depth_pos : ∀ t : Tree, 1 ≤ t.depth := fun t => by cases t <;> simp [Tree.depth]
/-- a list or a tuple of texts that may be read -/
def SqE (K : PySem.W.Frag) (H : Hp) (p : Addr) (zs : List Str) : Prop := SqL K H p (zs.map V.str) ∨ SqT K H p (zs.map V.str)
theorem SqE.same {K : PySem.W.Frag} {H H' : Hp} {p : Addr} {zs : List Str} (h : SqE K H p zs) (s : Same H H') : SqE K H' p zs := by
  rcases h with h | h
  · exact .inl (s.seq h)
  · rcases h with (h | ⟨o, h⟩) | h
    · exact .inr (.inl (.inl (s _ _ h)))
    · exact .inr (.inl (.inr ⟨o, s _ _ h⟩))
    · exact .inr (.inr h)
variable {P : Program} {w : World} {K : PySem.W.Frag} {mg : Str → Option Value} {base : Heap}
/-! ### tree_holds -/
def spHolds (K : PySem.W.Frag) (n : Nat) : Sp := fun vs H Q _ => ∃ (U : Addr → Prop) (t : Tree) (v : V) (q : Addr) (zs : List Str),
  vs = [v, .ref q] ∧ TrAt U H t v ∧ t.depth ≤ n ∧ SqE K H q zs ∧ Q (.bl (t.holds zs)) H
theorem sc_holds : FnScope ["tree", "names", "word"] ["tree", "names"] (defScope (top 30)) := ⟨rfl, rfl, rfl, by decide +kernel, rfl, by decide +kernel, by decide +kernel⟩
theorem ok_holds (T : Txt K mg) : ∀ n, C8.Cal P w K mg base (n + 1) "tree_holds" (spHolds K n) []
  | 0 => by
    refine def_cal (N := ["tree", "names", "word"]) T.dHolds sc_holds (fun _ _ _ _ _ _ us hl => match us, hl with | [_, _], _ => rfl) (fun vs H Q E h => ?_) (fun f cdv A outer s H vs Q E hr h => ?_)
    · obtain ⟨U, t, v, q, zs, rfl, _⟩ := h
      rfl
    · obtain ⟨U, t, v, q, zs, rfl, _, hd, _⟩ := h
      exact absurd hd (by have := t.depth_pos; omega)
  | n + 1 => by
    have G := ok_holds T n
    refine def_cal (N := ["tree", "names", "word"]) T.dHolds sc_holds (fun _ _ _ _ _ _ us hl => match us, hl with | [_, _], _ => rfl) (fun vs H Q E h => ?_) (fun f cdv A outer s H vs Q E hr h => ?_)
    · obtain ⟨U, t, v, q, zs, rfl, _⟩ := h
      rfl
    · obtain ⟨U, t, v, q, zs, rfl, ht, hd, hq, k⟩ := h
      refine ⟨_, pss_cons (ps_set (i := 2) sc_holds.nd rfl (.inl rfl) (pe_ix ix_tup (pv 0) pe_int (fun _ _ => rfl)))
        (pss_cons (ps_if (pt_cmpR op_eq (pv 2) pe_str (nomark _)) (pss_one (ps_ret (pe_cmpR op_in_seq (pe_ix ix_tup (pv 0) pe_int (fun _ _ => rfl)) (pv 1) (by rfl)))) pss_nil)
        (pss_cons (ps_if (pt_cmpR op_eq (pv 2) pe_str (nomark _)) (pss_one (ps_ret (pe_not (C8.pe_c G hr (Nat.le_refl _) (by rfl) (pa_cons (pe_ix ix_tup (pv 0) pe_int (fun _ _ => rfl)) (pa_cons (pv 1) pa_nil)))))) pss_nil)
        (pss_cons (ps_if (pt_cmpR op_eq (pv 2) pe_str (nomark _)) (pss_one (ps_ret (pe_and (C8.pe_c G hr (Nat.le_refl _) (by rfl) (pa_cons (pe_ix ix_tup (pv 0) pe_int (fun _ _ => rfl)) (pa_cons (pv 1) pa_nil))) (pe_one (C8.pe_c G hr (Nat.le_refl _) (by rfl) (pa_cons (pe_ix ix_tup (pv 0) pe_int (fun _ _ => rfl)) (pa_cons (pv 1) pa_nil))))))) pss_nil)
        (pss_cons (ps_if (pt_cmpR op_eq (pv 2) pe_str (nomark _)) (pss_one (ps_ret (pe_or (C8.pe_c G hr (Nat.le_refl _) (by rfl) (pa_cons (pe_ix ix_tup (pv 0) pe_int (fun _ _ => rfl)) (pa_cons (pv 1) pa_nil))) (pe_one (C8.pe_c G hr (Nat.le_refl _) (by rfl) (pa_cons (pe_ix ix_tup (pv 0) pe_int (fun _ _ => rfl)) (pa_cons (pv 1) pa_nil))))))) pss_nil)
        (pss_one (ps_ret (pe_cmpR op_eq (pv 2) pe_str (nomark _)))))))), ?_⟩
      cases t with
      | is z =>
        obtain ⟨p, rfl, hp⟩ := ht
        refine ⟨_, rfl, p, _, 0, _, rfl, rfl, SqT.of hp.2, atI_nat (j := 0) rfl, ?_⟩
        refine ⟨_, rfl, rfl, _, rfl, dT rfl ?_⟩
        refine ⟨_, rfl, p, _, 1, _, rfl, rfl, SqT.of hp.2, atI_nat (j := 1) rfl, _, rfl, q, _, rfl, hq, rfl, strs_flat _, ?_⟩
        show Q (.bl (inV (.str z) (zs.map V.str))) H
        rw [inV_strs]
        exact k
      | always =>
        obtain ⟨p, rfl, hp⟩ := ht
        refine ⟨_, rfl, p, _, 0, _, rfl, rfl, SqT.of hp.2, atI_nat (j := 0) rfl, ?_⟩
        refine ⟨_, rfl, rfl, _, rfl, dF (by decide +kernel) ⟨_, rfl, rfl, _, rfl, dF (by decide +kernel) ⟨_, rfl, rfl, _, rfl, dF (by decide +kernel) ⟨_, rfl, rfl, _, rfl, dF (by decide +kernel) ⟨_, rfl, rfl, ?_⟩⟩⟩⟩⟩
        exact k
      | never =>
        obtain ⟨p, rfl, hp⟩ := ht
        refine ⟨_, rfl, p, _, 0, _, rfl, rfl, SqT.of hp.2, atI_nat (j := 0) rfl, ?_⟩
        refine ⟨_, rfl, rfl, _, rfl, dF (by decide +kernel) ⟨_, rfl, rfl, _, rfl, dF (by decide +kernel) ⟨_, rfl, rfl, _, rfl, dF (by decide +kernel) ⟨_, rfl, rfl, _, rfl, dF (by decide +kernel) ⟨_, rfl, rfl, ?_⟩⟩⟩⟩⟩
        exact k
      | not t =>
        obtain ⟨p, x, rfl, hp, hx⟩ := ht
        have hd' : t.depth ≤ n := Nat.le_of_succ_le_succ hd
        refine ⟨_, rfl, p, _, 0, _, rfl, rfl, SqT.of hp.2, atI_nat (j := 0) rfl, ?_⟩
        refine ⟨_, rfl, rfl, _, rfl, dF (by decide +kernel) ⟨_, rfl, rfl, _, rfl, dT rfl ?_⟩⟩
        exact ⟨_, rfl, p, _, 1, _, rfl, rfl, SqT.of hp.2, atI_nat (j := 1) rfl, _, rfl, U, t, x, q, zs, rfl, hx, hd', hq, _, rfl, k⟩
      | and a b =>
        obtain ⟨p, x, y, rfl, hp, hx, hy⟩ := ht
        have hd' : max a.depth b.depth ≤ n := Nat.le_of_succ_le_succ hd
        have ha : a.depth ≤ n := by omega
        have hb : b.depth ≤ n := by omega
        refine ⟨_, rfl, p, _, 0, _, rfl, rfl, SqT.of hp.2, atI_nat (j := 0) rfl, ?_⟩
        refine ⟨_, rfl, rfl, _, rfl, dF (by decide +kernel) ⟨_, rfl, rfl, _, rfl, dF (by decide +kernel) ⟨_, rfl, rfl, _, rfl, dT rfl ?_⟩⟩⟩
        refine ⟨_, rfl, p, _, 1, _, rfl, rfl, SqT.of hp.2, atI_nat (j := 1) rfl, _, rfl, U, a, x, q, zs, rfl, hx, ha, hq, _, rfl, ?_⟩
        have k' : Q (.bl (a.holds zs && b.holds zs)) H := k
        cases e : a.holds zs with
        | true =>
          rw [e, Bool.true_and] at k'
          exact iteT ⟨_, rfl, p, _, 2, _, rfl, rfl, SqT.of hp.2, atI_nat (j := 2) rfl, _, rfl, U, b, y, q, zs, rfl, hy, hb, hq, k'⟩
        | false =>
          rw [e, Bool.false_and] at k'
          exact iteF k'
      | or a b =>
        obtain ⟨p, x, y, rfl, hp, hx, hy⟩ := ht
        have hd' : max a.depth b.depth ≤ n := Nat.le_of_succ_le_succ hd
        have ha : a.depth ≤ n := by omega
        have hb : b.depth ≤ n := by omega
        refine ⟨_, rfl, p, _, 0, _, rfl, rfl, SqT.of hp.2, atI_nat (j := 0) rfl, ?_⟩
        refine ⟨_, rfl, rfl, _, rfl, dF (by decide +kernel) ⟨_, rfl, rfl, _, rfl, dF (by decide +kernel) ⟨_, rfl, rfl, _, rfl, dF (by decide +kernel) ⟨_, rfl, rfl, _, rfl, dT rfl ?_⟩⟩⟩⟩
        refine ⟨_, rfl, p, _, 1, _, rfl, rfl, SqT.of hp.2, atI_nat (j := 1) rfl, _, rfl, U, a, x, q, zs, rfl, hx, ha, hq, _, rfl, ?_⟩
        have k' : Q (.bl (a.holds zs || b.holds zs)) H := k
        cases e : a.holds zs with
        | true =>
          rw [e, Bool.true_or] at k'
          exact iteT k'
        | false =>
          rw [e, Bool.false_or] at k'
          exact iteF ⟨_, rfl, p, _, 2, _, rfl, rfl, SqT.of hp.2, atI_nat (j := 2) rfl, _, rfl, U, b, y, q, zs, rfl, hy, hb, hq, k'⟩
/-! ### names_in -/
def spNamesIn (n : Nat) : Sp := fun vs H Q _ => ∃ (U : Addr → Prop) (t : Tree) (v : V),
  vs = [v] ∧ TrAt U H t v ∧ t.depth ≤ n ∧ t.size ≤ 1000 ∧ ∀ (q : Addr) (H' : Hp), Same H H' → H q = none → H' q = some (.lst (t.names.map V.str)) → Q (.ref q) H'
/-- the parts of a tree -/
def Tree.parts : Tree → List Tree
  | .is _ => []
  | .always => []
  | .never => []
  | .not t => [t]
  | .and a b => [a, b]
  | .or a b => [a, b]
theorem Tree.parts_names : ∀ t : Tree, (∀ z, t ≠ .is z) → t.names = t.parts.flatMap Tree.names
  | .is z, h => absurd rfl (h z)
  | .always, _ => rfl
  | .never, _ => rfl
  | .not t, _ => by simp [Tree.parts, Tree.names]
  | .and a b, _ => by simp [Tree.parts, Tree.names]
  | .or a b, _ => by simp [Tree.parts, Tree.names]
theorem Tree.parts_size : ∀ t p : Tree, p ∈ t.parts → p.depth + 1 ≤ t.depth ∧ p.size ≤ t.size
  | .not t, p, h => by
    simp only [Tree.parts, List.mem_singleton] at h
    subst h
    exact ⟨Nat.le_refl _, Nat.le_refl _⟩
  | .and a b, p, h => by
    simp only [Tree.parts, List.mem_cons, List.not_mem_nil, or_false] at h
    simp only [Tree.depth, Tree.size]
    rcases h with h | h <;> subst h <;> omega
  | .or a b, p, h => by
    simp only [Tree.parts, List.mem_cons, List.not_mem_nil, or_false] at h
    simp only [Tree.depth, Tree.size]
    rcases h with h | h <;> subst h <;> omega
/-- a tree that is no name: its tuple is a word and its parts -/
theorem TrAt.parts {U : Addr → Prop} {H : Hp} : ∀ {t : Tree} {v : V}, TrAt U H t v → (∀ z, t ≠ .is z) → ∃ p wd xs, v = .ref p ∧ At U H p (.tup (.str wd :: xs)) ∧ wd ≠ "is" ∧ Paired (fun t x => TrAt U H t x) t.parts xs
  | .is z, _, _, h => absurd rfl (h z)
  | .always, _, ⟨p, e, h⟩, _ => ⟨p, _, [], e, h, by decide +kernel, .nil⟩
  | .never, _, ⟨p, e, h⟩, _ => ⟨p, _, [], e, h, by decide +kernel, .nil⟩
  | .not _, _, ⟨p, x, e, h, a⟩, _ => ⟨p, _, [x], e, h, by decide +kernel, .cons a .nil⟩
  | .and _ _, _, ⟨p, x, y, e, h, a, b⟩, _ => ⟨p, _, [x, y], e, h, by decide +kernel, .cons a (.cons b .nil)⟩
  | .or _ _, _, ⟨p, x, y, e, h, a, b⟩, _ => ⟨p, _, [x, y], e, h, by decide +kernel, .cons a (.cons b .nil)⟩
theorem flatMap_size : ∀ (l : List Tree), (l.flatMap Tree.names).length = (l.map Tree.size).sum
  | [] => rfl
  | t :: l => by rw [List.flatMap_cons, List.length_append, t.names_len, flatMap_size l]; rfl
theorem sum_take_le : ∀ (l : List Nat) (i : Nat), (l.take i).sum ≤ l.sum
  | [], i => by simp
  | a :: l, 0 => by simp
  | a :: l, i + 1 => by
    have := sum_take_le l i
    simp only [List.take_succ_cons, List.sum_cons]
    omega
theorem parts_sum : ∀ t : Tree, (∀ z, t ≠ .is z) → (t.parts.map Tree.size).sum = t.size
  | .is z, h => absurd rfl (h z)
  | .always, _ => rfl
  | .never, _ => rfl
  | .not t, _ => by simp [Tree.parts, Tree.size]
  | .and a b, _ => by simp [Tree.parts, Tree.size]
  | .or a b, _ => by simp [Tree.parts, Tree.size]
theorem sc_namesIn : FnScope ["tree", "found", "part"] ["tree"] (defScope (top 31)) := ⟨rfl, rfl, rfl, by decide +kernel, rfl, by decide +kernel, by decide +kernel⟩
theorem ok_namesIn (T : Txt K mg) : ∀ n, C8.Cal P w K mg base (n + 1) "names_in" (spNamesIn n) []
  | 0 => by
    refine def_cal (N := ["tree", "found", "part"]) T.dNamesIn sc_namesIn (fun _ _ _ _ _ _ us hl => match us, hl with | [_], _ => rfl) (fun vs H Q E h => ?_) (fun f cdv A outer s H vs Q E hr h => ?_)
    · obtain ⟨U, t, v, rfl, _⟩ := h
      rfl
    · obtain ⟨U, t, v, rfl, _, hd, _⟩ := h
      exact absurd hd (by have := t.depth_pos; omega)
  | n + 1 => by
    have G := ok_namesIn T n
    refine def_cal (N := ["tree", "found", "part"]) T.dNamesIn sc_namesIn (fun _ _ _ _ _ _ us hl => match us, hl with | [_], _ => rfl) (fun vs H Q E h => ?_) (fun f cdv A outer s H vs Q E hr h => ?_)
    · obtain ⟨U, t, v, rfl, _⟩ := h
      rfl
    · obtain ⟨U, t, v, rfl, ht, hd, hz, k⟩ := h
      refine ⟨_, pss_cons (ps_if (pt_cmpR op_eq (pe_ix ix_tup (pv 0) pe_int (fun _ _ => rfl)) pe_str (nomark _)) (pss_one (ps_ret (pe_lst (pa_cons (pe_ix ix_tup (pv 0) pe_int (fun _ _ => rfl)) pa_nil)))) pss_nil)
        (pss_cons (ps_set (i := 1) sc_namesIn.nd rfl (.inl rfl) (pe_lst pa_nil))
        (pss_cons (ps_for PassesOwn.never (by rfl) (pi_tup (pe_slice sl_tup (pv 0) (po_some pe_int) po_none)) (pg_name (i := 2) sc_namesIn.nd rfl (Or.inl rfl))
          (pss_one (ps_expr (pe_bm PySem.F.plainAttrs_list PySem.F.slot_list_extend PySem.F.type_list_extend mt_extend (pv 1) (pa_cons (C8.pe_c G hr (Nat.le_refl _) (by rfl) (pa_cons (pv 2) pa_nil)) pa_nil)))))
        (pss_one (ps_ret (pv 1))))), ?_⟩
      by_cases hi : ∃ z, t = .is z
      · obtain ⟨z, rfl⟩ := hi
        obtain ⟨p, rfl, hp⟩ := ht
        refine ⟨_, rfl, p, _, 0, _, rfl, rfl, SqT.of hp.2, atI_nat (j := 0) rfl, rfl, _, rfl, dT rfl ?_⟩
        exact ⟨_, rfl, p, _, 1, _, rfl, rfl, SqT.of hp.2, atI_nat (j := 1) rfl, by show 1 ≤ sizeLine; decide, fun q hq => k q _ (same_new hq) hq upd_same⟩
      · have hi' : ∀ z, t ≠ .is z := fun z e => hi ⟨z, e⟩
        obtain ⟨p, wd, xs, rfl, hp, hwd, hr2⟩ := ht.parts hi'
        refine ⟨_, rfl, p, _, 0, _, rfl, rfl, SqT.of hp.2, atI_nat (j := 0) rfl, rfl, _, rfl, dF (fun e => hwd (V.str.inj e)) ?_⟩
        refine ⟨by show 0 ≤ sizeLine; decide, fun D hD => ?_⟩
        have pD : p ≠ D := ne_of_none hp.2 hD
        have hp1 : (upd H D (.lst [])) p = some (.tup (.str wd :: xs)) := by
          rw [upd_ne pD]
          exact hp.2
        refine ⟨_, rfl, 1, rfl, p, _, rfl, SqT.of hp1, ?_, fun pt hpt => ?_⟩
        · intro e
          have e1 := e.1
          rw [show (some (1 : Int)) = some ((1 : Nat) : Int) from rfl, HT.sIx_nat] at e1
          simp only [List.length_cons] at e1
          omega
        have ec : cutV (V.str wd :: xs) (some 1) none = xs := cut_from (V.str wd :: xs) (k := 1) (by simp)
        rw [ec]
        have Dpt : D ≠ pt := ne_of_none upd_same hpt
        refine ⟨pt, rfl, ⟨_, SqT.of upd_same⟩, for_tup (K := K) (a := pt) (xs := xs) (fun i σ H2 => ∃ x, σ = [some (.ref p), some (.ref D), x] ∧ Same H H2 ∧ H2 pt = some (.tup xs) ∧ H2 D = some (.lst (((t.parts.take i).flatMap Tree.names).map V.str)))
          ⟨none, rfl, (same_new hD).trans (same_new hpt), upd_same, by rw [upd_ne Dpt, upd_same]; rfl⟩ (fun i σ H2 _ ⟨_, _, _, h2, _⟩ => SqT.of h2) ?_ ?_⟩
        · rintro i x σ H2 hi ⟨x0, rfl, s2, h2, hD2⟩
          obtain ⟨pt', hpi, htr⟩ := paired_ix hr2 hi
          have hm := List.mem_of_getElem? hpi
          obtain ⟨hd', hz'⟩ := t.parts_size _ hm
          refine ⟨_, rfl, .inl ⟨rfl, _, SqL.of hD2⟩, _, rfl, U, pt', x, rfl, htr.lq (lq_same s2), by omega, by omega, fun q H3 s3 hq hq3 => ?_⟩
          have eT : t.parts.take (i + 1) = t.parts.take i ++ [pt'] := by
            rw [List.take_add_one, hpi]
            rfl
          have hl : (((t.parts.take i).flatMap Tree.names).map V.str).length ≤ 1000 := by
            rw [List.length_map, flatMap_size, List.map_take]
            exact Nat.le_trans (sum_take_le _ _) (by rw [parts_sum t hi']; exact hz)
          refine ⟨D, q, _, _, rfl, rfl, s3 _ _ hD2, hq3, ?_, ?_⟩
          · have : (pt'.names.map V.str).length ≤ 1000 := by rw [List.length_map, pt'.names_len]; omega
            have e := sizeLine_eq
            omega
          · refine ⟨some x, rfl, ?_, ?_, ?_⟩
            · exact Off.same (((off_same s2).trans (off_same s3)).trans off_upd) hD
            · rw [upd_ne Dpt.symm]
              exact s3 _ _ h2
            · rw [upd_same, eT, List.flatMap_append, List.map_append]
              simp
        · rintro σ H2 ⟨x0, rfl, s2, h2, hD2⟩
          refine ⟨_, rfl, k D H2 s2 hD ?_⟩
          rw [hD2, t.parts_names hi']
          have e : t.parts.length = xs.length := Paired.length hr2
          rw [← e, List.take_length]
/-! ### class Condition -/
def CondAt (C : Addr) (U : Addr → Prop) (H : Hp) (p : Addr) (t : Tree) : Prop := ∃ dx v, At U H p (.ins C dx [("tree", v)]) ∧ TrAt U H t v
theorem CondAt.lq {C : Addr} {U U' : Addr → Prop} {H H' : Hp} {p : Addr} {t : Tree} (h : CondAt C U H p t) (q : Lq U H U' H') : CondAt C U' H' p t := by
  obtain ⟨dx, v, a, b⟩ := h
  exact ⟨dx, v, q _ _ a, b.lq q⟩
def spCondInit (C : Addr) : Sp := fun vs H Q _ => ∃ (x dx : Addr) (v : V), vs = [.ref x, v] ∧ H x = some (.ins C dx []) ∧ Q .non (upd H x (.ins C dx [("tree", v)]))
theorem sc_ci : FnScope ["self", "tree"] ["self", "tree"] (defScope (inClass (top 36) 0)) := ⟨rfl, rfl, rfl, by decide +kernel, rfl, by decide +kernel, by decide +kernel⟩
theorem ok_condInit (T : Txt K mg) : C8.Mak P w K mg base 1 "Condition" T.cC (spCondInit T.cC) [] := by
  refine ini_mak T.C T.iC sc_ci (fun _ _ _ _ _ _ us hl => match us, hl with | [_, _], _ => rfl) (fun vs H Q E h => ?_) (fun f cdv A outer s H vs Q E hr h => ?_)
  · obtain ⟨x, dx, v, rfl, _⟩ := h
    rfl
  · obtain ⟨x, dx, v, rfl, hx, k⟩ := h
    refine ⟨_, pss_one (ps_fld (pv 0) (pv 1) rfl), ?_⟩
    exact ⟨_, rfl, _, rfl, x, T.cC, dx, _, rfl, hx, T.C.cl, T.nC, by show 0 < 1000; decide, k⟩
/-- a new condition -/
theorem cond_new {C : Addr} {U : Addr → Prop} {H : Hp} {t : Tree} {v : V} {x dx : Addr} (hf : Fresh U H) (ht : TrAt U H t v) (nx : H x = none) (nd : H dx = none) (ne : dx ≠ x) :
    Same H (upd (upd (upd H dx (.own x)) x (.ins C dx [])) x (.ins C dx [("tree", v)])) ∧ CondAt C U (upd (upd (upd H dx (.own x)) x (.ins C dx [])) x (.ins C dx [("tree", v)])) x t := by
  have s : Same H (upd (upd (upd H dx (.own x)) x (.ins C dx [])) x (.ins C dx [("tree", v)])) := fun b o e => by
    rw [upd_ne (ne_of_none e nx), upd_ne (ne_of_none e nx), upd_ne (ne_of_none e nd)]
    exact e
  exact ⟨s, dx, v, ⟨hf x nx, upd_same⟩, ht.lq (lq_same s)⟩
/-- what hands back a new condition -/
def spNewCond (C : Addr) (U : Addr → Prop) (t : Tree) (H : Hp) (Q : VK) : Prop := ∀ (q : Addr) (H' : Hp), Same H H' → H q = none → CondAt C U H' q t → Q (.ref q) H'
def spOf (C : Addr) : Sp := fun vs H Q _ => ∃ (U : Addr → Prop) (z : Str), vs = [.str z] ∧ NameOk z ∧ Fresh U H ∧ spNewCond C U (.is z) H Q
def spConst (C : Addr) (t : Tree) : Sp := fun vs H Q _ => ∃ (U : Addr → Prop), vs = [] ∧ Fresh U H ∧ spNewCond C U t H Q
theorem sc_of : FnScope ["name"] ["name"] (defScope (inClass (top 36) 1)) := ⟨rfl, rfl, rfl, by decide +kernel, rfl, by decide +kernel, by decide +kernel⟩
theorem ok_of (T : Txt K mg) : SMet P w K mg base 3 T.cC "of" (spOf T.cC) := by
  have G1 : C8.Cal P w K mg base 2 "is_name" spIsName [] := ok_isName T
  have G2 : C8.Mak P w K mg base 1 "Condition" T.cC (spCondInit T.cC) [] := ok_condInit T
  refine mth_stat T.cOf sc_of (fun _ _ _ _ _ _ us hl => match us, hl with | [_], _ => rfl) (fun vs H Q E h => ?_) (fun f cdv A outer s H vs Q E hr h => ?_)
  · obtain ⟨U, z, rfl, _⟩ := h
    rfl
  · obtain ⟨U, z, rfl, hz, hf, k⟩ := h
    refine ⟨_, pss_cons (ps_if (pt_not (pt_val (C8.pe_c G1 hr (by decide) (by rfl) (pa_cons (pv 0) pa_nil)))) (pss_one ps_never) pss_nil)
      (pss_one (ps_ret (C8.pe_mk G2 hr (by decide) (by rfl) (pa_cons (pe_tup (pa_cons pe_str (pa_cons (pv 0) pa_nil))) pa_nil)))), ?_⟩
    refine ⟨_, rfl, z, rfl, hz, fun H1 s1 => ⟨true, rfl, iteF ?_⟩⟩
    refine ⟨_, rfl, by show 2 ≤ sizeLine; decide, fun p hp => ?_⟩
    intro x dx nx nd ne
    have s2 := s1.trans (same_new (o := .tup [.str "is", .str z]) hp)
    obtain ⟨s3, c⟩ := cond_new (C := T.cC) (t := .is z) (v := .ref p) (hf.same s2) ⟨p, rfl, (hf.same s1) p hp, upd_same⟩ nx nd ne
    exact ⟨x, dx, .ref p, rfl, upd_same, rfl, k x _ (s2.trans s3) (s2.free nx) c⟩
theorem sc_c0 {i : Nat} (h : i = 2 ∨ i = 3) : FnScope [] [] (defScope (inClass (top 36) i)) := by
  rcases h with h | h <;> subst h <;> exact ⟨rfl, rfl, rfl, by decide +kernel, rfl, by decide +kernel, by decide +kernel⟩
theorem ok_always (T : Txt K mg) : SMet P w K mg base 3 T.cC "always" (spConst T.cC .always) := by
  have G2 : C8.Mak P w K mg base 1 "Condition" T.cC (spCondInit T.cC) [] := ok_condInit T
  refine mth_stat T.cAlways (sc_c0 (.inl rfl)) (fun _ _ _ _ _ _ us hl => match us, hl with | [], _ => rfl) (fun vs H Q E h => ?_) (fun f cdv A outer s H vs Q E hr h => ?_)
  · obtain ⟨U, rfl, _⟩ := h
    rfl
  · obtain ⟨U, rfl, hf, k⟩ := h
    refine ⟨_, pss_one (ps_ret (C8.pe_mk G2 hr (by decide) (by rfl) (pa_cons (pe_tup (pa_cons pe_str pa_nil)) pa_nil))), ?_⟩
    refine ⟨by show 1 ≤ sizeLine; decide, fun p hp => ?_⟩
    intro x dx nx nd ne
    have s2 := same_new (o := .tup [.str "always"]) hp
    obtain ⟨s3, c⟩ := cond_new (C := T.cC) (t := .always) (v := .ref p) (hf.same s2) ⟨p, rfl, hf p hp, upd_same⟩ nx nd ne
    exact ⟨x, dx, .ref p, rfl, upd_same, rfl, k x _ (s2.trans s3) (s2.free nx) c⟩
theorem ok_never (T : Txt K mg) : SMet P w K mg base 3 T.cC "never" (spConst T.cC .never) := by
  have G2 : C8.Mak P w K mg base 1 "Condition" T.cC (spCondInit T.cC) [] := ok_condInit T
  refine mth_stat T.cNever (sc_c0 (.inr rfl)) (fun _ _ _ _ _ _ us hl => match us, hl with | [], _ => rfl) (fun vs H Q E h => ?_) (fun f cdv A outer s H vs Q E hr h => ?_)
  · obtain ⟨U, rfl, _⟩ := h
    rfl
  · obtain ⟨U, rfl, hf, k⟩ := h
    refine ⟨_, pss_one (ps_ret (C8.pe_mk G2 hr (by decide) (by rfl) (pa_cons (pe_tup (pa_cons pe_str pa_nil)) pa_nil))), ?_⟩
    refine ⟨by show 1 ≤ sizeLine; decide, fun p hp => ?_⟩
    intro x dx nx nd ne
    have s2 := same_new (o := .tup [.str "never"]) hp
    obtain ⟨s3, c⟩ := cond_new (C := T.cC) (t := .never) (v := .ref p) (hf.same s2) ⟨p, rfl, hf p hp, upd_same⟩ nx nd ne
    exact ⟨x, dx, .ref p, rfl, upd_same, rfl, k x _ (s2.trans s3) (s2.free nx) c⟩
/-- the names of a condition -/
def spCondNames (C : Addr) : Sp := fun vs H Q _ => ∃ (U : Addr → Prop) (p : Addr) (t : Tree), vs = [.ref p] ∧ CondAt C U H p t ∧ t.depth ≤ 4 ∧ t.size ≤ 60 ∧
  ∀ (ys : List Str) (q : Addr) (H' : Hp), (∀ y ∈ ys, y ∈ t.names) → ys.length ≤ 60 → Same H H' → H q = none → H' q = some (.lst (ys.map V.str)) → Q (.ref q) H'
theorem sc_cn : FnScope ["self"] ["self"] (defScope (inClass (top 36) 4)) := ⟨rfl, rfl, rfl, by decide +kernel, rfl, by decide +kernel, by decide +kernel⟩
theorem ok_condNames (T : Txt K mg) : C8.Met P w K mg base 6 T.cC "names" (spCondNames T.cC) [] := by
  have G1 : C8.Cal P w K mg base 5 "names_in" (spNamesIn 4) [] := ok_namesIn T 4
  have G2 : C8.Cal P w K mg base 1 "ascending" (spAsc K) [] := ok_asc T
  refine mth_met T.C.cl T.cNames sc_cn (fun _ _ _ _ _ _ us hl => match us, hl with | [_], _ => rfl) (fun vs H Q E h => ?_) (fun f cdv A outer s H vs Q E hr h => ?_)
  · obtain ⟨U, p, t, rfl, _⟩ := h
    rfl
  · obtain ⟨U, p, t, rfl, ⟨dx, v, hp, ht⟩, hd, hz, k⟩ := h
    refine ⟨_, pss_one (ps_ret (C8.pe_c G2 hr (by decide) (by rfl) (pa_cons (C8.pe_c G1 hr (by decide) (by rfl) (pa_cons (pe_fld (pv 0) rfl) pa_nil)) pa_nil))), ?_⟩
    refine ⟨_, rfl, p, T.cC, dx, _, _, rfl, hp.2, T.C.cl, T.nC, rfl, U, t, v, rfl, ht, hd, by omega, fun q H1 s1 hq hq1 => ?_⟩
    refine ⟨q, t.names, rfl, SqL.of hq1, by rw [t.names_len]; omega, fun ys q2 H2 hm hl s2 hn hq2 => ?_⟩
    exact k ys q2 H2 hm (by rw [t.names_len] at hl; omega) (s1.trans s2) (s1.free hn) hq2
/-- condition(names) -/
def spCondCall (K : PySem.W.Frag) (C : Addr) : Sp := fun vs H Q _ => ∃ (U : Addr → Prop) (p q : Addr) (t : Tree) (zs : List Str), vs = [.ref p, .ref q] ∧ CondAt C U H p t ∧ t.depth ≤ 4 ∧ SqE K H q zs ∧ Q (.bl (t.holds zs)) H
theorem sc_cc : FnScope ["self", "names"] ["self", "names"] (defScope (inClass (top 36) 5)) := ⟨rfl, rfl, rfl, by decide +kernel, rfl, by decide +kernel, by decide +kernel⟩
theorem ok_condCall (T : Txt K mg) : Own P w K mg base 6 T.cC "__call__" (spCondCall K T.cC) := by
  have G1 : C8.Cal P w K mg base 5 "tree_holds" (spHolds K 4) [] := ok_holds T 4
  refine mth_own T.C.cl T.cCall sc_cc (fun _ _ _ _ _ _ us hl => match us, hl with | [_, _], _ => rfl) (fun vs H Q E h => ?_) (fun f cdv A outer s H vs Q E hr h => ?_)
  · obtain ⟨U, p, q, t, zs, rfl, _⟩ := h
    rfl
  · obtain ⟨U, p, q, t, zs, rfl, ⟨dx, v, hp, ht⟩, hd, hz, k⟩ := h
    refine ⟨_, pss_one (ps_ret (C8.pe_c G1 hr (by decide) (by rfl) (pa_cons (pe_fld (pv 0) rfl) (pa_cons (pv 1) pa_nil)))), ?_⟩
    exact ⟨_, rfl, p, T.cC, dx, _, _, rfl, hp.2, T.C.cl, T.nC, rfl, _, rfl, U, t, v, q, zs, rfl, ht, hd, hz, k⟩
/-- a & b, a | b, ~a -/
def spCond2 (C : Addr) (g : Tree → Tree → Tree) : Sp := fun vs H Q _ => ∃ (U : Addr → Prop) (p q : Addr) (a b : Tree), vs = [.ref p, .ref q] ∧ CondAt C U H p a ∧ CondAt C U H q b ∧ Fresh U H ∧ spNewCond C U (g a b) H Q
def spCond1 (C : Addr) : Sp := fun vs H Q _ => ∃ (U : Addr → Prop) (p : Addr) (a : Tree), vs = [.ref p] ∧ CondAt C U H p a ∧ Fresh U H ∧ spNewCond C U (.not a) H Q
theorem sc_c2 {i : Nat} (h : i = 7 ∨ i = 8) : FnScope ["self", "other"] ["self", "other"] (defScope (inClass (top 36) i)) := by
  rcases h with h | h <;> subst h <;> exact ⟨rfl, rfl, rfl, by decide +kernel, rfl, by decide +kernel, by decide +kernel⟩
theorem ok_and (T : Txt K mg) : Own P w K mg base 3 T.cC "__and__" (spCond2 T.cC .and) := by
  have G2 : C8.Mak P w K mg base 1 "Condition" T.cC (spCondInit T.cC) [] := ok_condInit T
  refine mth_own T.C.cl T.cAnd (sc_c2 (.inl rfl)) (fun _ _ _ _ _ _ us hl => match us, hl with | [_, _], _ => rfl) (fun vs H Q E h => ?_) (fun f cdv A outer s H vs Q E hr h => ?_)
  · obtain ⟨U, p, q, a, b, rfl, _⟩ := h
    rfl
  · obtain ⟨U, p, q, a, b, rfl, ⟨dx, v, hp, ha⟩, ⟨dy, u, hq, hb⟩, hf, k⟩ := h
    refine ⟨_, pss_cons (ps_if (pt_not (pt_val (pe_callB (C8.call_isC T.insC) (by rfl) (T.blt _ (by decide)) (by decide +kernel) (pa_cons (pv 1) (pa_cons (pe_glob (by rfl) T.C.mgC (rr _)) pa_nil))))) (pss_one ps_never) pss_nil)
      (pss_one (ps_ret (C8.pe_mk G2 hr (by decide) (by rfl) (pa_cons (pe_tup (pa_cons pe_str (pa_cons (pe_fld (pv 0) rfl) (pa_cons (pe_fld (pv 1) rfl) pa_nil)))) pa_nil)))), ?_⟩
    refine ⟨_, rfl, q, dy, _, rfl, hq.2, true, rfl, iteF ?_⟩
    refine ⟨_, rfl, p, T.cC, dx, _, _, rfl, hp.2, T.C.cl, T.nC, rfl, _, rfl, q, T.cC, dy, _, _, rfl, hq.2, T.C.cl, T.nC, rfl, by show 3 ≤ sizeLine; decide, fun pt hpt => ?_⟩
    intro x dx' nx nd ne
    have s2 := same_new (o := .tup [.str "and", v, u]) hpt
    obtain ⟨s3, c⟩ := cond_new (C := T.cC) (t := .and a b) (v := .ref pt) (hf.same s2) ⟨pt, v, u, rfl, ⟨hf pt hpt, upd_same⟩, ha.lq (lq_same s2), hb.lq (lq_same s2)⟩ nx nd ne
    exact ⟨x, dx', .ref pt, rfl, upd_same, rfl, k x _ (s2.trans s3) (s2.free nx) c⟩
theorem ok_or (T : Txt K mg) : Own P w K mg base 3 T.cC "__or__" (spCond2 T.cC .or) := by
  have G2 : C8.Mak P w K mg base 1 "Condition" T.cC (spCondInit T.cC) [] := ok_condInit T
  refine mth_own T.C.cl T.cOr (sc_c2 (.inr rfl)) (fun _ _ _ _ _ _ us hl => match us, hl with | [_, _], _ => rfl) (fun vs H Q E h => ?_) (fun f cdv A outer s H vs Q E hr h => ?_)
  · obtain ⟨U, p, q, a, b, rfl, _⟩ := h
    rfl
  · obtain ⟨U, p, q, a, b, rfl, ⟨dx, v, hp, ha⟩, ⟨dy, u, hq, hb⟩, hf, k⟩ := h
    refine ⟨_, pss_cons (ps_if (pt_not (pt_val (pe_callB (C8.call_isC T.insC) (by rfl) (T.blt _ (by decide)) (by decide +kernel) (pa_cons (pv 1) (pa_cons (pe_glob (by rfl) T.C.mgC (rr _)) pa_nil))))) (pss_one ps_never) pss_nil)
      (pss_one (ps_ret (C8.pe_mk G2 hr (by decide) (by rfl) (pa_cons (pe_tup (pa_cons pe_str (pa_cons (pe_fld (pv 0) rfl) (pa_cons (pe_fld (pv 1) rfl) pa_nil)))) pa_nil)))), ?_⟩
    refine ⟨_, rfl, q, dy, _, rfl, hq.2, true, rfl, iteF ?_⟩
    refine ⟨_, rfl, p, T.cC, dx, _, _, rfl, hp.2, T.C.cl, T.nC, rfl, _, rfl, q, T.cC, dy, _, _, rfl, hq.2, T.C.cl, T.nC, rfl, by show 3 ≤ sizeLine; decide, fun pt hpt => ?_⟩
    intro x dx' nx nd ne
    have s2 := same_new (o := .tup [.str "or", v, u]) hpt
    obtain ⟨s3, c⟩ := cond_new (C := T.cC) (t := .or a b) (v := .ref pt) (hf.same s2) ⟨pt, v, u, rfl, ⟨hf pt hpt, upd_same⟩, ha.lq (lq_same s2), hb.lq (lq_same s2)⟩ nx nd ne
    exact ⟨x, dx', .ref pt, rfl, upd_same, rfl, k x _ (s2.trans s3) (s2.free nx) c⟩
theorem sc_c1 : FnScope ["self"] ["self"] (defScope (inClass (top 36) 9)) := ⟨rfl, rfl, rfl, by decide +kernel, rfl, by decide +kernel, by decide +kernel⟩
theorem ok_inv (T : Txt K mg) : Own P w K mg base 3 T.cC "__invert__" (spCond1 T.cC) := by
  have G2 : C8.Mak P w K mg base 1 "Condition" T.cC (spCondInit T.cC) [] := ok_condInit T
  refine mth_own T.C.cl T.cInv sc_c1 (fun _ _ _ _ _ _ us hl => match us, hl with | [_], _ => rfl) (fun vs H Q E h => ?_) (fun f cdv A outer s H vs Q E hr h => ?_)
  · obtain ⟨U, p, a, rfl, _⟩ := h
    rfl
  · obtain ⟨U, p, a, rfl, ⟨dx, v, hp, ha⟩, hf, k⟩ := h
    refine ⟨_, pss_one (ps_ret (C8.pe_mk G2 hr (by decide) (by rfl) (pa_cons (pe_tup (pa_cons pe_str (pa_cons (pe_fld (pv 0) rfl) pa_nil))) pa_nil))), ?_⟩
    refine ⟨_, rfl, p, T.cC, dx, _, _, rfl, hp.2, T.C.cl, T.nC, rfl, by show 2 ≤ sizeLine; decide, fun pt hpt => ?_⟩
    intro x dx' nx nd ne
    have s2 := same_new (o := .tup [.str "not", v]) hpt
    obtain ⟨s3, c⟩ := cond_new (C := T.cC) (t := .not a) (v := .ref pt) (hf.same s2) ⟨pt, v, rfl, ⟨hf pt hpt, upd_same⟩, ha.lq (lq_same s2)⟩ nx nd ne
    exact ⟨x, dx', .ref pt, rfl, upd_same, rfl, k x _ (s2.trans s3) (s2.free nx) c⟩
end KK


set_option Elab.async false
set_option linter.all false
set_option maxRecDepth 100000
set_option maxHeartbeats 4000000
/-! outcomes -/
namespace KK
open PySem PySem.Spec PyProof.Rows L2
/-- a change that an outcome may hold -/
def ChgOk (v : V) : Prop := v = .bl true ∨ v = .bl false ∨ v = .str "add" ∨ v = .str "take" ∨ v = .str "empty"
/-- what an outcome's table says -/
def OutOk (f : Key → Option V) : Prop := ∀ k v, f k = some v → ∃ z, k = .inr z ∧ NameOk z ∧ ChgOk v
theorem val_all (kvs : List (Key × V)) (k : Key) : (if inK (kvs.map (·.1)) k = true then valV kvs k else none) = valV kvs k := by
  by_cases h : inK (kvs.map (·.1)) k = true
  · rw [if_pos h]
  · rw [if_neg h]
    cases e : valV kvs k with
    | none => rfl
    | some v => exact absurd (inK_iff.mpr (valV_in e)) h
theorem val_at {kvs : List (Key × V)} {i : Nat} {k : Key} {v : V} (h : kvs[i]? = some (k, v)) : ∃ u, valV kvs k = some u := by
  cases e : valV kvs k with
  | some u => exact ⟨u, rfl⟩
  | none => exact absurd (List.mem_map.mpr ⟨(k, v), List.mem_of_getElem? h, rfl⟩) (valV_not e)
/-- the keys of a dict, as texts -/
theorem keys_strs : ∀ (kvs : List (Key × V)), (∀ k v, valV kvs k = some v → ∃ z, k = .inr z) → ∃ zs : List Str, kvs.map (fun kv => kV kv.1) = zs.map V.str ∧ kvs.map (·.1) = zs.map Sum.inr := by
  intro kvs h
  have h' : ∀ kv ∈ kvs, ∃ z, kv.1 = .inr z := fun kv hm => by
    obtain ⟨i, hi⟩ := List.mem_iff_getElem?.mp hm
    obtain ⟨u, e⟩ := val_at (k := kv.1) (v := kv.2) hi
    exact h _ u e
  clear h
  induction kvs with
  | nil => exact ⟨[], rfl, rfl⟩
  | cons kv kvs ih =>
    obtain ⟨z, e⟩ := h' kv List.mem_cons_self
    obtain ⟨zs, e1, e2⟩ := ih fun q hq => h' q (List.mem_cons_of_mem _ hq)
    refine ⟨z :: zs, ?_, ?_⟩
    · rw [List.map_cons, List.map_cons, e1, e]
      rfl
    · rw [List.map_cons, List.map_cons, e2, e]
variable {P : Program} {w : World} {K : PySem.W.Frag} {mg : Str → Option Value} {base : Heap}
/-! ### check_change -/
def spCheckChange : Sp := fun vs H Q _ => ∃ z v, vs = [.str z, v] ∧ NameOk z ∧ ChgOk v ∧ ∀ H', Same H H' → Q .non H'
theorem sc_chk : FnScope ["name", "change"] ["name", "change"] (defScope (top 38)) := ⟨rfl, rfl, rfl, by decide +kernel, rfl, by decide +kernel, by decide +kernel⟩
theorem ok_checkChange (T : Txt K mg) : C8.Cal P w K mg base 3 "check_change" spCheckChange [] := by
  have G1 : C8.Cal P w K mg base 2 "is_name" spIsName [] := ok_isName T
  refine def_cal T.dCheckChange sc_chk (fun _ _ _ _ _ _ us hl => match us, hl with | [_, _], _ => rfl) (fun vs H Q E h => ?_) (fun f cdv A outer s H vs Q E hr h => ?_)
  · obtain ⟨z, v, rfl, _⟩ := h
    rfl
  · obtain ⟨z, v, rfl, hz, hv, k⟩ := h
    refine ⟨_, pss_cons (ps_if (pt_not (pt_val (C8.pe_c G1 hr (by decide) (by rfl) (pa_cons (pv 0) pa_nil)))) (pss_one ps_never) pss_nil)
      (pss_one (ps_if (PW.pt (pw_and (pt_cmpR op_isNotC (pv 1) pe_bl (nomark _)) (pw_and (pt_cmpR op_isNotC (pv 1) pe_bl (nomark _))
        (pw_and1 (pt_cmpR op_notIn_seq (pv 1) (pe_tup (pa_cons pe_str (pa_cons pe_str (pa_cons pe_str pa_nil)))) (by rfl)))))) (pss_one ps_never) pss_nil)), ?_⟩
    refine ⟨_, rfl, z, rfl, hz, fun H1 s1 => ⟨true, rfl, iteF ?_⟩⟩
    have fin : ∀ H2, Same H H2 → Q .non H2 := k
    rcases hv with h | h | h | h | h
    · subst h
      exact ⟨_, rfl, _, rfl, rfl, _, rfl, iteF (iteF (k H1 s1))⟩
    · subst h
      exact ⟨_, rfl, _, rfl, rfl, _, rfl, iteT ⟨_, rfl, _, rfl, rfl, _, rfl, iteF (iteF (k H1 s1))⟩⟩
    all_goals
      subst h
      refine ⟨_, rfl, _, rfl, rfl, _, rfl, iteT ⟨_, rfl, _, rfl, rfl, _, rfl, iteT ⟨_, rfl, by show 3 ≤ sizeLine; decide, fun p hp => ?_⟩⟩⟩
      exact ⟨p, _, rfl, .inr (SqT.of upd_same), rfl, rfl, _, rfl, ifF (by decide +kernel) (k _ (s1.trans (same_new hp)))⟩
/-! ### class Outcome -/
def spOutInit (C : Addr) : Sp := fun vs H Q _ => ∃ (x dx c : Addr) (kvs : List (Key × V)), vs = [.ref x, .ref c] ∧ H x = some (.ins C dx []) ∧ H c = some (.dK kvs) ∧ OutOk (valV kvs) ∧ kvs.length ≤ 1000 ∧
  ∀ (d : Addr) (kt : List (Key × V)) (H' : Hp), Off x H H' → H d = none → H' x = some (.ins C dx [("table", .ref d)]) → H' d = some (.dK kt) → (∀ k, valV kt k = valV kvs k) → kt.length ≤ kvs.length → Q .non H'
theorem sc_oi : FnScope ["self", "changes", "name"] ["self", "changes"] (defScope (inClass (top 39) 0)) := ⟨rfl, rfl, rfl, by decide +kernel, rfl, by decide +kernel, by decide +kernel⟩
theorem ok_outInit (T : Txt K mg) : C8.Mak P w K mg base 4 "Outcome" T.cO (spOutInit T.cO) [] := by
  have G1 : C8.Cal P w K mg base 3 "check_change" spCheckChange [] := ok_checkChange T
  refine ini_makD 2 1 (by simp) rfl T.O T.iO sc_oi (fun TT kV doc pm an cdv ct us its hu hi => ?_) (fun vs H Q E h => ?_) (fun f cdv A outer s H vs Q E hr h => ?_)
  · match us, hu, its, hi with
    | [_, _], _, [_], _ => exact ⟨_, rfl, rfl⟩
  · obtain ⟨x, dx, c, kvs, rfl, _⟩ := h
    rfl
  · obtain ⟨x, dx, c, kvs, rfl, hx, hc, ho, hl, k⟩ := h
    have hu := hu_of hr
    refine ⟨_, pss_cons (ps_fld (pv 0) pe_dnewK rfl) (pss_one (ps_if (pt_cmp (pc_notN (pv 1))) (pss_one (ps_lock (ps_for PassesOwn.never (by rfl) (pi_keys (pv 1)) (pg_name (i := 2) sc_oi.nd rfl (Or.inl rfl))
      (pss_cons (ps_expr (C8.pe_c G1 hr (by decide) (by rfl) (pa_cons (pv 2) (pa_cons (pe_dget hu (pv 1) (pv 2) (fun _ _ => rfl)) pa_nil))))
      (pss_one (ps_dput hu (pe_fld (pv 0) rfl) (pv 2) (pe_dget hu (pv 1) (pv 2) (fun _ _ => rfl)) rfl)))))) pss_nil)), ?_⟩
    intro d hd
    have xd : x ≠ d := ne_of_none hx hd
    have cd : c ≠ d := ne_of_none hc hd
    have xc : x ≠ c := ne_of hx hc (by intro z; cases z)
    refine ⟨_, rfl, x, T.cO, dx, _, rfl, by rw [upd_ne xd]; exact hx, T.O.cl, T.nO, by show 0 < 1000; decide, ?_⟩
    refine ⟨_, rfl, _, rfl, iteT ?_⟩
    refine ⟨c, .dK kvs, by rw [upd_ne xc.symm, upd_ne cd]; exact hc, trivial, fun od => ?_⟩
    refine ⟨_, rfl, c, od, rfl, .inl ⟨kvs, upd_same, ?_⟩⟩
    refine for_it (wk_keys (d := c) (o := od) (kvs := kvs)) (fun i σ H2 => i ≤ kvs.length ∧ ∃ y, σ = [some (.ref x), some (.ref c), y] ∧ H2 c = some (.frz od (.dK kvs)) ∧ H2 x = some (.ins T.cO dx [("table", .ref d)]) ∧
        (∃ kt, H2 d = some (.dK kt) ∧ kt.length ≤ i ∧ ∀ k : Key, valV kt k = if inK ((kvs.take i).map (·.1)) k = true then valV kvs k else none) ∧ ∀ a o, a ≠ x → a ≠ c → H a = some o → H2 a = some o)
      ⟨Nat.zero_le _, none, rfl, upd_same, by rw [upd_ne xc, upd_same]; rfl, ⟨[], by rw [upd_ne cd.symm, upd_ne xd.symm, upd_same], Nat.zero_le _, fun k => by simp [valV, inK]⟩,
        fun a o h1 h2 e => by rw [upd_ne h2, upd_ne h1, upd_ne (ne_of_none e hd)]; exact e⟩ (fun i σ H2 _ ⟨_, _, _, h2, _⟩ => h2) ?_ ?_
    · rintro i y σ H2 H2' hi ⟨_, y0, rfl, h2c, h2x, ⟨kt, h2d, hkl, hkv⟩, h2o⟩ ⟨rfl, kv, hkv1, rfl⟩
      obtain ⟨key, v0⟩ := kv
      obtain ⟨u, hu1⟩ := val_at hkv1
      obtain ⟨z, rfl, hz, hch⟩ := ho _ _ hu1
      refine ⟨_, rfl, _, rfl, _, rfl, c, u, rfl, .inl ⟨kvs, .inr z, .inr ⟨od, h2c⟩, rfl, hu1.symm⟩, z, u, rfl, hz, hch, fun H3 s3 => ?_⟩
      refine ⟨_, rfl, _, rfl, c, u, rfl, .inl ⟨kvs, .inr z, .inr ⟨od, s3 _ _ h2c⟩, rfl, hu1.symm⟩, ?_⟩
      refine ⟨_, rfl, x, T.cO, dx, _, _, rfl, s3 _ _ h2x, T.O.cl, T.nO, rfl, _, rfl, d, _, rfl, DPut.k (k := Sum.inr z) (s3 _ _ h2d) (by have := sizeLine_eq; omega), ?_⟩
      refine ⟨hi, _, rfl, by rw [upd_ne cd]; exact s3 _ _ h2c, by rw [upd_ne xd]; exact s3 _ _ h2x, ⟨_, upd_same, Nat.le_trans (DSub.putK_len _ _ _) (by omega), fun k => ?_⟩, fun a o h1 h2 e => ?_⟩
      · have et : (kvs.take (i + 1)).map (·.1) = (kvs.take i).map (·.1) ++ [(Sum.inr z : Key)] := by
          rw [List.take_add_one, hkv1, List.map_append]
          rfl
        rw [valV_put, et, inK_snoc, hkv k]
        by_cases ek : k = Sum.inr z
        · subst ek
          simp [hu1]
        · have ek2 : ¬ (Sum.inr z : Key) = k := fun q => ek q.symm
          simp [ek, ek2]
      · rw [upd_ne (ne_of_none e hd)]
        exact s3 _ _ (h2o a o h1 h2 e)
    · rintro σ H2 ⟨_, y0, rfl, h2c, h2x, ⟨kt, h2d, hkl, hkv⟩, h2o⟩
      refine ⟨h2c, k d kt _ (fun a o h1 e => ?_) hd ?_ ?_ (fun k' => ?_) hkl⟩
      · by_cases h2 : a = c
        · subst h2
          rw [hc] at e
          rw [upd_same]
          exact e
        · rw [upd_ne h2]
          exact h2o a o h1 h2 e
      · rw [upd_ne xc]
        exact h2x
      · rw [upd_ne cd.symm]
        exact h2d
      · rw [hkv k', List.take_length]
        exact val_all kvs k'
/-- an outcome at p, its table by f -/
def OutAt (C : Addr) (U : Addr → Prop) (H : Hp) (p : Addr) (f : Key → Option V) : Prop := ∃ dx d, At U H p (.ins C dx [("table", .ref d)]) ∧ DV U H d f 60
theorem OutAt.lq {C : Addr} {U U' : Addr → Prop} {H H' : Hp} {p : Addr} {f : Key → Option V} (h : OutAt C U H p f) (q : Lq U H U' H') : OutAt C U' H' p f := by
  obtain ⟨dx, d, a, b⟩ := h
  exact ⟨dx, d, q _ _ a, b.lq q⟩
def spOutNames (C : Addr) : Sp := fun vs H Q _ => ∃ (U : Addr → Prop) (p : Addr) (f : Key → Option V), vs = [.ref p] ∧ OutAt C U H p f ∧ OutOk f ∧
  ∀ (ys : List Str) (q : Addr) (H' : Hp), (∀ y ∈ ys, ∃ v, f (.inr y) = some v) → ys.length ≤ 60 → Same H H' → H q = none → H' q = some (.lst (ys.map V.str)) → Q (.ref q) H'
theorem sc_o1 {i : Nat} (h : i = 1 ∨ i = 2) : FnScope ["self"] ["self"] (defScope (inClass (top 39) i)) := by
  rcases h with h | h <;> subst h <;> exact ⟨rfl, rfl, rfl, by decide +kernel, rfl, by decide +kernel, by decide +kernel⟩
theorem ok_outNames (T : Txt K mg) : C8.Met P w K mg base 2 T.cO "names" (spOutNames T.cO) [] := by
  have G2 : C8.Cal P w K mg base 1 "ascending" (spAsc K) [] := ok_asc T
  refine mth_met T.O.cl T.oNames (sc_o1 (.inl rfl)) (fun _ _ _ _ _ _ us hl => match us, hl with | [_], _ => rfl) (fun vs H Q E h => ?_) (fun f cdv A outer s H vs Q E hr h => ?_)
  · obtain ⟨U, p, f, rfl, _⟩ := h
    rfl
  · obtain ⟨U, p, f, rfl, ⟨dx, d, hp, kvs, hd, hv, hl⟩, ho, k⟩ := h
    refine ⟨_, pss_one (ps_ret (C8.pe_c G2 hr (by decide) (by rfl) (pa_cons (pe_callTy (call_list_dK (by rfl)) (by rfl) (T.blt _ (by decide)) (by decide +kernel) (pa_cons (pe_fld (pv 0) rfl) pa_nil)) pa_nil))), ?_⟩
    obtain ⟨zs, e1, e2⟩ := keys_strs kvs fun k v e => by
      rw [hv] at e
      obtain ⟨z, h1, _⟩ := ho k v e
      exact ⟨z, h1⟩
    have el : zs.length = kvs.length := by
      have q := congrArg List.length e2
      rw [List.length_map, List.length_map] at q
      exact q.symm
    refine ⟨_, rfl, p, T.cO, dx, _, _, rfl, hp.2, T.O.cl, T.nO, rfl, d, kvs, rfl, hd.2, fun q hq => ?_⟩
    refine ⟨q, zs, rfl, SqL.of (by rw [upd_same, e1]), by omega, fun ys q2 H2 hm hl2 s2 hn hq2 => ?_⟩
    refine k ys q2 H2 (fun y hy => ?_) (by omega) ((same_new hq).trans s2) ((same_new hq).free hn) hq2
    have hk : (Sum.inr y : Key) ∈ kvs.map (·.1) := by
      rw [e2]
      exact List.mem_map.mpr ⟨y, hm y hy, rfl⟩
    obtain ⟨kv, hkv, ek⟩ := List.mem_map.mp hk
    obtain ⟨i, hi⟩ := List.mem_iff_getElem?.mp hkv
    obtain ⟨u, hu⟩ := val_at (k := kv.1) (v := kv.2) hi
    rw [ek] at hu
    exact ⟨u, by rw [← hv]; exact hu⟩
/-- a copy -/
def spOutCopy (C : Addr) : Sp := fun vs H Q _ => ∃ (U : Addr → Prop) (p : Addr) (f : Key → Option V), vs = [.ref p] ∧ OutAt C U H p f ∧ OutOk f ∧ Fresh U H ∧
  ∀ (q : Addr) (H' : Hp), Same H H' → H q = none → OutAt C U H' q f → Q (.ref q) H'
/-- Outcome(d): what stands behind -/
theorem out_made {C : Addr} {U : Addr → Prop} {H H' : Hp} {x dx d : Addr} {kt : List (Key × V)} {f : Key → Option V} (hf : Fresh U H) (nx : H x = none) (nd : H dx = none)
    (ho : Off x (upd (upd H dx (.own x)) x (.ins C dx [])) H') (hd : (upd (upd H dx (.own x)) x (.ins C dx [])) d = none) (h1 : H' x = some (.ins C dx [("table", .ref d)])) (h2 : H' d = some (.dK kt)) (hv : ∀ k, valV kt k = f k) (hl : kt.length ≤ 60) :
    Same H H' ∧ OutAt C U H' x f := by
  have s : Same H H' := fun b o e => by
    refine ho b o (ne_of_none e nx) ?_
    rw [upd_ne (ne_of_none e nx), upd_ne (ne_of_none e nd)]
    exact e
  refine ⟨s, dx, d, ⟨hf x nx, h1⟩, kt, ⟨hf d ?_, h2⟩, hv, hl⟩
  by_cases e1 : d = x
  · subst e1
    exact nx
  · rw [upd_ne e1] at hd
    by_cases e2 : d = dx
    · subst e2
      exact nd
    · rwa [upd_ne e2] at hd
theorem ok_outCopy (T : Txt K mg) : C8.Met P w K mg base 6 T.cO "copy" (spOutCopy T.cO) [] := by
  have G2 : C8.Mak P w K mg base 4 "Outcome" T.cO (spOutInit T.cO) [] := ok_outInit T
  refine mth_met T.O.cl T.oCopy (sc_o1 (.inr rfl)) (fun _ _ _ _ _ _ us hl => match us, hl with | [_], _ => rfl) (fun vs H Q E h => ?_) (fun f cdv A outer s H vs Q E hr h => ?_)
  · obtain ⟨U, p, f, rfl, _⟩ := h
    rfl
  · obtain ⟨U, p, f, rfl, ⟨dx, d, hp, kvs, hd, hv, hl⟩, ho, hf, k⟩ := h
    refine ⟨_, pss_one (ps_ret (C8.pe_mk G2 hr (by decide) (by rfl) (pa_cons (pe_fld (pv 0) rfl) pa_nil))), ?_⟩
    refine ⟨_, rfl, p, T.cO, dx, _, _, rfl, hp.2, T.O.cl, T.nO, rfl, ?_⟩
    intro x dx' nx nd ne
    have hd' : (upd (upd H dx' (.own x)) x (.ins T.cO dx' [])) d = some (.dK kvs) := by
      rw [upd_ne (ne_of_none hd.2 nx), upd_ne (ne_of_none hd.2 nd)]
      exact hd.2
    refine ⟨x, dx', d, kvs, rfl, upd_same, hd', (by intro k v e; rw [hv] at e; exact ho k v e), by omega, fun d2 kt H' hoff hd2 hx2 ht2 hv2 hl2 => ⟨rfl, ?_⟩⟩
    obtain ⟨s, o⟩ := out_made (f := f) hf nx nd hoff hd2 hx2 ht2 (fun k => by rw [hv2 k, hv k]) (by omega)
    exact k x H' s nx o
/-- outcome[name] -/
def gc (f : Key → Option V) (z : Str) : V := (f (.inr z)).getD .non
def spOutGet (C : Addr) : Sp := fun vs H Q _ => ∃ (U : Addr → Prop) (p : Addr) (f : Key → Option V) (z : Str), vs = [.ref p, .str z] ∧ OutAt C U H p f ∧ Q (gc f z) H
theorem sc_og : FnScope ["self", "name"] ["self", "name"] (defScope (inClass (top 39) 3)) := ⟨rfl, rfl, rfl, by decide +kernel, rfl, by decide +kernel, by decide +kernel⟩
theorem ok_outGet (T : Txt K mg) : Own P w K mg base 1 T.cO "__getitem__" (spOutGet T.cO) := by
  refine mth_own T.O.cl T.oGet sc_og (fun _ _ _ _ _ _ us hl => match us, hl with | [_, _], _ => rfl) (fun vs H Q E h => ?_) (fun f cdv A outer s H vs Q E hr h => ?_)
  · obtain ⟨U, p, f, z, rfl, _⟩ := h
    rfl
  · obtain ⟨U, p, f, z, rfl, ⟨dx, d, hp, kvs, hd, hv, hl⟩, k⟩ := h
    have hu := hu_of hr
    refine ⟨_, pss_one (ps_ret (pe_dget1 hu (pe_fld (pv 0) rfl) (pv 1) ⟨rfl, rfl, rfl, rfl⟩)), ?_⟩
    refine ⟨_, rfl, p, T.cO, dx, _, _, rfl, hp.2, T.O.cl, T.nO, rfl, d, rfl, .inl ⟨kvs, .inl hd.2⟩, _, rfl, valV kvs (.inr z), DGet.k (k := Sum.inr z) hd.2, ?_⟩
    rw [hv]
    exact k
end KK


set_option Elab.async false
set_option linter.all false
set_option maxRecDepth 100000
set_option maxHeartbeats 4000000
/-! actions -/
namespace KK
open PySem PySem.Spec PyProof.Rows L2
variable {P : Program} {w : World} {K : PySem.W.Frag} {mg : Str → Option Value} {base : Heap}
structure Act where
  need : Tree
  outs : List (Key → Option V)
structure ActOk (a : Act) : Prop where
  dp : a.need.depth ≤ 4
  sz : a.need.size ≤ 60
  ne : a.outs ≠ []
  ln : a.outs.length ≤ 60
  ok : ∀ f ∈ a.outs, OutOk f
def ActAt (T : Txt K mg) (U : Addr → Prop) (H : Hp) (p : Addr) (a : Act) : Prop := ∃ dx c l qs, At U H p (.ins T.cA dx [("need", .ref c), ("parts", .ref l)]) ∧ CondAt T.cC U H c a.need ∧
  At U H l (.lst (qs.map V.ref)) ∧ Paired (fun q f => OutAt T.cO U H q f) qs a.outs
theorem ActAt.lq {T : Txt K mg} {U U' : Addr → Prop} {H H' : Hp} {p : Addr} {a : Act} (h : ActAt T U H p a) (q : Lq U H U' H') : ActAt T U' H' p a := by
  obtain ⟨dx, c, l, qs, h1, h2, h3, h4⟩ := h
  exact ⟨dx, c, l, qs, q _ _ h1, h2.lq q, q _ _ h3, paired_mono h4 fun _ _ o => o.lq q⟩
/-- the region U without D -/
def Wo (U : Addr → Prop) (D : Addr) : Addr → Prop := fun a => U a ∧ a ≠ D
theorem fresh_wo {U : Addr → Prop} {H : Hp} {D : Addr} (h : Fresh U H) (hd : H D ≠ none) : Fresh (Wo U D) H := fun a ha => ⟨h a ha, fun e => hd (by rw [← e]; exact ha)⟩
theorem lq_off {U : Addr → Prop} {D : Addr} {H H' : Hp} (h : Off D H H') : Lq (Wo U D) H (Wo U D) H' := fun a o e => ⟨e.1, h a o e.1.2 e.2⟩
theorem lq_wo {U : Addr → Prop} {D : Addr} {H : Hp} : Lq (Wo U D) H U H := fun a o e => ⟨e.1.1, e.2⟩
/-- D is new: nothing of H stands there -/
theorem lq_out {U : Addr → Prop} {D : Addr} {H : Hp} (hd : H D = none) : Lq U H (Wo U D) H := lq_sub fun a u n => ⟨u, fun e => n (by rw [e]; exact hd)⟩
/-! ### class Action -/
def spActInit (T : Txt K mg) : Sp := fun vs H Q _ => ∃ (U : Addr → Prop) (x dx l : Addr) (v : V) (qs : List Addr) (outs : List (Key → Option V)), vs = [.ref x, v, .ref l] ∧ H x = some (.ins T.cA dx []) ∧ ¬ U x ∧ Fresh U H ∧
  SqL K H l (qs.map V.ref) ∧ Paired (fun q f => OutAt T.cO U H q f) qs outs ∧ outs ≠ [] ∧ outs.length ≤ 60 ∧ (∀ f ∈ outs, OutOk f) ∧
  ∀ (l' : Addr) (qs' : List Addr) (H' : Hp), Off x H H' → H l' = none → H' x = some (.ins T.cA dx [("need", v), ("parts", .ref l')]) → H' l' = some (.lst (qs'.map V.ref)) → Paired (fun q f => OutAt T.cO U H' q f) qs' outs → Q .non H'
theorem sc_ai : FnScope ["self", "need", "outcomes", "one"] ["self", "need", "outcomes"] (defScope (inClass (top 28) 0)) := ⟨rfl, rfl, rfl, by decide +kernel, rfl, by decide +kernel, by decide +kernel⟩
theorem ok_actInit (T : Txt K mg) : C8.Mak P w K mg base 7 "Action" T.cA (spActInit T) [] := by
  have G1 : C8.Met P w K mg base 6 T.cO "copy" (spOutCopy T.cO) [] := ok_outCopy T
  refine ini_mak T.A T.iA sc_ai (fun _ _ _ _ _ _ us hl => match us, hl with | [_, _, _], _ => rfl) (fun vs H Q E h => ?_) (fun f cdv A outer s H vs Q E hr h => ?_)
  · obtain ⟨U, x, dx, l, v, qs, outs, rfl, _⟩ := h
    rfl
  · obtain ⟨U, x, dx, l, v, qs, outs, rfl, hx, nU, hf, hl, hp, hne, hln, hok, k⟩ := h
    have elen : qs.length = outs.length := Paired.length hp
    refine ⟨_, pss_cons (ps_if (pt_cmpR op_eq (pe_callB call_len_seq (by rfl) (T.blt _ (by decide)) PySem.boot_len (pa_cons (pv 2) pa_nil)) pe_int (nomark _)) (pss_one ps_never) pss_nil)
      (pss_cons (ps_fld (pv 0) (pv 1) rfl)
      (pss_one (ps_fld (pv 0) (pe_lc (own := [("one", 3)]) (g := gName 3) (by rfl) sc_ai.nd (pi_list (pv 2)) (blkOk_by (own := [("one", 3)]) (N := ["self", "need", "outcomes", "one"]) (sc := defScope (inClass (top 28) 0)) (by decide +kernel))
          (fun _ _ _ _ _ => pg_name (i := 3) sc_ai.nd rfl (Or.inl rfl)) (fun _ _ _ _ _ => pts_nil)
          (fun _ _ _ _ _ => C8.pe_mt0 G1 hr (by decide) (pv 3))) rfl))), ?_⟩
    refine ⟨_, rfl, l, _, rfl, .inl hl, rfl, _, rfl, dF (fun e => ?_) ?_⟩
    · have e2 := V.int.inj e
      rw [List.length_map, elen] at e2
      exact hne (List.length_eq_zero_iff.mp (by omega))
    refine ⟨_, rfl, _, rfl, x, T.cA, dx, _, rfl, hx, T.A.cl, T.nA _ (by simp), by show 0 < 1000; decide, ?_⟩
    have lq0 : Off x H (upd H x (.ins T.cA dx [("need", v)])) := off_upd
    have hx1 : (upd H x (.ins T.cA dx [("need", v)])) x = some (.ins T.cA dx [("need", v)]) := upd_same
    have hl1 : SqL K (upd H x (.ins T.cA dx [("need", v)])) l (qs.map V.ref) := by
      rcases hl with (h | ⟨o, h⟩) | h
      · exact .inl (.inl (by rw [upd_ne (ne_of h hx (by intro z; cases z))]; exact h))
      · exact .inl (.inr ⟨o, by rw [upd_ne (ne_of h hx (by intro z; cases z))]; exact h⟩)
      · exact .inr h
    have hf1 : Fresh U (upd H x (.ins T.cA dx [("need", v)])) := fun a ha => hf a (by
      by_cases e : a = x
      · subst e
        rw [upd_same] at ha
        cases ha
      · rwa [upd_ne e] at ha)
    have gr1 : Lq U H U (upd H x (.ins T.cA dx [("need", v)])) := (gr_upd nU).lq
    have back : ∀ {a}, (upd H x (.ins T.cA dx [("need", v)])) a = none → H a = none := fun {a} ha => by
      by_cases e : a = x
      · subst e
        rw [upd_same] at ha
        cases ha
      · rwa [upd_ne e] at ha
    have hp1 : Paired (fun q f => OutAt T.cO U (upd H x (.ins T.cA dx [("need", v)])) q f) qs outs := paired_mono hp fun _ _ o => o.lq gr1
    have epf : putF ("need" : Str) v [] = [(("need" : Str), v)] := rfl
    rw [epf]
    generalize upd H x (.ins T.cA dx [("need", v)]) = H1 at lq0 hx1 hl1 hf1 gr1 back hp1 ⊢
    obtain ⟨zs, ez1, ez2, hz⟩ := paired_zip hp1
    have eq1 : qs.map V.ref = zs.map fun z => V.ref z.1 := by
      rw [← ez1, List.map_map]
      rfl
    rw [eq1] at hl1
    have zl : zs.length = outs.length := by rw [← ez2, List.length_map]
    refine ⟨_, rfl, l, rfl, ⟨_, hl1⟩, fun D hD => ?_⟩
    refine lc_allE (wk_list (zs := zs) (inj := fun z => V.ref z.1)) (fun z y H2 => ∃ q, y = .ref q ∧ OutAt T.cO (Wo U D) H2 q z.2) hD (by have := sizeLine_eq; omega) (fun _ => rfl) (fun H2 s2 => s2.seq hl1)
      (fun z y Ha Hb ho ⟨q, e, h⟩ => ⟨q, e, h.lq (lq_off ho)⟩) (fun z hm H2 s2 hD2 R hR => ?_) fun H2 ys s2 hD2 r => ?_
    · obtain ⟨dy, dd, hq, hd2⟩ := (hz z hm).lq (lq_same s2)
      have hzm : z.2 ∈ outs := by rw [← ez2]; exact List.mem_map.mpr ⟨z, hm, rfl⟩
      have hO : OutAt T.cO (Wo U D) H2 z.1 z.2 := (((hz z hm).lq (lq_out hD)).lq (lq_same s2))
      exact ⟨_, rfl, z.1, dy, _, rfl, hq.2, rfl, Wo U D, z.1, z.2, rfl, hO, hok _ hzm, fresh_wo (hf1.same s2) hD2, fun q H3 s3 hq3 o3 => hR _ H3 s3 ⟨q, rfl, o3⟩⟩
    · obtain ⟨qs', eqs, hp2⟩ := paired_refs (g := fun z : Addr × (Key → Option V) => z.2) r
      have hx2 := s2 _ _ hx1
      have Dx : D ≠ x := fun e => by subst e; rw [hx1] at hD; cases hD
      refine ⟨_, rfl, x, T.cA, dx, _, rfl, hx2, T.A.cl, T.nA _ (by simp), by show 1 < 1000; decide, ?_⟩
      refine k D qs' _ ((lq0.trans (off_same s2)).trans off_upd) (back hD) (by rw [upd_same]; rfl) (by rw [upd_ne Dx, hD2, eqs]) ?_
      rw [ez2] at hp2
      exact paired_mono hp2 fun q f o => (o.lq lq_wo).lq (gr_upd nU).lq
/-- what hands back a new action -/
def spNewAct (T : Txt K mg) (U : Addr → Prop) (a : Act) (H : Hp) (Q : VK) : Prop := ∀ (q : Addr) (H' : Hp), Same H H' → H q = none → ActAt T U H' q a → Q (.ref q) H'
def spActOutcome (T : Txt K mg) : Sp := fun vs H Q _ => ∃ (U : Addr → Prop) (p : Addr) (a : Act) (i : Nat) (f : Key → Option V), vs = [.ref p, .int (i : Nat)] ∧ ActAt T U H p a ∧ a.outs[i]? = some f ∧ a.outs.length ≤ 60 ∧ OutOk f ∧ Fresh U H ∧
  ∀ (q : Addr) (H' : Hp), Same H H' → H q = none → OutAt T.cO U H' q f → Q (.ref q) H'
theorem sc_ao : FnScope ["self", "index"] ["self", "index"] (defScope (inClass (top 28) 1)) := ⟨rfl, rfl, rfl, by decide +kernel, rfl, by decide +kernel, by decide +kernel⟩
theorem paired_ixl {α β : Type} {F : α → β → Prop} : ∀ {l : List α} {m : List β} {i : Nat} {b : β}, Paired F l m → m[i]? = some b → ∃ a, l[i]? = some a ∧ F a b := fun h e => paired_ix h e
theorem ok_actOutcome (T : Txt K mg) : C8.Met P w K mg base 7 T.cA "outcome" (spActOutcome T) [] := by
  have G1 : C8.Met P w K mg base 6 T.cO "copy" (spOutCopy T.cO) [] := ok_outCopy T
  refine mth_met T.A.cl T.aOutcome sc_ao (fun _ _ _ _ _ _ us hl => match us, hl with | [_, _], _ => rfl) (fun vs H Q E h => ?_) (fun f cdv A outer s H vs Q E hr h => ?_)
  · obtain ⟨U, p, a, i, f, rfl, _⟩ := h
    rfl
  · obtain ⟨U, p, a, i, f, rfl, ⟨dx, c, l, qs, hp, hc, hl, hq⟩, hi, hln, hok, hf, k⟩ := h
    refine ⟨_, pss_cons (ps_if (pt_not (pt_chain op_le op_lt pe_int (pv 1) (pe_callB call_len_seq (by rfl) (T.blt _ (by decide)) PySem.boot_len (pa_cons (pe_fld (pv 0) rfl) pa_nil)))) (pss_one ps_never) pss_nil)
      (pss_one (ps_ret (C8.pe_mt0 G1 hr (by decide) (pe_ix ix_list (pe_fld (pv 0) rfl) (pv 1) (fun _ _ => rfl))))), ?_⟩
    obtain ⟨q, hqi, hO⟩ := paired_ix hq hi
    have hlt : i < (qs.map V.ref).length := by
      rw [List.length_map]
      exact (List.getElem?_eq_some_iff.mp hqi).1
    refine ⟨_, rfl, _, _, rfl, rfl, _, rfl, dT (by omega) ?_⟩
    refine ⟨_, rfl, p, T.cA, dx, _, _, rfl, hp.2, T.A.cl, T.nA _ (by simp), rfl, l, _, rfl, .inl (SqL.of hl.2), _, _, rfl, rfl, _, rfl, ?_⟩
    refine ifF (by rw [decide_eq_true (by omega : (i : Int) < ((qs.map V.ref).length : Nat))]; rfl) ?_
    obtain ⟨dy, dd, hqq, hdd⟩ := id hO
    refine ⟨_, rfl, p, T.cA, dx, _, _, rfl, hp.2, T.A.cl, T.nA _ (by simp), rfl, _, rfl, l, _, _, .ref q, rfl, rfl, SqL.of hl.2, atI_nat (by rw [List.getElem?_map, hqi]; rfl), ?_⟩
    exact ⟨q, dy, _, rfl, hqq.2, rfl, U, q, f, rfl, hO, hok, hf, k⟩
def spActLen (T : Txt K mg) : Sp := fun vs H Q _ => ∃ (U : Addr → Prop) (p : Addr) (a : Act), vs = [.ref p] ∧ ActAt T U H p a ∧ Q (.int (a.outs.length : Nat)) H
theorem sc_al : FnScope ["self"] ["self"] (defScope (inClass (top 28) 2)) := ⟨rfl, rfl, rfl, by decide +kernel, rfl, by decide +kernel, by decide +kernel⟩
theorem ok_actLen (T : Txt K mg) : Own P w K mg base 1 T.cA "__len__" (spActLen T) := by
  refine mth_own T.A.cl T.aLen sc_al (fun _ _ _ _ _ _ us hl => match us, hl with | [_], _ => rfl) (fun vs H Q E h => ?_) (fun f cdv A outer s H vs Q E hr h => ?_)
  · obtain ⟨U, p, a, rfl, _⟩ := h
    rfl
  · obtain ⟨U, p, a, rfl, ⟨dx, c, l, qs, hp, hc, hl, hq⟩, k⟩ := h
    refine ⟨_, pss_one (ps_ret (pe_callB call_len_seq (by rfl) (T.blt _ (by decide)) PySem.boot_len (pa_cons (pe_fld (pv 0) rfl) pa_nil))), ?_⟩
    refine ⟨_, rfl, p, T.cA, dx, _, _, rfl, hp.2, T.A.cl, T.nA _ (by simp), rfl, l, _, rfl, .inl (SqL.of hl.2), ?_⟩
    have e : (qs.map V.ref).length = a.outs.length := by rw [List.length_map]; exact Paired.length hq
    show Q (.int ((qs.map V.ref).length : Nat)) H
    rw [e]
    exact k
/-- Action(need, outcomes): what stands behind -/
theorem act_made {T : Txt K mg} {U : Addr → Prop} {H H' : Hp} {x dx l' c : Addr} {qs' : List Addr} {a : Act} (hf : Fresh U H) (nx : H x = none) (nd : H dx = none) (hc : CondAt T.cC U H c a.need)
    (ho : Off x (upd (upd H dx (.own x)) x (.ins T.cA dx [])) H') (hl : (upd (upd H dx (.own x)) x (.ins T.cA dx [])) l' = none) (h1 : H' x = some (.ins T.cA dx [("need", .ref c), ("parts", .ref l')]))
    (h2 : H' l' = some (.lst (qs'.map V.ref))) (h3 : Paired (fun q f => OutAt T.cO (Wo U x) H' q f) qs' a.outs) : Same H H' ∧ ActAt T U H' x a := by
  have s : Same H H' := fun b o e => by
    refine ho b o (ne_of_none e nx) ?_
    rw [upd_ne (ne_of_none e nx), upd_ne (ne_of_none e nd)]
    exact e
  refine ⟨s, dx, c, l', qs', ⟨hf x nx, h1⟩, hc.lq (lq_same s), ⟨hf l' ?_, h2⟩, paired_mono h3 fun q f o => o.lq lq_wo⟩
  by_cases e1 : l' = x
  · subst e1
    exact nx
  · rw [upd_ne e1] at hl
    by_cases e2 : l' = dx
    · subst e2
      exact nd
    · rwa [upd_ne e2] at hl
/-- the heap with a new instance, seen from the region without it -/
theorem lq_made {U : Addr → Prop} {H : Hp} {x dx : Addr} {o1 o2 : HO} (nx : H x = none) (nd : H dx = none) : Lq U H (Wo U x) (upd (upd H dx o1) x o2) := fun a o e =>
  ⟨⟨e.1, ne_of_none e.2 nx⟩, by rw [upd_ne (ne_of_none e.2 nx), upd_ne (ne_of_none e.2 nd)]; exact e.2⟩
theorem fresh_made {U : Addr → Prop} {H : Hp} {x dx : Addr} {o1 o2 : HO} (hf : Fresh U H) : Fresh (Wo U x) (upd (upd H dx o1) x o2) := fun a e => by
  by_cases e1 : a = x
  · subst e1
    rw [upd_same] at e
    cases e
  · rw [upd_ne e1] at e
    by_cases e2 : a = dx
    · subst e2
      rw [upd_same] at e
      cases e
    · rw [upd_ne e2] at e
      exact ⟨hf a e, e1⟩
def spCopiedAction (T : Txt K mg) : Sp := fun vs H Q _ => ∃ (U : Addr → Prop) (p : Addr) (a : Act), vs = [.ref p] ∧ ActAt T U H p a ∧ ActOk a ∧ Fresh U H ∧ spNewAct T U a H Q
theorem sc_ca : FnScope ["action", "k"] ["action"] (defScope (top 42)) := ⟨rfl, rfl, rfl, by decide +kernel, rfl, by decide +kernel, by decide +kernel⟩
theorem ok_copiedAction (T : Txt K mg) : C8.Cal P w K mg base 9 "copied_action" (spCopiedAction T) [] := by
  have G1 : C8.Mak P w K mg base 7 "Action" T.cA (spActInit T) [] := ok_actInit T
  have G2 : C8.Met P w K mg base 7 T.cA "outcome" (spActOutcome T) [] := ok_actOutcome T
  have G3 : Own P w K mg base 1 T.cA "__len__" (spActLen T) := ok_actLen T
  refine def_cal T.dCopiedAction sc_ca (fun _ _ _ _ _ _ us hl => match us, hl with | [_], _ => rfl) (fun vs H Q E h => ?_) (fun f cdv A outer s H vs Q E hr h => ?_)
  · obtain ⟨U, p, a, rfl, _⟩ := h
    rfl
  · obtain ⟨U, p, a, rfl, hA, hok, hf, k⟩ := h
    refine ⟨_, pss_one (ps_ret (C8.pe_mk G1 hr (by decide) (by rfl) (pa_cons (pe_fld (pv 0) rfl) (pa_cons
      (pe_lc (own := [("k", 1)]) (g := gName 1) (by rfl) sc_ca.nd (pi_range1 (by rfl) (T.blt _ (by decide)) (pa_cons (pe_callB (call_lenO G3 hr (by decide)) (by rfl) (T.blt _ (by decide)) PySem.boot_len (pa_cons (pv 0) pa_nil)) pa_nil)) (blkOk_by (own := [("k", 1)]) (N := ["action", "k"]) (sc := defScope (top 42)) (by decide +kernel))
          (fun _ _ _ _ _ => pg_name (i := 1) sc_ca.nd rfl (Or.inl rfl)) (fun _ _ _ _ _ => pts_nil)
          (fun _ _ _ _ _ => C8.pe_mt G2 hr (by decide) (pv 0) (pa_cons (pv 1) pa_nil))) pa_nil)))), ?_⟩
    obtain ⟨dx, c, l, qs, hp, hc, hl, hq⟩ := id hA
    refine ⟨_, rfl, p, T.cA, dx, _, _, rfl, hp.2, T.A.cl, T.nA _ (by simp), rfl, ?_⟩
    refine ⟨_, rfl, p, dx, _, rfl, hp.2, U, p, a, rfl, hA, a.outs.length, rfl, by have := hok.ln; omega, _, rfl, by omega, by have := hok.ln; omega, fun D hD => ?_⟩
    have en : ((a.outs.length : Nat) : Int).toNat = a.outs.length := Int.toNat_natCast _
    rw [en]
    refine lc_allE (wk_range (n := a.outs.length)) (fun z y H2 => ∃ q, y = .ref q ∧ OutAt T.cO (Wo U D) H2 q (a.outs.getD z fun _ => none)) hD (by rw [List.length_range]; have := sizeLine_eq; have := hok.ln; omega) (fun _ => rfl) (fun H2 s2 => trivial)
      (fun z y Ha Hb ho ⟨q, e, h⟩ => ⟨q, e, h.lq (lq_off ho)⟩) (fun z hm H2 s2 hD2 R hR => ?_) fun H2 ys s2 hD2 r => ?_
    · have hz : z < a.outs.length := List.mem_range.mp hm
      have hz2 : a.outs[z]? = some a.outs[z] := List.getElem?_eq_getElem hz
      have eD : (a.outs.getD z fun _ => none) = a.outs[z] := by rw [List.getD_eq_getElem?_getD, hz2]; rfl
      have hA2 : ActAt T (Wo U D) H2 p a := (hA.lq (lq_out hD)).lq (lq_same s2)
      exact ⟨_, rfl, p, dx, _, rfl, (s2 _ _ hp.2), rfl, _, rfl, Wo U D, p, a, z, a.outs[z], rfl, hA2, hz2, hok.ln, hok.ok _ (List.getElem_mem _), fresh_wo (hf.same s2) hD2,
        fun q H3 s3 hq3 o3 => hR _ H3 s3 ⟨q, rfl, by rw [eD]; exact o3⟩⟩
    · obtain ⟨qs', eqs, hp2⟩ := paired_refs (g := fun z : Nat => a.outs.getD z fun _ => none) r
      have eo : (List.range a.outs.length).map (fun z : Nat => a.outs.getD z fun _ => none) = a.outs := by
        refine List.ext_getElem? fun i => ?_
        rw [List.getElem?_map]
        by_cases hi : i < a.outs.length
        · rw [List.getElem?_range hi, List.getElem?_eq_getElem hi]
          simp [List.getD_eq_getElem?_getD, hi]
        · rw [List.getElem?_eq_none (by rw [List.length_range]; omega), List.getElem?_eq_none (by omega)]
          rfl
      rw [eo] at hp2
      intro x dx' nx nd ne
      have hfr : Fresh U H2 := hf.same s2
      have lqm : Lq U H2 (Wo U x) (upd (upd H2 dx' (.own x)) x (.ins T.cA dx' [])) := lq_made nx nd
      have hD3 : (upd (upd H2 dx' (.own x)) x (.ins T.cA dx' [])) D = some (.lst (qs'.map V.ref)) := by
        rw [upd_ne (ne_of_none hD2 nx), upd_ne (ne_of_none hD2 nd), hD2, eqs]
      refine ⟨Wo U x, x, dx', D, .ref c, qs', a.outs, rfl, upd_same, fun h => h.2 rfl, fresh_made hfr, SqL.of hD3, paired_mono hp2 fun q f o => (o.lq lq_wo).lq lqm, hok.ne, hok.ln, hok.ok, fun l' qs2 H3 hoff hl' h3x h3l h3p => ⟨rfl, ?_⟩⟩
      obtain ⟨s3, hA3⟩ := act_made (a := a) hfr nx nd (hc.lq (lq_same s2)) hoff hl' h3x h3l h3p
      exact k x H3 (s2.trans s3) (s2.free nx) hA3
end KK


set_option Elab.async false
set_option linter.all false
set_option maxRecDepth 100000
set_option maxHeartbeats 4000000
/-! worlds: what they are; check_lists, __init__, the small methods -/
namespace KK
open PySem PySem.Spec PyProof.Rows L2
variable {P : Program} {w : World} {K : PySem.W.Frag} {mg : Str → Option Value} {base : Heap}
structure Wd where
  facts : List Str
  piles : List Str
  reserves : List Str
  acts : Str → Option Act
  sz : Nat
def Wd.seen (W : Wd) : List Str := W.facts ++ W.piles
def Wd.cnts (W : Wd) : List Str := W.piles ++ W.reserves
def ChOk (W : Wd) (f : Key → Option V) : Prop := ∀ k v, f k = some v → ∃ z, k = .inr z ∧ NameOk z ∧
  ((z ∈ W.facts ∧ (v = .bl true ∨ v = .bl false)) ∨ (z ∈ W.piles ∧ (v = .str "add" ∨ v = .str "take" ∨ v = .str "empty")) ∨ (z ∈ W.reserves ∧ (v = .str "add" ∨ v = .str "take")))
theorem ChOk.out {W : Wd} {f : Key → Option V} (h : ChOk W f) : OutOk f := fun k v e => by
  obtain ⟨z, e1, e2, e3⟩ := h k v e
  refine ⟨z, e1, e2, ?_⟩
  unfold ChgOk
  rcases e3 with ⟨_, q⟩ | ⟨_, q⟩ | ⟨_, q⟩
  · rcases q with q | q <;> simp [q]
  · rcases q with q | q | q <;> simp [q]
  · rcases q with q | q <;> simp [q]
structure ActW (W : Wd) (a : Act) : Prop where
  ok : ActOk a
  nm : ∀ z ∈ a.need.names, z ∈ W.facts ∨ z ∈ W.piles
  ch : ∀ f ∈ a.outs, ChOk W f
structure ListsOk (W : Wd) : Prop where
  nf : ∀ z ∈ W.facts, NameOk z
  np : ∀ z ∈ W.piles, NameOk z
  nr : ∀ z ∈ W.reserves, NameOk z
  nd : (W.facts ++ (W.piles ++ W.reserves)).Nodup
  lf : W.facts.length ≤ 10
  lp : W.piles.length ≤ 3
  lr : W.reserves.length ≤ 10
  ls : W.sz ≤ 40
structure WdOk (W : Wd) : Prop where
  ls : ListsOk W
  ac : ∀ z a, W.acts z = some a → NameOk z ∧ ActW W a
/-- a dict as it is written (st), or as it may be read -/
def Dk (st : Bool) (H : Hp) (d : Addr) (kvs : List (Key × V)) : Prop := H d = some (.dK kvs) ∨ (st = false ∧ ∃ o, H d = some (.frz o (.dK kvs)))
theorem Dk.rd {st : Bool} {H : Hp} {d : Addr} {kvs : List (Key × V)} (h : Dk st H d kvs) : Rd H d (.dK kvs) := h.imp id fun ⟨_, o, e⟩ => ⟨o, e⟩
theorem Dk.to {st : Bool} {H H' : Hp} {d : Addr} {kvs : List (Key × V)} (h : Dk st H d kvs) (k : ∀ o, H d = some o → H' d = some o) : Dk st H' d kvs := h.imp (k _) fun ⟨e, o, q⟩ => ⟨e, o, k _ q⟩
def TabOk (T : Txt K mg) (U : Addr → Prop) (H : Hp) (kvs : List (Key × V)) (acts : Str → Option Act) : Prop :=
  (∀ k v, valV kvs k = some v → ∃ z a p, k = .inr z ∧ v = .ref p ∧ acts z = some a ∧ ActAt T U H p a) ∧ ∀ z a, acts z = some a → (valV kvs (.inr z)).isSome = true
theorem TabOk.lq {T : Txt K mg} {U U' : Addr → Prop} {H H' : Hp} {kvs : List (Key × V)} {acts : Str → Option Act} (h : TabOk T U H kvs acts) (q : Lq U H U' H') : TabOk T U' H' kvs acts :=
  ⟨fun k v e => by
    obtain ⟨z, a, p, h1, h2, h3, h4⟩ := h.1 k v e
    exact ⟨z, a, p, h1, h2, h3, h4.lq q⟩, h.2⟩
theorem TabOk.get {T : Txt K mg} {U : Addr → Prop} {H : Hp} {kvs : List (Key × V)} {acts : Str → Option Act} (h : TabOk T U H kvs acts) {z : Str} {a : Act} (e : acts z = some a) : ∃ p, valV kvs (.inr z) = some (.ref p) ∧ ActAt T U H p a := by
  have q := h.2 z a e
  cases ev : valV kvs (.inr z) with
  | none => rw [ev] at q; cases q
  | some v =>
    obtain ⟨z', a', p, h1, h2, h3, h4⟩ := h.1 _ v ev
    cases h1
    rw [e] at h3
    cases h3
    exact ⟨p, by rw [h2], h4⟩
theorem TabOk.iff {T : Txt K mg} {U : Addr → Prop} {H : Hp} {kvs : List (Key × V)} {acts : Str → Option Act} (h : TabOk T U H kvs acts) (z : Str) : (valV kvs (.inr z)).isSome = (acts z).isSome := by
  cases e : acts z with
  | some a => rw [h.2 z a e]; rfl
  | none =>
    cases ev : valV kvs (.inr z) with
    | none => rfl
    | some v =>
      obtain ⟨z', a', p, h1, h2, h3, h4⟩ := h.1 _ v ev
      cases h1
      rw [e] at h3
      cases h3
theorem lq_wo2 {U U' : Addr → Prop} {H H' : Hp} {d : Addr} (q : Lq U H U' H') : Lq (Wo U d) H (Wo U' d) H' := fun a o e => ⟨⟨(q a o ⟨e.1.1, e.2⟩).1, e.1.2⟩, (q a o ⟨e.1.1, e.2⟩).2⟩
abbrev wflds (f i r d : Addr) : List (Str × V) := [("fact_names", .ref f), ("pile_names", .ref i), ("reserve_names", .ref r), ("table", .ref d)]
/-- a world at p, its table at d -/
def WoX (T : Txt K mg) (st : Bool) (U : Addr → Prop) (H : Hp) (p d : Addr) (W : Wd) : Prop := ∃ dx f i r kvs, At U H p (.ins T.cW dx (wflds f i r d)) ∧
  LAt U H f W.facts ∧ LAt U H i W.piles ∧ LAt U H r W.reserves ∧ U d ∧ Dk st H d kvs ∧ kvs.length ≤ W.sz ∧ TabOk T (Wo U d) H kvs W.acts
theorem WoX.lq {T : Txt K mg} {st : Bool} {U U' : Addr → Prop} {H H' : Hp} {p d : Addr} {W : Wd} (h : WoX T st U H p d W) (q : Lq U H U' H') : WoX T st U' H' p d W := by
  obtain ⟨dx, f, i, r, kvs, h1, h2, h3, h4, h5, h6, h7, h8⟩ := h
  refine ⟨dx, f, i, r, kvs, q _ _ h1, q _ _ h2, q _ _ h3, q _ _ h4, ?_, h6.to fun o e => (q d o ⟨h5, e⟩).2, h7, h8.lq (lq_wo2 q)⟩
  rcases h6 with e | ⟨_, o, e⟩
  · exact (q d _ ⟨h5, e⟩).1
  · exact (q d _ ⟨h5, e⟩).1
theorem WoX.weak {T : Txt K mg} {U : Addr → Prop} {H : Hp} {p d : Addr} {W : Wd} (h : WoX T true U H p d W) : WoX T false U H p d W := by
  obtain ⟨dx, f, i, r, kvs, h1, h2, h3, h4, h5, h6, h7, h8⟩ := h
  exact ⟨dx, f, i, r, kvs, h1, h2, h3, h4, h5, .inl (h6.elim id fun z => nomatch z.1), h7, h8⟩
/-- the table is locked -/
theorem WoX.lock {T : Txt K mg} {U : Addr → Prop} {H : Hp} {p d : Addr} {W : Wd} {kvs : List (Key × V)} {od : Obj} (h : WoX T true U H p d W) (hd : H d = some (.dK kvs)) : WoX T false U (upd H d (.frz od (.dK kvs))) p d W := by
  obtain ⟨dx, f, i, r, kvs', h1, h2, h3, h4, h5, h6, h7, h8⟩ := h
  have e : H d = some (.dK kvs') := h6.elim id fun z => nomatch z.1
  rw [hd] at e
  cases e
  refine ⟨dx, f, i, r, kvs, ⟨h1.1, ?_⟩, ⟨h2.1, ?_⟩, ⟨h3.1, ?_⟩, ⟨h4.1, ?_⟩, h5, .inr ⟨rfl, od, upd_same⟩, h7, h8.lq (lq_off off_upd)⟩
  · rw [upd_ne (ne_of h1.2 hd (by intro z; cases z))]
    exact h1.2
  · rw [upd_ne (ne_of h2.2 hd (by intro z; cases z))]
    exact h2.2
  · rw [upd_ne (ne_of h3.2 hd (by intro z; cases z))]
    exact h3.2
  · rw [upd_ne (ne_of h4.2 hd (by intro z; cases z))]
    exact h4.2
/-! ### a for over a list or a tuple -/
def iSeq (K : PySem.W.Frag) (tl : TE) : TI := fun σ H R => tl σ H fun x H1 => ∃ a, x = .ref a ∧ ((∃ xs, SqL K H1 a xs) ∧ R (Itl K a) H1 ∨ (∃ xs, SqT K H1 a xs) ∧ R (Itt K a) H1)
theorem pi_seq {X : Cx} {tg l : Expr} {tl : TE} (hl : PE X l tl) : PI X tg l (iSeq X.K tl) := by
  refine ⟨fun pins s σ H R I h => ?_⟩
  refine thn (hl.run pins s σ H _ I h) fun v s1 q0 => ?_
  obtain ⟨x, H1, I1, r1, a, ea, q1⟩ := q0
  subst ea
  obtain rfl : v = Value.ref a := r1
  have fp : ∀ b ∈ [s1.heap.objs.size], FpOk X pins H1 b := fun b hb => by
    rw [List.mem_singleton.mp hb]
    exact I1.fpOk (Nat.le_refl _) (I1.hok.fresh (Nat.le_refl _))
  rcases q1 with ⟨⟨xs, hq⟩, q⟩ | ⟨⟨xs, hq⟩, q⟩
  · obtain ⟨its, rv, p, _⟩ := I1.list hq
    exact wpAny_pyIter_list p.isList ⟨_, _, _, _, H1, rfl,
      I1.kept (t' := s1.toks) fun _ _ z => Heap.get?_push_of_some _ z,
      turn_list a _, ⟨_, Heap.get?_push_size _ rfl, rfl, rfl⟩, fp, q⟩
  · obtain ⟨its, rv, p, _⟩ := I1.tuple hq
    exact wpAny_pyIter_tuple p ⟨_, _, _, _, H1, rfl,
      I1.kept (t' := s1.toks) fun _ _ z => Heap.get?_push_of_some _ z,
      turn_tuple a _, ⟨_, Heap.get?_push_size _ rfl, rfl, rfl⟩, fp, q⟩
/-- a for over a list or a tuple of texts, which stand as in H0 -/
theorem for_seqT {K : PySem.W.Frag} {a : Addr} {zs : List Str} {H0 : Hp} {tl : TE} {g : TG} {tb : TS} {D : Ends} {σ : L2.St} {H : Hp} (h : SqE K H0 a zs)
    (htl : ∀ R : VK, R (.ref a) H → tl σ H R) (Pv : Nat → L2.St → Hp → Prop) (h0 : Pv 0 σ H) (hG : ∀ i σ H', Pv i σ H' → ∀ o, H0 a = some o → H' a = some o)
    (hs : ∀ i z σ H', zs[i]? = some z → Pv i σ H' → g (.str z) σ H' fun σ2 H2 => tb { D with nx := Pv (i + 1), ct := Pv (i + 1), bk := D.nx } σ2 H2) (hd : ∀ σ H', Pv zs.length σ H' → D.nx σ H') : tFor (iSeq K tl) g tb D σ H := by
  refine htl _ ⟨a, rfl, ?_⟩
  have k0 := hG 0 σ H h0
  rcases h with h | h
  · have st : ∀ i σ H', Pv i σ H' → SqL K H' a (zs.map V.str) := fun i σ H' p => by
      have k := hG i σ H' p
      rcases h with (h | ⟨o, h⟩) | h
      · exact .inl (.inl (k _ h))
      · exact .inl (.inr ⟨o, k _ h⟩)
      · exact .inr h
    refine .inl ⟨⟨_, st 0 σ H h0⟩, for_it (wk_list (zs := zs) (inj := V.str)) Pv h0 (fun i σ H' _ p => st i σ H' p) ?_ hd⟩
    rintro i x σ H1 H' hi p ⟨rfl, z, hz, rfl⟩
    exact hs i z σ _ hz p
  · have st : ∀ i σ H', Pv i σ H' → SqT K H' a (zs.map V.str) := fun i σ H' p => by
      have k := hG i σ H' p
      rcases h with (h | ⟨o, h⟩) | h
      · exact .inl (.inl (k _ h))
      · exact .inl (.inr ⟨o, k _ h⟩)
      · exact .inr h
    refine .inr ⟨⟨_, st 0 σ H h0⟩, for_it (wk_tup (zs := zs) (inj := V.str)) Pv h0 (fun i σ H' _ p => st i σ H' p) ?_ hd⟩
    rintro i x σ H1 H' hi p ⟨rfl, z, hz, rfl⟩
    exact hs i z σ _ hz p
theorem SqE.to {K : PySem.W.Frag} {H H' : Hp} {a : Addr} {zs : List Str} (h : SqE K H a zs) (k : ∀ o, H a = some o → H' a = some o) : SqE K H' a zs := by
  rcases h with h | h
  · rcases h with (h | ⟨o, h⟩) | h
    · exact .inl (.inl (.inl (k _ h)))
    · exact .inl (.inl (.inr ⟨o, k _ h⟩))
    · exact .inl (.inr h)
  · rcases h with (h | ⟨o, h⟩) | h
    · exact .inr (.inl (.inl (k _ h)))
    · exact .inr (.inl (.inr ⟨o, k _ h⟩))
    · exact .inr (.inr h)
/-! ### check_lists -/
def spCheckLists (K : PySem.W.Frag) : Sp := fun vs H Q _ => ∃ (l : Addr) (qs : List Addr) (zss : List (List Str)), vs = [.ref l] ∧ H l = some (.lst (qs.map V.ref)) ∧ Paired (fun q zs => SqE K H q zs) qs zss ∧
  (∀ z ∈ zss.flatten, NameOk z) ∧ zss.flatten.Nodup ∧ zss.flatten.length ≤ 1000 ∧ ∀ H', Same H H' → Q .non H'
theorem sc_cl : FnScope ["lists", "known", "some", "name"] ["lists"] (defScope (top 41)) := ⟨rfl, rfl, rfl, by decide +kernel, rfl, by decide +kernel, by decide +kernel⟩
theorem mem_fl {zss : List (List Str)} {i : Nat} {zs : List Str} (h : zss[i]? = some zs) {z : Str} (hz : z ∈ zs) : z ∈ zss.flatten := List.mem_flatten.mpr ⟨zs, List.mem_of_getElem? h, hz⟩
theorem fl_split {zss : List (List Str)} {i j : Nat} {zs : List Str} {z : Str} (h : zss[i]? = some zs) (hz : zs[j]? = some z) : ∃ r, zss.flatten = ((zss.take i).flatten ++ zs.take j) ++ z :: r := by
  have e1 : zss = zss.take i ++ zs :: zss.drop (i + 1) := by
    obtain ⟨hi, e⟩ := List.getElem?_eq_some_iff.mp h
    rw [← e, List.getElem_cons_drop, List.take_append_drop]
  have e2 : zs = zs.take j ++ z :: zs.drop (j + 1) := by
    obtain ⟨hj, e⟩ := List.getElem?_eq_some_iff.mp hz
    rw [← e, List.getElem_cons_drop, List.take_append_drop]
  refine ⟨zs.drop (j + 1) ++ (zss.drop (i + 1)).flatten, ?_⟩
  have e3 : zss.flatten = (zss.take i).flatten ++ (zs ++ (zss.drop (i + 1)).flatten) := by
    conv => lhs; rw [e1]
    rw [List.flatten_append, List.flatten_cons]
  rw [e3]
  conv => lhs; rw [e2]
  simp
theorem ok_checkLists (T : Txt K mg) : C8.Cal P w K mg base 3 "check_lists" (spCheckLists K) [] := by
  have G1 : C8.Cal P w K mg base 2 "is_name" spIsName [] := ok_isName T
  refine def_cal T.dCheckLists sc_cl (fun _ _ _ _ _ _ us hl => match us, hl with | [_], _ => rfl) (fun vs H Q E h => ?_) (fun f cdv A outer s H vs Q E hr h => ?_)
  · obtain ⟨l, qs, zss, rfl, _⟩ := h
    rfl
  · obtain ⟨l, qs, zss, rfl, hl, hp, hnm, hnd, hln, k⟩ := h
    have nd := sc_cl.nd
    refine ⟨_, pss_cons (ps_set (i := 1) nd rfl (.inl rfl) (pe_lst pa_nil))
      (pss_cons (ps_for PassesOwn.never (by rfl) (pi_list (pv 0)) (pg_name (i := 2) nd rfl (Or.inl rfl))
        (pss_one (ps_for PassesOwn.never (by rfl) (pi_seq (pv 2)) (pg_name (i := 3) nd rfl (Or.inl rfl))
          (pss_one (ps_if (pt_not (pt_val (C8.pe_c G1 hr (by decide) (by rfl) (pa_cons (pv 3) pa_nil)))) (pss_one ps_never) pss_nil)))))
      (pss_one (ps_for PassesOwn.never (by rfl) (pi_list (pv 0)) (pg_name (i := 2) nd rfl (Or.inl rfl))
        (pss_one (ps_for PassesOwn.never (by rfl) (pi_seq (pv 2)) (pg_name (i := 3) nd rfl (Or.inl rfl))
          (pss_cons (ps_if (pt_cmpR op_in_seq (pv 3) (pv 1) (by rfl)) (pss_one ps_never) pss_nil)
          (pss_one (ps_expr (pe_bm PySem.F.plainAttrs_list PySem.F.slot_list_append PySem.F.type_list_append mt_append (pv 1) (pa_cons (pv 3) pa_nil)))))))))), ?_⟩
    refine ⟨by show 0 ≤ sizeLine; decide, fun D hD => ?_⟩
    have s0 : Same H (upd H D (.lst [])) := same_new hD
    have hs := sizeLine_eq
    -- each is a name
    refine ⟨_, rfl, l, rfl, ⟨_, SqL.of (s0 _ _ hl)⟩, for_it (wk_list (zs := qs) (inj := V.ref)) (fun i σ H2 => ∃ y z, σ = [some (.ref l), some (.ref D), y, z] ∧ Same H H2 ∧ H2 D = some (.lst []))
      ⟨none, none, rfl, s0, upd_same⟩ (fun i σ H2 _ ⟨_, _, _, s2, _⟩ => SqL.of (s2 _ _ hl)) ?_ ?_⟩
    · rintro i y σ H2 H2' hi ⟨y0, z0, rfl, s2, hD2⟩ ⟨rfl, q, hq, rfl⟩
      obtain ⟨zs, hz, hE⟩ : ∃ zs, zss[i]? = some zs ∧ SqE K H q zs := by
        have hlt : i < zss.length := by
          rw [← Paired.length hp]
          exact (List.getElem?_eq_some_iff.mp hq).1
        obtain ⟨q', h1, h2⟩ := paired_ix hp (List.getElem?_eq_getElem hlt)
        rw [hq] at h1
        cases h1
        exact ⟨_, List.getElem?_eq_getElem hlt, h2⟩
      refine for_seqT (K := K) (a := q) (zs := zs) hE (fun R r => ⟨_, rfl, r⟩) (fun j σ H3 => ∃ z, σ = [some (.ref l), some (.ref D), some (.ref q), z] ∧ Same H H3 ∧ H3 D = some (.lst []))
        ⟨z0, rfl, s2, hD2⟩ (fun j σ H3 ⟨_, _, s3, _⟩ o e => s3 _ _ e) ?_ ?_
      · rintro j z σ H3 hzj ⟨z1, rfl, s3, hD3⟩
        exact ⟨_, rfl, z, rfl, hnm z (mem_fl hz (List.mem_of_getElem? hzj)), fun H4 s4 => ⟨true, rfl, iteF ⟨_, rfl, s3.trans s4, s4 _ _ hD3⟩⟩⟩
      · rintro σ H3 ⟨z1, rfl, s3, hD3⟩
        exact ⟨_, _, rfl, s3, hD3⟩
    · rintro σ H2 ⟨y0, z0, rfl, s2, hD2⟩
      -- no name stands twice
      refine ⟨_, rfl, l, rfl, ⟨_, SqL.of (s2 _ _ hl)⟩, for_it (wk_list (zs := qs) (inj := V.ref)) (fun i σ H3 => ∃ y z, σ = [some (.ref l), some (.ref D), y, z] ∧ Same H H3 ∧ H3 D = some (.lst ((zss.take i).flatten.map V.str)))
        ⟨y0, z0, rfl, s2, hD2⟩ (fun i σ H3 _ ⟨_, _, _, s3, _⟩ => SqL.of (s3 _ _ hl)) ?_ ?_⟩
      · rintro i y σ H3 H3' hi ⟨y1, z1, rfl, s3, hD3⟩ ⟨rfl, q, hq, rfl⟩
        obtain ⟨zs, hz, hE⟩ : ∃ zs, zss[i]? = some zs ∧ SqE K H q zs := by
          have hlt : i < zss.length := by
            rw [← Paired.length hp]
            exact (List.getElem?_eq_some_iff.mp hq).1
          obtain ⟨q', h1, h2⟩ := paired_ix hp (List.getElem?_eq_getElem hlt)
          rw [hq] at h1
          cases h1
          exact ⟨_, List.getElem?_eq_getElem hlt, h2⟩
        refine for_seqT (K := K) (a := q) (zs := zs) hE (fun R r => ⟨_, rfl, r⟩) (fun j σ H4 => ∃ z, σ = [some (.ref l), some (.ref D), some (.ref q), z] ∧ Same H H4 ∧ H4 D = some (.lst (((zss.take i).flatten ++ zs.take j).map V.str)))
          ⟨z1, rfl, s3, by rw [List.take_zero, List.append_nil]; exact hD3⟩ (fun j σ H4 ⟨_, _, s4, _⟩ o e => s4 _ _ e) ?_ ?_
        · rintro j z σ H4 hzj ⟨z2, rfl, s4, hD4⟩
          obtain ⟨r, er⟩ := fl_split hz hzj
          have hnot : z ∉ (zss.take i).flatten ++ zs.take j := fun hm => by
            rw [er] at hnd
            exact (List.nodup_append.mp hnd).2.2 z hm z List.mem_cons_self rfl
          have hlen : ((zss.take i).flatten ++ zs.take j).length ≤ 1000 := by
            have e := congrArg List.length er
            rw [List.length_append, List.length_cons] at e
            omega
          have et : zs.take (j + 1) = zs.take j ++ [z] := by
            rw [List.take_add_one, hzj]
            rfl
          refine ⟨_, rfl, _, rfl, D, _, rfl, .inl (SqL.of hD4), rfl, strs_flat _, _, rfl, ifF (by rw [inV_strs]; exact decide_eq_false hnot) ?_⟩
          refine ⟨_, rfl, .inl ⟨rfl, _, SqL.of hD4⟩, _, rfl, D, _, _, rfl, rfl, hD4, by rw [List.length_map]; omega, _, rfl, ?_, ?_⟩
          · exact Off.same ((off_same s4).trans off_upd) hD
          · rw [upd_same, et]
            simp
        · rintro σ H4 ⟨z2, rfl, s4, hD4⟩
          refine ⟨_, _, rfl, s4, ?_⟩
          rw [List.take_length] at hD4
          have et : zss.take (i + 1) = zss.take i ++ [zs] := by
            rw [List.take_add_one, hz]
            rfl
          rw [hD4, et, List.flatten_append]
          simp
      · rintro σ H3 ⟨y1, z1, rfl, s3, hD3⟩
        exact k H3 s3
/-! ### class World: __init__ -/
def spWorldInit (K : PySem.W.Frag) (C : Addr) : Sp := fun vs H Q _ => ∃ (W : Wd) (x dx f i r : Addr) (v : V) (kvs : List (Key × V)), vs = [.ref x, .ref f, .ref i, .ref r, v] ∧ H x = some (.ins C dx []) ∧
  SqE K H f W.facts ∧ SqE K H i W.piles ∧ SqE K H r W.reserves ∧ ListsOk W ∧ ((v = .non ∧ kvs = []) ∨ ∃ t, v = .ref t ∧ H t = some (.dK kvs) ∧ kvs.length ≤ 60 ∧ ∀ k u, valV kvs k = some u → ∃ z, k = .inr z) ∧
  ∀ (f' i' r' d : Addr) (kt : List (Key × V)) (H' : Hp), Off x H H' → H f' = none → H i' = none → H r' = none → H d = none → H' x = some (.ins C dx (wflds f' i' r' d)) →
    H' f' = some (.lst (W.facts.map V.str)) → H' i' = some (.lst (W.piles.map V.str)) → H' r' = some (.lst (W.reserves.map V.str)) → H' d = some (.dK kt) → (∀ k, valV kt k = valV kvs k) → kt.length ≤ kvs.length → Q .non H'
theorem sc_wi : FnScope ["self", "facts", "piles", "reserves", "table", "name"] ["self", "facts", "piles", "reserves", "table"] (defScope (inClass (top 45) 0)) := ⟨rfl, rfl, rfl, by decide +kernel, rfl, by decide +kernel, by decide +kernel⟩
theorem listsOk_flat {W : Wd} (h : ListsOk W) : (∀ z ∈ [W.facts, W.piles, W.reserves].flatten, NameOk z) ∧ [W.facts, W.piles, W.reserves].flatten.Nodup ∧ [W.facts, W.piles, W.reserves].flatten.length ≤ 1000 := by
  have e : [W.facts, W.piles, W.reserves].flatten = W.facts ++ (W.piles ++ W.reserves) := by simp
  rw [e]
  refine ⟨fun z hz => ?_, h.nd, ?_⟩
  · rcases List.mem_append.mp hz with q | q
    · exact h.nf z q
    · rcases List.mem_append.mp q with q | q
      · exact h.np z q
      · exact h.nr z q
  · have := h.lf
    have := h.lp
    have := h.lr
    rw [List.length_append, List.length_append]
    omega
theorem SqE.off {H H' : Hp} {a x C dx : Addr} {zs : List Str} {fs : List (Str × V)} (h : SqE K H a zs) (hx : H x = some (.ins C dx fs)) (o : Off x H H') : SqE K H' a zs := by
  rcases h with h | h
  · rcases h with (h | ⟨u, h⟩) | h
    · exact .inl (.inl (.inl (o _ _ (ne_of h hx (by intro z; cases z)) h)))
    · exact .inl (.inl (.inr ⟨u, o _ _ (ne_of h hx (by intro z; cases z)) h⟩))
    · exact .inl (.inr h)
  · rcases h with (h | ⟨u, h⟩) | h
    · exact .inr (.inl (.inl (o _ _ (ne_of h hx (by intro z; cases z)) h)))
    · exact .inr (.inl (.inr ⟨u, o _ _ (ne_of h hx (by intro z; cases z)) h⟩))
    · exact .inr (.inr h)
theorem Off.back {x a : Addr} {H H' : Hp} (o : Off x H H') (n : H' x ≠ none) (e : H' a = none) : H a = none := by
  cases q : H a with
  | none => rfl
  | some u =>
    by_cases ax : a = x
    · subst ax
      exact absurd e n
    · rw [o _ _ ax q] at e
      cases e
theorem some_ne {H : Hp} {a : Addr} {o : HO} (h : H a = some o) : H a ≠ none := by
  rw [h]
  exact fun z => nomatch z
theorem off_new {x D : Addr} {H : Hp} {o : HO} (h : H D = none) : Off x H (upd H D o) := off_same (same_new h)
/-- the body, whatever the table is -/
theorem run_worldInit (T : Txt K mg) {dvs : List V} (M : ∀ {k : Nat} {sp : Sp}, (∀ vs H Q E, sp vs H Q E → vs.length = 5) → (∀ (f : Addr) (cdv : Value) (A : Around) (outer : List Env) (s : Shared) (H : Hp) (vs : List V) (Q : VK) (E : XK),
      Room k (A.deeper (envOfC "World.__init__" (defScope (inClass (top 45) 0)) s.heap.objs.size f cdv)) → sp vs H Q E →
      ∃ t, PSs (cxOf C8.CX0 P w K mg base ["self", "facts", "piles", "reserves", "table", "name"] "World.__init__" (defScope (inClass (top 45) 0)) f cdv A outer s H E).nox (defBody (inClass (top 45) 0)) t ∧
        t { nx := fun _ H' => Q .non H', rt := Q } (start ["self", "facts", "piles", "reserves", "table", "name"] vs) H) → C8.Mak P w K mg base (k + 1) "World" T.cW sp dvs) :
    C8.Mak P w K mg base 4 "World" T.cW (spWorldInit K T.cW) dvs := by
  have G1 : C8.Cal P w K mg base 3 "check_lists" (spCheckLists K) [] := ok_checkLists T
  refine M (k := 3) (fun vs H Q E h => ?_) (fun f cdv A outer s H vs Q E hr h => ?_)
  · obtain ⟨W, x, dx, f, i, r, v, kvs, rfl, _⟩ := h
    rfl
  · obtain ⟨W, x, dx, pf, pi, pr, v, kvs, rfl, hx, hpf, hpi, hpr, hW, hv, k⟩ := h
    have hu := hu_of hr
    have nd := sc_wi.nd
    refine ⟨_, pss_cons (ps_expr (C8.pe_c G1 hr (by decide) (by rfl) (pa_cons (pe_lst (pa_cons (pv 1) (pa_cons (pv 2) (pa_cons (pv 3) pa_nil)))) pa_nil)))
      (pss_cons (ps_fld (pv 0) (pe_callTy call_list_of (by rfl) (T.blt _ (by decide)) (by decide +kernel) (pa_cons (pv 1) pa_nil)) rfl)
      (pss_cons (ps_fld (pv 0) (pe_callTy call_list_of (by rfl) (T.blt _ (by decide)) (by decide +kernel) (pa_cons (pv 2) pa_nil)) rfl)
      (pss_cons (ps_fld (pv 0) (pe_callTy call_list_of (by rfl) (T.blt _ (by decide)) (by decide +kernel) (pa_cons (pv 3) pa_nil)) rfl)
      (pss_cons (ps_fld (pv 0) pe_dnewK rfl)
      (pss_one (ps_if (pt_cmp (pc_notN (pv 4))) (pss_one (ps_fld (pv 0) (pe_lock (pe_dc (own := [("name", 5)]) (g := gName 5) (by rfl) nd (pi_keys (pv 4)) (blkOk_by (own := [("name", 5)]) (N := ["self", "facts", "piles", "reserves", "table", "name"]) (sc := defScope (inClass (top 45) 0)) (by decide +kernel))
          (fun _ _ _ _ _ => pg_name (i := 5) nd rfl (Or.inl rfl)) (fun _ _ _ _ _ => pts_nil) (fun _ _ _ _ _ => pv 5) (fun _ _ _ _ _ => pe_dget hu (pv 4) (pv 5) (fun _ _ => rfl)))) rfl)) pss_nil)))))), ?_⟩
    refine ⟨_, rfl, _, rfl, _, rfl, by show 3 ≤ sizeLine; decide, fun L hL => ?_⟩
    obtain ⟨f1, f2, f3⟩ := listsOk_flat hW
    have sL : Same H (upd H L (.lst [.ref pf, .ref pi, .ref pr])) := same_new hL
    refine ⟨L, [pf, pi, pr], [W.facts, W.piles, W.reserves], rfl, upd_same, .cons (hpf.same sL) (.cons (hpi.same sL) (.cons (hpr.same sL) .nil)), f1, f2, f3, fun H1 s1 => ?_⟩
    have s1' := sL.trans s1
    have xs1 := s1' _ _ hx
    -- self.fact_names
    refine ⟨_, rfl, pf, _, rfl, hpf.same s1', fun f' hf' => ?_⟩
    refine ⟨_, rfl, x, T.cW, dx, _, rfl, by rw [upd_ne (ne_of_none xs1 hf')]; exact xs1, T.W.cl, T.nW _ (by simp), by show 0 < 1000; decide, ?_⟩
    have e1 : putF ("fact_names" : Str) (.ref f') [] = [(("fact_names" : Str), V.ref f')] := rfl
    rw [e1]
    have o2 : Off x H (upd (upd H1 f' (.lst (W.facts.map V.str))) x (.ins T.cW dx [(("fact_names" : Str), V.ref f')])) := ((off_same s1').trans (off_new hf')).trans off_upd
    have hx2 : (upd (upd H1 f' (.lst (W.facts.map V.str))) x (.ins T.cW dx [(("fact_names" : Str), V.ref f')])) x = some (.ins T.cW dx [(("fact_names" : Str), V.ref f')]) := upd_same
    have xf : f' ≠ x := fun e => by subst e; rw [xs1] at hf'; cases hf'
    have hf2 : (upd (upd H1 f' (.lst (W.facts.map V.str))) x (.ins T.cW dx [(("fact_names" : Str), V.ref f')])) f' = some (.lst (W.facts.map V.str)) := by rw [upd_ne xf, upd_same]
    generalize upd (upd H1 f' (.lst (W.facts.map V.str))) x (.ins T.cW dx [(("fact_names" : Str), V.ref f')]) = H2 at o2 hx2 hf2 ⊢
    -- self.pile_names
    refine ⟨_, rfl, pi, _, rfl, hpi.off hx o2, fun i' hi' => ?_⟩
    have xi : i' ≠ x := fun e => by subst e; rw [hx2] at hi'; cases hi'
    refine ⟨_, rfl, x, T.cW, dx, _, rfl, by rw [upd_ne xi.symm]; exact hx2, T.W.cl, T.nW _ (by simp), by show 1 < 1000; decide, ?_⟩
    have e2 : putF ("pile_names" : Str) (.ref i') [(("fact_names" : Str), V.ref f')] = [(("fact_names" : Str), V.ref f'), (("pile_names" : Str), V.ref i')] := rfl
    rw [e2]
    have ni' : H i' = none := o2.back (some_ne hx2) hi'
    have hf3 : (upd (upd H2 i' (.lst (W.piles.map V.str))) x (.ins T.cW dx [(("fact_names" : Str), V.ref f'), (("pile_names" : Str), V.ref i')])) f' = some (.lst (W.facts.map V.str)) := by
      rw [upd_ne xf, upd_ne (ne_of_none hf2 hi')]
      exact hf2
    have hi3 : (upd (upd H2 i' (.lst (W.piles.map V.str))) x (.ins T.cW dx [(("fact_names" : Str), V.ref f'), (("pile_names" : Str), V.ref i')])) i' = some (.lst (W.piles.map V.str)) := by rw [upd_ne xi, upd_same]
    have hx3 : (upd (upd H2 i' (.lst (W.piles.map V.str))) x (.ins T.cW dx [(("fact_names" : Str), V.ref f'), (("pile_names" : Str), V.ref i')])) x = some (.ins T.cW dx [(("fact_names" : Str), V.ref f'), (("pile_names" : Str), V.ref i')]) := upd_same
    have o3 : Off x H (upd (upd H2 i' (.lst (W.piles.map V.str))) x (.ins T.cW dx [(("fact_names" : Str), V.ref f'), (("pile_names" : Str), V.ref i')])) := (o2.trans (off_new hi')).trans off_upd
    generalize upd (upd H2 i' (.lst (W.piles.map V.str))) x (.ins T.cW dx [(("fact_names" : Str), V.ref f'), (("pile_names" : Str), V.ref i')]) = H3 at o3 hx3 hf3 hi3 ⊢
    -- self.reserve_names
    refine ⟨_, rfl, pr, _, rfl, hpr.off hx o3, fun r' hr' => ?_⟩
    have xr : r' ≠ x := fun e => by subst e; rw [hx3] at hr'; cases hr'
    refine ⟨_, rfl, x, T.cW, dx, _, rfl, by rw [upd_ne xr.symm]; exact hx3, T.W.cl, T.nW _ (by simp), by show 2 < 1000; decide, ?_⟩
    have e3 : putF ("reserve_names" : Str) (.ref r') [(("fact_names" : Str), V.ref f'), (("pile_names" : Str), V.ref i')] = [(("fact_names" : Str), V.ref f'), (("pile_names" : Str), V.ref i'), (("reserve_names" : Str), V.ref r')] := rfl
    rw [e3]
    have nr' : H r' = none := o3.back (some_ne hx3) hr'
    have hf4 : (upd (upd H3 r' (.lst (W.reserves.map V.str))) x (.ins T.cW dx [(("fact_names" : Str), V.ref f'), (("pile_names" : Str), V.ref i'), (("reserve_names" : Str), V.ref r')])) f' = some (.lst (W.facts.map V.str)) := by
      rw [upd_ne xf, upd_ne (ne_of_none hf3 hr')]
      exact hf3
    have hi4 : (upd (upd H3 r' (.lst (W.reserves.map V.str))) x (.ins T.cW dx [(("fact_names" : Str), V.ref f'), (("pile_names" : Str), V.ref i'), (("reserve_names" : Str), V.ref r')])) i' = some (.lst (W.piles.map V.str)) := by
      rw [upd_ne xi, upd_ne (ne_of_none hi3 hr')]
      exact hi3
    have hr4 : (upd (upd H3 r' (.lst (W.reserves.map V.str))) x (.ins T.cW dx [(("fact_names" : Str), V.ref f'), (("pile_names" : Str), V.ref i'), (("reserve_names" : Str), V.ref r')])) r' = some (.lst (W.reserves.map V.str)) := by rw [upd_ne xr, upd_same]
    have hx4 : (upd (upd H3 r' (.lst (W.reserves.map V.str))) x (.ins T.cW dx [(("fact_names" : Str), V.ref f'), (("pile_names" : Str), V.ref i'), (("reserve_names" : Str), V.ref r')])) x = some (.ins T.cW dx [(("fact_names" : Str), V.ref f'), (("pile_names" : Str), V.ref i'), (("reserve_names" : Str), V.ref r')]) := upd_same
    have o4 : Off x H (upd (upd H3 r' (.lst (W.reserves.map V.str))) x (.ins T.cW dx [(("fact_names" : Str), V.ref f'), (("pile_names" : Str), V.ref i'), (("reserve_names" : Str), V.ref r')])) := (o3.trans (off_new hr')).trans off_upd
    generalize upd (upd H3 r' (.lst (W.reserves.map V.str))) x (.ins T.cW dx [(("fact_names" : Str), V.ref f'), (("pile_names" : Str), V.ref i'), (("reserve_names" : Str), V.ref r')]) = H4 at o4 hx4 hf4 hi4 hr4 ⊢
    -- self.table
    intro d0 hd0
    have xd : d0 ≠ x := fun e => by subst e; rw [hx4] at hd0; cases hd0
    have nd0 : H d0 = none := o4.back (some_ne hx4) hd0
    refine ⟨_, rfl, x, T.cW, dx, _, rfl, by rw [upd_ne xd.symm]; exact hx4, T.W.cl, T.nW _ (by simp), by show 3 < 1000; decide, ?_⟩
    have e4 : ∀ d : Addr, putF ("table" : Str) (.ref d) [(("fact_names" : Str), V.ref f'), (("pile_names" : Str), V.ref i'), (("reserve_names" : Str), V.ref r')] = wflds f' i' r' d := fun d => rfl
    rw [e4]
    have hf5 : (upd (upd H4 d0 (.dK [])) x (.ins T.cW dx (wflds f' i' r' d0))) f' = some (.lst (W.facts.map V.str)) := by
      rw [upd_ne xf, upd_ne (ne_of_none hf4 hd0)]
      exact hf4
    have hi5 : (upd (upd H4 d0 (.dK [])) x (.ins T.cW dx (wflds f' i' r' d0))) i' = some (.lst (W.piles.map V.str)) := by
      rw [upd_ne xi, upd_ne (ne_of_none hi4 hd0)]
      exact hi4
    have hr5 : (upd (upd H4 d0 (.dK [])) x (.ins T.cW dx (wflds f' i' r' d0))) r' = some (.lst (W.reserves.map V.str)) := by
      rw [upd_ne xr, upd_ne (ne_of_none hr4 hd0)]
      exact hr4
    have hd5 : (upd (upd H4 d0 (.dK [])) x (.ins T.cW dx (wflds f' i' r' d0))) d0 = some (.dK []) := by rw [upd_ne xd, upd_same]
    have hx5 : (upd (upd H4 d0 (.dK [])) x (.ins T.cW dx (wflds f' i' r' d0))) x = some (.ins T.cW dx (wflds f' i' r' d0)) := upd_same
    have o5 : Off x H (upd (upd H4 d0 (.dK [])) x (.ins T.cW dx (wflds f' i' r' d0))) := (o4.trans (off_new hd0)).trans off_upd
    generalize upd (upd H4 d0 (.dK [])) x (.ins T.cW dx (wflds f' i' r' d0)) = H5 at o5 hx5 hf5 hi5 hr5 hd5 ⊢
    have nf' : H f' = none := s1'.free hf'
    rcases hv with ⟨rfl, rfl⟩ | ⟨t, rfl, ht, hlen, hkey⟩
    · refine ⟨_, rfl, _, rfl, iteF ?_⟩
      exact k f' i' r' d0 [] H5 o5 nf' ni' nr' nd0 hx5 hf5 hi5 hr5 hd5 (fun _ => rfl) (Nat.le_refl _)
    · refine ⟨_, rfl, _, rfl, iteT ?_⟩
      have xt : t ≠ x := ne_of ht hx (by intro z; cases z)
      have ht5 : H5 t = some (.dK kvs) := o5 _ _ xt ht
      refine ⟨t, .dK kvs, ht5, trivial, fun od => ?_⟩
      have htl : (upd H5 t (.frz od (.dK kvs))) t = some (.frz od (.dK kvs)) := upd_same
      refine ⟨_, rfl, t, od, rfl, .inl ⟨kvs, htl, fun D hD => ?_⟩⟩
      refine dc_pure (wk_keys (d := t) (o := od) (kvs := kvs)) (fun kv => kv.1) (fun k => (valV kvs k).getD .non) (fun _ => true) hD (by have := sizeLine_eq; omega) (fun _ => rfl) (fun H6 s6 => s6 _ _ htl)
        (fun _ _ H6 _ R hR => hR H6 (Same.refl H6)) (fun kv _ _ H6 _ R hR => ⟨_, rfl, hR H6 (Same.refl H6)⟩) (fun kv hm _ H6 s6 R hR => ?_) fun H6 kt s6 hD6 hv6 hl6 => ?_
      · obtain ⟨j, hj⟩ := List.mem_iff_getElem?.mp hm
        obtain ⟨u, hu1⟩ := val_at (k := kv.1) (v := kv.2) hj
        have q := hR H6 (Same.refl H6)
        rw [hu1] at q
        exact ⟨_, rfl, _, rfl, t, u, rfl, .inl ⟨kvs, kv.1, .inr ⟨od, s6 _ _ htl⟩, rfl, hu1.symm⟩, q⟩
      · have hDt : D ≠ t := fun e => by subst e; rw [htl] at hD; cases hD
        have nD5 : H5 D = none := by rwa [upd_ne hDt] at hD
        have Dx : D ≠ x := fun e => by subst e; rw [hx5] at nD5; cases nD5
        have k6 : ∀ a o, a ≠ t → H5 a = some o → H6 a = some o := fun a o n e => s6 _ _ (by rw [upd_ne n]; exact e)
        have tx : x ≠ t := xt.symm
        have hx6 : (upd H6 t (.dK kvs)) x = some (.ins T.cW dx (wflds f' i' r' d0)) := by
          rw [upd_ne tx]
          exact k6 _ _ tx hx5
        refine ⟨s6 _ _ htl, _, rfl, x, T.cW, dx, _, rfl, hx6, T.W.cl, T.nW _ (by simp), by show 4 < 1000; decide, ?_⟩
        have e5 : putF ("table" : Str) (.ref D) (wflds f' i' r' d0) = wflds f' i' r' D := rfl
        rw [e5]
        have keep : ∀ a o, a ≠ x → H5 a = some o → (upd (upd H6 t (.dK kvs)) x (.ins T.cW dx (wflds f' i' r' D))) a = some o := fun a o n e => by
          rw [upd_ne n]
          by_cases e2 : a = t
          · subst e2
            rw [ht5] at e
            rw [upd_same]
            exact e
          · rw [upd_ne e2]
            exact k6 _ _ e2 e
        refine k f' i' r' D kt _ (fun a o n e => keep a o n (o5 a o n e)) nf' ni' nr' (o5.back (some_ne hx5) nD5) upd_same (keep _ _ xf hf5) (keep _ _ xi hi5) (keep _ _ xr hr5) ?_ (fun k' => ?_) hl6
        · rw [upd_ne Dx, upd_ne hDt]
          exact hD6
        · rw [hv6 k']
          have ef : kvs.filter (fun _ => true) = kvs := List.filter_eq_self.mpr fun _ _ => rfl
          rw [ef]
          have q := val_all kvs k'
          by_cases hin : inK (kvs.map fun kv => kv.1) k' = true
          · rw [if_pos hin]
            cases ev : valV kvs k' with
            | none => exact absurd (inK_iff.mp hin) (valV_not ev)
            | some u => rfl
          · rw [if_neg hin]
            rw [if_neg hin] at q
            exact q
theorem ok_worldInit5 (T : Txt K mg) : C8.Mak P w K mg base 4 "World" T.cW (spWorldInit K T.cW) [] := by
  obtain ⟨a, b, c, D⟩ := T.iW
  exact run_worldInit T fun {k sp} len hbody => ini_makD 5 4 (by simp) rfl T.W D sc_wi (fun TT kV doc pm an cdv ct us its hu hi => by
    match us, hu, its, hi with
    | [_, _, _, _, _], _, [_, _, _, _], _ => exact ⟨_, rfl, rfl⟩) len hbody
theorem ok_worldInit4 (T : Txt K mg) : C8.Mak P w K mg base 4 "World" T.cW (spWorldInit K T.cW) [.non] := by
  obtain ⟨a, b, c, D⟩ := T.iW
  exact run_worldInit T fun {k sp} len hbody => ini_makD 4 3 (by simp) rfl T.W D sc_wi (fun TT kV doc pm an cdv ct us its hu hi => by
    match us, hu, its, hi with
    | [_, _, _, _], _, [_, _, _, _], _ => exact ⟨_, rfl, rfl⟩) len hbody
end KK


set_option Elab.async false
set_option linter.all false
set_option maxRecDepth 100000
set_option maxHeartbeats 4000000
/-! worlds: the small methods, check_action, __setitem__ -/
namespace KK
open PySem PySem.Spec PyProof.Rows L2
variable {P : Program} {w : World} {K : PySem.W.Frag} {mg : Str → Option Value} {base : Heap}
theorem size60 {n : Nat} (h : n ≤ 1000) : n ≤ sizeLine := Nat.le_trans h (by decide)
/-! ### lists of names -/
/-- hands back a new list of these texts -/
def spNewL (g : Wd → List Str) (T : Txt K mg) : Sp := fun vs H Q _ => ∃ (U : Addr → Prop) (st : Bool) (p d : Addr) (W : Wd), vs = [.ref p] ∧ WoX T st U H p d W ∧ ListsOk W ∧
  ∀ q, H q = none → Q (.ref q) (upd H q (.lst ((g W).map V.str)))
theorem sc_w1 {i : Nat} (h : i = 1 ∨ i = 2 ∨ i = 4 ∨ i = 5 ∨ i = 7) : FnScope ["self"] ["self"] (defScope (inClass (top 45) i)) := by
  rcases h with h | h | h | h | h <;> subst h <;> exact ⟨rfl, rfl, rfl, by decide +kernel, rfl, by decide +kernel, by decide +kernel⟩
theorem ok_wFacts (T : Txt K mg) : C8.Met P w K mg base 1 T.cW "facts" (spNewL Wd.facts T) [] := by
  refine mth_met T.W.cl T.wFacts (sc_w1 (.inl rfl)) (fun _ _ _ _ _ _ us hl => match us, hl with | [_], _ => rfl) (fun vs H Q E h => ?_) (fun f cdv A outer s H vs Q E hr h => ?_)
  · obtain ⟨U, st, p, d, W, rfl, _⟩ := h
    rfl
  · obtain ⟨U, st, p, d, W, rfl, ⟨dx, f, i, r, kvs, h1, h2, h3, h4, _⟩, hW, k⟩ := h
    refine ⟨_, pss_one (ps_ret (pe_callTy call_list_of (by rfl) (T.blt _ (by decide)) (by decide +kernel) (pa_cons (pe_fld (pv 0) rfl) pa_nil))), ?_⟩
    exact ⟨_, rfl, p, T.cW, dx, _, _, rfl, h1.2, T.W.cl, T.nW _ (by simp), rfl, f, _, rfl, .inl (SqL.of h2.2), k⟩
theorem ok_wPiles (T : Txt K mg) : C8.Met P w K mg base 1 T.cW "piles" (spNewL Wd.piles T) [] := by
  refine mth_met T.W.cl T.wPiles (sc_w1 (.inr (.inl rfl))) (fun _ _ _ _ _ _ us hl => match us, hl with | [_], _ => rfl) (fun vs H Q E h => ?_) (fun f cdv A outer s H vs Q E hr h => ?_)
  · obtain ⟨U, st, p, d, W, rfl, _⟩ := h
    rfl
  · obtain ⟨U, st, p, d, W, rfl, ⟨dx, f, i, r, kvs, h1, h2, h3, h4, _⟩, hW, k⟩ := h
    refine ⟨_, pss_one (ps_ret (pe_callTy call_list_of (by rfl) (T.blt _ (by decide)) (by decide +kernel) (pa_cons (pe_fld (pv 0) rfl) pa_nil))), ?_⟩
    exact ⟨_, rfl, p, T.cW, dx, _, _, rfl, h1.2, T.W.cl, T.nW _ (by simp), rfl, i, _, rfl, .inl (SqL.of h3.2), k⟩
theorem ok_wSeen (T : Txt K mg) : C8.Met P w K mg base 1 T.cW "seen" (spNewL Wd.seen T) [] := by
  refine mth_met T.W.cl T.wSeen (sc_w1 (.inr (.inr (.inl rfl)))) (fun _ _ _ _ _ _ us hl => match us, hl with | [_], _ => rfl) (fun vs H Q E h => ?_) (fun f cdv A outer s H vs Q E hr h => ?_)
  · obtain ⟨U, st, p, d, W, rfl, _⟩ := h
    rfl
  · obtain ⟨U, st, p, d, W, rfl, ⟨dx, f, i, r, kvs, h1, h2, h3, h4, _⟩, hW, k⟩ := h
    refine ⟨_, pss_one (ps_ret (pe_op op_cat (pe_fld (pv 0) rfl) (pe_fld (pv 0) rfl))), ?_⟩
    refine ⟨_, rfl, p, T.cW, dx, _, _, rfl, h1.2, T.W.cl, T.nW _ (by simp), rfl, _, rfl, p, T.cW, dx, _, _, rfl, h1.2, T.W.cl, T.nW _ (by simp), rfl, f, i, _, _, rfl, rfl, h2.2, h3.2, ?_, fun q hq => ?_⟩
    · have := hW.lf
      have := hW.lp
      rw [List.length_map, List.length_map]
      exact size60 (by omega)
    · have e := k q hq
      unfold Wd.seen at e
      rw [List.map_append] at e
      exact e
theorem ok_wCounters (T : Txt K mg) : C8.Met P w K mg base 1 T.cW "counters" (spNewL Wd.cnts T) [] := by
  refine mth_met T.W.cl T.wCounters (sc_w1 (.inr (.inr (.inr (.inl rfl))))) (fun _ _ _ _ _ _ us hl => match us, hl with | [_], _ => rfl) (fun vs H Q E h => ?_) (fun f cdv A outer s H vs Q E hr h => ?_)
  · obtain ⟨U, st, p, d, W, rfl, _⟩ := h
    rfl
  · obtain ⟨U, st, p, d, W, rfl, ⟨dx, f, i, r, kvs, h1, h2, h3, h4, _⟩, hW, k⟩ := h
    refine ⟨_, pss_one (ps_ret (pe_op op_cat (pe_fld (pv 0) rfl) (pe_fld (pv 0) rfl))), ?_⟩
    refine ⟨_, rfl, p, T.cW, dx, _, _, rfl, h1.2, T.W.cl, T.nW _ (by simp), rfl, _, rfl, p, T.cW, dx, _, _, rfl, h1.2, T.W.cl, T.nW _ (by simp), rfl, i, r, _, _, rfl, rfl, h3.2, h4.2, ?_, fun q hq => ?_⟩
    · have := hW.lp
      have := hW.lr
      rw [List.length_map, List.length_map]
      exact size60 (by omega)
    · have e := k q hq
      unfold Wd.cnts at e
      rw [List.map_append] at e
      exact e
/-! ### copies -/
theorem TabOk.cong {T : Txt K mg} {U : Addr → Prop} {H : Hp} {kvs kt : List (Key × V)} {acts : Str → Option Act} (h : TabOk T U H kvs acts) (e : ∀ k, valV kt k = valV kvs k) : TabOk T U H kt acts :=
  ⟨fun k v q => h.1 k v (by rw [← e k]; exact q), fun z a q => by rw [e]; exact h.2 z a q⟩
/-- World(..): what stands behind -/
theorem world_made {T : Txt K mg} {U V : Addr → Prop} {H H' : Hp} {x dx f' i' r' d : Addr} {kt kvs : List (Key × L2.V)} {W : Wd} (hf : Fresh U H) (nx : H x = none) (nd : H dx = none) (ht : TabOk T V H kvs W.acts) (hV : ∀ a, V a → U a)
    (ho : Off x (upd (upd H dx (.own x)) x (.ins T.cW dx [])) H') (nf : (upd (upd H dx (.own x)) x (.ins T.cW dx [])) f' = none) (ni : (upd (upd H dx (.own x)) x (.ins T.cW dx [])) i' = none) (nr : (upd (upd H dx (.own x)) x (.ins T.cW dx [])) r' = none)
    (n4 : (upd (upd H dx (.own x)) x (.ins T.cW dx [])) d = none) (h1 : H' x = some (.ins T.cW dx (wflds f' i' r' d))) (h2 : H' f' = some (.lst (W.facts.map L2.V.str))) (h3 : H' i' = some (.lst (W.piles.map L2.V.str))) (h4 : H' r' = some (.lst (W.reserves.map L2.V.str)))
    (h5 : H' d = some (.dK kt)) (hv : ∀ k, valV kt k = valV kvs k) (hl : kt.length ≤ W.sz) : Same H H' ∧ H d = none ∧ WoX T true U H' x d W := by
  have s : Same H H' := fun b o e => by
    refine ho b o (ne_of_none e nx) ?_
    rw [upd_ne (ne_of_none e nx), upd_ne (ne_of_none e nd)]
    exact e
  have back : ∀ {a}, (upd (upd H dx (.own x)) x (.ins T.cW dx [])) a = none → H a = none := fun {a} ha => by
    by_cases e1 : a = x
    · subst e1
      exact nx
    · rw [upd_ne e1] at ha
      by_cases e2 : a = dx
      · subst e2
        exact nd
      · rwa [upd_ne e2] at ha
  refine ⟨s, back n4, dx, f', i', r', kt, ⟨hf x nx, h1⟩, ⟨hf _ (back nf), h2⟩, ⟨hf _ (back ni), h3⟩, ⟨hf _ (back nr), h4⟩, hf _ (back n4), .inl h5, hl, (ht.cong hv).lq fun a o e => ?_⟩
  exact ⟨⟨hV a e.1, ne_of_none e.2 (back n4)⟩, s a o e.2⟩
def spWCopy (T : Txt K mg) : Sp := fun vs H Q _ => ∃ (U : Addr → Prop) (p d : Addr) (W : Wd), vs = [.ref p] ∧ WoX T true U H p d W ∧ ListsOk W ∧ Fresh U H ∧
  ∀ (q d' : Addr) (H' : Hp), Same H H' → H q = none → H d' = none → WoX T true U H' q d' W → Q (.ref q) H'
theorem sc_sw : FnScope ["world"] ["world"] (defScope (top 44)) := ⟨rfl, rfl, rfl, by decide +kernel, rfl, by decide +kernel, by decide +kernel⟩
theorem ok_sameWorld (T : Txt K mg) : C8.Cal P w K mg base 6 "same_world" (spWCopy T) [] := by
  have G1 : C8.Mak P w K mg base 4 "World" T.cW (spWorldInit K T.cW) [] := ok_worldInit5 T
  refine def_cal T.dSameWorld sc_sw (fun _ _ _ _ _ _ us hl => match us, hl with | [_], _ => rfl) (fun vs H Q E h => ?_) (fun f cdv A outer s H vs Q E hr h => ?_)
  · obtain ⟨U, p, d, W, rfl, _⟩ := h
    rfl
  · obtain ⟨U, p, d, W, rfl, ⟨dx, f, i, r, kvs, h1, h2, h3, h4, h5, h6, h7, h8⟩, hW, hf, k⟩ := h
    refine ⟨_, pss_one (ps_ret (C8.pe_mk G1 hr (by decide) (by rfl) (pa_cons (pe_fld (pv 0) rfl) (pa_cons (pe_fld (pv 0) rfl) (pa_cons (pe_fld (pv 0) rfl) (pa_cons (pe_fld (pv 0) rfl) pa_nil)))))), ?_⟩
    refine ⟨_, rfl, p, T.cW, dx, _, _, rfl, h1.2, T.W.cl, T.nW _ (by simp), rfl, _, rfl, p, T.cW, dx, _, _, rfl, h1.2, T.W.cl, T.nW _ (by simp), rfl, _, rfl, p, T.cW, dx, _, _, rfl, h1.2, T.W.cl, T.nW _ (by simp), rfl,
      _, rfl, p, T.cW, dx, _, _, rfl, h1.2, T.W.cl, T.nW _ (by simp), rfl, ?_⟩
    intro x dx' nx nd ne
    have hd : H d = some (.dK kvs) := h6.elim id fun z => nomatch z.1
    have keep : ∀ {a o}, H a = some o → (upd (upd H dx' (.own x)) x (.ins T.cW dx' [])) a = some o := fun {a o} e => by
      rw [upd_ne (ne_of_none e nx), upd_ne (ne_of_none e nd)]
      exact e
    refine ⟨W, x, dx', f, i, r, .ref d, kvs, rfl, upd_same, .inl (SqL.of (keep h2.2)), .inl (SqL.of (keep h3.2)), .inl (SqL.of (keep h4.2)), hW, .inr ⟨d, rfl, keep hd, by have := hW.ls; omega, fun k' u e => ?_⟩, ?_⟩
    · obtain ⟨z, a, q, e1, _⟩ := h8.1 k' u e
      exact ⟨z, e1⟩
    · intro f' i' r' d' kt H' ho nf ni nr n4 g1 g2 g3 g4 g5 g6 g7
      obtain ⟨s, n5, wo⟩ := world_made (W := W) hf nx nd h8 (fun a h => h.1) ho nf ni nr n4 g1 g2 g3 g4 g5 g6 (by omega)
      exact ⟨rfl, k x d' H' s nx n5 wo⟩
theorem ok_wCopy (T : Txt K mg) : C8.Met P w K mg base 7 T.cW "copy" (spWCopy T) [] := by
  have G1 : C8.Cal P w K mg base 6 "same_world" (spWCopy T) [] := ok_sameWorld T
  refine mth_met T.W.cl T.wCopy (sc_w1 (.inr (.inr (.inr (.inr rfl))))) (fun _ _ _ _ _ _ us hl => match us, hl with | [_], _ => rfl) (fun vs H Q E h => ?_) (fun f cdv A outer s H vs Q E hr h => ?_)
  · obtain ⟨U, p, d, W, rfl, _⟩ := h
    rfl
  · obtain ⟨U, p, d, W, rfl, hw, hW, hf, k⟩ := h
    refine ⟨_, pss_one (ps_ret (C8.pe_c G1 hr (by decide) (by rfl) (pa_cons (pv 0) pa_nil))), ?_⟩
    exact ⟨_, rfl, U, p, d, W, rfl, hw, hW, hf, k⟩
/-! ### world[name], name in world -/
def spWGet (T : Txt K mg) : Sp := fun vs H Q _ => ∃ (U : Addr → Prop) (st : Bool) (p d : Addr) (W : Wd) (z : Str) (a : Act), vs = [.ref p, .str z] ∧ WoX T st U H p d W ∧ W.acts z = some a ∧
  ∀ q, ActAt T (Wo U d) H q a → Q (.ref q) H
theorem sc_wg {i : Nat} (h : i = 22 ∨ i = 26) : FnScope ["self", "name"] ["self", "name"] (defScope (inClass (top 45) i)) := by
  rcases h with h | h <;> subst h <;> exact ⟨rfl, rfl, rfl, by decide +kernel, rfl, by decide +kernel, by decide +kernel⟩
theorem dget_rd {H : Hp} {d : Addr} {kvs : List (Key × V)} {z : Str} {o : Option V} (h : Rd H d (.dK kvs)) (e : valV kvs (.inr z) = o) : DGet H d (.str z) o := .inl ⟨kvs, .inr z, h, rfl, e.symm⟩
theorem ok_wGet (T : Txt K mg) : Own P w K mg base 1 T.cW "__getitem__" (spWGet T) := by
  refine mth_own T.W.cl T.wGet (sc_wg (.inl rfl)) (fun _ _ _ _ _ _ us hl => match us, hl with | [_, _], _ => rfl) (fun vs H Q E h => ?_) (fun f cdv A outer s H vs Q E hr h => ?_)
  · obtain ⟨U, st, p, d, W, z, a, rfl, _⟩ := h
    rfl
  · obtain ⟨U, st, p, d, W, z, a, rfl, ⟨dx, f, i, r, kvs, h1, h2, h3, h4, h5, h6, h7, h8⟩, ha, k⟩ := h
    have hu := hu_of hr
    obtain ⟨q, hv, hq⟩ := h8.get ha
    refine ⟨_, pss_cons (ps_if (pt_cmp (pc_dnotin hu (pv 1) (pe_fld (pv 0) rfl))) (pss_one ps_never) pss_nil) (pss_one (ps_ret (pe_dget hu (pe_fld (pv 0) rfl) (pv 1) (fun _ _ => rfl)))), ?_⟩
    refine ⟨_, rfl, _, rfl, p, T.cW, dx, _, _, rfl, h1.2, T.W.cl, T.nW _ (by simp), rfl, d, _, rfl, dget_rd h6.rd hv, _, rfl, iteF ?_⟩
    exact ⟨_, rfl, p, T.cW, dx, _, _, rfl, h1.2, T.W.cl, T.nW _ (by simp), rfl, _, rfl, d, _, rfl, dget_rd h6.rd hv, k q hq⟩
def spWIn (T : Txt K mg) : Sp := fun vs H Q _ => ∃ (U : Addr → Prop) (st : Bool) (p d : Addr) (W : Wd) (z : Str), vs = [.ref p, .str z] ∧ WoX T st U H p d W ∧ Q (.bl (W.acts z).isSome) H
theorem ok_wIn (T : Txt K mg) : Own P w K mg base 1 T.cW "__contains__" (spWIn T) := by
  refine mth_own T.W.cl T.wIn (sc_wg (.inr rfl)) (fun _ _ _ _ _ _ us hl => match us, hl with | [_, _], _ => rfl) (fun vs H Q E h => ?_) (fun f cdv A outer s H vs Q E hr h => ?_)
  · obtain ⟨U, st, p, d, W, z, rfl, _⟩ := h
    rfl
  · obtain ⟨U, st, p, d, W, z, rfl, ⟨dx, f, i, r, kvs, h1, h2, h3, h4, h5, h6, h7, h8⟩, k⟩ := h
    have hu := hu_of hr
    refine ⟨_, pss_one (ps_ret (pe_cmp (pc_din hu (pv 1) (pe_fld (pv 0) rfl)))), ?_⟩
    refine ⟨_, rfl, _, rfl, p, T.cW, dx, _, _, rfl, h1.2, T.W.cl, T.nW _ (by simp), rfl, d, _, rfl, dget_rd h6.rd rfl, ?_⟩
    rw [h8.iff]
    exact k
/-! ### check_change_of, takes_reserve -/
def spWChk (T : Txt K mg) : Sp := fun vs H Q _ => ∃ (U : Addr → Prop) (st : Bool) (p d : Addr) (W : Wd) (z : Str) (v : V), vs = [.ref p, .str z, v] ∧ WoX T st U H p d W ∧ ListsOk W ∧
  ((z ∈ W.facts ∧ (v = .bl true ∨ v = .bl false)) ∨ (z ∈ W.piles ∧ (v = .str "add" ∨ v = .str "take" ∨ v = .str "empty")) ∨ (z ∈ W.reserves ∧ (v = .str "add" ∨ v = .str "take"))) ∧
  ∀ H', Same H H' → Q .non H'
theorem sc_wk : FnScope ["self", "name", "change"] ["self", "name", "change"] (defScope (inClass (top 45) 9)) := ⟨rfl, rfl, rfl, by decide +kernel, rfl, by decide +kernel, by decide +kernel⟩
theorem ListsOk.fp {W : Wd} (h : ListsOk W) {z : Str} (a : z ∈ W.facts) : z ∉ W.piles ∧ z ∉ W.reserves := by
  have q := (List.nodup_append.mp h.nd).2.2 z a
  exact ⟨fun m => q z (List.mem_append_left _ m) rfl, fun m => q z (List.mem_append_right _ m) rfl⟩
theorem ListsOk.pr {W : Wd} (h : ListsOk W) {z : Str} (a : z ∈ W.piles) : z ∉ W.reserves := by
  have q := (List.nodup_append.mp (List.nodup_append.mp h.nd).2.1).2.2 z a
  exact fun m => q z m rfl
theorem ok_wChk (T : Txt K mg) : C8.Met P w K mg base 1 T.cW "check_change_of" (spWChk T) [] := by
  refine mth_met T.W.cl T.wCheckChange sc_wk (fun _ _ _ _ _ _ us hl => match us, hl with | [_, _, _], _ => rfl) (fun vs H Q E h => ?_) (fun f cdv A outer s H vs Q E hr h => ?_)
  · obtain ⟨U, st, p, d, W, z, v, rfl, _⟩ := h
    rfl
  · obtain ⟨U, st, p, d, W, z, v, rfl, ⟨dx, f, i, r, kvs, h1, h2, h3, h4, h5, h6, h7, h8⟩, hW, hc, k⟩ := h
    refine ⟨_, pss_one (ps_if (pt_cmpR op_in_seq (pv 1) (pe_fld (pv 0) rfl) (by rfl))
        (pss_one (ps_if (PW.pt (pw_and (pt_cmpR op_isNotC (pv 2) pe_bl (nomark _)) (pw_and1 (pt_cmpR op_isNotC (pv 2) pe_bl (nomark _))))) (pss_one ps_never) pss_nil))
        (pss_one (ps_if (pt_cmpR op_in_seq (pv 1) (pe_fld (pv 0) rfl) (by rfl))
          (pss_one (ps_if (pt_cmpR op_notIn_seq (pv 2) (pe_tup (pa_cons pe_str (pa_cons pe_str (pa_cons pe_str pa_nil)))) (by rfl)) (pss_one ps_never) pss_nil))
          (pss_one (ps_if (pt_cmpR op_in_seq (pv 1) (pe_fld (pv 0) rfl) (by rfl))
            (pss_one (ps_if (pt_cmpR op_notIn_seq (pv 2) (pe_tup (pa_cons pe_str (pa_cons pe_str pa_nil))) (by rfl)) (pss_one ps_never) pss_nil))
            (pss_one ps_never)))))), ?_⟩
    refine ⟨_, rfl, _, rfl, p, T.cW, dx, _, _, rfl, h1.2, T.W.cl, T.nW _ (by simp), rfl, f, _, rfl, .inl (SqL.of h2.2), rfl, strs_flat _, _, rfl, ?_⟩
    rcases hc with ⟨hz, hv⟩ | ⟨hz, hv⟩ | ⟨hz, hv⟩
    · refine ifT (by rw [inV_strs]; exact decide_eq_true hz) ?_
      rcases hv with e | e
      · subst e
        exact ⟨_, rfl, _, rfl, rfl, _, rfl, iteF (iteF (k H (Same.refl H)))⟩
      · subst e
        exact ⟨_, rfl, _, rfl, rfl, _, rfl, iteT ⟨_, rfl, _, rfl, rfl, _, rfl, iteF (k H (Same.refl H))⟩⟩
    · refine ifF (by rw [inV_strs]; exact decide_eq_false fun m => (hW.fp m).1 hz) ?_
      refine ⟨_, rfl, _, rfl, p, T.cW, dx, _, _, rfl, h1.2, T.W.cl, T.nW _ (by simp), rfl, i, _, rfl, .inl (SqL.of h3.2), rfl, strs_flat _, _, rfl, ?_⟩
      refine ifT (by rw [inV_strs]; exact decide_eq_true hz) ?_
      refine ⟨_, rfl, by show 3 ≤ sizeLine; decide, fun pt hpt => ⟨pt, _, rfl, .inr (SqT.of upd_same), by rcases hv with e | e | e <;> subst e <;> rfl, rfl, _, rfl, ifF ?_ (k _ (same_new hpt))⟩⟩
      rcases hv with e | e | e <;> subst e <;> decide +kernel
    · refine ifF (by rw [inV_strs]; exact decide_eq_false fun m => (hW.fp m).2 hz) ?_
      refine ⟨_, rfl, _, rfl, p, T.cW, dx, _, _, rfl, h1.2, T.W.cl, T.nW _ (by simp), rfl, i, _, rfl, .inl (SqL.of h3.2), rfl, strs_flat _, _, rfl, ?_⟩
      refine ifF (by rw [inV_strs]; exact decide_eq_false fun m => hW.pr m hz) ?_
      refine ⟨_, rfl, _, rfl, p, T.cW, dx, _, _, rfl, h1.2, T.W.cl, T.nW _ (by simp), rfl, r, _, rfl, .inl (SqL.of h4.2), rfl, strs_flat _, _, rfl, ?_⟩
      refine ifT (by rw [inV_strs]; exact decide_eq_true hz) ?_
      refine ⟨_, rfl, by show 2 ≤ sizeLine; decide, fun pt hpt => ⟨pt, _, rfl, .inr (SqT.of upd_same), by rcases hv with e | e <;> subst e <;> rfl, rfl, _, rfl, ifF ?_ (k _ (same_new hpt))⟩⟩
      rcases hv with e | e <;> subst e <;> decide +kernel
/-- a comparison of an outcome's answer with a text -/
theorem gc_scal {f : Key → Option V} (h : OutOk f) (z s : Str) : scal (gc f z) (.str s) = true := by
  unfold gc
  cases e : f (.inr z) with
  | none => rfl
  | some v =>
    obtain ⟨_, _, _, hv⟩ := h _ v e
    show scal v (.str s) = true
    rcases hv with q | q | q | q | q <;> subst q <;> rfl
theorem gc_flat {f : Key → Option V} (h : OutOk f) (z : Str) : flatV (gc f z) = true := by
  unfold gc
  cases e : f (.inr z) with
  | none => rfl
  | some v =>
    obtain ⟨_, _, _, hv⟩ := h _ v e
    show flatV v = true
    rcases hv with q | q | q | q | q <;> subst q <;> rfl
theorem gc_plain {f : Key → Option V} (h : OutOk f) (z : Str) : plainV (gc f z) = true := by
  unfold gc
  cases e : f (.inr z) with
  | none => rfl
  | some v =>
    obtain ⟨_, _, _, hv⟩ := h _ v e
    show plainV v = true
    rcases hv with q | q | q | q | q <;> subst q <;> rfl
def resTake (W : Wd) (f : Key → Option V) : Bool := W.reserves.any fun z => decide (gc f z = .str "take")
def spWTakes (T : Txt K mg) : Sp := fun vs H Q _ => ∃ (U : Addr → Prop) (st : Bool) (p d o : Addr) (W : Wd) (f : Key → Option V), vs = [.ref p, .ref o] ∧ WoX T st U H p d W ∧ ListsOk W ∧ OutAt T.cO U H o f ∧ OutOk f ∧
  ∀ H', Same H H' → Q (.bl (resTake W f)) H'
theorem sc_wt : FnScope ["self", "outcome", "name"] ["self", "outcome"] (defScope (inClass (top 45) 10)) := ⟨rfl, rfl, rfl, by decide +kernel, rfl, by decide +kernel, by decide +kernel⟩
theorem ok_wTakes (T : Txt K mg) : C8.Met P w K mg base 3 T.cW "takes_reserve" (spWTakes T) [] := by
  have G1 : Own P w K mg base 1 T.cO "__getitem__" (spOutGet T.cO) := ok_outGet T
  refine mth_met T.W.cl T.wTakesReserve sc_wt (fun _ _ _ _ _ _ us hl => match us, hl with | [_, _], _ => rfl) (fun vs H Q E h => ?_) (fun f cdv A outer s H vs Q E hr h => ?_)
  · obtain ⟨U, st, p, d, o, W, f, rfl, _⟩ := h
    rfl
  · obtain ⟨U, st, p, d, o, W, g, rfl, ⟨dx, f, i, r, kvs, h1, h2, h3, h4, h5, h6, h7, h8⟩, hW, hO, hok, k⟩ := h
    have nd := sc_wt.nd
    refine ⟨_, pss_one (ps_ret (pe_callB (cr_any (by rfl)) (by rfl) (T.blt _ (by decide)) (by decide +kernel) (pa_cons
      (pe_lc (own := [("name", 2)]) (g := gName 2) (by rfl) nd (pi_list (pe_fld (pv 0) rfl)) (blkOk_by (own := [("name", 2)]) (N := ["self", "outcome", "name"]) (sc := defScope (inClass (top 45) 10)) (by decide +kernel))
          (fun _ _ _ _ _ => pg_name (i := 2) nd rfl (Or.inl rfl)) (fun _ _ _ _ _ => pts_nil)
          (fun _ _ _ _ _ => pe_cmpR op_eq (pe_getO G1 hr (by decide) (pv 1) (pv 2)) pe_str (nomark _))) pa_nil))), ?_⟩
    refine ⟨_, rfl, p, T.cW, dx, _, _, rfl, h1.2, T.W.cl, T.nW _ (by simp), rfl, r, rfl, ⟨_, SqL.of h4.2⟩, fun D hD => ?_⟩
    refine lc_all (wk_list (zs := W.reserves) (inj := V.str)) (fun z => .bl (decide (gc g z = .str "take"))) hD (by have := hW.lr; have := sizeLine_eq; omega) (fun _ => rfl) (fun H1 s1 => SqL.of (s1 _ _ h4.2))
      (fun z _ H1 s1 R hR => ?_) fun H1 s1 hD1 => ?_
    · have hO1 := hO.lq (lq_same s1)
      obtain ⟨dy, dd, hoo, _⟩ := id hO1
      exact ⟨_, rfl, _, rfl, o, dy, _, rfl, hoo.2, U, o, g, z, rfl, hO1, gc_scal hok z _, hR H1 (Same.refl H1)⟩
    · refine ⟨D, W.reserves.map fun z => decide (gc g z = .str "take"), rfl, SqL.of (by rw [hD1, List.map_map]; rfl), ?_⟩
      have e : ((W.reserves.map fun z => decide (gc g z = .str "take")).any id) = resTake W g := by
        rw [List.any_map]
        rfl
      rw [e]
      exact k H1 s1
end KK


set_option Elab.async false
set_option linter.all false
set_option maxRecDepth 100000
set_option maxHeartbeats 4000000
/-! worlds: check_action, __setitem__ -/
namespace KK
open PySem PySem.Spec PyProof.Rows L2
variable {P : Program} {w : World} {K : PySem.W.Frag} {mg : Str → Option Value} {base : Heap}
def spWChkAct (T : Txt K mg) : Sp := fun vs H Q _ => ∃ (U : Addr → Prop) (st : Bool) (p d q : Addr) (W : Wd) (z : Str) (a : Act), vs = [.ref p, .str z, .ref q] ∧ WoX T st U H p d W ∧ ListsOk W ∧ NameOk z ∧ ActAt T U H q a ∧ ActW W a ∧
  (∃ f ∈ a.outs, resTake W f = false) ∧ Fresh U H ∧ ∀ H', Same H H' → Q .non H'
theorem sc_wca : FnScope ["self", "name", "action", "other", "outcomes", "outcome", "k"] ["self", "name", "action"] (defScope (inClass (top 45) 11)) := ⟨rfl, rfl, rfl, by decide +kernel, rfl, by decide +kernel, by decide +kernel⟩
/-- all the outcomes of an action, each at its place: the copies of a comprehension over range(len(action)) -/
theorem outs_range (outs : List (Key → Option V)) : (List.range outs.length).map (fun z : Nat => outs.getD z fun _ => none) = outs := by
  refine List.ext_getElem? fun i => ?_
  rw [List.getElem?_map]
  by_cases hi : i < outs.length
  · rw [List.getElem?_range hi, List.getElem?_eq_getElem hi]
    simp [List.getD_eq_getElem?_getD, hi]
  · rw [List.getElem?_eq_none (by rw [List.length_range]; omega), List.getElem?_eq_none (by omega)]
    rfl
theorem ok_wChkAct (T : Txt K mg) : C8.Met P w K mg base 8 T.cW "check_action" (spWChkAct T) [] := by
  have G1 : C8.Cal P w K mg base 2 "is_name" spIsName [] := ok_isName T
  have G2 : C8.Met P w K mg base 6 T.cC "names" (spCondNames T.cC) [] := ok_condNames T
  have G3 : C8.Met P w K mg base 7 T.cA "outcome" (spActOutcome T) [] := ok_actOutcome T
  have G4 : Own P w K mg base 1 T.cA "__len__" (spActLen T) := ok_actLen T
  have G5 : C8.Met P w K mg base 2 T.cO "names" (spOutNames T.cO) [] := ok_outNames T
  have G6 : C8.Met P w K mg base 1 T.cW "check_change_of" (spWChk T) [] := ok_wChk T
  have G7 : C8.Met P w K mg base 3 T.cW "takes_reserve" (spWTakes T) [] := ok_wTakes T
  have G8 : Own P w K mg base 1 T.cO "__getitem__" (spOutGet T.cO) := ok_outGet T
  refine mth_met T.W.cl T.wCheckAction sc_wca (fun _ _ _ _ _ _ us hl => match us, hl with | [_, _, _], _ => rfl) (fun vs H Q E h => ?_) (fun f cdv A outer s H vs Q E hr h => ?_)
  · obtain ⟨U, st, p, d, q, W, z, a, rfl, _⟩ := h
    rfl
  · obtain ⟨U, st, p, d, q, W, z, a, rfl, hw, hW, hz, hA, hAW, ⟨fr, hfr, hfree⟩, hf, k⟩ := h
    have nd := sc_wca.nd
    have hs := sizeLine_eq
    refine ⟨_, pss_cons (ps_if (pt_not (pt_val (C8.pe_c G1 hr (by decide) (by rfl) (pa_cons (pv 1) pa_nil)))) (pss_one ps_never) pss_nil)
      (pss_cons (ps_for PassesOwn.never (by rfl) (pi_list (C8.pe_mt0 G2 hr (by decide) (pe_fld (pv 2) rfl))) (pg_name (i := 3) nd rfl (Or.inl rfl))
        (pss_one (ps_if (PW.pt (pw_and (pt_cmpR op_notIn_seq (pv 3) (pe_fld (pv 0) rfl) (by rfl)) (pw_and1 (pt_cmpR op_notIn_seq (pv 3) (pe_fld (pv 0) rfl) (by rfl))))) (pss_one ps_never) pss_nil)))
      (pss_cons (ps_setLc (i := 4) (own := [("k", 6)]) (g := gName 6) (by rfl) nd rfl rfl (sw_true rfl rfl rfl (by decide +kernel))
          (pi_range1 (by rfl) (T.blt _ (by decide)) (pa_cons (pe_callB (call_lenO G4 hr (by decide)) (by rfl) (T.blt _ (by decide)) PySem.boot_len (pa_cons (pv 2) pa_nil)) pa_nil)) (blkOk_by (own := [("k", 6)]) (N := ["self", "name", "action", "other", "outcomes", "outcome", "k"]) (sc := defScope (inClass (top 45) 11)) (by decide +kernel))
          (fun _ _ _ _ _ => pg_name (i := 6) nd rfl (Or.inl rfl)) (fun _ _ _ _ _ => pts_nil) (fun _ _ _ _ _ => C8.pe_mt G3 hr (by decide) (pv 2) (pa_cons (pv 6) pa_nil)))
      (pss_cons (ps_for PassesOwn.never (by rfl) (pi_list (pv 4)) (pg_name (i := 5) nd rfl (Or.inl rfl))
        (pss_one (ps_for PassesOwn.never (by rfl) (pi_list (C8.pe_mt0 G5 hr (by decide) (pv 5))) (pg_name (i := 3) nd rfl (Or.inl rfl))
          (pss_one (ps_expr (C8.pe_mt G6 hr (by decide) (pv 0) (pa_cons (pv 3) (pa_cons (pe_getO G8 hr (by decide) (pv 5) (pv 3)) pa_nil))))))))
      (pss_one (ps_if (pt_val (pe_callB (cr_all (by rfl)) (by rfl) (T.blt _ (by decide)) (by decide +kernel) (pa_cons
        (pe_lc (own := [("outcome", 5)]) (g := gName 5) (by rfl) nd (pi_list (pv 4)) (blkOk_by (own := [("outcome", 5)]) (N := ["self", "name", "action", "other", "outcomes", "outcome", "k"]) (sc := defScope (inClass (top 45) 11)) (by decide +kernel))
          (fun _ _ _ _ _ => pg_name (i := 5) nd rfl (Or.inl rfl)) (fun _ _ _ _ _ => pts_nil) (fun _ _ _ _ _ => C8.pe_mt G7 hr (by decide) (pv 0) (pa_cons (pv 5) pa_nil))) pa_nil))) (pss_one ps_never) pss_nil))))), ?_⟩
    have hok := hAW.ok
    refine ⟨_, rfl, z, rfl, hz, fun H1 s1 => ⟨true, rfl, iteF ?_⟩⟩
    -- the names of the condition
    obtain ⟨dx, c, l, qs, a1, a2, a3, a4⟩ := id (hA.lq (lq_same s1))
    obtain ⟨dw, pf, pi, pr, kvs, w1, w2, w3, w4, w5, w6, w7, w8⟩ := id (hw.lq (lq_same s1))
    obtain ⟨dc, vc, c1, c2⟩ := id a2
    refine ⟨_, rfl, q, T.cA, dx, _, _, rfl, a1.2, T.A.cl, T.nA _ (by simp), rfl, c, dc, _, rfl, c1.2, rfl, U, c, a.need, rfl, a2, hok.dp, hok.sz, fun ys yl H2 hm hyl s2 hyn hy => ?_⟩
    refine ⟨yl, rfl, ⟨_, SqL.of hy⟩, for_it (wk_list (zs := ys) (inj := V.str)) (fun i σ H3 => ∃ y, σ = [some (.ref p), some (.str z), some (.ref q), y, none, none, none] ∧ Same H2 H3)
      ⟨none, rfl, Same.refl _⟩ (fun i σ H3 _ ⟨_, _, s3⟩ => SqL.of (s3 _ _ hy)) ?_ ?_⟩
    · rintro i y σ H3 H3' hi ⟨y0, rfl, s3⟩ ⟨rfl, x, hx, rfl⟩
      have s13 := s2.trans s3
      refine ⟨_, rfl, _, rfl, p, T.cW, dw, _, _, rfl, s13 _ _ w1.2, T.W.cl, T.nW _ (by simp), rfl, pf, _, rfl, .inl (SqL.of (s13 _ _ w2.2)), rfl, strs_flat _, _, rfl, ?_⟩
      rcases hAW.nm x (hm x (List.mem_of_getElem? hx)) with h | h
      · refine ifF (by show (!inV (.str x) (W.facts.map V.str)) = false; rw [inV_strs, decide_eq_true h]; rfl) (iteF ⟨_, rfl, s3⟩)
      · by_cases h' : x ∈ W.facts
        · refine ifF (by show (!inV (.str x) (W.facts.map V.str)) = false; rw [inV_strs, decide_eq_true h']; rfl) (iteF ⟨_, rfl, s3⟩)
        · refine ifT (by show (!inV (.str x) (W.facts.map V.str)) = true; rw [inV_strs, decide_eq_false h']; rfl) ?_
          refine ⟨_, rfl, _, rfl, p, T.cW, dw, _, _, rfl, s13 _ _ w1.2, T.W.cl, T.nW _ (by simp), rfl, pi, _, rfl, .inl (SqL.of (s13 _ _ w3.2)), rfl, strs_flat _, _, rfl, ?_⟩
          refine ifF (by show (!inV (.str x) (W.piles.map V.str)) = false; rw [inV_strs, decide_eq_true h]; rfl) ⟨_, rfl, s3⟩
    rintro σ H3 ⟨y0, rfl, s3⟩
    -- outcomes
    have s13 := (s1.trans s2).trans s3
    have hA3 := hA.lq (lq_same (U := U) s13)
    have hf3 := hf.same s13
    obtain ⟨dx3, c3, l3, qs3, b1, b2, b3, b4⟩ := id hA3
    refine ⟨_, rfl, q, dx3, _, rfl, b1.2, U, q, a, rfl, hA3, a.outs.length, rfl, by have := hok.ln; omega, _, rfl, by omega, by have := hok.ln; omega, fun D hD => ?_⟩
    have en : ((a.outs.length : Nat) : Int).toNat = a.outs.length := Int.toNat_natCast _
    rw [en]
    refine lc_allE (wk_range (n := a.outs.length)) (fun z y H2 => ∃ q, y = .ref q ∧ OutAt T.cO (Wo U D) H2 q (a.outs.getD z fun _ => none)) hD (by rw [List.length_range]; have := hok.ln; omega) (fun _ => rfl) (fun H2 s2 => trivial)
      (fun z y Ha Hb ho ⟨q, e, h⟩ => ⟨q, e, h.lq (lq_off ho)⟩) (fun z hm H4 s4 hD4 R hR => ?_) fun H4 ys s4 hD4 r => ?_
    · have hz : z < a.outs.length := List.mem_range.mp hm
      have hz2 : a.outs[z]? = some a.outs[z] := List.getElem?_eq_getElem hz
      have eD : (a.outs.getD z fun _ => none) = a.outs[z] := by rw [List.getD_eq_getElem?_getD, hz2]; rfl
      have hA2 : ActAt T (Wo U D) H4 q a := (hA3.lq (lq_out hD)).lq (lq_same s4)
      exact ⟨_, rfl, q, dx3, _, rfl, s4 _ _ b1.2, rfl, _, rfl, Wo U D, q, a, z, a.outs[z], rfl, hA2, hz2, hok.ln, hok.ok _ (List.getElem_mem _), fresh_wo (hf3.same s4) hD4,
        fun q H3 s3 hq3 o3 => hR _ H3 s3 ⟨q, rfl, by rw [eD]; exact o3⟩⟩
    obtain ⟨qs', eqs, hp2⟩ := paired_refs (g := fun z : Nat => a.outs.getD z fun _ => none) r
    rw [outs_range] at hp2
    have hp3 : Paired (fun q f => OutAt T.cO U H4 q f) qs' a.outs := paired_mono hp2 fun _ _ o => o.lq lq_wo
    rw [eqs] at hD4
    have s14 := s13.trans s4
    have hw4 := hw.lq (lq_same (U := U) s14)
    -- each change fits
    refine ⟨_, rfl, D, rfl, ⟨_, SqL.of hD4⟩, for_it (wk_list (zs := qs') (inj := V.ref)) (fun i σ H5 => ∃ y y2, σ = [some (.ref p), some (.str z), some (.ref q), y, some (.ref D), y2, none] ∧ Same H4 H5)
      ⟨_, none, rfl, Same.refl _⟩ (fun i σ H5 _ ⟨_, _, _, s5⟩ => SqL.of (s5 _ _ hD4)) ?_ ?_⟩
    · rintro i y σ H5 H5' hi ⟨y0, y1, rfl, s5⟩ ⟨rfl, o, ho, rfl⟩
      have hlt : i < a.outs.length := by
        rw [← Paired.length hp3]
        exact (List.getElem?_eq_some_iff.mp ho).1
      obtain ⟨o', e1, hO⟩ := paired_ix hp3 (List.getElem?_eq_getElem hlt)
      rw [ho] at e1
      cases e1
      have hfm : a.outs[i] ∈ a.outs := List.getElem_mem _
      have hch := hAW.ch _ hfm
      generalize a.outs[i] = g at hO hfm hch
      have hO5 := hO.lq (lq_same (U := U) s5)
      obtain ⟨dy, dd, o1, o2⟩ := id hO5
      refine ⟨_, rfl, o, dy, _, rfl, o1.2, rfl, U, o, g, rfl, hO5, hch.out, fun ys2 yl2 H6 hm6 hl6 s6 hn6 hy6 => ?_⟩
      refine ⟨yl2, rfl, ⟨_, SqL.of hy6⟩, for_it (wk_list (zs := ys2) (inj := V.str)) (fun i σ H7 => ∃ y, σ = [some (.ref p), some (.str z), some (.ref q), y, some (.ref D), some (.ref o), none] ∧ Same H6 H7)
        ⟨_, rfl, Same.refl _⟩ (fun i σ H7 _ ⟨_, _, s7⟩ => SqL.of (s7 _ _ hy6)) ?_ ?_⟩
      · rintro j x σ H7 H7' hj ⟨y2, rfl, s7⟩ ⟨rfl, x, hx, rfl⟩
        have s57 := s6.trans s7
        have hO7 := hO5.lq (lq_same (U := U) s57)
        have hw7 := hw4.lq (lq_same (U := U) (s5.trans s57))
        obtain ⟨dw7, pf7, pi7, pr7, kvs7, v1, _⟩ := id hw7
        obtain ⟨dy7, dd7, o17, _⟩ := id hO7
        obtain ⟨v, hv⟩ := hm6 x (List.mem_of_getElem? hx)
        obtain ⟨x', ex, _, hcase⟩ := hch _ v hv
        cases ex
        have egc : gc g x = v := by
          unfold gc
          rw [hv]
          rfl
        refine ⟨_, rfl, p, dw7, _, rfl, v1.2, rfl, _, rfl, _, rfl, _, rfl, o, dy7, _, rfl, o17.2, U, o, g, x, rfl, hO7, ?_⟩
        exact ⟨U, st, p, d, W, x, gc g x, rfl, hw7, hW, by rw [egc]; exact hcase, fun H8 s8 => ⟨_, rfl, s7.trans s8⟩⟩
      · rintro σ H7 ⟨y2, rfl, s7⟩
        exact ⟨_, _, rfl, (s5.trans s6).trans s7⟩
    rintro σ H5 ⟨y0, y1, rfl, s5⟩
    -- not all take from a reserve
    obtain ⟨zs, ez1, ez2, hzs⟩ := paired_zip (paired_mono hp3 fun q f o => o.lq (lq_same (U := U) s5))
    have eq1 : qs'.map V.ref = zs.map fun z => V.ref z.1 := by
      rw [← ez1, List.map_map]
      rfl
    have hD5 := s5 _ _ hD4
    rw [eq1] at hD5
    have zl : zs.length = a.outs.length := by rw [← ez2, List.length_map]
    have hw5 := hw4.lq (lq_same (U := U) s5)
    refine ⟨_, rfl, D, rfl, ⟨_, SqL.of hD5⟩, fun D2 hD2 => ?_⟩
    refine lc_all (wk_list (zs := zs) (inj := fun z => V.ref z.1)) (fun z => .bl (resTake W z.2)) hD2 (by have := hok.ln; omega) (fun _ => rfl) (fun H6 s6 => SqL.of (s6 _ _ hD5))
      (fun z2 hm H6 s6 R hR => ?_) fun H6 s6 hD6 => ?_
    · have hw6 := hw5.lq (lq_same (U := U) s6)
      obtain ⟨dw6, pf6, pi6, pr6, kvs6, v1, _⟩ := id hw6
      have hO6 := (hzs z2 hm).lq (lq_same (U := U) s6)
      have hzm : z2.2 ∈ a.outs := by rw [← ez2]; exact List.mem_map.mpr ⟨z2, hm, rfl⟩
      exact ⟨_, rfl, p, dw6, _, rfl, v1.2, rfl, _, rfl, U, st, p, d, z2.1, W, z2.2, rfl, hw6, hW, hO6, hok.ok _ hzm, fun H7 s7 => hR H7 s7⟩
    · refine ⟨D2, zs.map fun z => resTake W z.2, rfl, SqL.of (by rw [hD6, List.map_map]; rfl), ?_⟩
      refine ⟨_, rfl, ifF ?_ (k H6 (((s14.trans s5)).trans s6))⟩
      rw [List.all_map]
      refine Bool.eq_false_iff.mpr fun hall => ?_
      rw [← ez2] at hfr
      obtain ⟨z3, hz3, e3⟩ := List.mem_map.mp hfr
      have q := List.all_eq_true.mp hall z3 hz3
      rw [← e3] at hfree
      have q' : resTake W z3.2 = true := q
      rw [hfree] at q'
      cases q'
/-! ### world[name] = action -/
def Wd.put (W : Wd) (z : Str) (a : Act) : Wd := { W with acts := fun y => if y = z then some a else W.acts y, sz := W.sz + 1 }
def spWSet (T : Txt K mg) : Sp := fun vs H Q _ => ∃ (U : Addr → Prop) (p d q : Addr) (W : Wd) (z : Str) (a : Act), vs = [.ref p, .str z, .ref q] ∧ WoX T true U H p d W ∧ ListsOk W ∧ NameOk z ∧ ActAt T (Wo U d) H q a ∧ ActW W a ∧
  (∃ f ∈ a.outs, resTake W f = false) ∧ Fresh U H ∧ ∀ H', Off d H H' → WoX T true U H' p d (W.put z a) → Q .non H'
theorem sc_ws : FnScope ["self", "name", "action"] ["self", "name", "action"] (defScope (inClass (top 45) 23)) := ⟨rfl, rfl, rfl, by decide +kernel, rfl, by decide +kernel, by decide +kernel⟩
theorem ok_wSet (T : Txt K mg) : Own P w K mg base 10 T.cW "__setitem__" (spWSet T) := by
  have G1 : C8.Met P w K mg base 8 T.cW "check_action" (spWChkAct T) [] := ok_wChkAct T
  have G2 : C8.Cal P w K mg base 9 "copied_action" (spCopiedAction T) [] := ok_copiedAction T
  refine mth_own T.W.cl T.wSet sc_ws (fun _ _ _ _ _ _ us hl => match us, hl with | [_, _, _], _ => rfl) (fun vs H Q E h => ?_) (fun f cdv A outer s H vs Q E hr h => ?_)
  · obtain ⟨U, p, d, q, W, z, a, rfl, _⟩ := h
    rfl
  · obtain ⟨U, p, d, q, W, z, a, rfl, hw, hW, hz, hA, hAW, hfree, hf, k⟩ := h
    have hu := hu_of hr
    refine ⟨_, pss_cons (ps_expr (C8.pe_mt G1 hr (by decide) (pv 0) (pa_cons (pv 1) (pa_cons (pv 2) pa_nil))))
      (pss_one (ps_dput hu (pe_fld (pv 0) rfl) (pv 1) (C8.pe_c G2 hr (by decide) (by rfl) (pa_cons (pv 2) pa_nil)) rfl)), ?_⟩
    obtain ⟨dw, pf, pi, pr, kvs, w1, w2, w3, w4, w5, w6, w7, w8⟩ := id hw
    have hd : H d = some (.dK kvs) := w6.elim id fun z => nomatch z.1
    refine ⟨_, rfl, p, dw, _, rfl, w1.2, rfl, _, rfl, _, rfl, U, true, p, d, q, W, z, a, rfl, hw, hW, hz, hA.lq lq_wo, hAW, hfree, hf, fun H1 s1 => ?_⟩
    have hd1 := s1 _ _ hd
    refine ⟨_, rfl, Wo U d, q, a, rfl, hA.lq (lq_same s1), hAW.ok, fresh_wo (hf.same s1) (some_ne hd1), fun q2 H2 s2 hq2 hA2 => ?_⟩
    have s12 := s1.trans s2
    have hd2 := s2 _ _ hd1
    refine ⟨_, rfl, p, T.cW, dw, _, _, rfl, s12 _ _ w1.2, T.W.cl, T.nW _ (by simp), rfl, _, rfl, d, _, rfl, DPut.k (k := Sum.inr z) hd2 (by have := hW.ls; have := sizeLine_eq; omega), ?_⟩
    have nn : ∀ {b : Addr} {o : HO}, H2 b = some o → (∀ kvs, o ≠ .dK kvs) → (upd H2 d (.dK (putK kvs (Sum.inr z) (.ref q2)))) b = some o := fun {b o} e n => by
      rw [upd_ne (ne_of e hd2 (n _))]
      exact e
    refine k _ ((off_same s12).trans off_upd) ⟨dw, pf, pi, pr, putK kvs (Sum.inr z) (.ref q2), ⟨w1.1, nn (s12 _ _ w1.2) (by intro _ z; cases z)⟩, ⟨w2.1, nn (s12 _ _ w2.2) (by intro _ z; cases z)⟩, ⟨w3.1, nn (s12 _ _ w3.2) (by intro _ z; cases z)⟩,
      ⟨w4.1, nn (s12 _ _ w4.2) (by intro _ z; cases z)⟩, w5, .inl upd_same, Nat.le_trans (DSub.putK_len _ _ _) (Nat.succ_le_succ w7), ?_⟩
    have w8' : TabOk T (Wo U d) (upd H2 d (.dK (putK kvs (Sum.inr z) (.ref q2)))) kvs W.acts := w8.lq (lq_off ((off_same s12).trans off_upd))
    have hA3 : ActAt T (Wo U d) (upd H2 d (.dK (putK kvs (Sum.inr z) (.ref q2)))) q2 a := hA2.lq (lq_off off_upd)
    refine ⟨fun k' v e => ?_, fun y b e => ?_⟩
    · rw [valV_put] at e
      by_cases ek : k' = Sum.inr z
      · rw [if_pos ek] at e
        cases e
        exact ⟨z, a, q2, ek, rfl, by show (if z = z then some a else W.acts z) = some a; rw [if_pos rfl], hA3⟩
      · rw [if_neg ek] at e
        obtain ⟨y, b, q3, e1, e2, e3, e4⟩ := w8'.1 k' v e
        refine ⟨y, b, q3, e1, e2, ?_, e4⟩
        show (if y = z then some a else W.acts y) = some b
        rw [if_neg (fun h => ek (by rw [e1, h]))]
        exact e3
    · rw [valV_put]
      by_cases ey : y = z
      · subst ey
        rw [if_pos rfl]
        rfl
      · rw [if_neg (fun h => ey (Sum.inr.inj h))]
        have e' : (if y = z then some a else W.acts y) = some b := e
        rw [if_neg ey] at e'
        exact w8'.2 y b e'
end KK


set_option Elab.async false
set_option linter.all false
set_option maxRecDepth 100000
set_option maxHeartbeats 4000000
/-! worlds: state_of, fits, possible, checked, behind, shifts -/
namespace KK
open PySem PySem.Spec PyProof.Rows L2
variable {P : Program} {w : World} {K : PySem.W.Frag} {mg : Str → Option Value} {base : Heap}
/-- a state, in the world's order -/
def StOk (W : Wd) (zs : List Str) : Prop := W.seen.filter (fun z => decide (z ∈ zs)) = zs
theorem ListsOk.seen {W : Wd} (h : ListsOk W) : W.seen.Nodup := by
  have q := h.nd
  rw [← List.append_assoc] at q
  exact (List.nodup_append.mp q).1
theorem ListsOk.cnts {W : Wd} (h : ListsOk W) : W.cnts.Nodup := (List.nodup_append.mp h.nd).2.1
theorem ListsOk.seenLen {W : Wd} (h : ListsOk W) : W.seen.length ≤ 13 := by
  have := h.lf
  have := h.lp
  unfold Wd.seen
  rw [List.length_append]
  omega
theorem ListsOk.cntsLen {W : Wd} (h : ListsOk W) : W.cnts.length ≤ 13 := by
  have := h.lr
  have := h.lp
  unfold Wd.cnts
  rw [List.length_append]
  omega
theorem StOk.mem {W : Wd} {zs : List Str} (h : StOk W zs) {z : Str} (hz : z ∈ zs) : z ∈ W.seen := by
  rw [← h] at hz
  exact (List.mem_filter.mp hz).1
theorem StOk.nd {W : Wd} {zs : List Str} (h : StOk W zs) (hW : ListsOk W) : zs.Nodup := by
  rw [← h]
  exact hW.seen.filter _
theorem StOk.len {W : Wd} {zs : List Str} (h : StOk W zs) (hW : ListsOk W) : zs.length ≤ 13 := by
  rw [← h]
  exact Nat.le_trans (List.length_filter_le _ _) hW.seenLen
theorem count_one {zs : List Str} (h : zs.Nodup) (z : Str) : zs.countP (fun y => y == z) ≤ 1 := by
  induction zs with
  | nil => exact Nat.zero_le _
  | cons y ys ih =>
    obtain ⟨h1, h2⟩ := List.nodup_cons.mp h
    rw [List.countP_cons]
    by_cases e : y == z
    · have e' : y = z := by simpa using e
      subst e'
      have h0 : ys.countP (fun x => x == y) = 0 := List.countP_eq_zero.mpr fun x hx q => h1 (by
        have : x = y := by simpa using q
        exact this ▸ hx)
      rw [h0]
      simp
    · have := ih h2
      simp only [e]
      exact this
theorem inV_in (z : Str) (zs : List Str) : (if (false : Bool) = true then !inV (.str z) (zs.map V.str) else inV (.str z) (zs.map V.str)) = decide (z ∈ zs) := inV_strs z zs
theorem inV_no (z : Str) (zs : List Str) : (if (true : Bool) = true then !inV (.str z) (zs.map V.str) else inV (.str z) (zs.map V.str)) = !decide (z ∈ zs) := by
  show (!inV (.str z) (zs.map V.str)) = _
  rw [inV_strs]
/-! ### state_of -/
def spStateOf (T : Txt K mg) : Sp := fun vs H Q _ => ∃ (U : Addr → Prop) (st : Bool) (p d q : Addr) (W : Wd) (zs : List Str), vs = [.ref p, .ref q] ∧ WoX T st U H p d W ∧ ListsOk W ∧ SqE K H q zs ∧ StOk W zs ∧
  ∀ (t : Addr) (H' : Hp), Same H H' → H t = none → H' t = some (.tup (zs.map V.str)) → Q (.ref t) H'
theorem sc_so : FnScope ["self", "names", "known", "name"] ["self", "names"] (defScope (inClass (top 45) 13)) := ⟨rfl, rfl, rfl, by decide +kernel, rfl, by decide +kernel, by decide +kernel⟩
theorem ok_stateOf (T : Txt K mg) : C8.Met P w K mg base 2 T.cW "state_of" (spStateOf T) [] := by
  have G1 : C8.Met P w K mg base 1 T.cW "seen" (spNewL Wd.seen T) [] := ok_wSeen T
  refine mth_met T.W.cl T.wStateOf sc_so (fun _ _ _ _ _ _ us hl => match us, hl with | [_, _], _ => rfl) (fun vs H Q E h => ?_) (fun f cdv A outer s H vs Q E hr h => ?_)
  · obtain ⟨U, st, p, d, q, W, zs, rfl, _⟩ := h
    rfl
  · obtain ⟨U, st, p, d, q, W, zs, rfl, hw, hW, hq, hst, k⟩ := h
    have nd := sc_so.nd
    have hs := sizeLine_eq
    have hsl := hW.seenLen
    refine ⟨_, pss_cons (ps_set (i := 2) nd rfl (.inl rfl) (C8.pe_mt0 G1 hr (by decide) (pv 0)))
      (pss_cons (ps_for PassesOwn.never (by rfl) (pi_seq (pv 1)) (pg_name (i := 3) nd rfl (Or.inl rfl))
        (pss_one (ps_if (PW.pt (pw_or (pt_cmpR op_notIn_seq (pv 3) (pv 2) (by rfl)) (pw_or1 (pt_cmpR op_gt (pe_bm PySem.F.plainAttrs_list PySem.F.slot_list_count PySem.F.type_list_count mt_scount
          (pe_callTy call_list_of (by rfl) (T.blt _ (by decide)) (by decide +kernel) (pa_cons (pv 1) pa_nil)) (pa_cons (pv 3) pa_nil)) pe_int (nomark _))))) (pss_one ps_never) pss_nil)))
      (pss_one (ps_ret (pe_callTy call_tuple_of (by rfl) (T.blt _ (by decide)) (by decide +kernel) (pa_cons
        (pe_lc (own := [("name", 3)]) (g := gName 3) (by rfl) nd (pi_list (pv 2)) (blkOk_by (own := [("name", 3)]) (N := ["self", "names", "known", "name"]) (sc := defScope (inClass (top 45) 13)) (by decide +kernel))
          (fun _ _ _ _ _ => pg_name (i := 3) nd rfl (Or.inl rfl)) (fun _ _ _ _ _ => pts_one (pt_cmpR (r := rIn K false) op_in_seq (pv 3) (pv 1) (by rfl))) (fun _ _ _ _ _ => pv 3)) pa_nil))))), ?_⟩
    obtain ⟨dw, pf, pi, pr, kvs, w1, _⟩ := id hw
    refine ⟨_, rfl, p, dw, _, rfl, w1.2, rfl, U, st, p, d, W, rfl, hw, hW, fun kn hkn => ?_⟩
    have s1 : Same H (upd H kn (.lst (W.seen.map V.str))) := same_new hkn
    have hk1 : (upd H kn (.lst (W.seen.map V.str))) kn = some (.lst (W.seen.map V.str)) := upd_same
    generalize upd H kn (.lst (W.seen.map V.str)) = H1 at s1 hk1 ⊢
    dsimp only [gName, tSeq]
    refine for_seqT (K := K) (a := q) (zs := zs) hq (fun R r => ⟨_, rfl, r⟩) (fun i σ H2 => ∃ y, σ = [some (.ref p), some (.ref q), some (.ref kn), y] ∧ Same H1 H2)
      ⟨none, rfl, Same.refl _⟩ (fun i σ H2 ⟨_, _, s2⟩ o e => s2 _ _ (s1 _ _ e)) ?_ ?_
    · rintro i z σ H2 hz ⟨y, rfl, s2⟩
      have hzm : z ∈ zs := List.mem_of_getElem? hz
      refine ⟨_, rfl, _, rfl, kn, _, rfl, .inl (SqL.of (s2 _ _ hk1)), rfl, strs_flat _, _, rfl, ?_⟩
      refine ifF (by rw [inV_no, decide_eq_true (hst.mem hzm)]; rfl) ?_
      have hq2 : SqE K H2 q zs := hq.same (s1.trans s2)
      refine ⟨_, rfl, q, _, rfl, hq2, fun l hl => ⟨.inl ⟨rfl, _, SqL.of upd_same⟩, _, rfl, l, zs, z, rfl, rfl, SqL.of upd_same, _, _, rfl, rfl, _, rfl, ?_⟩⟩
      refine ifF ?_ ⟨_, rfl, s2.trans (same_new hl)⟩
      have := count_one (hst.nd hW) z
      exact decide_eq_false (by omega)
    · rintro σ H2 ⟨y, rfl, s2⟩
      have hk2 := s2 _ _ hk1
      have hq2 : SqE K H2 q zs := hq.same (s1.trans s2)
      refine ⟨_, rfl, kn, rfl, ⟨_, SqL.of hk2⟩, fun D hD => ?_⟩
      refine lc_map (wk_list (zs := W.seen) (inj := V.str)) V.str (fun z => decide (z ∈ zs)) hD (by omega) (fun _ => rfl) (fun H3 s3 => SqL.of (s3 _ _ hk2))
        (fun z _ H3 s3 R hR => ⟨_, rfl, _, rfl, q, _, rfl, hq2.same s3, rfl, strs_flat _, _, rfl, by rw [inV_in]; exact hR H3 (Same.refl H3)⟩) (fun z _ _ H3 s3 R hR => ⟨_, rfl, hR H3 (Same.refl H3)⟩) fun H3 s3 hD3 => ?_
      rw [hst] at hD3
      refine ⟨D, _, rfl, .inl ⟨SqL.of hD3, fun t ht => ?_⟩⟩
      have s13 := (s1.trans s2).trans s3
      exact k t _ (s13.trans (same_new ht)) (s13.free ht) upd_same
/-! ### fits -/
def blocked (W : Wd) (zs : List Str) (f : Key → Option V) : Bool := W.piles.any fun p => decide (gc f p = .str "take") && !decide (p ∈ zs)
def fitsB (W : Wd) (zs : List Str) (a : Act) : Bool := a.need.holds zs && a.outs.all fun f => !blocked W zs f
def spFits (T : Txt K mg) : Sp := fun vs H Q _ => ∃ (U : Addr → Prop) (st : Bool) (p d q : Addr) (W : Wd) (zs : List Str) (z : Str) (a : Act), vs = [.ref p, .ref q, .str z] ∧ WoX T st U H p d W ∧ ListsOk W ∧ SqE K H q zs ∧ W.acts z = some a ∧ ActOk a ∧ Fresh (Wo U d) H ∧
  ∀ H', Same H H' → Q (.bl (fitsB W zs a)) H'
theorem sc_fi : FnScope ["self", "state", "name", "action", "k", "outcome", "pile"] ["self", "state", "name"] (defScope (inClass (top 45) 14)) := ⟨rfl, rfl, rfl, by decide +kernel, rfl, by decide +kernel, by decide +kernel⟩
theorem ok_fits (T : Txt K mg) : C8.Met P w K mg base 8 T.cW "fits" (spFits T) [] := by
  have G1 : Own P w K mg base 6 T.cC "__call__" (spCondCall K T.cC) := ok_condCall T
  have G2 : C8.Met P w K mg base 7 T.cA "outcome" (spActOutcome T) [] := ok_actOutcome T
  have G3 : Own P w K mg base 1 T.cA "__len__" (spActLen T) := ok_actLen T
  have G4 : Own P w K mg base 1 T.cO "__getitem__" (spOutGet T.cO) := ok_outGet T
  refine mth_met T.W.cl T.wFits sc_fi (fun _ _ _ _ _ _ us hl => match us, hl with | [_, _, _], _ => rfl) (fun vs H Q E h => ?_) (fun f cdv A outer s H vs Q E hr h => ?_)
  · obtain ⟨U, st, p, d, q, W, zs, z, a, rfl, _⟩ := h
    rfl
  · obtain ⟨U, st, p, d, q, W, zs, z, a, rfl, hw, hW, hq, ha, hok, hf, k⟩ := h
    have nd := sc_fi.nd
    have hu := hu_of hr
    have hs := sizeLine_eq
    refine ⟨_, pss_cons (ps_set (i := 3) nd rfl (.inl rfl) (pe_dget hu (pe_fld (pv 0) rfl) (pv 2) (fun _ _ => rfl)))
      (pss_cons (ps_if (pt_not (pt_val (pe_callF G1 hr (by decide) (pv 3) (pa_cons (pv 1) pa_nil)))) (pss_one (ps_ret pe_bl)) pss_nil)
      (pss_cons (ps_for PassesOwn.never (by rfl) (pi_range1 (by rfl) (T.blt _ (by decide)) (pa_cons (pe_callB (call_lenO G3 hr (by decide)) (by rfl) (T.blt _ (by decide)) PySem.boot_len (pa_cons (pv 3) pa_nil)) pa_nil)) (pg_name (i := 4) nd rfl (Or.inl rfl))
        (pss_cons (ps_set (i := 5) nd rfl (.inr rfl) (C8.pe_mt G2 hr (by decide) (pv 3) (pa_cons (pv 4) pa_nil)))
        (pss_one (ps_if (pt_val (pe_callB (cr_any (by rfl)) (by rfl) (T.blt _ (by decide)) (by decide +kernel) (pa_cons
          (pe_lc (own := [("pile", 6)]) (g := gName 6) (by rfl) nd (pi_list (pe_fld (pv 0) rfl)) (blkOk_by (own := [("pile", 6)]) (N := ["self", "state", "name", "action", "k", "outcome", "pile"]) (sc := defScope (inClass (top 45) 14)) (by decide +kernel))
            (fun _ _ _ _ _ => pg_name (i := 6) nd rfl (Or.inl rfl)) (fun _ _ _ _ _ => pts_nil)
            (fun _ _ _ _ _ => pe_and (pe_cmpR op_eq (pe_getO G4 hr (by decide) (pv 5) (pv 6)) pe_str (nomark _)) (pe_one (pe_cmpR (r := rIn K true) op_notIn_seq (pv 6) (pv 1) (by rfl))))) pa_nil))) (pss_one (ps_ret pe_bl)) pss_nil))))
      (pss_one (ps_ret pe_bl)))), ?_⟩
    obtain ⟨dw, pf, pi, pr, kvs, w1, w2, w3, w4, w5, w6, w7, w8⟩ := id hw
    obtain ⟨pa, hv, hA⟩ := w8.get ha
    obtain ⟨dx, c, l, qs, a1, a2, a3, a4⟩ := id hA
    obtain ⟨dc, vc, c1, _⟩ := id a2
    refine ⟨_, rfl, p, T.cW, dw, _, _, rfl, w1.2, T.W.cl, T.nW _ (by simp), rfl, _, rfl, d, _, rfl, dget_rd w6.rd hv, ?_⟩
    refine ⟨_, rfl, pa, T.cA, dx, _, c, rfl, a1.2, T.A.cl, T.nA _ (by simp), rfl, _, rfl, ⟨dc, _, c1.2⟩, Wo U d, c, q, a.need, zs, rfl, a2, hok.dp, hq, _, rfl, ?_⟩
    have k' : ∀ H', Same H H' → Q (.bl (a.need.holds zs && a.outs.all fun f => !blocked W zs f)) H' := k
    cases hh : a.need.holds zs with
    | false =>
      rw [hh] at k'
      exact iteT (k' H (Same.refl H))
    | true =>
      rw [hh, Bool.true_and] at k'
      refine iteF ?_
      refine ⟨_, rfl, pa, dx, _, rfl, a1.2, Wo U d, pa, a, rfl, hA, a.outs.length, rfl, by have := hok.ln; omega, _, rfl, by omega, by have := hok.ln; omega, ?_⟩
      have en : ((a.outs.length : Nat) : Int).toNat = a.outs.length := Int.toNat_natCast _
      rw [en]
      have elr : (List.range a.outs.length).length = a.outs.length := List.length_range
      have wk := wk_range (n := a.outs.length)
      unfold Wk at wk
      rw [elr] at wk
      refine for_it wk (fun i σ H2 => ∃ y1 y2, σ = [some (.ref p), some (.ref q), some (.str z), some (.ref pa), y1, y2, none] ∧ Same H H2 ∧ ((a.outs.take i).all fun f => !blocked W zs f) = true)
        ⟨none, none, rfl, Same.refl _, rfl⟩ (fun i σ H2 _ _ => trivial) ?_ ?_
      · rintro i y σ H2 H2' hi ⟨y1, y2, rfl, s2, hall⟩ ⟨rfl, j, hj, rfl⟩
        have ej : j = i := by
          rw [List.getElem?_range hi] at hj
          exact (Option.some.inj hj).symm
        subst ej
        have hi2 : a.outs[j]? = some a.outs[j] := List.getElem?_eq_getElem hi
        have hgm : a.outs[j] ∈ a.outs := List.getElem_mem _
        have hgo := hok.ok _ hgm
        have et : a.outs.take (j + 1) = a.outs.take j ++ [a.outs[j]] := by
          rw [List.take_add_one, hi2]
          rfl
        generalize a.outs[j] = g at hi2 hgm hgo et
        refine ⟨_, rfl, pa, dx, _, rfl, s2 _ _ a1.2, rfl, _, rfl, Wo U d, pa, a, j, g, rfl, hA.lq (lq_same s2), hi2, hok.ln, hgo, hf.same s2, fun o H3 s3 ho3 hO => ?_⟩
        have s23 := s2.trans s3
        have hp3 := s23 _ _ w3.2
        refine ⟨_, rfl, p, T.cW, dw, _, _, rfl, s23 _ _ w1.2, T.W.cl, T.nW _ (by simp), rfl, pi, rfl, ⟨_, SqL.of hp3⟩, fun D hD => ?_⟩
        refine lc_all (wk_list (zs := W.piles) (inj := V.str)) (fun x => .bl (decide (gc g x = .str "take") && !decide (x ∈ zs))) hD (by have := hW.lp; omega) (fun _ => rfl) (fun H4 s4 => SqL.of (s4 _ _ hp3))
          (fun x hx H4 s4 R hR => ?_) fun H4 s4 hD4 => ?_
        · have hO4 := hO.lq (lq_same s4)
          obtain ⟨dy, dd, o1, _⟩ := id hO4
          refine ⟨_, rfl, _, rfl, o, dy, _, rfl, o1.2, Wo U d, o, g, x, rfl, hO4, gc_scal hgo x _, _, rfl, ?_⟩
          have hR4 := hR H4 (Same.refl H4)
          by_cases e : gc g x = .str "take"
          · refine dT e ⟨_, rfl, _, rfl, q, _, rfl, (hq.same s23).same s4, rfl, strs_flat _, ?_⟩
            rw [inV_no]
            rw [decide_eq_true e, Bool.true_and] at hR4
            exact hR4
          · refine dF e ?_
            rw [decide_eq_false e, Bool.false_and] at hR4
            exact hR4
        · refine ⟨D, W.piles.map fun x => decide (gc g x = .str "take") && !decide (x ∈ zs), rfl, SqL.of (by rw [hD4, List.map_map]; rfl), ?_⟩
          have eb : ((W.piles.map fun x => decide (gc g x = .str "take") && !decide (x ∈ zs)).any id) = blocked W zs g := by
            rw [List.any_map]
            rfl
          rw [eb]
          refine ⟨_, rfl, ?_⟩
          cases hb : blocked W zs g with
          | true =>
            refine iteT ?_
            have e0 : (a.outs.all fun f => !blocked W zs f) = false := by
              refine Bool.eq_false_iff.mpr fun h => ?_
              have := List.all_eq_true.mp h g hgm
              rw [hb] at this
              cases this
            rw [e0] at k'
            exact k' H4 (s23.trans s4)
          | false =>
            refine iteF ⟨_, _, rfl, s23.trans s4, ?_⟩
            rw [et, List.all_append, hall]
            simp [hb]
      · rintro σ H2 ⟨y1, y2, rfl, s2, hall⟩
        rw [List.take_length] at hall
        rw [hall] at k'
        exact k' H2 s2
end KK


set_option Elab.async false
set_option linter.all false
set_option maxRecDepth 100000
set_option maxHeartbeats 4000000
/-! worlds: possible, checked, behind, shifts -/
namespace KK
open PySem PySem.Spec PyProof.Rows L2
variable {P : Program} {w : World} {K : PySem.W.Frag} {mg : Str → Option Value} {base : Heap}
/-! ### possible -/
def fitK (W : Wd) (zs : List Str) (k : Key) : Bool := match k with
  | .inr z => (match W.acts z with
    | some a => fitsB W zs a
    | none => false)
  | _ => false
theorem fitK_some {W : Wd} {zs : List Str} {z : Str} {a : Act} (h : W.acts z = some a) : fitK W zs (.inr z) = fitsB W zs a := by
  show (match W.acts z with | some a => fitsB W zs a | none => false) = _
  rw [h]
theorem fitK_none {W : Wd} {zs : List Str} {z : Str} (h : W.acts z = none) : fitK W zs (.inr z) = false := by
  show (match W.acts z with | some a => fitsB W zs a | none => false) = _
  rw [h]
def spPossible (T : Txt K mg) : Sp := fun vs H Q _ => ∃ (U : Addr → Prop) (p d q : Addr) (W : Wd) (zs : List Str), vs = [.ref p, .ref q] ∧ WoX T true U H p d W ∧ WdOk W ∧ SqE K H q zs ∧ StOk W zs ∧ Fresh U H ∧
  ∀ (l : Addr) (ps : List Str) (H' : Hp), Same H H' → H l = none → H' l = some (.lst (ps.map V.str)) → ps.length ≤ 40 → (∀ z, z ∈ ps ↔ ∃ a, W.acts z = some a ∧ fitsB W zs a = true) → Q (.ref l) H'
theorem sc_po : FnScope ["self", "state", "name"] ["self", "state"] (defScope (inClass (top 45) 15)) := ⟨rfl, rfl, rfl, by decide +kernel, rfl, by decide +kernel, by decide +kernel⟩
theorem same_unlock {H H' : Hp} {d : Addr} {od : Obj} {u : HO} (hd : H d = some u) (s : Same (upd H d (.frz od u)) H') : Same H (upd H' d u) := fun a o e => by
  by_cases ad : a = d
  · subst ad
    rw [hd] at e
    rw [upd_same]
    exact e
  · rw [upd_ne ad]
    exact s a o (by rw [upd_ne ad]; exact e)
theorem ok_possible (T : Txt K mg) : C8.Met P w K mg base 9 T.cW "possible" (spPossible T) [] := by
  have G1 : C8.Met P w K mg base 2 T.cW "state_of" (spStateOf T) [] := ok_stateOf T
  have G2 : C8.Met P w K mg base 8 T.cW "fits" (spFits T) [] := ok_fits T
  refine mth_met T.W.cl T.wPossible sc_po (fun _ _ _ _ _ _ us hl => match us, hl with | [_, _], _ => rfl) (fun vs H Q E h => ?_) (fun f cdv A outer s H vs Q E hr h => ?_)
  · obtain ⟨U, p, d, q, W, zs, rfl, _⟩ := h
    rfl
  · obtain ⟨U, p, d, q, W, zs, rfl, hw, hWd, hq, hst, hf, k⟩ := h
    have nd := sc_po.nd
    have hs := sizeLine_eq
    have hW := hWd.ls
    refine ⟨_, pss_cons (ps_set (i := 1) nd rfl (.inr rfl) (C8.pe_mt G1 hr (by decide) (pv 0) (pa_cons (pv 1) pa_nil)))
      (pss_one (ps_ret (pe_lock (pe_lc (own := [("name", 2)]) (g := gName 2) (by rfl) nd (pi_keys (pe_fld (pv 0) rfl)) (blkOk_by (own := [("name", 2)]) (N := ["self", "state", "name"]) (sc := defScope (inClass (top 45) 15)) (by decide +kernel))
          (fun _ _ _ _ _ => pg_name (i := 2) nd rfl (Or.inl rfl)) (fun _ _ _ _ _ => pts_one (pt_val (C8.pe_mt G2 hr (by decide) (pv 0) (pa_cons (pv 1) (pa_cons (pv 2) pa_nil))))) (fun _ _ _ _ _ => pv 2))))), ?_⟩
    obtain ⟨dw, pf, pi, pr, kvs, w1, w2, w3, w4, w5, w6, w7, w8⟩ := id hw
    have hd : H d = some (.dK kvs) := w6.elim id fun z => nomatch z.1
    refine ⟨_, rfl, p, dw, _, rfl, w1.2, rfl, _, rfl, U, true, p, d, q, W, zs, rfl, hw, hW, hq, hst, fun t H1 s1 ht0 ht => ?_⟩
    have hd1 := s1 _ _ hd
    have hw1 := hw.lq (lq_same (U := U) s1)
    refine ⟨d, .dK kvs, hd1, trivial, fun od => ?_⟩
    have hwl : WoX T false U (upd H1 d (.frz od (.dK kvs))) p d W := hw1.lock hd1
    have hdl : (upd H1 d (.frz od (.dK kvs))) d = some (.frz od (.dK kvs)) := upd_same
    have td : t ≠ d := fun e => by subst e; rw [hd] at ht0; cases ht0
    have htl : (upd H1 d (.frz od (.dK kvs))) t = some (.tup (zs.map V.str)) := by rw [upd_ne td]; exact ht
    have hfl : Fresh U (upd H1 d (.frz od (.dK kvs))) := fun a ha => hf.same s1 a (by
      by_cases e : a = d
      · subst e
        rw [hdl] at ha
        cases ha
      · rwa [upd_ne e] at ha)
    have fin : ∀ H', Same (upd H1 d (.frz od (.dK kvs))) H' → Same H1 (upd H' d (.dK kvs)) := fun H' s' => same_unlock hd1 s'
    obtain ⟨dwl, pfl, pil, prl, kvl, v1, _⟩ := id hwl
    generalize upd H1 d (.frz od (.dK kvs)) = HL at hwl hdl htl hfl fin v1 ⊢
    refine ⟨_, rfl, p, T.cW, dwl, _, _, rfl, v1.2, T.W.cl, T.nW _ (by simp), rfl, d, od, rfl, .inl ⟨kvs, hdl, fun D hD => ?_⟩⟩
    refine lc_map (wk_keys (d := d) (o := od) (kvs := kvs)) (fun kv => kV kv.1) (fun kv => fitK W zs kv.1) hD (by have := hW.ls; omega) (fun _ => rfl) (fun H3 s3 => s3 _ _ hdl)
      (fun kv hm H3 s3 R hR => ?_) (fun kv _ _ H3 s3 R hR => ⟨_, rfl, hR H3 (Same.refl H3)⟩) fun H3 s3 hD3 => ?_
    · obtain ⟨j, hj⟩ := List.mem_iff_getElem?.mp hm
      obtain ⟨u, hu1⟩ := val_at (k := kv.1) (v := kv.2) hj
      obtain ⟨z, a, pa, e1, e2, e3, _⟩ := w8.1 _ u hu1
      have efk : fitK W zs kv.1 = fitsB W zs a := by
        rw [e1]
        exact fitK_some e3
      rw [e1]
      rw [efk] at hR
      refine ⟨_, rfl, p, dwl, _, rfl, s3 _ _ v1.2, rfl, _, rfl, _, rfl, U, false, p, d, t, W, zs, z, a, rfl, hwl.lq (lq_same s3), hW, .inr (SqT.of (s3 _ _ htl)), e3, (hWd.ac z a e3).2.ok, fresh_wo (hfl.same s3) (some_ne (s3 _ _ hdl)), fun H4 s4 => ⟨_, rfl, hR H4 s4⟩⟩
    · have hDd : D ≠ d := fun e => by subst e; rw [hdl] at hD; cases hD
      refine ⟨s3 _ _ hdl, ?_⟩
      -- the kept keys are texts
      obtain ⟨ys, ey1, ey2⟩ := keys_strs kvs fun k v e => by
        obtain ⟨z, a, q2, e1, _⟩ := w8.1 k v e
        exact ⟨z, e1⟩
      have hkeep : ∀ l : List (Key × V), (∀ kv ∈ l, ∃ z, kv.1 = .inr z) → ∃ ps : List Str, (l.filter fun kv => fitK W zs kv.1).map (fun kv => kV kv.1) = ps.map V.str ∧ (∀ z, z ∈ ps ↔ ((Sum.inr z : Key) ∈ l.map (·.1) ∧ fitK W zs (.inr z) = true)) ∧ ps.length ≤ l.length := by
        intro l
        induction l with
        | nil => exact fun _ => ⟨[], rfl, fun z => by simp, Nat.le_refl _⟩
        | cons kv l ih =>
          intro hl
          obtain ⟨z0, e0⟩ := hl kv List.mem_cons_self
          obtain ⟨ps, h1, h2, h3⟩ := ih fun kv hk => hl kv (List.mem_cons_of_mem _ hk)
          cases hb : fitK W zs kv.1 with
          | true =>
            refine ⟨z0 :: ps, ?_, fun z => ?_, by simp only [List.length_cons]; omega⟩
            · rw [List.filter_cons_of_pos (by simpa using hb), List.map_cons, List.map_cons, h1, e0]
              rfl
            · rw [List.mem_cons, h2 z, List.map_cons, List.mem_cons]
              rw [e0] at hb ⊢
              constructor
              · rintro (e | ⟨e, e'⟩)
                · subst e
                  exact ⟨.inl rfl, hb⟩
                · exact ⟨.inr e, e'⟩
              · rintro ⟨e | e, e'⟩
                · exact .inl (Sum.inr.inj e)
                · exact .inr ⟨e, e'⟩
          | false =>
            refine ⟨ps, ?_, fun z => ?_, by simp only [List.length_cons]; omega⟩
            · rw [List.filter_cons_of_neg (by simpa using hb)]
              exact h1
            · rw [h2 z, List.map_cons, List.mem_cons]
              rw [e0] at hb ⊢
              constructor
              · rintro ⟨e, e'⟩
                exact ⟨.inr e, e'⟩
              · rintro ⟨e | e, e'⟩
                · rw [Sum.inr.inj e] at e'
                  rw [hb] at e'
                  cases e'
                · exact ⟨e, e'⟩
      obtain ⟨ps, h1, h2, h3⟩ := hkeep kvs fun kv hm => by
        obtain ⟨j, hj⟩ := List.mem_iff_getElem?.mp hm
        obtain ⟨u, hu1⟩ := val_at (k := kv.1) (v := kv.2) hj
        obtain ⟨z, a, pa, e1, _⟩ := w8.1 _ u hu1
        exact ⟨z, e1⟩
      have s4 := s1.trans (fin H3 s3)
      have nD : H D = none := by
        cases e : H D with
        | none => rfl
        | some o =>
          have q1 := s4 _ _ e
          by_cases ed : D = d
          · exact absurd ed hDd
          · have q2 := fin HL (Same.refl HL) D o (s1 _ _ e)
            rw [upd_ne ed, hD] at q2
            cases q2
      refine k D ps _ s4 nD (by rw [upd_ne hDd, hD3, h1]) (by have := hW.ls; omega) fun z => ?_
      rw [h2 z]
      constructor
      · rintro ⟨_, e⟩
        cases ha : W.acts z with
        | none =>
          rw [fitK_none ha] at e
          cases e
        | some a =>
          rw [fitK_some ha] at e
          exact ⟨a, rfl, e⟩
      · rintro ⟨a, ha, e⟩
        refine ⟨?_, ?_⟩
        · obtain ⟨v, hv⟩ := Option.isSome_iff_exists.mp (w8.2 z a ha)
          exact valV_in hv
        · rw [fitK_some ha]
          exact e
/-! ### checked -/
def spChecked (T : Txt K mg) : Sp := fun vs H Q _ => ∃ (U : Addr → Prop) (p d q : Addr) (W : Wd) (zs : List Str) (z : Str) (a : Act), vs = [.ref p, .ref q, .str z] ∧ WoX T true U H p d W ∧ WdOk W ∧ SqE K H q zs ∧ StOk W zs ∧ Fresh U H ∧ W.acts z = some a ∧ fitsB W zs a = true ∧
  ∀ (t : Addr) (H' : Hp), Same H H' → H t = none → H' t = some (.tup (zs.map V.str)) → Q (.ref t) H'
theorem sc_ch : FnScope ["self", "state", "action"] ["self", "state", "action"] (defScope (inClass (top 45) 16)) := ⟨rfl, rfl, rfl, by decide +kernel, rfl, by decide +kernel, by decide +kernel⟩
theorem ok_checked (T : Txt K mg) : C8.Met P w K mg base 9 T.cW "checked" (spChecked T) [] := by
  have G1 : C8.Met P w K mg base 2 T.cW "state_of" (spStateOf T) [] := ok_stateOf T
  have G2 : C8.Met P w K mg base 8 T.cW "fits" (spFits T) [] := ok_fits T
  refine mth_met T.W.cl T.wChecked sc_ch (fun _ _ _ _ _ _ us hl => match us, hl with | [_, _, _], _ => rfl) (fun vs H Q E h => ?_) (fun f cdv A outer s H vs Q E hr h => ?_)
  · obtain ⟨U, p, d, q, W, zs, z, a, rfl, _⟩ := h
    rfl
  · obtain ⟨U, p, d, q, W, zs, z, a, rfl, hw, hWd, hq, hst, hf, ha, hfit, k⟩ := h
    have nd := sc_ch.nd
    have hu := hu_of hr
    have hW := hWd.ls
    refine ⟨_, pss_cons (ps_set (i := 1) nd rfl (.inl rfl) (C8.pe_mt G1 hr (by decide) (pv 0) (pa_cons (pv 1) pa_nil)))
      (pss_cons (ps_if (pt_cmp (pc_dnotin hu (pv 2) (pe_fld (pv 0) rfl))) (pss_one ps_never) pss_nil)
      (pss_cons (ps_if (pt_not (pt_val (C8.pe_mt G2 hr (by decide) (pv 0) (pa_cons (pv 1) (pa_cons (pv 2) pa_nil))))) (pss_one ps_never) pss_nil)
      (pss_one (ps_ret (pv 1))))), ?_⟩
    obtain ⟨dw, pf, pi, pr, kvs, w1, w2, w3, w4, w5, w6, w7, w8⟩ := id hw
    have hd : H d = some (.dK kvs) := w6.elim id fun z => nomatch z.1
    obtain ⟨pa, hv, hA⟩ := w8.get ha
    refine ⟨_, rfl, p, dw, _, rfl, w1.2, rfl, _, rfl, U, true, p, d, q, W, zs, rfl, hw, hW, hq, hst, fun t H1 s1 ht0 ht => ?_⟩
    have hd1 := s1 _ _ hd
    refine ⟨_, rfl, _, rfl, p, T.cW, dw, _, _, rfl, s1 _ _ w1.2, T.W.cl, T.nW _ (by simp), rfl, d, _, rfl, dget_rd (.inl hd1) hv, _, rfl, iteF ?_⟩
    refine ⟨_, rfl, p, dw, _, rfl, s1 _ _ w1.2, rfl, _, rfl, _, rfl, U, true, p, d, t, W, zs, z, a, rfl, hw.lq (lq_same s1), hW, .inr (SqT.of ht), ha, (hWd.ac z a ha).2.ok, fresh_wo (hf.same s1) (some_ne hd1), fun H2 s2 => ⟨_, rfl, ?_⟩⟩
    rw [hfit]
    exact iteF ⟨_, rfl, k t H2 (s1.trans s2) ht0 (s2 _ _ ht)⟩
/-! ### behind -/
def heldB (zs : List Str) (f : Key → Option V) (g : List Str) (z : Str) : Bool :=
  if gc f z = .str "take" then !decide (z ∈ g) else if gc f z = .non then decide (z ∈ zs) else (decide (gc f z = .bl true) || decide (gc f z = .str "add"))
def behindL (W : Wd) (zs : List Str) (f : Key → Option V) (g : List Str) : List Str := W.seen.filter (heldB zs f g)
def spBehind (T : Txt K mg) : Sp := fun vs H Q _ => ∃ (U : Addr → Prop) (st : Bool) (p d q o r : Addr) (W : Wd) (zs g : List Str) (f : Key → Option V), vs = [.ref p, .ref q, .ref o, .ref r] ∧ WoX T st U H p d W ∧ ListsOk W ∧ SqE K H q zs ∧ OutAt T.cO U H o f ∧ OutOk f ∧ SqE K H r g ∧
  ∀ (t : Addr) (H' : Hp), Same H H' → H t = none → H' t = some (.tup ((behindL W zs f g).map V.str)) → Q (.ref t) H'
theorem sc_be : FnScope ["self", "state", "outcome", "gone", "found", "name", "change", "held"] ["self", "state", "outcome", "gone"] (defScope (inClass (top 45) 17)) := ⟨rfl, rfl, rfl, by decide +kernel, rfl, by decide +kernel, by decide +kernel⟩
theorem filter_take_succ {l : List Str} {b : Str → Bool} {i : Nat} {z : Str} (h : l[i]? = some z) : (l.take (i + 1)).filter b = (l.take i).filter b ++ (if b z = true then [z] else []) := by
  rw [List.take_add_one, h]
  show ((l.take i) ++ [z]).filter b = _
  rw [List.filter_append]
  cases hb : b z <;> simp [hb]
theorem ok_behind (T : Txt K mg) : C8.Met P w K mg base 3 T.cW "behind" (spBehind T) [] := by
  have G1 : C8.Met P w K mg base 1 T.cW "seen" (spNewL Wd.seen T) [] := ok_wSeen T
  have G2 : Own P w K mg base 1 T.cO "__getitem__" (spOutGet T.cO) := ok_outGet T
  refine mth_met T.W.cl T.wBehind sc_be (fun _ _ _ _ _ _ us hl => match us, hl with | [_, _, _, _], _ => rfl) (fun vs H Q E h => ?_) (fun f cdv A outer s H vs Q E hr h => ?_)
  · obtain ⟨U, st, p, d, q, o, r, W, zs, g, f, rfl, _⟩ := h
    rfl
  · obtain ⟨U, st, p, d, q, o, r, W, zs, g, f, rfl, hw, hW, hq, hO, hok, hg, k⟩ := h
    have nd := sc_be.nd
    have hs := sizeLine_eq
    have hsl := hW.seenLen
    refine ⟨_, pss_cons (ps_set (i := 4) nd rfl (.inl rfl) (pe_lst pa_nil))
      (pss_cons (ps_for PassesOwn.never (by rfl) (pi_list (C8.pe_mt0 G1 hr (by decide) (pv 0))) (pg_name (i := 5) nd rfl (Or.inl rfl))
        (pss_cons (ps_set (i := 6) nd rfl (.inl rfl) (pe_getO G2 hr (by decide) (pv 2) (pv 5)))
        (pss_cons (ps_set (i := 7) nd rfl (.inl rfl) (pe_cmpR op_in_seq (pv 5) (pv 1) (by rfl)))
        (C8.pss_cut (ps_if (pt_cmpR op_eq (pv 6) pe_str (nomark _)) (pss_one (ps_set (i := 7) nd rfl (.inl rfl) (pe_cmpR op_notIn_seq (pv 5) (pv 3) (by rfl))))
          (pss_one (ps_if (pt_cmp (pc_notN (pv 6))) (pss_one (ps_set (i := 7) nd rfl (.inl rfl) (pe_or (pe_cmpR op_isC (pv 6) pe_bl (nomark _)) (pe_one (pe_cmpR op_eq (pv 6) pe_str (nomark _)))))) pss_nil)))
        (pss_one (ps_if (pt_val (pv 7)) (pss_one (ps_expr (pe_bm PySem.F.plainAttrs_list PySem.F.slot_list_append PySem.F.type_list_append mt_append (pv 4) (pa_cons (pv 5) pa_nil)))) pss_nil))))))
      (pss_one (ps_ret (pe_callTy call_tuple_of (by rfl) (T.blt _ (by decide)) (by decide +kernel) (pa_cons (pv 4) pa_nil))))), ?_⟩
    refine ⟨by show 0 ≤ sizeLine; decide, fun D hD => ?_⟩
    obtain ⟨dw, pf, pi, pr, kvs, w1, _⟩ := id hw
    have s0 : Same H (upd H D (.lst [])) := same_new hD
    refine ⟨_, rfl, p, dw, _, rfl, s0 _ _ w1.2, rfl, U, st, p, d, W, rfl, hw.lq (lq_same s0), hW, fun kn hkn => ?_⟩
    have kD : D ≠ kn := ne_of_none upd_same hkn
    have s1 : Same H (upd (upd H D (.lst [])) kn (.lst (W.seen.map V.str))) := s0.trans (same_new hkn)
    refine ⟨kn, rfl, ⟨_, SqL.of upd_same⟩, for_it (wk_list (zs := W.seen) (inj := V.str)) (fun i σ H2 => ∃ y1 y2 y3, σ = [some (.ref p), some (.ref q), some (.ref o), some (.ref r), some (.ref D), y1, y2, y3] ∧ Same H H2 ∧ H2 kn = some (.lst (W.seen.map V.str)) ∧ H2 D = some (.lst (((W.seen.take i).filter (heldB zs f g)).map V.str)))
      ⟨none, none, none, rfl, s1, upd_same, by rw [upd_ne kD, upd_same]; rfl⟩ (fun i σ H2 _ ⟨_, _, _, _, _, h2, _⟩ => SqL.of h2) ?_ ?_⟩
    · rintro i y σ H2 H2' hi ⟨y1, y2, y3, rfl, s2, hk2, hD2⟩ ⟨rfl, z, hz, rfl⟩
      have hO2 := hO.lq (lq_same (U := U) s2)
      obtain ⟨dy, dd, o1, _⟩ := id hO2
      refine ⟨_, rfl, _, rfl, o, dy, _, rfl, o1.2, U, o, f, z, rfl, hO2, ?_⟩
      refine ⟨_, rfl, _, rfl, q, _, rfl, hq.same s2, rfl, strs_flat _, ?_⟩
      rw [inV_in]
      refine ⟨fun σ' H' => H' = H2' ∧ σ' = [some (.ref p), some (.ref q), some (.ref o), some (.ref r), some (.ref D), some (.str z), some (gc f z), some (.bl (heldB zs f g z))], ?_, ?_⟩
      · refine ⟨_, rfl, gc_scal hok z _, _, rfl, ?_⟩
        by_cases e1 : gc f z = .str "take"
        · refine dT e1 ⟨_, rfl, _, rfl, r, _, rfl, hg.same s2, rfl, strs_flat _, ?_⟩
          rw [inV_no]
          refine ⟨rfl, ?_⟩
          have eb : heldB zs f g z = !decide (z ∈ g) := by
            unfold heldB
            rw [if_pos e1]
          rw [eb]
          rfl
        · refine dF e1 ⟨_, rfl, _, rfl, ?_⟩
          by_cases e2 : gc f z = .non
          · refine ifF (by rw [decide_eq_true e2]; rfl) ⟨rfl, ?_⟩
            have eb : heldB zs f g z = decide (z ∈ zs) := by
              unfold heldB
              rw [if_neg e1, if_pos e2]
            rw [eb]
            rfl
          · refine ifT (by rw [decide_eq_false e2]; rfl) ?_
            have eb : heldB zs f g z = (decide (gc f z = .bl true) || decide (gc f z = .str "add")) := by
              unfold heldB
              rw [if_neg e1, if_neg e2]
            rw [eb]
            refine ⟨_, rfl, _, gc_plain hok z, rfl, _, rfl, ?_⟩
            by_cases e3 : gc f z = .bl true
            · refine dT e3 ⟨rfl, ?_⟩
              rw [decide_eq_true e3]
              rfl
            · refine dF e3 ⟨_, rfl, gc_scal hok z _, rfl, ?_⟩
              rw [decide_eq_false e3, Bool.false_or]
              rfl
      · rintro σ' H' ⟨rfl, rfl⟩
        refine ⟨_, rfl, _, rfl, ?_⟩
        have et := filter_take_succ (b := heldB zs f g) hz
        cases hb : heldB zs f g z with
        | true =>
          rw [hb, if_pos rfl] at et
          refine iteT ⟨_, rfl, .inl ⟨rfl, _, SqL.of hD2⟩, _, rfl, D, _, _, rfl, rfl, hD2, ?_, _, _, _, rfl, ?_, ?_, ?_⟩
          · have l1 : ((W.seen.take i).filter (heldB zs f g)).length ≤ W.seen.length := Nat.le_trans (List.length_filter_le _ _) (by rw [List.length_take]; omega)
            rw [List.length_map]
            omega
          · exact Off.same ((off_same s2).trans off_upd) hD
          · rw [upd_ne kD.symm]
            exact hk2
          · rw [upd_same, et, List.map_append]
            rfl
        | false =>
          rw [hb, if_neg (by decide), List.append_nil] at et
          exact iteF ⟨_, _, _, rfl, s2, hk2, by rw [et]; exact hD2⟩
    · rintro σ H2 ⟨y1, y2, y3, rfl, s2, hk2, hD2⟩
      rw [List.take_length] at hD2
      exact ⟨_, rfl, D, _, rfl, .inl ⟨SqL.of hD2, fun t ht => k t _ (s2.trans (same_new ht)) (s2.free ht) upd_same⟩⟩
end KK


set_option Elab.async false
set_option linter.all false
set_option maxRecDepth 100000
set_option maxHeartbeats 4000000
/-! sub_tuples, results, shifts -/
namespace KK
open PySem PySem.Spec PyProof.Rows L2
variable {P : Program} {w : World} {K : PySem.W.Frag} {mg : Str → Option Value} {base : Heap}
/-! ### tuples of names, compared -/
theorem letS_small : ∀ c ∈ letS.cps.toList, c < 1114112 := by decide +kernel
theorem NameOk.str {z : Str} (h : NameOk z) : PySem.PyData.strOk z = true := by
  unfold PySem.PyData.strOk
  rw [← Array.all_toList]
  exact List.all_eq_true.mpr fun c hc => decide_eq_true (letS_small c (h.le c hc))
theorem dp_strs {H : Hp} : ∀ zs : List Str, DpAll K H (zs.map V.str) (zs.map PyData.str)
  | [] => .nil
  | z :: zs => .cons (.str z) (dp_strs zs)
theorem shaped_strs {zs : List Str} (h : ∀ z ∈ zs, NameOk z) : SeqAt.shaped (.tuple (zs.map PyData.str)) = true := by
  have h1 : ∀ zs : List Str, (∀ z ∈ zs, NameOk z) → PyData.canLayAll0 (zs.map PyData.str) = true := by
    intro zs
    induction zs with
    | nil => intro _; rfl
    | cons z zs ih =>
      intro h
      show (PyData.canLay0 (.str z) && PyData.canLayAll0 (zs.map PyData.str)) = true
      rw [ih fun y hy => h y (List.mem_cons_of_mem _ hy)]
      show (PySem.PyData.strOk z && true) = true
      rw [(h z List.mem_cons_self).str]
      rfl
  have h2 : ∀ zs : List Str, PyData.depthAll (zs.map PyData.str) = 0 := by
    intro zs
    induction zs with
    | nil => rfl
    | cons z zs ih =>
      show max (PyData.depth (.str z)) (PyData.depthAll (zs.map PyData.str)) = 0
      rw [ih]
      rfl
  show (PyData.canLay0 (.tuple (zs.map PyData.str)) && decide (PyData.depth (.tuple (zs.map PyData.str)) ≤ 64)) = true
  have e1 : PyData.canLay0 (.tuple (zs.map PyData.str)) = true := h1 zs h
  have e2 : PyData.depth (.tuple (zs.map PyData.str)) = 1 := by
    show PyData.depthAll (zs.map PyData.str) + 1 = 1
    rw [h2]
  rw [e1, e2]
  rfl
theorem eqv_strs : ∀ zs ys : List Str, PyData.eqv (.tuple (zs.map PyData.str)) (.tuple (ys.map PyData.str)) = decide (zs = ys) := by
  have h : ∀ zs ys : List Str, PyData.eqvAll (zs.map PyData.str) (ys.map PyData.str) = decide (zs = ys) := by
    intro zs
    induction zs with
    | nil =>
      intro ys
      cases ys with
      | nil => rfl
      | cons y ys => rfl
    | cons z zs ih =>
      intro ys
      cases ys with
      | nil => rfl
      | cons y ys =>
        show ((z == y) && PyData.eqvAll (zs.map PyData.str) (ys.map PyData.str)) = _
        rw [ih ys]
        by_cases e : z = y
        · subst e
          by_cases e2 : zs = ys
          · subst e2
            simp
          · simp [e2]
        · simp [e]
  exact h
/-! ### sub_tuples -/
def subT : List Str → List (List Str)
  | [] => [[]]
  | z :: r => [] :: ((subT r).map (z :: ·) ++ (subT r).filter (fun g => decide (g ≠ [])))
theorem subT_len : ∀ zs : List Str, (subT zs).length ≤ 2 ^ (zs.length + 1) - 1
  | [] => by decide
  | z :: r => by
    have ih := subT_len r
    have h1 : ((subT r).filter (fun g => decide (g ≠ []))).length ≤ (subT r).length := List.length_filter_le _ _
    have h2 : (2 : Nat) ^ ((z :: r).length + 1) = 2 ^ (r.length + 1) * 2 := by rw [List.length_cons, Nat.pow_succ]
    have h3 : 0 < 2 ^ (r.length + 1) := Nat.pow_pos (by decide)
    rw [subT, List.length_cons, List.length_append, List.length_map, h2]
    omega
theorem subT_mem : ∀ {zs g : List Str}, g ∈ subT zs → ∀ z ∈ g, z ∈ zs
  | [], g, h, z, hz => by
    simp only [subT, List.mem_singleton] at h
    subst h
    cases hz
  | y :: r, g, h, z, hz => by
    simp only [subT, List.mem_cons, List.mem_append, List.mem_map, List.mem_filter] at h
    rcases h with h | ⟨g', h, e⟩ | ⟨h, _⟩
    · subst h
      cases hz
    · subst e
      rcases List.mem_cons.mp hz with e | e
      · exact e ▸ List.mem_cons_self
      · exact List.mem_cons_of_mem _ (subT_mem h z e)
    · exact List.mem_cons_of_mem _ (subT_mem h z hz)
theorem subT_short : ∀ {zs g : List Str}, g ∈ subT zs → g.length ≤ zs.length
  | [], g, h => by
    simp only [subT, List.mem_singleton] at h
    subst h
    exact Nat.le_refl _
  | y :: r, g, h => by
    simp only [subT, List.mem_cons, List.mem_append, List.mem_map, List.mem_filter] at h
    rcases h with h | ⟨g', h, e⟩ | ⟨h, _⟩
    · subst h
      exact Nat.zero_le _
    · subst e
      exact Nat.succ_le_succ (subT_short h)
    · exact Nat.le_succ_of_le (subT_short h)
def spSub (K : PySem.W.Frag) (n : Nat) : Sp := fun vs H Q _ => ∃ (U : Addr → Prop) (p : Addr) (zs : List Str), vs = [.ref p] ∧ SqL K H p (zs.map V.str) ∧ zs.length < n ∧ zs.length ≤ 3 ∧ (∀ z ∈ zs, NameOk z) ∧ Fresh U H ∧
  ∀ (l : Addr) (qs : List Addr) (H' : Hp), Same H H' → H l = none → H' l = some (.lst (qs.map V.ref)) → Paired (fun q g => TAt U H' q g) qs (subT zs) → Q (.ref l) H'
theorem sc_su : FnScope ["some", "rest", "one"] ["some"] (defScope (top 43)) := ⟨rfl, rfl, rfl, by decide +kernel, rfl, by decide +kernel, by decide +kernel⟩
theorem paired_app {α β : Type} {F : α → β → Prop} : ∀ {l l' : List α} {m m' : List β}, Paired F l m → Paired F l' m' → Paired F (l ++ l') (m ++ m')
  | _, _, _, _, .nil, h => h
  | _, _, _, _, .cons r t, h => .cons r (paired_app t h)
theorem sub_size {zs : List Str} (h : zs.length ≤ 3) : (subT zs).length ≤ 15 := Nat.le_trans (subT_len zs) (by
  have : 2 ^ (zs.length + 1) ≤ 2 ^ 4 := Nat.pow_le_pow_right (by decide) (by omega)
  omega)
theorem ok_sub (T : Txt K mg) : ∀ n, C8.Cal P w K mg base (n + 1) "sub_tuples" (spSub K n) []
  | 0 => by
    refine def_cal (N := ["some", "rest", "one"]) T.dSubTuples sc_su (fun _ _ _ _ _ _ us hl => match us, hl with | [_], _ => rfl) (fun vs H Q E h => ?_) (fun f cdv A outer s H vs Q E hr h => ?_)
    · obtain ⟨U, p, zs, rfl, _⟩ := h
      rfl
    · obtain ⟨U, p, zs, rfl, hp, hn, _⟩ := h
      exact absurd hn (Nat.not_lt_zero _)
  | n + 1 => by
    have G := ok_sub T n
    refine def_cal (N := ["some", "rest", "one"]) T.dSubTuples sc_su (fun _ _ _ _ _ _ us hl => match us, hl with | [_], _ => rfl) (fun vs H Q E h => ?_) (fun f cdv A outer s H vs Q E hr h => ?_)
    · obtain ⟨U, p, zs, rfl, _⟩ := h
      rfl
    · obtain ⟨U, p, zs, rfl, hp, hn, h3, hnm, hf, k⟩ := h
      have hu := hu_of hr
      have hs := sizeLine_eq
      have nd := sc_su.nd
      refine ⟨_, pss_cons (ps_if (pt_cmpR (op_eqNil (Nat.lt_of_succ_lt hu)) (pv 0) (pe_lst pa_nil) (nomark _)) (pss_one (ps_ret (pe_lst (pa_cons (pe_tup pa_nil) pa_nil)))) pss_nil)
        (pss_cons (ps_set (i := 1) nd rfl (.inl rfl) (C8.pe_c G hr (Nat.le_refl _) (by rfl) (pa_cons (pe_slice sl_list (pv 0) (po_some pe_int) po_none) pa_nil)))
        (pss_one (ps_ret (pe_op op_cat (pe_op op_cat (pe_lst (pa_cons (pe_tup pa_nil) pa_nil))
          (pe_lc (own := [("one", 2)]) (g := gName 2) (by rfl) nd (pi_list (pv 1)) (blkOk_by (own := [("one", 2)]) (N := ["some", "rest", "one"]) (sc := defScope (top 43)) (by decide +kernel))
            (fun _ _ _ _ _ => pg_name (i := 2) nd rfl (Or.inl rfl)) (fun _ _ _ _ _ => pts_nil) (fun _ _ _ _ _ => pe_op (r := rCatA K) op_catA (pe_tup (pa_cons (pe_ix (r := rIxL K) ix_list (pv 0) pe_int (fun _ _ => rfl)) pa_nil)) (pv 2))))
          (pe_lc (own := [("one", 2)]) (g := gName 2) (by rfl) nd (pi_list (pv 1)) (blkOk_by (own := [("one", 2)]) (N := ["some", "rest", "one"]) (sc := defScope (top 43)) (by decide +kernel))
            (fun _ _ _ _ _ => pg_name (i := 2) nd rfl (Or.inl rfl)) (fun _ _ _ _ _ => pts_one (pt_cmpR (r := rNeD K) (op_neD hr.units) (pv 2) (pe_tup pa_nil) (nomark _))) (fun _ _ _ _ _ => pv 2)))))), ?_⟩
      refine ⟨_, rfl, by show 0 ≤ sizeLine; decide, fun e0 he0 => ?_⟩
      have s0 : Same H (upd H e0 (.lst [])) := same_new he0
      refine ⟨p, e0, _, rfl, rfl, s0.seq hp, SqL.of upd_same, _, rfl, ?_⟩
      generalize upd H e0 (.lst []) = H0 at s0 ⊢
      have hp0 := s0.seq hp
      have hf0 := hf.same s0
      cases zs with
      | nil =>
        refine iteT ⟨by show 0 ≤ sizeLine; decide, fun t ht => ⟨by show 1 ≤ sizeLine; decide, fun l hl => ?_⟩⟩
        have s1 := (s0.trans (same_new (o := .tup []) ht)).trans (same_new (o := .lst [.ref t]) hl)
        refine k l [t] _ s1 (s0.free (by
          by_cases e : l = t
          · subst e; rw [upd_same] at hl; cases hl
          · rwa [upd_ne e] at hl)) upd_same (.cons ⟨hf0 t ht, ?_⟩ .nil)
        rw [upd_ne (ne_of_none upd_same hl), upd_same]
        rfl
      | cons z r =>
        refine iteF ?_
        have hlen : (z :: r).length ≤ 3 := h3
        rw [List.length_cons] at hlen hn
        refine ⟨_, rfl, 1, rfl, p, _, rfl, hp0, fun q hq => ?_⟩
        have ec : cutV ((z :: r).map V.str) (some 1) none = r.map V.str := cut_from ((z :: r).map V.str) (k := 1) (by simp)
        rw [ec]
        have s1 := s0.trans (same_new (o := .lst (r.map V.str)) hq)
        refine ⟨Wo U q, q, r, rfl, SqL.of upd_same, by omega, by omega, fun y hy => hnm y (List.mem_cons_of_mem _ hy), fresh_wo (hf.same s1) (by rw [upd_same]; exact fun z => nomatch z), fun rl qs H1 s2 hrl hrl1 hp1 => ?_⟩
        have s12 := s1.trans s2
        have hf1 := hf.same s12
        have hp1' : Paired (fun q g => TAt U H1 q g) qs (subT r) := paired_mono hp1 fun _ _ t => ⟨t.1.1, t.2⟩
        have hps1 := s12.seq hp
        clear hp1
        refine ⟨by show 0 ≤ sizeLine; decide, fun t ht => ⟨by show 1 ≤ sizeLine; decide, fun l0 hl0 => ?_⟩⟩
        have s3 : Same H1 (upd (upd H1 t (.tup [])) l0 (.lst [.ref t])) := (same_new ht).trans (same_new hl0)
        have hl3 : (upd (upd H1 t (.tup [])) l0 (.lst [.ref t])) l0 = some (.lst [.ref t]) := upd_same
        have ht3 : (upd (upd H1 t (.tup [])) l0 (.lst [.ref t])) t = some (.tup []) := by rw [upd_ne (ne_of_none upd_same hl0), upd_same]
        have hUt := hf1 t ht
        generalize upd (upd H1 t (.tup [])) l0 (.lst [.ref t]) = H3 at s3 hl3 ht3 ⊢
        have s13 := s12.trans s3
        have hf3 := hf.same s13
        have hps3 := s13.seq hp
        have hp3 : Paired (fun q g => TAt U H3 q g) qs (subT r) := paired_mono hp1' fun _ _ t => ⟨t.1, s3 _ _ t.2⟩
        obtain ⟨zs2, ez1, ez2, hz2⟩ := paired_zip hp3
        have eq1 : qs.map V.ref = zs2.map fun z => V.ref z.1 := by
          rw [← ez1, List.map_map]
          rfl
        have zl : zs2.length ≤ 15 := by
          have e := congrArg List.length ez2
          rw [List.length_map] at e
          have := sub_size (zs := r) (by omega)
          omega
        have hrl3 := s3 _ _ hrl1
        rw [eq1] at hrl3
        refine ⟨_, rfl, rl, rfl, ⟨_, SqL.of hrl3⟩, fun D hD => ?_⟩
        refine lc_allE (wk_list (zs := zs2) (inj := fun z => V.ref z.1)) (fun x y H2 => ∃ q, y = .ref q ∧ TAt (Wo U D) H2 q (z :: x.2)) hD (by omega) (fun _ => rfl) (fun H2 s2 => SqL.of (s2 _ _ hrl3))
          (fun x y Ha Hb ho ⟨q, e, h⟩ => ⟨q, e, lq_off ho _ _ h⟩) (fun x hm H4 s4 hD4 R hR => ?_) fun H4 ys s4 hD4 r4 => ?_
        · have hx := hz2 x hm
          have hx4 := s4 _ _ hx.2
          refine ⟨_, rfl, p, _, 0, _, rfl, rfl, s4.seq hps3, atI_nat (j := 0) rfl, by show 1 ≤ sizeLine; decide, fun t2 ht2 => ?_⟩
          have s5 : Same H4 (upd H4 t2 (.tup [.str z])) := same_new ht2
          have xm : x.2.length ≤ 3 := by
            have hxm : x.2 ∈ subT r := by rw [← ez2]; exact List.mem_map.mpr ⟨x, hm, rfl⟩
            have := subT_short hxm
            omega
          refine ⟨_, rfl, t2, x.1, [.str z], x.2.map V.str, rfl, rfl, SqT.of upd_same, SqT.of (s5 _ _ hx4), by rw [List.length_map]; show 1 + _ ≤ _; omega, (fun e => by cases e), fun _ e => ?_, fun _ _ t3 ht3 => ?_⟩
          · have e' : x.2 = [] := List.map_eq_nil_iff.mp e
            exact hR _ _ s5 ⟨t2, rfl, fresh_wo (hf3.same s4) hD4 t2 ht2, by rw [upd_same, e']; rfl⟩
          · have s6 := s5.trans (same_new (o := .tup ([.str z] ++ x.2.map V.str)) ht3)
            exact hR _ _ s6 ⟨t3, rfl, fresh_wo (hf3.same s4) hD4 t3 (s5.free ht3), by rw [upd_same]; rfl⟩
        · obtain ⟨qs4, eqs4, hp4⟩ := paired_refs (F := fun q g => TAt (Wo U D) H4 q g) (g := fun x : Addr × List Str => z :: x.2) r4
          rw [eqs4] at hD4
          have hp4' : Paired (fun q g => TAt U H4 q g) qs4 ((subT r).map (z :: ·)) := by
            have e : zs2.map (fun x : Addr × List Str => z :: x.2) = (subT r).map (z :: ·) := by
              rw [← ez2, List.map_map]
              rfl
            rw [e] at hp4
            exact paired_mono hp4 fun _ _ t => ⟨t.1.1, t.2⟩
          have hl4 : qs4.length ≤ 15 := by
            have e := Paired.length hp4'
            rw [List.length_map] at e
            have := sub_size (zs := r) (by omega)
            omega
          refine ⟨l0, D, _, _, rfl, rfl, s4 _ _ hl3, hD4, by rw [List.length_map]; show 1 + _ ≤ _; omega, fun c1 hc1 => ?_⟩
          have s5 := s4.trans (same_new (o := .lst ([.ref t] ++ qs4.map V.ref)) hc1)
          have hc5 : (upd H4 c1 (.lst ([.ref t] ++ qs4.map V.ref))) c1 = some (.lst ([.ref t] ++ qs4.map V.ref)) := upd_same
          have s45 : Same H4 (upd H4 c1 (.lst ([.ref t] ++ qs4.map V.ref))) := same_new hc1
          generalize upd H4 c1 (.lst ([.ref t] ++ qs4.map V.ref)) = H5 at s5 hc5 s45 ⊢
          have hrl5 := s5 _ _ hrl3
          refine ⟨_, rfl, rl, rfl, ⟨_, SqL.of hrl5⟩, fun D2 hD2 => ?_⟩
          refine lc_map (wk_list (zs := zs2) (inj := fun z => V.ref z.1)) (fun x => V.ref x.1) (fun x => decide (x.2 ≠ [])) hD2 (by omega) (fun _ => rfl) (fun H6 s6 => SqL.of (s6 _ _ hrl5))
            (fun x hm H6 s6 R hR => ?_) (fun x _ _ H6 s6 R hR => ⟨_, rfl, hR H6 (Same.refl H6)⟩) fun H6 s6 hD6 => ?_
          · have hx6 := s6 _ _ (s5 _ _ (hz2 x hm).2)
            have hxm : x.2 ∈ subT r := by rw [← ez2]; exact List.mem_map.mpr ⟨x, hm, rfl⟩
            refine ⟨_, rfl, by show 0 ≤ sizeLine; decide, fun t2 ht2 => ?_⟩
            have s7 : Same H6 (upd H6 t2 (.tup [])) := same_new ht2
            refine ⟨.tuple (x.2.map PyData.str), .tuple (([] : List Str).map PyData.str), .tup (SqT.of (s7 _ _ hx6)) (dp_strs x.2), .tup (SqT.of upd_same) .nil, shaped_strs fun y hy => hnm y (List.mem_cons_of_mem _ (subT_mem hxm y hy)), shaped_strs (zs := []) (fun _ h => by cases h), _, rfl, ?_⟩
            have q := hR _ s7
            rw [eqv_strs]
            simpa using q
          · refine ⟨c1, D2, _, _, rfl, rfl, s6 _ _ hc5, hD6, ?_, fun c2 hc2 => ?_⟩
            · rw [List.length_append, List.length_map, List.length_map]
              have : (zs2.filter fun x => decide (x.2 ≠ [])).length ≤ zs2.length := List.length_filter_le _ _
              show 1 + qs4.length + _ ≤ _
              omega
            · have s56 := s5.trans s6
              have sf : Same H (upd H6 c2 (.lst ([.ref t] ++ qs4.map V.ref ++ (zs2.filter fun x => decide (x.2 ≠ [])).map fun x => V.ref x.1))) := (s13.trans s56).trans (same_new hc2)
              refine k c2 ([t] ++ qs4 ++ (zs2.filter fun x => decide (x.2 ≠ [])).map (·.1)) _ sf ((s13.trans s56).free hc2) (by rw [upd_same]; simp) ?_
              have g6 : ∀ {q g}, TAt U H4 q g → TAt U (upd H6 c2 (.lst ([.ref t] ++ qs4.map V.ref ++ (zs2.filter fun x => decide (x.2 ≠ [])).map fun x => V.ref x.1))) q g := fun h => ⟨h.1, (s45.trans (s6.trans (same_new hc2))) _ _ h.2⟩
              generalize upd H6 c2 (.lst ([.ref t] ++ qs4.map V.ref ++ (zs2.filter fun x => decide (x.2 ≠ [])).map fun x => V.ref x.1)) = H7 at g6 ⊢
              show Paired _ ((t :: qs4) ++ _) (([] :: (subT r).map (z :: ·)) ++ (subT r).filter (fun g => decide (g ≠ [])))
              refine paired_app (.cons (g6 (q := t) (g := []) ⟨hUt, s4 _ _ ht3⟩) (paired_mono hp4' fun _ _ h => g6 h)) ?_
              have e2 : (subT r).filter (fun g => decide (g ≠ [])) = (zs2.filter fun x => decide (x.2 ≠ [])).map (·.2) := by
                rw [← ez2, List.filter_map]
                rfl
              rw [e2]
              have hall : ∀ x ∈ zs2.filter (fun x => decide (x.2 ≠ [])), TAt U H4 x.1 x.2 := fun x hx => by
                have h := hz2 x (List.mem_filter.mp hx).1
                exact ⟨h.1, s4 _ _ h.2⟩
              generalize zs2.filter (fun x => decide (x.2 ≠ [])) = fl at hall
              induction fl with
              | nil => exact .nil
              | cons x fl ih => exact .cons (g6 (hall x List.mem_cons_self)) (ih fun y hy => hall y (List.mem_cons_of_mem _ hy))
end KK


set_option Elab.async false
set_option linter.all false
set_option maxRecDepth 100000
set_option maxHeartbeats 4000000
/-! results, shifts -/
namespace KK
open PySem PySem.Spec PyProof.Rows L2
variable {P : Program} {w : World} {K : PySem.W.Frag} {mg : Str → Option Value} {base : Heap}
def takes (W : Wd) (f : Key → Option V) : List Str := W.piles.filter fun p => decide (gc f p = .str "take")
def Act.out (a : Act) (i : Nat) : Key → Option V := a.outs.getD i fun _ => none
theorem Act.out_eq {a : Act} {i : Nat} (h : i < a.outs.length) : a.outs[i]? = some (a.out i) := by
  unfold Act.out
  rw [List.getD_eq_getElem?_getD, List.getElem?_eq_getElem h]
  rfl
theorem Act.out_mem {a : Act} {i : Nat} (h : i < a.outs.length) : a.out i ∈ a.outs := List.mem_of_getElem? (Act.out_eq h)
def resAt (W : Wd) (zs : List Str) (a : Act) (i : Nat) : List (Nat × List Str × List Str) := (subT (takes W (a.out i))).map fun g => (i, g, behindL W zs (a.out i) g)
def rslL (W : Wd) (zs : List Str) (a : Act) : List (Nat × List Str × List Str) := (List.range a.outs.length).flatMap (resAt W zs a)
def RsAt (U : Addr → Prop) (H : Hp) (v : V) (x : Nat × List Str × List Str) : Prop := ∃ t pg pb, v = .ref t ∧ At U H t (.tup [.int (x.1 : Nat), .ref pg, .ref pb]) ∧ TAt U H pg x.2.1 ∧ TAt U H pb x.2.2
theorem RsAt.lq {U U' : Addr → Prop} {H H' : Hp} {v : V} {x : Nat × List Str × List Str} (h : RsAt U H v x) (q : Lq U H U' H') : RsAt U' H' v x := by
  obtain ⟨t, pg, pb, e, h1, h2, h3⟩ := h
  exact ⟨t, pg, pb, e, q _ _ h1, q _ _ h2, q _ _ h3⟩
theorem takes_len (W : Wd) (f : Key → Option V) : (takes W f).length ≤ W.piles.length := List.length_filter_le _ _
theorem rslL_len {W : Wd} (hW : ListsOk W) (zs : List Str) (a : Act) : ∀ n, ((List.range n).flatMap (resAt W zs a)).length ≤ n * 15
  | 0 => by simp
  | n + 1 => by
    have ih := rslL_len hW zs a n
    rw [List.range_succ, List.flatMap_append, List.length_append]
    have e : ([n].flatMap (resAt W zs a)) = resAt W zs a n := by simp
    have h : (resAt W zs a n).length ≤ 15 := by
      unfold resAt
      rw [List.length_map]
      exact sub_size (Nat.le_trans (takes_len _ _) hW.lp)
    rw [e]
    omega
def spResults (T : Txt K mg) : Sp := fun vs H Q _ => ∃ (U : Addr → Prop) (p d q : Addr) (W : Wd) (zs : List Str) (z : Str) (a : Act), vs = [.ref p, .ref q, .str z] ∧ WoX T true U H p d W ∧ WdOk W ∧ SqE K H q zs ∧ StOk W zs ∧ Fresh U H ∧ W.acts z = some a ∧ fitsB W zs a = true ∧
  ∀ (l : Addr) (us : List V) (H' : Hp), Same H H' → H l = none → H' l = some (.lst us) → Paired (fun v x => RsAt U H' v x) us (rslL W zs a) → Q (.ref l) H'
theorem sc_re : FnScope ["self", "state", "action", "found", "index", "outcome", "gone", "pile"] ["self", "state", "action"] (defScope (inClass (top 45) 18)) := ⟨rfl, rfl, rfl, by decide +kernel, rfl, by decide +kernel, by decide +kernel⟩
theorem ok_results (T : Txt K mg) : C8.Met P w K mg base 10 T.cW "results" (spResults T) [] := by
  have G1 : C8.Met P w K mg base 9 T.cW "checked" (spChecked T) [] := ok_checked T
  have G2 : C8.Met P w K mg base 7 T.cA "outcome" (spActOutcome T) [] := ok_actOutcome T
  have G3 : Own P w K mg base 1 T.cA "__len__" (spActLen T) := ok_actLen T
  have G4 : Own P w K mg base 1 T.cO "__getitem__" (spOutGet T.cO) := ok_outGet T
  have G5 : C8.Cal P w K mg base 5 "sub_tuples" (spSub K 4) [] := ok_sub T 4
  have G6 : C8.Met P w K mg base 3 T.cW "behind" (spBehind T) [] := ok_behind T
  refine mth_met T.W.cl T.wResults sc_re (fun _ _ _ _ _ _ us hl => match us, hl with | [_, _, _], _ => rfl) (fun vs H Q E h => ?_) (fun f cdv A outer s H vs Q E hr h => ?_)
  · obtain ⟨U, p, d, q, W, zs, z, a, rfl, _⟩ := h
    rfl
  · obtain ⟨U, p, d, q, W, zs, z, a, rfl, hw, hWd, hq, hst, hf, ha, hfit, k⟩ := h
    have nd := sc_re.nd
    have hu := hu_of hr
    have hs := sizeLine_eq
    have hW := hWd.ls
    have hok := (hWd.ac z a ha).2.ok
    refine ⟨_, pss_cons (ps_set (i := 1) nd rfl (.inl rfl) (C8.pe_mt G1 hr (by decide) (pv 0) (pa_cons (pv 1) (pa_cons (pv 2) pa_nil))))
      (pss_cons (ps_set (i := 3) nd rfl (.inl rfl) (pe_lst pa_nil))
      (pss_cons (ps_for PassesOwn.never (by rfl) (pi_range1 (by rfl) (T.blt _ (by decide)) (pa_cons (pe_callB (call_lenO G3 hr (by decide)) (by rfl) (T.blt _ (by decide)) PySem.boot_len (pa_cons (pe_dget hu (pe_fld (pv 0) rfl) (pv 2) (fun _ _ => rfl)) pa_nil)) pa_nil)) (pg_name (i := 4) nd rfl (Or.inl rfl))
        (pss_cons (ps_set (i := 5) nd rfl (.inr rfl) (C8.pe_mt G2 hr (by decide) (pe_dget hu (pe_fld (pv 0) rfl) (pv 2) (fun _ _ => rfl)) (pa_cons (pv 4) pa_nil)))
        (pss_one (ps_for PassesOwn.never (by rfl) (pi_list (C8.pe_c G5 hr (by decide) (by rfl) (pa_cons
            (pe_lc (own := [("pile", 7)]) (g := gName 7) (by rfl) nd (pi_list (pe_fld (pv 0) rfl)) (blkOk_by (own := [("pile", 7)]) (N := ["self", "state", "action", "found", "index", "outcome", "gone", "pile"]) (sc := defScope (inClass (top 45) 18)) (by decide +kernel))
              (fun _ _ _ _ _ => pg_name (i := 7) nd rfl (Or.inl rfl)) (fun _ _ _ _ _ => pts_one (pt_cmpR op_eq (pe_getO G4 hr (by decide) (pv 5) (pv 7)) pe_str (nomark _))) (fun _ _ _ _ _ => pv 7)) pa_nil))) (pg_name (i := 6) nd rfl (Or.inl rfl))
          (pss_one (ps_expr (pe_bm PySem.F.plainAttrs_list PySem.F.slot_list_append PySem.F.type_list_append mt_append (pv 3) (pa_cons (pe_tup (pa_cons (pv 4) (pa_cons (pv 6) (pa_cons (C8.pe_mt G6 hr (by decide) (pv 0) (pa_cons (pv 1) (pa_cons (pv 5) (pa_cons (pv 6) pa_nil)))) pa_nil)))) pa_nil))))))))
      (pss_one (ps_ret (pv 3))))), ?_⟩
    obtain ⟨dw0, pf0, pi0, pr0, kvs0, u1, _⟩ := id hw
    refine ⟨_, rfl, p, dw0, _, rfl, u1.2, rfl, _, rfl, _, rfl, U, p, d, q, W, zs, z, a, rfl, hw, hWd, hq, hst, hf, ha, hfit, fun t H1 s1 ht0 ht => ?_⟩
    have hw1 := hw.lq (lq_same (U := U) s1)
    have hf1 := hf.same s1
    obtain ⟨dw, pf, pi, pr, kvs, w1, w2, w3, w4, w5, w6, w7, w8⟩ := id hw1
    have hd : H1 d = some (.dK kvs) := w6.elim id fun z => nomatch z.1
    obtain ⟨pa, hv, hA⟩ := w8.get ha
    obtain ⟨dx, c, la, qs, a1, a2, a3, a4⟩ := id hA
    refine ⟨by show 0 ≤ sizeLine; decide, fun D hD => ?_⟩
    have s2 : Same H1 (upd H1 D (.lst [])) := same_new hD
    have hn : a.outs.length ≤ 60 := hok.ln
    refine ⟨_, rfl, p, T.cW, dw, _, _, rfl, s2 _ _ w1.2, T.W.cl, T.nW _ (by simp), rfl, _, rfl, d, _, rfl, dget_rd (.inl (s2 _ _ hd)) hv, pa, dx, _, rfl, s2 _ _ a1.2, Wo U d, pa, a, rfl, hA.lq (lq_same s2), a.outs.length, rfl, by omega, _, rfl, by omega, by omega, ?_⟩
    have en : ((a.outs.length : Nat) : Int).toNat = a.outs.length := Int.toNat_natCast _
    rw [en]
    have elr : (List.range a.outs.length).length = a.outs.length := List.length_range
    have wk := wk_range (n := a.outs.length)
    unfold Wk at wk
    rw [elr] at wk
    refine for_it wk (fun i σ H2 => i ≤ a.outs.length ∧ ∃ y4 y5 y6, σ = [some (.ref p), some (.ref t), some (.str z), some (.ref D), y4, y5, y6, none] ∧ Same H1 H2 ∧ ∃ us, H2 D = some (.lst us) ∧ Paired (fun v x => RsAt (Wo U D) H2 v x) us ((List.range i).flatMap (resAt W zs a)))
      ⟨Nat.zero_le _, none, none, none, rfl, s2, [], upd_same, .nil⟩ (fun i σ H2 _ _ => trivial) ?_ ?_
    · rintro i y σ H2 H2' hi ⟨hin, y4, y5, y6, rfl, s12, us, hD2, hp2⟩ ⟨rfl, j, hj, rfl⟩
      have ej : j = i := by
        rw [List.getElem?_range hi] at hj
        exact (Option.some.inj hj).symm
      subst ej
      have hch := (hWd.ac z a ha).2.ch _ (Act.out_mem hi)
      have hgo := hch.out
      have ho := Act.out_eq hi
      have hfD : Fresh (Wo U D) H2' := fresh_wo (hf1.same s12) (some_ne hD2)
      refine ⟨_, rfl, p, T.cW, dw, _, _, rfl, s12 _ _ w1.2, T.W.cl, T.nW _ (by simp), rfl, _, rfl, d, _, rfl, dget_rd (.inl (s12 _ _ hd)) hv, pa, dx, _, rfl, s12 _ _ a1.2, rfl, _, rfl,
        Wo U D, pa, a, j, a.out j, rfl, ((hA.lq lq_wo).lq (lq_out hD)).lq (lq_same s12), ho, hn, hgo, hfD, fun o H3 s23 ho3 hO => ?_⟩
      have s13 := s12.trans s23
      have hp3 := s13 _ _ w3.2
      generalize hg : a.out j = g at hch hgo ho hO
      refine ⟨_, rfl, p, T.cW, dw, _, _, rfl, s13 _ _ w1.2, T.W.cl, T.nW _ (by simp), rfl, pi, rfl, ⟨_, SqL.of hp3⟩, fun L hL => ?_⟩
      refine lc_map (wk_list (zs := W.piles) (inj := V.str)) V.str (fun x => decide (gc g x = .str "take")) hL (by have := hW.lp; omega) (fun _ => rfl) (fun H4 s4 => SqL.of (s4 _ _ hp3))
        (fun x hx H4 s4 R hR => ?_) (fun x _ _ H4 s4 R hR => ⟨_, rfl, hR H4 (Same.refl H4)⟩) fun H4 s4 hL4 => ?_
      · have hO4 := hO.lq (lq_same s4)
        obtain ⟨dy, dd, o1, _⟩ := id hO4
        exact ⟨_, rfl, _, rfl, o, dy, _, rfl, o1.2, Wo U D, o, g, x, rfl, hO4, gc_scal hgo x _, _, rfl, hR H4 (Same.refl H4)⟩
      have s14 := s13.trans s4
      have htk : (takes W g).length ≤ 3 := Nat.le_trans (takes_len _ _) hW.lp
      refine ⟨Wo U D, L, takes W g, rfl, SqL.of hL4, by omega, htk, fun x hx => hW.np x (List.mem_filter.mp hx).1, hfD.same (s23.trans s4), fun l2 qs2 H5 s5 hl2 hl5 hp5 => ?_⟩
      have s15 := s14.trans s5
      have s25 := (s23.trans s4).trans s5
      have hO5 := hO.lq (lq_same (U := Wo U D) (s4.trans s5))
      have hp25 : Paired (fun v x => RsAt (Wo U D) H5 v x) us ((List.range j).flatMap (resAt W zs a)) := paired_mono hp2 fun _ _ r => r.lq (lq_same s25)
      have hlen2 : qs2.length ≤ 15 := by rw [Paired.length hp5]; exact sub_size htk
      have l2D : l2 ≠ D := fun e => by
        subst e
        rw [(s23.trans s4) _ _ hD2] at hl2
        cases hl2
      have hfl : Fresh (Wo U D) H5 := hfD.same s25
      have hw5 : WoX T true (Wo U D) H5 p d W := (hw1.lq (lq_out hD)).lq (lq_same s15)
      refine ⟨l2, rfl, ⟨_, SqL.of hl5⟩, for_it (wk_list (zs := qs2) (inj := V.ref)) (fun m σ H6 => m ≤ qs2.length ∧ ∃ y6, σ = [some (.ref p), some (.ref t), some (.str z), some (.ref D), some (.int (j : Nat)), some (.ref o), y6, none] ∧ Off D H5 H6 ∧ ∃ us, H6 D = some (.lst us) ∧
          Paired (fun v x => RsAt (Wo U D) H6 v x) us ((List.range j).flatMap (resAt W zs a) ++ ((subT (takes W g)).take m).map fun x => (j, x, behindL W zs g x)))
        ⟨Nat.zero_le _, y6, rfl, Off.refl _ _, us, s25 _ _ hD2, by simpa using hp25⟩ (fun m σ H6 _ ⟨_, _, _, o6, _⟩ => SqL.of (o6 _ _ l2D hl5)) ?_ ?_⟩
      · rintro m y σ H6 H6' hm ⟨hmn, y6', rfl, o6, us6, hD6, hp6⟩ ⟨rfl, pg, hpg, rfl⟩
        have hmt : m < (subT (takes W g)).length := by
          rw [← Paired.length hp5]
          exact hm
        obtain ⟨pg', e1, hTg⟩ := paired_ix hp5 (List.getElem?_eq_getElem hmt)
        rw [hpg] at e1
        cases e1
        have hgm : (subT (takes W g))[m]? = some (subT (takes W g))[m] := List.getElem?_eq_getElem hmt
        generalize (subT (takes W g))[m] = gx at hgm hTg
        have hO6 : OutAt T.cO (Wo U D) H6' o g := hO5.lq (lq_off o6)
        have hf6 : Fresh (Wo U D) H6' := fun a ha => by
          refine hfl a ?_
          cases q : H5 a with
          | none => rfl
          | some u =>
            by_cases ad : a = D
            · subst ad
              rw [hD6] at ha
              cases ha
            · rw [o6 a u ad q] at ha
              cases ha
        have hw6 : WoX T true (Wo U D) H6' p d W := hw5.lq (lq_off o6)
        obtain ⟨dw6, pf6, pi6, pr6, kvs6, v1, _⟩ := id hw6
        have hTg6 : TAt (Wo U D) H6' pg gx := lq_off o6 _ _ hTg
        have tD : t ≠ D := ne_of_none ht hD
        have ht6 : H6' t = some (.tup (zs.map V.str)) := o6 _ _ tD (s15 _ _ ht)
        refine ⟨_, rfl, .inl ⟨rfl, _, SqL.of hD6⟩, _, rfl, _, rfl, _, rfl, p, dw6, _, rfl, v1.2, rfl, _, rfl, _, rfl, _, rfl,
          Wo U D, true, p, d, t, o, pg, W, zs, gx, g, rfl, hw6, hW, .inr (SqT.of ht6), hO6, hgo, .inr (SqT.of hTg6.2), fun t2 H7 s7 ht2 ht27 => ⟨by show 3 ≤ sizeLine; decide, fun t3 ht3 => ?_⟩⟩
        have s8 : Same H6' (upd H7 t3 (.tup [.int (j : Nat), .ref pg, .ref t2])) := s7.trans (same_new ht3)
        have hD8 := s8 _ _ hD6
        have t3D : t3 ≠ D := fun e => by
          subst e
          rw [s7 _ _ hD6] at ht3
          cases ht3
        have t2D : t2 ≠ D := fun e => by
          subst e
          rw [hD6] at ht2
          cases ht2
        have us6l : us6.length ≤ 1000 := by
          rw [Paired.length hp6, List.length_append, List.length_map, List.length_take]
          have h1 := rslL_len hW zs a j
          have h2 := sub_size htk
          omega
        refine ⟨D, us6, _, rfl, rfl, hD8, by omega, hm, _, rfl, ?_, us6 ++ [.ref t3], upd_same, ?_⟩
        · exact o6.trans ((off_same s8).trans off_upd)
        · have et : ((subT (takes W g)).take (m + 1)).map (fun x => (j, x, behindL W zs g x)) = ((subT (takes W g)).take m).map (fun x => (j, x, behindL W zs g x)) ++ [(j, gx, behindL W zs g gx)] := by
            rw [List.take_add_one, hgm, List.map_append]
            rfl
          rw [et, ← List.append_assoc]
          have lq8 : Lq (Wo U D) H6' (Wo U D) (upd (upd H7 t3 (.tup [.int (j : Nat), .ref pg, .ref t2])) D (.lst (us6 ++ [.ref t3]))) := lq_off ((off_same s8).trans off_upd)
          refine paired_snoc (paired_mono hp6 fun _ _ r => r.lq lq8) ⟨t3, pg, t2, rfl, ⟨⟨(hf6 t3 (s7.free ht3)).1, t3D⟩, ?_⟩, lq8 _ _ hTg6, ⟨(hf6 t2 ht2).1, t2D⟩, ?_⟩
          · rw [upd_ne t3D, upd_same]
          · rw [upd_ne t2D, upd_ne (ne_of_none ht27 ht3)]
            exact ht27
      · rintro σ H6 ⟨_, y6', rfl, o6, us6, hD6, hp6⟩
        have e1 : ((List.range (j + 1)).flatMap (resAt W zs a)) = (List.range j).flatMap (resAt W zs a) ++ (subT (takes W g)).map fun x => (j, x, behindL W zs g x) := by
          rw [List.range_succ, List.flatMap_append]
          congr 1
          show ([j].flatMap (resAt W zs a)) = _
          rw [List.flatMap_cons, List.flatMap_nil, List.append_nil]
          unfold resAt
          rw [hg]
        have e2 : (subT (takes W g)).take qs2.length = subT (takes W g) := by
          rw [Paired.length hp5, List.take_length]
        rw [e2, ← e1] at hp6
        exact ⟨hi, _, _, _, rfl, Off.same ((off_same s15).trans o6) hD, us6, hD6, hp6⟩
    · rintro σ H2 ⟨_, y4, y5, y6, rfl, s12, us, hD2, hp2⟩
      refine ⟨_, rfl, k D us H2 (s1.trans s12) (s1.free hD) hD2 ?_⟩
      exact paired_mono hp2 fun _ _ r => r.lq lq_wo
end KK


set_option Elab.async false
set_option linter.all false
set_option maxRecDepth 100000
set_option maxHeartbeats 4000000
/-! shifts; stocks -/
namespace KK
open PySem PySem.Spec PyProof.Rows L2
variable {P : Program} {w : World} {K : PySem.W.Frag} {mg : Str → Option Value} {base : Heap}
def takenB (zs : List Str) (f : Key → Option V) (z : Str) : Bool := decide (gc f z = .str "take") || (decide (gc f z = .str "empty") && decide (z ∈ zs))
def takenL (W : Wd) (zs : List Str) (f : Key → Option V) : List Str := W.cnts.filter (takenB zs f)
def addL (W : Wd) (f : Key → Option V) : List Str := W.cnts.filter fun z => decide (gc f z = .str "add")
def spShifts (T : Txt K mg) : Sp := fun vs H Q _ => ∃ (U : Addr → Prop) (p d q : Addr) (W : Wd) (zs : List Str) (z : Str) (a : Act) (i : Nat), vs = [.ref p, .ref q, .str z, .int (i : Nat)] ∧ WoX T true U H p d W ∧ WdOk W ∧ SqE K H q zs ∧ StOk W zs ∧ Fresh U H ∧ W.acts z = some a ∧ fitsB W zs a = true ∧ i < a.outs.length ∧
  ∀ (t t1 t2 : Addr) (H' : Hp), Same H H' → H t = none → H t1 = none → H t2 = none → H' t = some (.tup [.ref t1, .ref t2]) → H' t1 = some (.tup ((takenL W zs (a.out i)).map V.str)) → H' t2 = some (.tup ((addL W (a.out i)).map V.str)) → Q (.ref t) H'
theorem sc_sh : FnScope ["self", "state", "action", "index", "outcome", "taken", "name"] ["self", "state", "action", "index"] (defScope (inClass (top 45) 20)) := ⟨rfl, rfl, rfl, by decide +kernel, rfl, by decide +kernel, by decide +kernel⟩
theorem ok_shifts (T : Txt K mg) : C8.Met P w K mg base 10 T.cW "shifts" (spShifts T) [] := by
  have G1 : C8.Met P w K mg base 9 T.cW "checked" (spChecked T) [] := ok_checked T
  have G2 : C8.Met P w K mg base 7 T.cA "outcome" (spActOutcome T) [] := ok_actOutcome T
  have G3 : Own P w K mg base 1 T.cA "__len__" (spActLen T) := ok_actLen T
  have G4 : Own P w K mg base 1 T.cO "__getitem__" (spOutGet T.cO) := ok_outGet T
  have G5 : C8.Met P w K mg base 1 T.cW "counters" (spNewL Wd.cnts T) [] := ok_wCounters T
  refine mth_met T.W.cl T.wShifts sc_sh (fun _ _ _ _ _ _ us hl => match us, hl with | [_, _, _, _], _ => rfl) (fun vs H Q E h => ?_) (fun f cdv A outer s H vs Q E hr h => ?_)
  · obtain ⟨U, p, d, q, W, zs, z, a, i, rfl, _⟩ := h
    rfl
  · obtain ⟨U, p, d, q, W, zs, z, a, i, rfl, hw, hWd, hq, hst, hf, ha, hfit, hi, k⟩ := h
    have nd := sc_sh.nd
    have hu := hu_of hr
    have hs := sizeLine_eq
    have hW := hWd.ls
    have hcl := hW.cntsLen
    have hok := (hWd.ac z a ha).2.ok
    have hn : a.outs.length ≤ 60 := hok.ln
    refine ⟨_, pss_cons (ps_set (i := 1) nd rfl (.inl rfl) (C8.pe_mt G1 hr (by decide) (pv 0) (pa_cons (pv 1) (pa_cons (pv 2) pa_nil))))
      (pss_cons (ps_if (pt_not (pt_chain op_le op_lt pe_int (pv 3) (pe_callB (call_lenO G3 hr (by decide)) (by rfl) (T.blt _ (by decide)) PySem.boot_len (pa_cons (pe_dget hu (pe_fld (pv 0) rfl) (pv 2) (fun _ _ => rfl)) pa_nil)))) (pss_one ps_never) pss_nil)
      (pss_cons (ps_set (i := 4) nd rfl (.inr rfl) (C8.pe_mt G2 hr (by decide) (pe_dget hu (pe_fld (pv 0) rfl) (pv 2) (fun _ _ => rfl)) (pa_cons (pv 3) pa_nil)))
      (pss_cons (ps_set (i := 5) nd rfl (.inl rfl) (pe_lst pa_nil))
      (pss_cons (ps_for PassesOwn.never (by rfl) (pi_list (C8.pe_mt0 G5 hr (by decide) (pv 0))) (pg_name (i := 6) nd rfl (Or.inl rfl))
        (pss_one (ps_if (PW.pt (pw_or (pt_cmpR op_eq (pe_getO G4 hr (by decide) (pv 4) (pv 6)) pe_str (nomark _)) (pw_or1 (PW.pt (pw_and (pt_cmpR op_eq (pe_getO G4 hr (by decide) (pv 4) (pv 6)) pe_str (nomark _)) (pw_and1 (pt_cmpR op_in_seq (pv 6) (pv 1) (by rfl))))))))
          (pss_one (ps_expr (pe_bm PySem.F.plainAttrs_list PySem.F.slot_list_append PySem.F.type_list_append mt_append (pv 5) (pa_cons (pv 6) pa_nil)))) pss_nil)))
      (pss_one (ps_ret (pe_tup (pa_cons (pe_callTy call_tuple_of (by rfl) (T.blt _ (by decide)) (by decide +kernel) (pa_cons (pv 5) pa_nil)) (pa_cons (pe_callTy call_tuple_of (by rfl) (T.blt _ (by decide)) (by decide +kernel) (pa_cons
        (pe_lc (own := [("name", 6)]) (g := gName 6) (by rfl) nd (pi_list (C8.pe_mt0 G5 hr (by decide) (pv 0))) (blkOk_by (own := [("name", 6)]) (N := ["self", "state", "action", "index", "outcome", "taken", "name"]) (sc := defScope (inClass (top 45) 20)) (by decide +kernel))
          (fun _ _ _ _ _ => pg_name (i := 6) nd rfl (Or.inl rfl)) (fun _ _ _ _ _ => pts_one (pt_cmpR op_eq (pe_getO G4 hr (by decide) (pv 4) (pv 6)) pe_str (nomark _))) (fun _ _ _ _ _ => pv 6)) pa_nil)) pa_nil))))))))), ?_⟩
    obtain ⟨dw0, pf0, pi0, pr0, kvs0, u1, _⟩ := id hw
    refine ⟨_, rfl, p, dw0, _, rfl, u1.2, rfl, _, rfl, _, rfl, U, p, d, q, W, zs, z, a, rfl, hw, hWd, hq, hst, hf, ha, hfit, fun t H1 s1 ht0 ht => ?_⟩
    have hw1 := hw.lq (lq_same (U := U) s1)
    have hf1 := hf.same s1
    obtain ⟨dw, pf, pi, pr, kvs, w1, w2, w3, w4, w5, w6, w7, w8⟩ := id hw1
    have hd : H1 d = some (.dK kvs) := w6.elim id fun z => nomatch z.1
    obtain ⟨pa, hv, hA⟩ := w8.get ha
    obtain ⟨dx, c, la, qs, a1, a2, a3, a4⟩ := id hA
    refine ⟨_, rfl, _, _, rfl, rfl, _, rfl, dT (by omega) ?_⟩
    refine ⟨_, rfl, p, T.cW, dw, _, _, rfl, w1.2, T.W.cl, T.nW _ (by simp), rfl, _, rfl, d, _, rfl, dget_rd (.inl hd) hv, pa, dx, _, rfl, a1.2, Wo U d, pa, a, rfl, hA, a.outs.length, rfl, by omega, _, _, rfl, rfl, _, rfl, ?_⟩
    refine ifF (by rw [decide_eq_true (by omega : (i : Int) < ((a.outs.length : Nat) : Int))]; rfl) ?_
    have hch := (hWd.ac z a ha).2.ch _ (Act.out_mem hi)
    have hgo := hch.out
    have ho := Act.out_eq hi
    refine ⟨_, rfl, p, T.cW, dw, _, _, rfl, w1.2, T.W.cl, T.nW _ (by simp), rfl, _, rfl, d, _, rfl, dget_rd (.inl hd) hv, pa, dx, _, rfl, a1.2, rfl, _, rfl,
        U, pa, a, i, a.out i, rfl, hA.lq lq_wo, ho, hn, hgo, hf1, fun o H2 s2 ho3 hO => ?_⟩
    generalize a.out i = g at k hch hgo ho hO
    refine ⟨by show 0 ≤ sizeLine; decide, fun D hD => ?_⟩
    have s3 : Same H2 (upd H2 D (.lst [])) := same_new hD
    have hD3 : (upd H2 D (.lst [])) D = some (.lst []) := upd_same
    generalize upd H2 D (.lst []) = H3 at s3 hD3 ⊢
    have hw3 := (hw1.lq (lq_same (U := U) s2)).lq (lq_same (U := U) s3)
    obtain ⟨dw3, pf3, pi3, pr3, kvs3, v1, _⟩ := id hw3
    refine ⟨_, rfl, p, dw3, _, rfl, v1.2, rfl, U, true, p, d, W, rfl, hw3, hW, fun cn hcn => ?_⟩
    have s4 : Same H3 (upd H3 cn (.lst (W.cnts.map V.str))) := same_new hcn
    have hc4 : (upd H3 cn (.lst (W.cnts.map V.str))) cn = some (.lst (W.cnts.map V.str)) := upd_same
    have cD : cn ≠ D := fun e => by subst e; rw [hD3] at hcn; cases hcn
    generalize upd H3 cn (.lst (W.cnts.map V.str)) = H4 at s4 hc4 ⊢
    have hD4 := s4 _ _ hD3
    have s24 := s3.trans s4
    refine ⟨cn, rfl, ⟨_, SqL.of hc4⟩, for_it (wk_list (zs := W.cnts) (inj := V.str)) (fun i' σ H5 => ∃ y6, σ = [some (.ref p), some (.ref t), some (.str z), some (.int (i : Nat)), some (.ref o), some (.ref D), y6] ∧ Off D H4 H5 ∧ H5 D = some (.lst (((W.cnts.take i').filter (takenB zs g)).map V.str)))
      ⟨none, rfl, Off.refl _ _, hD4⟩ (fun i' σ H5 _ ⟨_, _, o5, _⟩ => SqL.of (o5 _ _ cD hc4)) ?_ ?_⟩
    · rintro i' y σ H5 H5' hi' ⟨y6, rfl, o5, hD5⟩ ⟨rfl, x, hx, rfl⟩
      have s25 : Same H2 H5' := Off.same ((off_same s24).trans o5) hD
      have hO5 := hO.lq (lq_same (U := U) s25)
      obtain ⟨dy, dd, o1, _⟩ := id hO5
      have et := filter_take_succ (b := takenB zs g) hx
      have app : takenB zs g x = true → tDrop (tBM K "list" rAppend (tVar 5) (tCons (tVar 6) tNil)) { nx := fun σ H5 => ∃ y6, σ = [some (.ref p), some (.ref t), some (.str z), some (.int (i : Nat)), some (.ref o), some (.ref D), y6] ∧ Off D H4 H5 ∧ H5 D = some (.lst (((W.cnts.take (i' + 1)).filter (takenB zs g)).map V.str)), rt := Q }
          [some (.ref p), some (.ref t), some (.str z), some (.int (i : Nat)), some (.ref o), some (.ref D), some (.str x)] H5' := fun hb => by
        rw [hb, if_pos rfl] at et
        refine ⟨_, rfl, .inl ⟨rfl, _, SqL.of hD5⟩, _, rfl, D, _, _, rfl, rfl, hD5, ?_, _, rfl, o5.trans off_upd, ?_⟩
        · have l1 : ((W.cnts.take i').filter (takenB zs g)).length ≤ W.cnts.length := Nat.le_trans (List.length_filter_le _ _) (by rw [List.length_take]; omega)
          rw [List.length_map]
          omega
        · rw [upd_same, et, List.map_append]
          rfl
      have skip : takenB zs g x = false → ∃ y6, [some (V.ref p), some (V.ref t), some (V.str z), some (V.int (i : Nat)), some (V.ref o), some (V.ref D), some (V.str x)] = [some (V.ref p), some (V.ref t), some (V.str z), some (V.int (i : Nat)), some (V.ref o), some (V.ref D), y6] ∧ Off D H4 H5' ∧ H5' D = some (.lst (((W.cnts.take (i' + 1)).filter (takenB zs g)).map V.str)) := fun hb => by
        rw [hb, if_neg (by decide), List.append_nil] at et
        exact ⟨_, rfl, o5, by rw [et]; exact hD5⟩
      refine ⟨_, rfl, _, rfl, o, dy, _, rfl, o1.2, U, o, g, x, rfl, hO5, gc_scal hgo x _, _, rfl, ?_⟩
      by_cases e1 : gc g x = .str "take"
      · refine dT e1 (iteT (app ?_))
        unfold takenB
        rw [decide_eq_true e1]
        rfl
      · refine dF e1 ⟨_, rfl, _, rfl, o, dy, _, rfl, o1.2, U, o, g, x, rfl, hO5, gc_scal hgo x _, _, rfl, ?_⟩
        by_cases e2 : gc g x = .str "empty"
        · refine dT e2 ⟨_, rfl, _, rfl, t, _, rfl, .inr (SqT.of (s25 _ _ (s2 _ _ ht))), rfl, strs_flat _, _, rfl, ?_⟩
          rw [inV_in]
          have eb : takenB zs g x = decide (x ∈ zs) := by
            unfold takenB
            rw [decide_eq_false e1, decide_eq_true e2]
            simp
          cases hb : decide (x ∈ zs) with
          | true => exact iteT (app (by rw [eb, hb]))
          | false => exact iteF (skip (by rw [eb, hb]))
        · refine dF e2 (iteF (skip ?_))
          unfold takenB
          rw [decide_eq_false e1, decide_eq_false e2]
          rfl
    · rintro σ H5 ⟨y6, rfl, o5, hD5⟩
      rw [List.take_length] at hD5
      have s25 : Same H2 H5 := Off.same ((off_same s24).trans o5) hD
      have s15 : Same H H5 := (s1.trans s2).trans s25
      refine ⟨_, rfl, D, _, rfl, .inl ⟨SqL.of hD5, fun t1 ht1 => ?_⟩⟩
      have s6 : Same H5 (upd H5 t1 (.tup ((takenL W zs g).map V.str))) := same_new ht1
      have h61 : (upd H5 t1 (.tup ((takenL W zs g).map V.str))) t1 = some (.tup ((takenL W zs g).map V.str)) := upd_same
      show tCons _ _ _ (upd H5 t1 (.tup ((takenL W zs g).map V.str))) _
      generalize upd H5 t1 (.tup ((takenL W zs g).map V.str)) = H6 at s6 h61 ⊢
      have s16 := s15.trans s6
      have hw6 := hw.lq (lq_same (U := U) s16)
      have hO6 := hO.lq (lq_same (U := U) (s25.trans s6))
      obtain ⟨dw6, pf6, pi6, pr6, kvs6, v16, _⟩ := id hw6
      refine ⟨_, rfl, p, dw6, _, rfl, v16.2, rfl, U, true, p, d, W, rfl, hw6, hW, fun c2 hc2 => ?_⟩
      have s7 : Same H6 (upd H6 c2 (.lst (W.cnts.map V.str))) := same_new hc2
      have h72 : (upd H6 c2 (.lst (W.cnts.map V.str))) c2 = some (.lst (W.cnts.map V.str)) := upd_same
      generalize upd H6 c2 (.lst (W.cnts.map V.str)) = H7 at s7 h72 ⊢
      refine ⟨c2, rfl, ⟨_, SqL.of h72⟩, fun D2 hD2 => ?_⟩
      refine lc_map (wk_list (zs := W.cnts) (inj := V.str)) V.str (fun x => decide (gc g x = .str "add")) hD2 (by omega) (fun _ => rfl) (fun H8 s8 => SqL.of (s8 _ _ h72))
        (fun x hx H8 s8 R hR => ?_) (fun x _ _ H8 s8 R hR => ⟨_, rfl, hR H8 (Same.refl H8)⟩) fun H8 s8 hD8 => ?_
      · have hO8 := hO6.lq (lq_same (U := U) (s7.trans s8))
        obtain ⟨dy, dd, o1, _⟩ := id hO8
        exact ⟨_, rfl, _, rfl, o, dy, _, rfl, o1.2, U, o, g, x, rfl, hO8, gc_scal hgo x _, _, rfl, hR H8 (Same.refl H8)⟩
      · refine ⟨D2, _, rfl, .inl ⟨SqL.of hD8, fun t2 ht2 => ⟨by show 2 ≤ sizeLine; decide, fun t3 ht3 => ?_⟩⟩⟩
        have s68 := s7.trans s8
        have s9 : Same H8 (upd H8 t2 (.tup ((addL W g).map V.str))) := same_new ht2
        have sA := s9.trans (same_new (o := .tup [.ref t1, .ref t2]) ht3)
        have n2 : t2 ≠ t3 := ne_of_none upd_same ht3
        refine k t3 t1 t2 _ ((s16.trans s68).trans sA) ((s16.trans s68).free (s9.free ht3)) (s15.free ht1) ((s16.trans s68).free ht2) upd_same (sA _ _ (s68 _ _ h61)) ?_
        rw [upd_ne n2, upd_same]
        rfl
end KK


set_option Elab.async false
set_option linter.all false
set_option maxRecDepth 100000
set_option maxHeartbeats 4000000
/-! stocks -/
namespace KK
open PySem PySem.Spec PyProof.Rows L2
variable {P : Program} {w : World} {K : PySem.W.Frag} {mg : Str → Option Value} {base : Heap}
/-- the numbers of these names -/
def numF (cs : List Str) (num : Str → Int) : Key → Option V
  | .inr z => if z ∈ cs then some (.int (num z)) else none
  | .inl _ => none
theorem numF_in {cs : List Str} {num : Str → Int} {z : Str} (h : z ∈ cs) : numF cs num (.inr z) = some (.int (num z)) := by
  show (if z ∈ cs then _ else _) = _
  rw [if_pos h]
theorem numF_out {cs : List Str} {num : Str → Int} {z : Str} (h : z ∉ cs) : numF cs num (.inr z) = none := by
  show (if z ∈ cs then _ else _) = _
  rw [if_neg h]
theorem numF_some {cs : List Str} {num : Str → Int} {k : Key} {v : V} (h : numF cs num k = some v) : ∃ z, k = .inr z ∧ z ∈ cs ∧ v = .int (num z) := by
  cases k with
  | inl i => cases h
  | inr z =>
    by_cases hz : z ∈ cs
    · rw [numF_in hz] at h
      exact ⟨z, rfl, hz, (Option.some.inj h).symm⟩
    · rw [numF_out hz] at h
      cases h
def NumAt (U : Addr → Prop) (H : Hp) (p : Addr) (cs : List Str) (num : Str → Int) : Prop := DV U H p (numF cs num) 40
/-! ### check_numbers -/
def spChkNum : Sp := fun vs H Q _ => ∃ (c : Addr) (kvs : List (Key × V)) (cs : List Str) (num : Str → Int), vs = [.ref c] ∧ H c = some (.dK kvs) ∧ (∀ k, valV kvs k = numF cs num k) ∧ (∀ z ∈ cs, NameOk z ∧ 0 ≤ num z) ∧
  ∀ H', Same H H' → Q .non H'
theorem sc_cn1 : FnScope ["numbers", "name"] ["numbers"] (defScope (top 22)) := ⟨rfl, rfl, rfl, by decide +kernel, rfl, by decide +kernel, by decide +kernel⟩
theorem same_frz {H : Hp} {c : Addr} {o : HO} {od : Obj} : Off c H (upd H c (.frz od o)) := off_upd
theorem ok_chkNum (T : Txt K mg) : C8.Cal P w K mg base 3 "check_numbers" spChkNum [] := by
  have G1 : C8.Cal P w K mg base 2 "is_name" spIsName [] := ok_isName T
  refine def_cal T.dCheckNumbers sc_cn1 (fun _ _ _ _ _ _ us hl => match us, hl with | [_], _ => rfl) (fun vs H Q E h => ?_) (fun f cdv A outer s H vs Q E hr h => ?_)
  · obtain ⟨c, kvs, cs, num, rfl, _⟩ := h
    rfl
  · obtain ⟨c, kvs, cs, num, rfl, hc, hv, hnum, k⟩ := h
    have nd := sc_cn1.nd
    have hu := hu_of hr
    refine ⟨_, pss_cons (ps_lock (ps_for PassesOwn.never (by rfl) (pi_keys (pv 0)) (pg_name (i := 1) nd rfl (Or.inl rfl))
        (pss_one (ps_if (pt_not (pt_val (C8.pe_c G1 hr (by decide) (by rfl) (pa_cons (pv 1) pa_nil)))) (pss_one ps_never) pss_nil))))
      (pss_one (ps_lock (ps_for PassesOwn.never (by rfl) (pi_keys (pv 0)) (pg_name (i := 1) nd rfl (Or.inl rfl))
        (pss_one (ps_if (pt_cmpR op_lt (pe_dget hu (pv 0) (pv 1) (fun _ _ => rfl)) pe_int (nomark _)) (pss_one ps_never) pss_nil))))), ?_⟩
    have key : ∀ {i : Nat} {kv : Key × V}, kvs[i]? = some kv → ∃ z, kv.1 = .inr z ∧ z ∈ cs ∧ valV kvs (.inr z) = some (.int (num z)) := fun {i kv} h => by
      obtain ⟨u, e⟩ := val_at (k := kv.1) (v := kv.2) h
      obtain ⟨z, e1, e2, e3⟩ := numF_some ((hv _).symm.trans e)
      exact ⟨z, e1, e2, by rw [hv, numF_in e2]⟩
    refine ⟨c, .dK kvs, hc, trivial, fun od => ?_⟩
    have hcl : (upd H c (.frz od (.dK kvs))) c = some (.frz od (.dK kvs)) := upd_same
    have un : ∀ H', Same (upd H c (.frz od (.dK kvs))) H' → Same H (upd H' c (.dK kvs)) := fun H' s' => same_unlock hc s'
    generalize upd H c (.frz od (.dK kvs)) = HL at hcl un ⊢
    refine ⟨_, rfl, c, od, rfl, .inl ⟨kvs, hcl, for_it (wk_keys (d := c) (o := od) (kvs := kvs)) (fun i σ H2 => ∃ y, σ = [some (.ref c), y] ∧ Same HL H2) ⟨none, rfl, Same.refl _⟩ (fun i σ H2 _ ⟨_, _, s2⟩ => s2 _ _ hcl) ?_ ?_⟩⟩
    · rintro i y σ H2 H2' hi ⟨y0, rfl, s2⟩ ⟨rfl, ⟨k1, v1⟩, hkv, rfl⟩
      obtain ⟨z, e1, e2, e3⟩ := key hkv
      obtain rfl : k1 = Sum.inr z := e1
      exact ⟨_, rfl, z, rfl, (hnum z e2).1, fun H3 s3 => ⟨true, rfl, iteF ⟨_, rfl, s2.trans s3⟩⟩⟩
    · rintro σ H2 ⟨y0, rfl, s2⟩
      refine ⟨s2 _ _ hcl, ?_⟩
      have s3 := un H2 s2
      have hc3 : (upd H2 c (.dK kvs)) c = some (.dK kvs) := upd_same
      show tLock _ _ _ (upd H2 c (.dK kvs))
      generalize upd H2 c (.dK kvs) = H3 at s3 hc3 ⊢
      refine ⟨c, .dK kvs, hc3, trivial, fun od2 => ?_⟩
      have hcl2 : (upd H3 c (.frz od2 (.dK kvs))) c = some (.frz od2 (.dK kvs)) := upd_same
      have un2 : ∀ H', Same (upd H3 c (.frz od2 (.dK kvs))) H' → Same H3 (upd H' c (.dK kvs)) := fun H' s' => same_unlock hc3 s'
      generalize upd H3 c (.frz od2 (.dK kvs)) = HM at hcl2 un2 ⊢
      refine ⟨_, rfl, c, od2, rfl, .inl ⟨kvs, hcl2, for_it (wk_keys (d := c) (o := od2) (kvs := kvs)) (fun i σ H2 => ∃ y, σ = [some (.ref c), y] ∧ Same HM H2) ⟨_, rfl, Same.refl _⟩ (fun i σ H2 _ ⟨_, _, s2⟩ => s2 _ _ hcl2) ?_ ?_⟩⟩
      · rintro i y σ H4 H4' hi ⟨y0, rfl, s4⟩ ⟨rfl, ⟨k1, v1⟩, hkv, rfl⟩
        obtain ⟨z, e1, e2, e3⟩ := key hkv
        obtain rfl : k1 = Sum.inr z := e1
        have h0 := (hnum z e2).2
        exact ⟨_, rfl, _, rfl, c, _, rfl, dget_rd (.inr ⟨od2, s4 _ _ hcl2⟩) e3, _, _, rfl, rfl, _, rfl, dF (by omega) ⟨_, rfl, s4⟩⟩
      · rintro σ H4 ⟨y0, rfl, s4⟩
        exact ⟨s4 _ _ hcl2, k _ (s3.trans (un2 H4 s4))⟩
/-! ### class Stock -/
def posF (f : Key → Option V) (k : Key) : Option V := match f k with
  | some (.int n) => if 0 < n then some (.int n) else none
  | _ => none
def spStockInit (C : Addr) : Sp := fun vs H Q _ => ∃ (x dx c : Addr) (kvs : List (Key × V)) (cs : List Str) (num : Str → Int), vs = [.ref x, .ref c] ∧ H x = some (.ins C dx []) ∧ H c = some (.dK kvs) ∧ (∀ k, valV kvs k = numF cs num k) ∧ kvs.length ≤ 1000 ∧ (∀ z ∈ cs, NameOk z ∧ 0 ≤ num z) ∧
  ∀ (d : Addr) (kt : List (Key × V)) (H' : Hp), Off x H H' → H d = none → H' x = some (.ins C dx [("table", .ref d)]) → H' d = some (.dK kt) → (∀ k, valV kt k = posF (numF cs num) k) → kt.length ≤ kvs.length → Q .non H'
theorem sc_si : FnScope ["self", "numbers", "name"] ["self", "numbers"] (defScope (inClass (top 21) 0)) := ⟨rfl, rfl, rfl, by decide +kernel, rfl, by decide +kernel, by decide +kernel⟩
theorem ok_stockInit (T : Txt K mg) : C8.Mak P w K mg base 4 "Stock" T.cS (spStockInit T.cS) [] := by
  have G1 : C8.Cal P w K mg base 3 "check_numbers" spChkNum [] := ok_chkNum T
  refine ini_makD 2 1 (by simp) rfl T.S T.iS sc_si (fun TT kV doc pm an cdv ct us its hu hi => ?_) (fun vs H Q E h => ?_) (fun f cdv A outer s H vs Q E hr h => ?_)
  · match us, hu, its, hi with
    | [_, _], _, [_], _ => exact ⟨_, rfl, rfl⟩
  · obtain ⟨x, dx, c, kvs, cs, num, rfl, _⟩ := h
    rfl
  · obtain ⟨x, dx, c, kvs, cs, num, rfl, hx, hc, hv, hl, hnum, k⟩ := h
    have nd := sc_si.nd
    have hu := hu_of hr
    have hs := sizeLine_eq
    refine ⟨_, pss_cons (ps_fld (pv 0) pe_dnewK rfl) (pss_one (ps_if (pt_cmp (pc_notN (pv 1))) (pss_cons (ps_expr (C8.pe_c G1 hr (by decide) (by rfl) (pa_cons (pv 1) pa_nil)))
      (pss_one (ps_fld (pv 0) (pe_lock (pe_dc (own := [("name", 2)]) (g := gName 2) (by rfl) nd (pi_keys (pv 1)) (blkOk_by (own := [("name", 2)]) (N := ["self", "numbers", "name"]) (sc := defScope (inClass (top 21) 0)) (by decide +kernel))
          (fun _ _ _ _ _ => pg_name (i := 2) nd rfl (Or.inl rfl)) (fun _ _ _ _ _ => pts_one (pt_cmpR op_gt (pe_dget hu (pv 1) (pv 2) (fun _ _ => rfl)) pe_int (nomark _))) (fun _ _ _ _ _ => pv 2) (fun _ _ _ _ _ => pe_dget hu (pv 1) (pv 2) (fun _ _ => rfl)))) rfl))) pss_nil)), ?_⟩
    intro d0 hd0
    have xd : d0 ≠ x := fun e => by subst e; rw [hx] at hd0; cases hd0
    refine ⟨_, rfl, x, T.cS, dx, _, rfl, by rw [upd_ne xd.symm]; exact hx, T.S.cl, T.nS, by show 0 < 1000; decide, ?_⟩
    have e1 : putF ("table" : Str) (.ref d0) [] = [(("table" : Str), V.ref d0)] := rfl
    rw [e1]
    have cx : c ≠ x := ne_of hc hx (by intro z; cases z)
    have hx1 : (upd (upd H d0 (.dK [])) x (.ins T.cS dx [(("table" : Str), V.ref d0)])) x = some (.ins T.cS dx [(("table" : Str), V.ref d0)]) := upd_same
    have hc1 : (upd (upd H d0 (.dK [])) x (.ins T.cS dx [(("table" : Str), V.ref d0)])) c = some (.dK kvs) := by
      rw [upd_ne cx, upd_ne (ne_of_none hc hd0)]
      exact hc
    have o1 : Off x H (upd (upd H d0 (.dK [])) x (.ins T.cS dx [(("table" : Str), V.ref d0)])) := (off_new hd0).trans off_upd
    generalize upd (upd H d0 (.dK [])) x (.ins T.cS dx [(("table" : Str), V.ref d0)]) = H1 at hx1 hc1 o1 ⊢
    refine ⟨_, rfl, _, rfl, iteT ⟨_, rfl, c, kvs, cs, num, rfl, hc1, hv, hnum, fun H2 s2 => ?_⟩⟩
    have hx2 := s2 _ _ hx1
    have hc2 := s2 _ _ hc1
    have o2 : Off x H H2 := o1.trans (off_same s2)
    refine ⟨c, .dK kvs, hc2, trivial, fun od => ?_⟩
    have hcl : (upd H2 c (.frz od (.dK kvs))) c = some (.frz od (.dK kvs)) := upd_same
    have un : ∀ H', Same (upd H2 c (.frz od (.dK kvs))) H' → Same H2 (upd H' c (.dK kvs)) := fun H' s' => same_unlock hc2 s'
    refine ⟨_, rfl, c, od, rfl, .inl ⟨kvs, hcl, fun D hD => ?_⟩⟩
    have Dc : D ≠ c := fun e => by subst e; rw [hcl] at hD; cases hD
    have nD2 : H2 D = none := by rwa [upd_ne Dc] at hD
    have Dx : D ≠ x := fun e => by subst e; rw [hx2] at nD2; cases nD2
    have key : ∀ {kv : Key × V}, kv ∈ kvs → ∃ z, kv.1 = .inr z ∧ z ∈ cs ∧ valV kvs (.inr z) = some (.int (num z)) := fun {kv} hm => by
      obtain ⟨j, hj⟩ := List.mem_iff_getElem?.mp hm
      obtain ⟨u, e⟩ := val_at (k := kv.1) (v := kv.2) hj
      obtain ⟨z, e1, e2, e3⟩ := numF_some ((hv _).symm.trans e)
      exact ⟨z, e1, e2, by rw [hv, numF_in e2]⟩
    refine dc_pure (wk_keys (d := c) (o := od) (kvs := kvs)) (fun kv => kv.1) (fun k => (numF cs num k).getD .non) (fun kv => (posF (numF cs num) kv.1).isSome) hD (by omega) (fun _ => rfl) (fun H6 s6 => s6 _ _ hcl)
      (fun kv hm H6 s6 R hR => ?_) (fun kv _ _ H6 _ R hR => ⟨_, rfl, hR H6 (Same.refl H6)⟩) (fun kv hm _ H6 s6 R hR => ?_) fun H6 kt s6 hD6 hv6 hl6 => ?_
    · obtain ⟨z, e1, e2, e3⟩ := key hm
      obtain ⟨k1, v1⟩ := kv
      obtain rfl : k1 = Sum.inr z := e1
      have q := hR H6 (Same.refl H6)
      refine ⟨_, rfl, _, rfl, c, _, rfl, dget_rd (.inr ⟨od, s6 _ _ hcl⟩) e3, _, _, rfl, rfl, _, rfl, ?_⟩
      have e4 : (posF (numF cs num) (.inr z)).isSome = decide (0 < num z) := by
        unfold posF
        rw [numF_in e2]
        by_cases h : 0 < num z <;> simp [h]
      have q2 : R (decide (0 < num z)) H6 := e4 ▸ q
      exact q2
    · obtain ⟨z, e1, e2, e3⟩ := key hm
      obtain ⟨k1, v1⟩ := kv
      obtain rfl : k1 = Sum.inr z := e1
      have q := hR H6 (Same.refl H6)
      have q2 : R (.int (num z)) H6 := by
        have q3 : R ((numF cs num (.inr z)).getD .non) H6 := q
        rw [numF_in e2] at q3
        exact q3
      exact ⟨_, rfl, _, rfl, c, _, rfl, dget_rd (.inr ⟨od, s6 _ _ hcl⟩) e3, q2⟩
    · refine ⟨s6 _ _ hcl, ?_⟩
      have s7 := un H6 s6
      have hD7 : (upd H6 c (.dK kvs)) D = some (.dK kt) := by
        rw [upd_ne Dc]
        exact hD6
      generalize upd H6 c (.dK kvs) = H7 at s7 hD7 ⊢
      refine ⟨_, rfl, x, T.cS, dx, _, rfl, s7 _ _ hx2, T.S.cl, T.nS, by show 1 < 1000; decide, ?_⟩
      have e5 : putF ("table" : Str) (.ref D) [(("table" : Str), V.ref d0)] = [(("table" : Str), V.ref D)] := rfl
      rw [e5]
      refine k D kt _ ((o2.trans (off_same s7)).trans off_upd) (o2.back (some_ne hx2) nD2) upd_same (by rw [upd_ne Dx]; exact hD7) (fun k' => ?_) hl6
      rw [hv6 k']
      cases e : posF (numF cs num) k' with
      | none =>
        refine if_neg fun h => ?_
        obtain ⟨kv, hkv, ek⟩ := List.mem_map.mp (inK_iff.mp h)
        have q := (List.mem_filter.mp hkv).2
        rw [ek, e] at q
        cases q
      | some v =>
        have h1 : ∃ n : Int, numF cs num k' = some (.int n) ∧ v = .int n := by
          unfold posF at e
          cases en : numF cs num k' with
          | none => rw [en] at e; cases e
          | some u =>
            rw [en] at e
            cases u with
            | int n =>
              dsimp only at e
              by_cases hn : 0 < n
              · rw [if_pos hn] at e
                exact ⟨n, rfl, (Option.some.inj e).symm⟩
              · rw [if_neg hn] at e
                cases e
            | _ => cases e
        obtain ⟨n, hn, rfl⟩ := h1
        have hin : k' ∈ kvs.map (·.1) := by
          have : valV kvs k' = some (.int n) := by rw [hv, hn]
          exact valV_in this
        obtain ⟨kv, hkv, ek⟩ := List.mem_map.mp hin
        rw [if_pos (inK_iff.mpr (List.mem_map.mpr ⟨kv, List.mem_filter.mpr ⟨hkv, by rw [ek, e]; rfl⟩, ek⟩)), hn]
        rfl
/-- a stock at p: num says its numbers -/
def StkAt (C : Addr) (U : Addr → Prop) (H : Hp) (p : Addr) (num : Str → Int) : Prop := ∃ dx d f, At U H p (.ins C dx [("table", .ref d)]) ∧ DV U H d f 1000 ∧ ∀ z, (f (.inr z)).getD (.int 0) = .int (num z)
theorem StkAt.lq {C : Addr} {U U' : Addr → Prop} {H H' : Hp} {p : Addr} {num : Str → Int} (h : StkAt C U H p num) (q : Lq U H U' H') : StkAt C U' H' p num := by
  obtain ⟨dx, d, f, a, b, c⟩ := h
  exact ⟨dx, d, f, q _ _ a, b.lq q, c⟩
def spStkGet (C : Addr) : Sp := fun vs H Q _ => ∃ (U : Addr → Prop) (p : Addr) (num : Str → Int) (z : Str), vs = [.ref p, .str z] ∧ StkAt C U H p num ∧ Q (.int (num z)) H
theorem sc_sg : FnScope ["self", "name"] ["self", "name"] (defScope (inClass (top 21) 3)) := ⟨rfl, rfl, rfl, by decide +kernel, rfl, by decide +kernel, by decide +kernel⟩
theorem ok_stkGet (T : Txt K mg) : Own P w K mg base 1 T.cS "__getitem__" (spStkGet T.cS) := by
  refine mth_own T.S.cl T.sGet sc_sg (fun _ _ _ _ _ _ us hl => match us, hl with | [_, _], _ => rfl) (fun vs H Q E h => ?_) (fun f cdv A outer s H vs Q E hr h => ?_)
  · obtain ⟨U, p, num, z, rfl, _⟩ := h
    rfl
  · obtain ⟨U, p, num, z, rfl, ⟨dx, d, g, hp, ⟨kvs, hd, hv, hl⟩, hz⟩, k⟩ := h
    have hu := hu_of hr
    refine ⟨_, pss_one (ps_ret (pe_dget2 hu (pe_fld (pv 0) rfl) (pv 1) pe_int ⟨rfl, rfl, rfl, rfl⟩)), ?_⟩
    refine ⟨_, rfl, p, T.cS, dx, _, _, rfl, hp.2, T.S.cl, T.nS, rfl, d, rfl, .inl ⟨kvs, .inl hd.2⟩, _, rfl, valV kvs (.inr z), DGet.k (k := Sum.inr z) hd.2, ?_⟩
    rw [hv, hz]
    exact k
/-- Stock(numbers): what stands behind -/
theorem stock_made {C : Addr} {U : Addr → Prop} {H H' : Hp} {x dx d : Addr} {kt : List (Key × V)} {cs : List Str} {num : Str → Int} (hf : Fresh U H) (nx : H x = none) (nd : H dx = none) (h0 : ∀ z ∈ cs, 0 ≤ num z)
    (ho : Off x (upd (upd H dx (.own x)) x (.ins C dx [])) H') (hd : (upd (upd H dx (.own x)) x (.ins C dx [])) d = none) (h1 : H' x = some (.ins C dx [("table", .ref d)])) (h2 : H' d = some (.dK kt)) (hv : ∀ k, valV kt k = posF (numF cs num) k) (hl : kt.length ≤ 1000) :
    Same H H' ∧ StkAt C U H' x (fun z => if z ∈ cs then num z else 0) := by
  have s : Same H H' := fun b o e => by
    refine ho b o (ne_of_none e nx) ?_
    rw [upd_ne (ne_of_none e nx), upd_ne (ne_of_none e nd)]
    exact e
  refine ⟨s, dx, d, posF (numF cs num), ⟨hf x nx, h1⟩, ⟨kt, ⟨hf d ?_, h2⟩, hv, hl⟩, fun z => ?_⟩
  · by_cases e1 : d = x
    · subst e1
      exact nx
    · rw [upd_ne e1] at hd
      by_cases e2 : d = dx
      · subst e2
        exact nd
      · rwa [upd_ne e2] at hd
  · unfold posF
    by_cases hz : z ∈ cs
    · rw [numF_in hz]
      dsimp only
      rw [if_pos hz]
      by_cases hp : 0 < num z
      · rw [if_pos hp]
        rfl
      · rw [if_neg hp]
        have := h0 z hz
        have e : num z = 0 := by omega
        rw [e]
        rfl
    · rw [numF_out hz]
      dsimp only
      rw [if_neg hz]
      rfl
end KK


set_option Elab.async false
set_option linter.all false
set_option maxRecDepth 100000
set_option maxHeartbeats 4000000
/-! runs -/
namespace KK
open PySem PySem.Spec PyProof.Rows L2
variable {P : Program} {w : World} {K : PySem.W.Frag} {mg : Str → Option Value} {base : Heap}
theorem lq_offN {U : Addr → Prop} {x : Addr} {H H' : Hp} (h : ¬ U x) (o : Off x H H') : Lq U H U H' := fun a u e => ⟨e.1, o a u (fun z => h (by rw [← z]; exact e.1)) e.2⟩
theorem fresh_off {U : Addr → Prop} {x : Addr} {H H' : Hp} (hf : Fresh U H) (o : Off x H H') (n : H' x ≠ none) : Fresh U H' := fun a ha => hf a (o.back n ha)
abbrev rflds (q t n lg pa : Addr) : List (Str × V) := [("inner", .ref q), ("truths", .ref t), ("numbers", .ref n), ("log", .ref lg), ("past", .ref pa)]
/-- a region without the run's own -/
def Ur (U : Addr → Prop) (n lg pa : Addr) (b : Addr) : Prop := U b ∧ b ≠ n ∧ b ≠ lg ∧ b ≠ pa
def spRunInit (K : PySem.W.Frag) (T : Txt K mg) : Sp := fun vs H Q _ => ∃ (U : Addr → Prop) (x dx p d l st : Addr) (W : Wd) (zs : List Str) (num : Str → Int), vs = [.ref x, .ref p, .ref l, .ref st] ∧ H x = some (.ins T.cR dx []) ∧ ¬ U x ∧ Fresh U H ∧
  WoX T true U H p d W ∧ ListsOk W ∧ SqL K H l (zs.map V.str) ∧ (∀ z ∈ zs, z ∈ W.facts) ∧ zs.Nodup ∧ StkAt T.cS U H st num ∧
  ∀ (q d' t n lg pa : Addr) (kn : List (Key × V)) (H' : Hp), Off x H H' → H t = none → H n = none → H lg = none → H pa = none → lg ≠ pa → t ≠ lg → t ≠ pa → H' x = some (.ins T.cR dx (rflds q t n lg pa)) → WoX T true (Ur U n lg pa) H' q d' W →
    H' t = some (.lst ((W.facts.filter fun z => decide (z ∈ zs)).map V.str)) → H' n = some (.dK kn) → (∀ k, valV kn k = numF W.cnts num k) → kn.length ≤ 13 → H' lg = some (.lst []) → H' pa = some (.lst []) → Q .non H'
theorem sc_ri : FnScope ["self", "world", "facts", "stock", "name"] ["self", "world", "facts", "stock"] (defScope (inClass (top 26) 0)) := ⟨rfl, rfl, rfl, by decide +kernel, rfl, by decide +kernel, by decide +kernel⟩
theorem ok_runInit (T : Txt K mg) : C8.Mak P w K mg base 8 "Run" T.cR (spRunInit K T) [] := by
  have G1 : C8.Met P w K mg base 7 T.cW "copy" (spWCopy T) [] := ok_wCopy T
  have G2 : C8.Met P w K mg base 1 T.cW "facts" (spNewL Wd.facts T) [] := ok_wFacts T
  have G3 : C8.Met P w K mg base 1 T.cW "counters" (spNewL Wd.cnts T) [] := ok_wCounters T
  have G4 : Own P w K mg base 1 T.cS "__getitem__" (spStkGet T.cS) := ok_stkGet T
  refine ini_mak T.R T.iR sc_ri (fun _ _ _ _ _ _ us hl => match us, hl with | [_, _, _, _], _ => rfl) (fun vs H Q E h => ?_) (fun f cdv A outer s H vs Q E hr h => ?_)
  · obtain ⟨U, x, dx, p, d, l, st, W, zs, num, rfl, _⟩ := h
    rfl
  · obtain ⟨U, x, dx, p, d, l, st, W, zs, num, rfl, hx, nU, hf, hw, hW, hl, hzs, hnd, hst, k⟩ := h
    have nd := sc_ri.nd
    have hu := hu_of hr
    have hs := sizeLine_eq
    have hcl := hW.cntsLen
    have hlf := hW.lf
    refine ⟨_, pss_cons (ps_fld (pv 0) (C8.pe_mt0 G1 hr (by decide) (pv 1)) rfl)
      (pss_cons (ps_for PassesOwn.never (by rfl) (pi_list (pv 2)) (pg_name (i := 4) nd rfl (Or.inl rfl))
        (pss_one (ps_if (PW.pt (pw_or (pt_cmpR op_notIn_seq (pv 4) (C8.pe_mt0 G2 hr (by decide) (pe_fld (pv 0) rfl)) (by rfl)) (pw_or1 (pt_cmpR op_gt (pe_bm PySem.F.plainAttrs_list PySem.F.slot_list_count PySem.F.type_list_count mt_scount
          (pe_callTy call_list_of (by rfl) (T.blt _ (by decide)) (by decide +kernel) (pa_cons (pv 2) pa_nil)) (pa_cons (pv 4) pa_nil)) pe_int (nomark _))))) (pss_one ps_never) pss_nil)))
      (pss_cons (ps_fld (pv 0) (pe_lc (own := [("name", 4)]) (g := gName 4) (by rfl) nd (pi_list (C8.pe_mt0 G2 hr (by decide) (pe_fld (pv 0) rfl))) (blkOk_by (own := [("name", 4)]) (N := ["self", "world", "facts", "stock", "name"]) (sc := defScope (inClass (top 26) 0)) (by decide +kernel))
          (fun _ _ _ _ _ => pg_name (i := 4) nd rfl (Or.inl rfl)) (fun _ _ _ _ _ => pts_one (pt_cmpR (r := rIn K false) op_in_seq (pv 4) (pv 2) (by rfl))) (fun _ _ _ _ _ => pv 4)) rfl)
      (pss_cons (ps_fld (pv 0) (pe_dc (own := [("name", 4)]) (g := gName 4) (by rfl) nd (pi_list (C8.pe_mt0 G3 hr (by decide) (pe_fld (pv 0) rfl))) (blkOk_by (own := [("name", 4)]) (N := ["self", "world", "facts", "stock", "name"]) (sc := defScope (inClass (top 26) 0)) (by decide +kernel))
          (fun _ _ _ _ _ => pg_name (i := 4) nd rfl (Or.inl rfl)) (fun _ _ _ _ _ => pts_nil) (fun _ _ _ _ _ => pv 4) (fun _ _ _ _ _ => pe_getO G4 hr (by decide) (pv 3) (pv 4))) rfl)
      (pss_cons (ps_fld (pv 0) (pe_lst pa_nil) rfl)
      (pss_one (ps_fld (pv 0) (pe_lst pa_nil) rfl)))))), ?_⟩
    obtain ⟨dw, pf, pi, pr, kvs, w1, _⟩ := id hw
    -- self.inner
    refine ⟨_, rfl, p, dw, _, rfl, w1.2, rfl, U, p, d, W, rfl, hw, hW, hf, fun q d' H1 s1 hq0 hd0 hq => ?_⟩
    have hx1 := s1 _ _ hx
    refine ⟨_, rfl, x, T.cR, dx, _, rfl, hx1, T.R.cl, T.nR _ (by simp), by show 0 < 1000; decide, ?_⟩
    have e1 : putF ("inner" : Str) (.ref q) [] = [(("inner" : Str), V.ref q)] := rfl
    rw [e1]
    have o2 : Off x H (upd H1 x (.ins T.cR dx [(("inner" : Str), V.ref q)])) := (off_same s1).trans off_upd
    have hx2 : (upd H1 x (.ins T.cR dx [(("inner" : Str), V.ref q)])) x = some (.ins T.cR dx [(("inner" : Str), V.ref q)]) := upd_same
    have hq2 : WoX T true U (upd H1 x (.ins T.cR dx [(("inner" : Str), V.ref q)])) q d' W := hq.lq (lq_offN nU off_upd)
    generalize upd H1 x (.ins T.cR dx [(("inner" : Str), V.ref q)]) = H2 at o2 hx2 hq2 ⊢
    have hl2 : SqL K H2 l (zs.map V.str) := by
      rcases hl with (h | ⟨o, h⟩) | h
      · exact .inl (.inl (o2 _ _ (ne_of h hx (by intro z; cases z)) h))
      · exact .inl (.inr ⟨o, o2 _ _ (ne_of h hx (by intro z; cases z)) h⟩)
      · exact .inr h
    -- each stands among the facts, once
    refine ⟨_, rfl, l, rfl, ⟨_, hl2⟩, for_it (wk_list (zs := zs) (inj := V.str)) (fun i σ H3 => ∃ y, σ = [some (.ref x), some (.ref p), some (.ref l), some (.ref st), y] ∧ Same H2 H3) ⟨none, rfl, Same.refl _⟩ (fun i σ H3 _ ⟨_, _, s3⟩ => s3.seq hl2) ?_ ?_⟩
    · rintro i y σ H3 H3' hi ⟨y0, rfl, s3⟩ ⟨rfl, z, hz, rfl⟩
      have hzm := List.mem_of_getElem? hz
      have hq3 := hq2.lq (lq_same (U := U) s3)
      obtain ⟨dw3, pf3, pi3, pr3, kvs3, v1, _⟩ := id hq3
      refine ⟨_, rfl, _, rfl, x, T.cR, dx, _, _, rfl, s3 _ _ hx2, T.R.cl, T.nR _ (by simp), rfl, q, dw3, _, rfl, v1.2, rfl, U, true, q, d', W, rfl, hq3, hW, fun fl hfl => ?_⟩
      refine ⟨fl, _, rfl, .inl (SqL.of upd_same), rfl, strs_flat _, _, rfl, ifF (by rw [inV_no, decide_eq_true (hzs z hzm)]; rfl) ?_⟩
      have s4 := s3.trans (same_new (o := .lst (W.facts.map V.str)) hfl)
      refine ⟨_, rfl, l, _, rfl, .inl (s4.seq hl2), fun l2 hl2' => ⟨.inl ⟨rfl, _, SqL.of upd_same⟩, _, rfl, l2, zs, z, rfl, rfl, SqL.of upd_same, _, _, rfl, rfl, _, rfl, ?_⟩⟩
      refine ifF ?_ ⟨_, rfl, s4.trans (same_new hl2')⟩
      have := count_one hnd z
      exact decide_eq_false (by omega)
    rintro σ H3 ⟨y0, rfl, s3⟩
    -- self.truths
    have hq3 := hq2.lq (lq_same (U := U) s3)
    obtain ⟨dw3, pf3, pi3, pr3, kvs3, v1, _⟩ := id hq3
    have hx3 := s3 _ _ hx2
    have o3 : Off x H H3 := o2.trans (off_same s3)
    refine ⟨_, rfl, x, T.cR, dx, _, _, rfl, hx3, T.R.cl, T.nR _ (by simp), rfl, q, dw3, _, rfl, v1.2, rfl, U, true, q, d', W, rfl, hq3, hW, fun fl hfl => ?_⟩
    have s4 : Same H3 (upd H3 fl (.lst (W.facts.map V.str))) := same_new hfl
    have hf4 : (upd H3 fl (.lst (W.facts.map V.str))) fl = some (.lst (W.facts.map V.str)) := upd_same
    generalize upd H3 fl (.lst (W.facts.map V.str)) = H4 at s4 hf4 ⊢
    refine ⟨fl, rfl, ⟨_, SqL.of hf4⟩, fun t ht4 => ?_⟩
    have hl4 : SqL K H4 l (zs.map V.str) := (s3.trans s4).seq hl2
    refine lc_map (wk_list (zs := W.facts) (inj := V.str)) V.str (fun z => decide (z ∈ zs)) ht4 (by omega) (fun _ => rfl) (fun H5 s5 => SqL.of (s5 _ _ hf4))
      (fun z _ H5 s5 R hR => ⟨_, rfl, _, rfl, l, _, rfl, .inl (s5.seq hl4), rfl, strs_flat _, _, rfl, by rw [inV_in]; exact hR H5 (Same.refl H5)⟩) (fun z _ _ H5 s5 R hR => ⟨_, rfl, hR H5 (Same.refl H5)⟩) fun H5 s5 ht5 => ?_
    have s35 := s4.trans s5
    have hx5 := s35 _ _ hx3
    have nt3 : H3 t = none := s4.free ht4
    have nt0 : H t = none := o3.back (some_ne hx3) nt3
    have tx : t ≠ x := fun e => by subst e; rw [hx3] at nt3; cases nt3
    refine ⟨_, rfl, x, T.cR, dx, _, rfl, hx5, T.R.cl, T.nR _ (by simp), by show 1 < 1000; decide, ?_⟩
    have e2 : putF ("truths" : Str) (.ref t) [(("inner" : Str), V.ref q)] = [(("inner" : Str), V.ref q), (("truths" : Str), V.ref t)] := rfl
    rw [e2]
    have o6 : Off x H3 (upd H5 x (.ins T.cR dx [(("inner" : Str), V.ref q), (("truths" : Str), V.ref t)])) := (off_same s35).trans off_upd
    have hx6 : (upd H5 x (.ins T.cR dx [(("inner" : Str), V.ref q), (("truths" : Str), V.ref t)])) x = some (.ins T.cR dx [(("inner" : Str), V.ref q), (("truths" : Str), V.ref t)]) := upd_same
    have ht6 : (upd H5 x (.ins T.cR dx [(("inner" : Str), V.ref q), (("truths" : Str), V.ref t)])) t = some (.lst ((W.facts.filter fun z => decide (z ∈ zs)).map V.str)) := by
      rw [upd_ne tx]
      exact ht5
    generalize upd H5 x (.ins T.cR dx [(("inner" : Str), V.ref q), (("truths" : Str), V.ref t)]) = H6 at o6 hx6 ht6 ⊢
    have o06 : Off x H H6 := o3.trans o6
    have hq6 : WoX T true U H6 q d' W := hq3.lq (lq_offN nU o6)
    have hst6 : StkAt T.cS U H6 st num := hst.lq (lq_offN nU o06)
    -- self.numbers
    obtain ⟨dw6, pf6, pi6, pr6, kvs6, v6, _⟩ := id hq6
    refine ⟨_, rfl, x, T.cR, dx, _, _, rfl, hx6, T.R.cl, T.nR _ (by simp), rfl, q, dw6, _, rfl, v6.2, rfl, U, true, q, d', W, rfl, hq6, hW, fun cl hcl6 => ?_⟩
    have s7 : Same H6 (upd H6 cl (.lst (W.cnts.map V.str))) := same_new hcl6
    have hc7 : (upd H6 cl (.lst (W.cnts.map V.str))) cl = some (.lst (W.cnts.map V.str)) := upd_same
    generalize upd H6 cl (.lst (W.cnts.map V.str)) = H7 at s7 hc7 ⊢
    refine ⟨cl, rfl, ⟨_, SqL.of hc7⟩, fun n hn7 => ?_⟩
    refine dc_pure (wk_list (zs := W.cnts) (inj := V.str)) (fun z => Sum.inr z) (fun k => (numF W.cnts num k).getD .non) (fun _ => true) hn7 (by omega) (fun _ => rfl) (fun H8 s8 => SqL.of (s8 _ _ hc7))
      (fun z _ H8 s8 R hR => hR H8 (Same.refl H8)) (fun z _ _ H8 s8 R hR => ⟨_, rfl, hR H8 (Same.refl H8)⟩) (fun z hz _ H8 s8 R hR => ?_) fun H8 kn s8 hn8 hv8 hl8 => ?_
    · have hst8 := hst6.lq (lq_same (U := U) (s7.trans s8))
      obtain ⟨dy, dd, g, g1, _⟩ := id hst8
      have q2 : R (.int (num z)) H8 := by
        have q3 : R ((numF W.cnts num (.inr z)).getD .non) H8 := hR H8 (Same.refl H8)
        rw [numF_in hz] at q3
        exact q3
      exact ⟨_, rfl, _, rfl, st, dy, _, rfl, g1.2, U, st, num, z, rfl, hst8, q2⟩
    have s68 := s7.trans s8
    have hx8 := s68 _ _ hx6
    have nn6 : H6 n = none := s7.free hn7
    have nn0 : H n = none := o06.back (some_ne hx6) nn6
    have nx : n ≠ x := fun e => by subst e; rw [hx6] at nn6; cases nn6
    refine ⟨_, rfl, x, T.cR, dx, _, rfl, hx8, T.R.cl, T.nR _ (by simp), by show 2 < 1000; decide, ?_⟩
    have e3 : putF ("numbers" : Str) (.ref n) [(("inner" : Str), V.ref q), (("truths" : Str), V.ref t)] = [(("inner" : Str), V.ref q), (("truths" : Str), V.ref t), (("numbers" : Str), V.ref n)] := rfl
    rw [e3]
    have o9 : Off x H6 (upd H8 x (.ins T.cR dx [(("inner" : Str), V.ref q), (("truths" : Str), V.ref t), (("numbers" : Str), V.ref n)])) := (off_same s68).trans off_upd
    have hx9 : (upd H8 x (.ins T.cR dx [(("inner" : Str), V.ref q), (("truths" : Str), V.ref t), (("numbers" : Str), V.ref n)])) x = some (.ins T.cR dx [(("inner" : Str), V.ref q), (("truths" : Str), V.ref t), (("numbers" : Str), V.ref n)]) := upd_same
    have hn9 : (upd H8 x (.ins T.cR dx [(("inner" : Str), V.ref q), (("truths" : Str), V.ref t), (("numbers" : Str), V.ref n)])) n = some (.dK kn) := by
      rw [upd_ne nx]
      exact hn8
    generalize upd H8 x (.ins T.cR dx [(("inner" : Str), V.ref q), (("truths" : Str), V.ref t), (("numbers" : Str), V.ref n)]) = H9 at o9 hx9 hn9 ⊢
    have o69 : Off x H H9 := o06.trans o9
    -- self.log
    refine ⟨by show 0 ≤ sizeLine; decide, fun lg hlg => ?_⟩
    have lx : lg ≠ x := fun e => by subst e; rw [hx9] at hlg; cases hlg
    refine ⟨_, rfl, x, T.cR, dx, _, rfl, by rw [upd_ne lx.symm]; exact hx9, T.R.cl, T.nR _ (by simp), by show 3 < 1000; decide, ?_⟩
    have e4 : putF ("log" : Str) (.ref lg) [(("inner" : Str), V.ref q), (("truths" : Str), V.ref t), (("numbers" : Str), V.ref n)] = [(("inner" : Str), V.ref q), (("truths" : Str), V.ref t), (("numbers" : Str), V.ref n), (("log" : Str), V.ref lg)] := rfl
    rw [e4]
    have oA : Off x H9 (upd (upd H9 lg (.lst [])) x (.ins T.cR dx [(("inner" : Str), V.ref q), (("truths" : Str), V.ref t), (("numbers" : Str), V.ref n), (("log" : Str), V.ref lg)])) := (off_new hlg).trans off_upd
    have hxA : (upd (upd H9 lg (.lst [])) x (.ins T.cR dx [(("inner" : Str), V.ref q), (("truths" : Str), V.ref t), (("numbers" : Str), V.ref n), (("log" : Str), V.ref lg)])) x = some (.ins T.cR dx [(("inner" : Str), V.ref q), (("truths" : Str), V.ref t), (("numbers" : Str), V.ref n), (("log" : Str), V.ref lg)]) := upd_same
    have hlA : (upd (upd H9 lg (.lst [])) x (.ins T.cR dx [(("inner" : Str), V.ref q), (("truths" : Str), V.ref t), (("numbers" : Str), V.ref n), (("log" : Str), V.ref lg)])) lg = some (.lst []) := by rw [upd_ne lx, upd_same]
    generalize upd (upd H9 lg (.lst [])) x (.ins T.cR dx [(("inner" : Str), V.ref q), (("truths" : Str), V.ref t), (("numbers" : Str), V.ref n), (("log" : Str), V.ref lg)]) = HA at oA hxA hlA ⊢
    -- self.past
    refine ⟨by show 0 ≤ sizeLine; decide, fun pa hpa => ?_⟩
    have px : pa ≠ x := fun e => by subst e; rw [hxA] at hpa; cases hpa
    have lp : lg ≠ pa := ne_of_none hlA hpa
    refine ⟨_, rfl, x, T.cR, dx, _, rfl, by rw [upd_ne px.symm]; exact hxA, T.R.cl, T.nR _ (by simp), by show 4 < 1000; decide, ?_⟩
    have e5 : putF ("past" : Str) (.ref pa) [(("inner" : Str), V.ref q), (("truths" : Str), V.ref t), (("numbers" : Str), V.ref n), (("log" : Str), V.ref lg)] = rflds q t n lg pa := rfl
    rw [e5]
    have oB : Off x HA (upd (upd HA pa (.lst [])) x (.ins T.cR dx (rflds q t n lg pa))) := (off_new hpa).trans off_upd
    have oAB := oA.trans oB
    have o0B : Off x H (upd (upd HA pa (.lst [])) x (.ins T.cR dx (rflds q t n lg pa))) := o69.trans oAB
    have oAl := o69.trans oA
    have tlg : t ≠ lg := ne_of_none (o9 _ _ tx ht6) hlg
    have tpa : t ≠ pa := ne_of_none (oA _ _ tx (o9 _ _ tx ht6)) hpa
    have n6lg : H6 lg = none := o9.back (some_ne hx9) hlg
    have n6pa : H6 pa = none := (o9.trans oA).back (some_ne hxA) hpa
    refine k q d' t n lg pa kn _ o0B nt0 nn0 (o69.back (some_ne hx9) hlg) (oAl.back (some_ne hxA) hpa) lp tlg tpa upd_same ?_ (oB _ _ tx (oA _ _ tx (o9 _ _ tx ht6))) (oB _ _ nx (oA _ _ nx hn9)) (fun k' => ?_) (by omega) (oB _ _ lx hlA) (by rw [upd_ne px, upd_same])
    · exact hq6.lq fun b o e => ⟨⟨e.1, ne_of_none e.2 nn6, ne_of_none e.2 n6lg, ne_of_none e.2 n6pa⟩, (o9.trans oAB) b o (fun z => nU (by rw [← z]; exact e.1)) e.2⟩
    · rw [hv8 k']
      have ef : W.cnts.filter (fun _ => true) = W.cnts := List.filter_eq_self.mpr fun _ _ => rfl
      rw [ef]
      cases k' with
      | inl i =>
        refine if_neg fun h => ?_
        obtain ⟨y, _, e⟩ := List.mem_map.mp (inK_iff.mp h)
        cases e
      | inr z =>
        by_cases hz : z ∈ W.cnts
        · rw [numF_in hz, if_pos (inK_iff.mpr (List.mem_map.mpr ⟨z, hz, rfl⟩))]
          rfl
        · rw [numF_out hz]
          refine if_neg fun h => ?_
          obtain ⟨y, hy, e⟩ := List.mem_map.mp (inK_iff.mp h)
          cases e
          exact hz hy
end KK


set_option Elab.async false
set_option linter.all false
set_option maxRecDepth 100000
set_option maxHeartbeats 4000000
/-! runs: state_now, stock_now, check_amounts, true_behind, behind_step -/
namespace KK
open PySem PySem.Spec PyProof.Rows L2
variable {P : Program} {w : World} {K : PySem.W.Frag} {mg : Str → Option Value} {base : Heap}
section
variable {X : Cx} {KK : PySem.W.Frag}
/-- rules for the block of a comprehension: what they ask names no block -/
theorem pe_fldK {e : Expr} {ta : TE} {f : Str} {pos : Pos} (hK : X.K = KK) (he : PE X e ta) (hb : attributeBase e f X.env (eval e X.env) = eval e X.env) : PE X (.Attribute e f pos) (tFld KK ta f) := by
  subst hK
  exact pe_fld he hb
theorem call_lenK (hK : X.K = KK) : CallR X (.builtin "len") (fun xs H Q => ∃ p ys, xs = [.ref p] ∧ (SqL KK H p ys ∨ SqT KK H p ys) ∧ Q (.int ys.length) H) := by
  subst hK
  exact call_len_seq
end
def RunAt (T : Txt K mg) (U : Addr → Prop) (H : Hp) (p lg pa : Addr) (W : Wd) (tr : List Str) (num : Str → Int) (m : Nat) : Prop := ∃ dx q d t n, H p = some (.ins T.cR dx (rflds q t n lg pa)) ∧
  WoX T true (Wo U n) H q d W ∧ LAt U H t tr ∧ NumAt U H n W.cnts num ∧ (∃ xs, H lg = some (.lst xs) ∧ xs.length ≤ m) ∧ (∃ xs, H pa = some (.lst xs) ∧ xs.length ≤ m) ∧ lg ≠ pa
theorem RunAt.same {T : Txt K mg} {U : Addr → Prop} {H H' : Hp} {p lg pa : Addr} {W : Wd} {tr : List Str} {num : Str → Int} {m : Nat} (h : RunAt T U H p lg pa W tr num m) (s : Same H H') : RunAt T U H' p lg pa W tr num m := by
  obtain ⟨dx, q, d, t, n, h1, h2, h3, h4, ⟨xs, h5, h5'⟩, ⟨ys, h6, h6'⟩, h7⟩ := h
  exact ⟨dx, q, d, t, n, s _ _ h1, h2.lq (lq_same s), lq_same s _ _ h3, h4.lq (lq_same s), ⟨xs, s _ _ h5, h5'⟩, ⟨ys, s _ _ h6, h6'⟩, h7⟩
/-- the state of a run -/
def stL (W : Wd) (tr : List Str) (num : Str → Int) : List Str := tr ++ W.piles.filter fun z => decide (0 < num z)
def spStateNow (T : Txt K mg) : Sp := fun vs H Q _ => ∃ (U : Addr → Prop) (p lg pa : Addr) (W : Wd) (tr : List Str) (num : Str → Int) (m : Nat), vs = [.ref p] ∧ RunAt T U H p lg pa W tr num m ∧ ListsOk W ∧ tr.length ≤ 10 ∧
  ∀ (t : Addr) (H' : Hp), Same H H' → H t = none → H' t = some (.tup ((stL W tr num).map V.str)) → Q (.ref t) H'
theorem sc_sn : FnScope ["self", "name"] ["self"] (defScope (inClass (top 26) 1)) := ⟨rfl, rfl, rfl, by decide +kernel, rfl, by decide +kernel, by decide +kernel⟩
theorem ok_stateNow (T : Txt K mg) : C8.Met P w K mg base 2 T.cR "state_now" (spStateNow T) [] := by
  have G2 : C8.Met P w K mg base 1 T.cW "piles" (spNewL Wd.piles T) [] := ok_wPiles T
  refine mth_met T.R.cl T.rStateNow sc_sn (fun _ _ _ _ _ _ us hl => match us, hl with | [_], _ => rfl) (fun vs H Q E h => ?_) (fun f cdv A outer s H vs Q E hr h => ?_)
  · obtain ⟨U, p, lg, pa, W, tr, num, m, rfl, _⟩ := h
    rfl
  · obtain ⟨U, p, lg, pa, W, tr, num, m, rfl, ⟨dx, q, d, t, n, h1, h2, h3, ⟨kn, n1, n2, n3⟩, h5, h6, h7⟩, hW, htl, k⟩ := h
    have nd := sc_sn.nd
    have hu := hu_of hr
    have hs := sizeLine_eq
    have hlp := hW.lp
    refine ⟨_, pss_one (ps_ret (pe_callTy call_tuple_of (by rfl) (T.blt _ (by decide)) (by decide +kernel) (pa_cons (pe_op op_cat (pe_fld (pv 0) rfl)
      (pe_lc (own := [("name", 1)]) (g := gName 1) (by rfl) nd (pi_list (C8.pe_mt0 G2 hr (by decide) (pe_fld (pv 0) rfl))) (blkOk_by (own := [("name", 1)]) (N := ["self", "name"]) (sc := defScope (inClass (top 26) 1)) (by decide +kernel))
          (fun _ _ _ _ _ => pg_name (i := 1) nd rfl (Or.inl rfl)) (fun _ _ _ _ _ => pts_one (pt_cmpR op_gt (pe_dget hu (pe_fldK (KK := K) rfl (pv 0) rfl) (pv 1) (fun _ _ => rfl)) pe_int (nomark _))) (fun _ _ _ _ _ => pv 1))) pa_nil))), ?_⟩
    obtain ⟨dw, pf, pi, pr, kvs, w1, _⟩ := id h2
    refine ⟨_, rfl, p, T.cR, dx, _, _, rfl, h1, T.R.cl, T.nR _ (by simp), rfl, _, rfl, p, T.cR, dx, _, _, rfl, h1, T.R.cl, T.nR _ (by simp), rfl, q, dw, _, rfl, w1.2, rfl, Wo U n, true, q, d, W, rfl, h2, hW, fun pl hpl => ?_⟩
    have s1 : Same H (upd H pl (.lst (W.piles.map V.str))) := same_new hpl
    have hp1 : (upd H pl (.lst (W.piles.map V.str))) pl = some (.lst (W.piles.map V.str)) := upd_same
    generalize upd H pl (.lst (W.piles.map V.str)) = H1 at s1 hp1 ⊢
    refine ⟨pl, rfl, ⟨_, SqL.of hp1⟩, fun D hD => ?_⟩
    refine lc_map (wk_list (zs := W.piles) (inj := V.str)) V.str (fun z => decide (0 < num z)) hD (by omega) (fun _ => rfl) (fun H2 s2 => SqL.of (s2 _ _ hp1))
      (fun z hz H2 s2 R hR => ?_) (fun z _ _ H2 s2 R hR => ⟨_, rfl, hR H2 (Same.refl H2)⟩) fun H2 s2 hD2 => ?_
    · have s12 := s1.trans s2
      have hzc : z ∈ W.cnts := List.mem_append_left _ hz
      exact ⟨_, rfl, p, T.cR, dx, _, _, rfl, s12 _ _ h1, T.R.cl, T.nR _ (by simp), rfl, _, rfl, n, _, rfl, dget_rd (.inl (s12 _ _ n1.2)) (by rw [n2, numF_in hzc]), _, _, rfl, rfl, _, rfl, hR H2 (Same.refl H2)⟩
    · have s12 := s1.trans s2
      refine ⟨t, D, _, _, rfl, rfl, s12 _ _ h3.2, hD2, ?_, fun c hc => ?_⟩
      · have : (W.piles.filter fun z => decide (0 < num z)).length ≤ W.piles.length := List.length_filter_le _ _
        rw [List.length_map, List.length_map]
        omega
      · refine ⟨c, _, rfl, .inl ⟨SqL.of upd_same, fun t2 ht2 => ?_⟩⟩
        have s3 := s12.trans (same_new (o := .lst (tr.map V.str ++ (W.piles.filter fun z => decide (0 < num z)).map V.str)) hc)
        refine k t2 _ (s3.trans (same_new ht2)) (s3.free ht2) ?_
        rw [upd_same]
        unfold stL
        rw [List.map_append]
/-! ### stock_now -/
def spStockNow (T : Txt K mg) : Sp := fun vs H Q _ => ∃ (U : Addr → Prop) (p lg pa : Addr) (W : Wd) (tr : List Str) (num : Str → Int) (m : Nat), vs = [.ref p] ∧ RunAt T U H p lg pa W tr num m ∧ ListsOk W ∧ (∀ z ∈ W.cnts, 0 ≤ num z) ∧ Fresh U H ∧
  ∀ (t : Addr) (H' : Hp), Same H H' → H t = none → StkAt T.cS U H' t (fun z => if z ∈ W.cnts then num z else 0) → Q (.ref t) H'
theorem sc_skn : FnScope ["self"] ["self"] (defScope (inClass (top 26) 2)) := ⟨rfl, rfl, rfl, by decide +kernel, rfl, by decide +kernel, by decide +kernel⟩
theorem ListsOk.cname {W : Wd} (h : ListsOk W) {z : Str} (hz : z ∈ W.cnts) : NameOk z := (List.mem_append.mp hz).elim (h.np z) (h.nr z)
theorem ok_stockNow (T : Txt K mg) : C8.Met P w K mg base 6 T.cR "stock_now" (spStockNow T) [] := by
  have G2 : C8.Mak P w K mg base 4 "Stock" T.cS (spStockInit T.cS) [] := ok_stockInit T
  refine mth_met T.R.cl T.rStockNow sc_skn (fun _ _ _ _ _ _ us hl => match us, hl with | [_], _ => rfl) (fun vs H Q E h => ?_) (fun f cdv A outer s H vs Q E hr h => ?_)
  · obtain ⟨U, p, lg, pa, W, tr, num, m, rfl, _⟩ := h
    rfl
  · obtain ⟨U, p, lg, pa, W, tr, num, m, rfl, ⟨dx, q, d, t, n, h1, h2, h3, ⟨kn, n1, n2, n3⟩, h5, h6, h7⟩, hW, h0, hf, k⟩ := h
    refine ⟨_, pss_one (ps_ret (C8.pe_mk G2 hr (by decide) (by rfl) (pa_cons (pe_fld (pv 0) rfl) pa_nil))), ?_⟩
    refine ⟨_, rfl, p, T.cR, dx, _, _, rfl, h1, T.R.cl, T.nR _ (by simp), rfl, ?_⟩
    intro x dx' nx nd ne
    have hn' : (upd (upd H dx' (.own x)) x (.ins T.cS dx' [])) n = some (.dK kn) := by
      rw [upd_ne (ne_of_none n1.2 nx), upd_ne (ne_of_none n1.2 nd)]
      exact n1.2
    refine ⟨x, dx', n, kn, W.cnts, num, rfl, upd_same, hn', n2, by omega, fun z hz => ⟨hW.cname hz, h0 z hz⟩, fun d2 kt H' ho hd2 hx2 ht2 hv2 hl2 => ⟨rfl, ?_⟩⟩
    obtain ⟨s, o⟩ := stock_made hf nx nd h0 ho hd2 hx2 ht2 hv2 (by omega)
    exact k x H' s nx o
/-! ### check_amounts -/
theorem in_two {f : Key → Option V} (h : OutOk f) (z : Str) : inV (gc f z) [.str "take", .str "add"] = (decide (gc f z = .str "take") || decide (gc f z = .str "add")) := by
  unfold gc
  cases e : f (.inr z) with
  | none => rfl
  | some v =>
    obtain ⟨_, _, _, hv⟩ := h _ v e
    show inV v _ = (decide (v = _) || decide (v = _))
    rcases hv with q | q | q | q | q <;> subst q <;> decide +kernel
/-- the amounts of a step: for just the names that the outcome takes from or adds to -/
structure AmtOk (W : Wd) (f : Key → Option V) (num : Str → Int) (us : List Str) (am : Str → Int) : Prop where
  mem : ∀ z, z ∈ us ↔ z ∈ W.cnts ∧ (gc f z = .str "take" ∨ gc f z = .str "add")
  pos : ∀ z ∈ us, 1 ≤ am z
  le : ∀ z ∈ us, gc f z = .str "take" → am z ≤ num z
def spChkAmt (T : Txt K mg) : Sp := fun vs H Q _ => ∃ (U : Addr → Prop) (p lg pa o c : Addr) (W : Wd) (tr : List Str) (num : Str → Int) (m : Nat) (f : Key → Option V) (us : List Str) (am : Str → Int), vs = [.ref p, .ref o, .ref c] ∧ RunAt T U H p lg pa W tr num m ∧ ListsOk W ∧
  OutAt T.cO U H o f ∧ OutOk f ∧ NumAt U H c us am ∧ AmtOk W f num us am ∧ ∀ H', Same H H' → Q .non H'
theorem sc_ck : FnScope ["self", "outcome", "amounts", "used", "name"] ["self", "outcome", "amounts"] (defScope (inClass (top 26) 3)) := ⟨rfl, rfl, rfl, by decide +kernel, rfl, by decide +kernel, by decide +kernel⟩
theorem ok_chkAmt (T : Txt K mg) : C8.Met P w K mg base 3 T.cR "check_amounts" (spChkAmt T) [] := by
  have G1 : C8.Cal P w K mg base 1 "ascending" (spAsc K) [] := ok_asc T
  have G2 : C8.Met P w K mg base 1 T.cW "counters" (spNewL Wd.cnts T) [] := ok_wCounters T
  have G4 : Own P w K mg base 1 T.cO "__getitem__" (spOutGet T.cO) := ok_outGet T
  refine mth_met T.R.cl T.rCheckAmounts sc_ck (fun _ _ _ _ _ _ us hl => match us, hl with | [_, _, _], _ => rfl) (fun vs H Q E h => ?_) (fun f cdv A outer s H vs Q E hr h => ?_)
  · obtain ⟨U, p, lg, pa, o, c, W, tr, num, m, f, us, am, rfl, _⟩ := h
    rfl
  · obtain ⟨U, p, lg, pa, o, c, W, tr, num, m, f, us, am, rfl, hR0, hW, hO, hok, ⟨ka, c1, c2, c3⟩, hAm, k⟩ := h
    have nd := sc_ck.nd
    have hu := hu_of hr
    have hs := sizeLine_eq
    have hcl := hW.cntsLen
    refine ⟨_, pss_cons (ps_setLc (i := 3) (own := [("name", 4)]) (g := gName 4) (by rfl) nd rfl rfl (sw_true rfl rfl rfl (by decide +kernel))
          (pi_list (C8.pe_mt0 G2 hr (by decide) (pe_fld (pv 0) rfl))) (blkOk_by (own := [("name", 4)]) (N := ["self", "outcome", "amounts", "used", "name"]) (sc := defScope (inClass (top 26) 3)) (by decide +kernel))
          (fun _ _ _ _ _ => pg_name (i := 4) nd rfl (Or.inl rfl)) (fun _ _ _ _ _ => pts_one (pt_cmpR (r := rIn K false) op_in_seq (pe_getO G4 hr (by decide) (pv 1) (pv 4)) (pe_tup (pa_cons pe_str (pa_cons pe_str pa_nil))) (by rfl))) (fun _ _ _ _ _ => pv 4))
      (pss_cons (ps_for PassesOwn.never (by rfl) (pi_list (pv 3)) (pg_name (i := 4) nd rfl (Or.inl rfl))
        (pss_cons (ps_if (PW.pt (pw_or (pt_cmp (pc_dnotin hu (pv 4) (pv 2))) (pw_or1 (pt_cmpR op_lt (pe_dget hu (pv 2) (pv 4) (fun _ _ => rfl)) pe_int (nomark _))))) (pss_one ps_never) pss_nil)
        (pss_one (ps_if (PW.pt (pw_and (pt_cmpR op_eq (pe_getO G4 hr (by decide) (pv 1) (pv 4)) pe_str (nomark _)) (pw_and1 (pt_cmpR op_gt (pe_dget hu (pv 2) (pv 4) (fun _ _ => rfl)) (pe_dget hu (pe_fld (pv 0) rfl) (pv 4) (fun _ _ => rfl)) (nomark _))))) (pss_one ps_never) pss_nil))))
      (pss_one (ps_for PassesOwn.never (by rfl) (pi_list (C8.pe_c G1 hr (by decide) (by rfl) (pa_cons (pe_callTy (call_list_dK (by rfl)) (by rfl) (T.blt _ (by decide)) (by decide +kernel) (pa_cons (pv 2) pa_nil)) pa_nil))) (pg_name (i := 4) nd rfl (Or.inl rfl))
        (pss_one (ps_if (pt_cmpR op_notIn_seq (pv 4) (pv 3) (by rfl)) (pss_one ps_never) pss_nil))))), ?_⟩
    obtain ⟨dx, q, d, t, n, h1, h2, h3, ⟨kn, n1, n2, n3⟩, h5, h6, h7⟩ := id hR0
    obtain ⟨dw, pf, pi, pr, kvs, w1, _⟩ := id h2
    refine ⟨_, rfl, p, T.cR, dx, _, _, rfl, h1, T.R.cl, T.nR _ (by simp), rfl, q, dw, _, rfl, w1.2, rfl, Wo U n, true, q, d, W, rfl, h2, hW, fun cl hcl0 => ?_⟩
    have s1 : Same H (upd H cl (.lst (W.cnts.map V.str))) := same_new hcl0
    have hc1 : (upd H cl (.lst (W.cnts.map V.str))) cl = some (.lst (W.cnts.map V.str)) := upd_same
    generalize upd H cl (.lst (W.cnts.map V.str)) = H1 at s1 hc1 ⊢
    refine ⟨cl, rfl, ⟨_, SqL.of hc1⟩, fun D hD => ?_⟩
    refine lc_map (wk_list (zs := W.cnts) (inj := V.str)) V.str (fun z => decide (gc f z = .str "take") || decide (gc f z = .str "add")) hD (by omega) (fun _ => rfl) (fun H2 s2 => SqL.of (s2 _ _ hc1))
      (fun z hz H2 s2 R hR => ?_) (fun z _ _ H2 s2 R hR => ⟨_, rfl, hR H2 (Same.refl H2)⟩) fun H2 s2 hD2 => ?_
    · have hO2 := hO.lq (lq_same (U := U) (s1.trans s2))
      obtain ⟨dy, dd, o1, _⟩ := id hO2
      refine ⟨_, rfl, _, rfl, o, dy, _, rfl, o1.2, U, o, f, z, rfl, hO2, by show 2 ≤ sizeLine; decide, fun pt hpt => ⟨pt, _, rfl, .inr (SqT.of upd_same), gc_flat hok z, rfl, _, rfl, ?_⟩⟩
      have q := hR _ (same_new (o := .tup [.str "take", .str "add"]) hpt)
      rw [← in_two hok z] at q
      exact q
    have s12 := s1.trans s2
    have musd : ∀ z, z ∈ (W.cnts.filter fun z => decide (gc f z = .str "take") || decide (gc f z = .str "add")) ↔ z ∈ us := fun z => by
      rw [List.mem_filter, hAm.mem z]
      simp
    have hul : (W.cnts.filter fun z => decide (gc f z = .str "take") || decide (gc f z = .str "add")).length ≤ 13 := Nat.le_trans (List.length_filter_le _ _) hcl
    generalize (W.cnts.filter fun z => decide (gc f z = .str "take") || decide (gc f z = .str "add")) = ud at hD2 musd hul
    refine ⟨_, rfl, D, rfl, ⟨_, SqL.of hD2⟩, for_it (wk_list (zs := ud) (inj := V.str)) (fun i σ H3 => ∃ y, σ = [some (.ref p), some (.ref o), some (.ref c), some (.ref D), y] ∧ Same H2 H3) ⟨none, rfl, Same.refl _⟩ (fun i σ H3 _ ⟨_, _, s3⟩ => SqL.of (s3 _ _ hD2)) ?_ ?_⟩
    · rintro i y σ H3 H3' hi ⟨y0, rfl, s3⟩ ⟨rfl, z, hz, rfl⟩
      have hzu := (musd z).mp (List.mem_of_getElem? hz)
      obtain ⟨hzc, hcase⟩ := (hAm.mem z).mp hzu
      have s13 := s12.trans s3
      have hca : Rd H3' c (.dK ka) := .inl (s13 _ _ c1.2)
      have hva : valV ka (.inr z) = some (.int (am z)) := by rw [c2, numF_in hzu]
      have hp := hAm.pos z hzu
      refine ⟨_, rfl, _, rfl, c, _, rfl, dget_rd hca hva, _, rfl, iteF ⟨_, rfl, _, rfl, c, _, rfl, dget_rd hca hva, _, _, rfl, rfl, _, rfl, dF (by omega) ?_⟩⟩
      have hO3 := hO.lq (lq_same (U := U) s13)
      obtain ⟨dy, dd, o1, _⟩ := id hO3
      refine ⟨_, rfl, _, rfl, o, dy, _, rfl, o1.2, U, o, f, z, rfl, hO3, gc_scal hok z _, _, rfl, ?_⟩
      by_cases e1 : gc f z = .str "take"
      · have hle := hAm.le z hzu e1
        refine dT e1 ⟨_, rfl, _, rfl, c, _, rfl, dget_rd hca hva, _, rfl, p, T.cR, dx, _, _, rfl, s13 _ _ h1, T.R.cl, T.nR _ (by simp), rfl, _, rfl, n, _, rfl, dget_rd (.inl (s13 _ _ n1.2)) (by rw [n2, numF_in hzc]), _, _, rfl, rfl, _, rfl, dF (by omega) ⟨_, rfl, s3⟩⟩
      · exact dF e1 (iteF ⟨_, rfl, s3⟩)
    rintro σ H3 ⟨y0, rfl, s3⟩
    have s13 := s12.trans s3
    have hca : H3 c = some (.dK ka) := s13 _ _ c1.2
    obtain ⟨zs, e1, e2⟩ := keys_strs ka fun k v e => by
      rw [c2] at e
      obtain ⟨z, h1, _⟩ := numF_some e
      exact ⟨z, h1⟩
    have el : zs.length = ka.length := by
      have q := congrArg List.length e2
      rw [List.length_map, List.length_map] at q
      exact q.symm
    refine ⟨_, rfl, c, ka, rfl, hca, fun lq hlq => ?_⟩
    refine ⟨lq, zs, rfl, SqL.of (by rw [upd_same, e1]), by omega, fun ys yl H4 hm hyl s4 hyn hy => ?_⟩
    have s34 := (same_new hlq).trans s4
    refine ⟨yl, rfl, ⟨_, SqL.of hy⟩, for_it (wk_list (zs := ys) (inj := V.str)) (fun i σ H5 => ∃ y, σ = [some (.ref p), some (.ref o), some (.ref c), some (.ref D), y] ∧ Same H4 H5) ⟨_, rfl, Same.refl _⟩ (fun i σ H5 _ ⟨_, _, s5⟩ => SqL.of (s5 _ _ hy)) ?_ ?_⟩
    · rintro i y σ H5 H5' hi ⟨y0, rfl, s5⟩ ⟨rfl, z, hz, rfl⟩
      have hzk : (Sum.inr z : Key) ∈ ka.map (·.1) := by
        rw [e2]
        exact List.mem_map.mpr ⟨z, hm z (List.mem_of_getElem? hz), rfl⟩
      obtain ⟨kv, hkv, ek⟩ := List.mem_map.mp hzk
      obtain ⟨j, hj⟩ := List.mem_iff_getElem?.mp hkv
      obtain ⟨u, hu1⟩ := val_at (k := kv.1) (v := kv.2) hj
      rw [ek, c2] at hu1
      obtain ⟨z', e3, hzu, _⟩ := numF_some hu1
      cases e3
      exact ⟨_, rfl, _, rfl, D, _, rfl, .inl (SqL.of (s5 _ _ (s34 _ _ (s3 _ _ hD2)))), rfl, strs_flat _, _, rfl, ifF (by rw [inV_no, decide_eq_true ((musd z).mpr hzu)]; rfl) ⟨_, rfl, s5⟩⟩
    · rintro σ H5 ⟨y0, rfl, s5⟩
      exact k H5 ((s13.trans s34).trans s5)
end KK


set_option Elab.async false
set_option linter.all false
set_option maxRecDepth 100000
set_option maxHeartbeats 4000000
/-! runs: true_behind, behind_step, step -/
namespace KK
open PySem PySem.Spec PyProof.Rows L2
variable {P : Program} {w : World} {K : PySem.W.Frag} {mg : Str → Option Value} {base : Heap}
def spTrueBehind (K : PySem.W.Frag) (C : Addr) : Sp := fun vs H Q _ => ∃ (p dx q t n lg pa : Addr) (z : Str) (v : V) (tr : List Str), vs = [.ref p, .str z, v] ∧ H p = some (.ins C dx (rflds q t n lg pa)) ∧ SqL K H t (tr.map V.str) ∧
  Q (if v = .non then .bl (decide (z ∈ tr)) else v) H
theorem sc_tb : FnScope ["self", "name", "change"] ["self", "name", "change"] (defScope (inClass (top 26) 5)) := ⟨rfl, rfl, rfl, by decide +kernel, rfl, by decide +kernel, by decide +kernel⟩
theorem ok_trueBehind (T : Txt K mg) : C8.Met P w K mg base 1 T.cR "true_behind" (spTrueBehind K T.cR) [] := by
  refine mth_met T.R.cl T.rTrueBehind sc_tb (fun _ _ _ _ _ _ us hl => match us, hl with | [_, _, _], _ => rfl) (fun vs H Q E h => ?_) (fun f cdv A outer s H vs Q E hr h => ?_)
  · obtain ⟨p, dx, q, t, n, lg, pa, z, v, tr, rfl, _⟩ := h
    rfl
  · obtain ⟨p, dx, q, t, n, lg, pa, z, v, tr, rfl, hp, ht, k⟩ := h
    refine ⟨_, pss_one (ps_ret (pe_ifExp (pt_cmp (pc_isN (pv 2))) (pe_cmpR op_in_seq (pv 1) (pe_fld (pv 0) rfl) (by rfl)) (pv 2))), ?_⟩
    refine ⟨_, rfl, _, rfl, ?_⟩
    by_cases e : v = .non
    · rw [if_pos e] at k
      refine dT e ⟨_, rfl, _, rfl, p, T.cR, dx, _, _, rfl, hp, T.R.cl, T.nR _ (by simp), rfl, t, _, rfl, .inl ht, rfl, strs_flat _, ?_⟩
      rw [inV_in]
      exact k
    · rw [if_neg e] at k
      exact dF e ⟨_, rfl, k⟩
def stepN (v : V) (x y : Int) : Int := if v = .str "add" then x + y else if v = .str "take" then x - y else if v = .str "empty" then 0 else x
def spBehindStep (C : Addr) : Sp := fun vs H Q _ => ∃ (p dx q t n lg pa c : Addr) (z : Str) (v : V) (x y : Int) (kn ka : List (Key × V)), vs = [.ref p, .str z, v, .ref c] ∧ H p = some (.ins C dx (rflds q t n lg pa)) ∧ (∀ s, scal v (.str s) = true) ∧
  Rd H n (.dK kn) ∧ valV kn (.inr z) = some (.int x) ∧ Rd H c (.dK ka) ∧ ((v = .str "add" ∨ v = .str "take") → valV ka (.inr z) = some (.int y)) ∧ Q (.int (stepN v x y)) H
theorem sc_bs : FnScope ["self", "name", "change", "amounts"] ["self", "name", "change", "amounts"] (defScope (inClass (top 26) 6)) := ⟨rfl, rfl, rfl, by decide +kernel, rfl, by decide +kernel, by decide +kernel⟩
theorem ok_behindStep (T : Txt K mg) : C8.Met P w K mg base 1 T.cR "behind_step" (spBehindStep T.cR) [] := by
  refine mth_met T.R.cl T.rBehindStep sc_bs (fun _ _ _ _ _ _ us hl => match us, hl with | [_, _, _, _], _ => rfl) (fun vs H Q E h => ?_) (fun f cdv A outer s H vs Q E hr h => ?_)
  · obtain ⟨p, dx, q, t, n, lg, pa, c, z, v, x, y, kn, ka, rfl, _⟩ := h
    rfl
  · obtain ⟨p, dx, q, t, n, lg, pa, c, z, v, x, y, kn, ka, rfl, hp, hsc, hn, hx, hc, hy, k⟩ := h
    have hu := hu_of hr
    refine ⟨_, pss_cons (ps_if (pt_cmpR op_eq (pv 2) pe_str (nomark _)) (pss_one (ps_ret (pe_op op_add (pe_dget hu (pe_fld (pv 0) rfl) (pv 1) (fun _ _ => rfl)) (pe_dget hu (pv 3) (pv 1) (fun _ _ => rfl))))) pss_nil)
      (pss_cons (ps_if (pt_cmpR op_eq (pv 2) pe_str (nomark _)) (pss_one (ps_ret (pe_op op_sub (pe_dget hu (pe_fld (pv 0) rfl) (pv 1) (fun _ _ => rfl)) (pe_dget hu (pv 3) (pv 1) (fun _ _ => rfl))))) pss_nil)
      (pss_one (ps_ret (pe_ifExp (pt_cmpR op_eq (pv 2) pe_str (nomark _)) pe_int (pe_dget hu (pe_fld (pv 0) rfl) (pv 1) (fun _ _ => rfl)))))), ?_⟩
    refine ⟨_, rfl, hsc _, _, rfl, ?_⟩
    unfold stepN at k
    by_cases e1 : v = .str "add"
    · rw [if_pos e1] at k
      exact dT e1 ⟨_, rfl, p, T.cR, dx, _, _, rfl, hp, T.R.cl, T.nR _ (by simp), rfl, _, rfl, n, _, rfl, dget_rd hn hx, _, rfl, _, rfl, c, _, rfl, dget_rd hc (hy (.inl e1)), _, _, rfl, rfl, k⟩
    · rw [if_neg e1] at k
      refine dF e1 ⟨_, rfl, hsc _, _, rfl, ?_⟩
      by_cases e2 : v = .str "take"
      · rw [if_pos e2] at k
        exact dT e2 ⟨_, rfl, p, T.cR, dx, _, _, rfl, hp, T.R.cl, T.nR _ (by simp), rfl, _, rfl, n, _, rfl, dget_rd hn hx, _, rfl, _, rfl, c, _, rfl, dget_rd hc (hy (.inr e2)), _, _, rfl, rfl, k⟩
      · rw [if_neg e2] at k
        refine dF e2 ⟨_, rfl, hsc _, _, rfl, ?_⟩
        by_cases e3 : v = .str "empty"
        · rw [if_pos e3] at k
          exact dT e3 k
        · rw [if_neg e3] at k
          exact dF e3 ⟨_, rfl, p, T.cR, dx, _, _, rfl, hp, T.R.cl, T.nR _ (by simp), rfl, _, rfl, n, _, rfl, dget_rd hn hx, k⟩
/-! ### step -/
def trB (tr : List Str) (f : Key → Option V) (z : Str) : Bool := if gc f z = .non then decide (z ∈ tr) else decide (gc f z = .bl true)
def trN (W : Wd) (tr : List Str) (f : Key → Option V) : List Str := W.facts.filter (trB tr f)
def numN (f : Key → Option V) (num am : Str → Int) (z : Str) : Int := stepN (gc f z) (num z) (am z)
def goneL (W : Wd) (f : Key → Option V) (num : Str → Int) : List Str := W.piles.filter fun z => decide (gc f z = .str "take") && decide (num z = 0)
theorem fact_chg {W : Wd} {f : Key → Option V} (hW : ListsOk W) (h : ChOk W f) {z : Str} (hz : z ∈ W.facts) : gc f z = .non ∨ gc f z = .bl true ∨ gc f z = .bl false := by
  unfold gc
  cases e : f (.inr z) with
  | none => exact .inl rfl
  | some v =>
    obtain ⟨z', e1, _, h1⟩ := h _ v e
    cases e1
    rcases h1 with ⟨_, q⟩ | ⟨q, _⟩ | ⟨q, _⟩
    · exact .inr q
    · exact absurd q (hW.fp hz).1
    · exact absurd q (hW.fp hz).2
def spStep (T : Txt K mg) : Sp := fun vs H Q _ => ∃ (U B : Addr → Prop) (p lg pa c : Addr) (W : Wd) (tr : List Str) (num : Str → Int) (m : Nat) (z : Str) (a : Act) (i : Nat) (us : List Str) (am : Str → Int), vs = [.ref p, .str z, .int (i : Nat), .ref c] ∧ RunAt T U H p lg pa W tr num m ∧ WdOk W ∧
  (∀ b, U b → B b) ∧ ¬ B p ∧ ¬ B lg ∧ ¬ B pa ∧ Fresh U H ∧ W.acts z = some a ∧ StOk W (stL W tr num) ∧ fitsB W (stL W tr num) a = true ∧ i < a.outs.length ∧ NumAt U H c us am ∧ AmtOk W (a.out i) num us am ∧ m ≤ 1000 ∧ tr.length ≤ 10 ∧
  ∀ (t : Addr) (H' : Hp), Gr B H H' → RunAt T U H' p lg pa W (trN W tr (a.out i)) (numN (a.out i) num am) (m + 1) → H' t = some (.tup ((goneL W (a.out i) (numN (a.out i) num am)).map V.str)) → U t → Q (.ref t) H'
theorem sc_st : FnScope ["self", "action", "index", "amounts", "outcome", "name"] ["self", "action", "index", "amounts"] (defScope (inClass (top 26) 4)) := ⟨rfl, rfl, rfl, by decide +kernel, rfl, by decide +kernel, by decide +kernel⟩
theorem ok_step (T : Txt K mg) : C8.Met P w K mg base 10 T.cR "step" (spStep T) [] := by
  have G1 : Own P w K mg base 1 T.cW "__contains__" (spWIn T) := ok_wIn T
  have G2 : C8.Met P w K mg base 9 T.cW "possible" (spPossible T) [] := ok_possible T
  have G3 : C8.Met P w K mg base 2 T.cR "state_now" (spStateNow T) [] := ok_stateNow T
  have G4 : Own P w K mg base 1 T.cW "__getitem__" (spWGet T) := ok_wGet T
  have G5 : Own P w K mg base 1 T.cA "__len__" (spActLen T) := ok_actLen T
  have G6 : C8.Met P w K mg base 7 T.cA "outcome" (spActOutcome T) [] := ok_actOutcome T
  have G7 : C8.Met P w K mg base 3 T.cR "check_amounts" (spChkAmt T) [] := ok_chkAmt T
  have G8 : C8.Met P w K mg base 1 T.cW "facts" (spNewL Wd.facts T) [] := ok_wFacts T
  have G9 : C8.Met P w K mg base 1 T.cR "true_behind" (spTrueBehind K T.cR) [] := ok_trueBehind T
  have GA : Own P w K mg base 1 T.cO "__getitem__" (spOutGet T.cO) := ok_outGet T
  have GB : C8.Met P w K mg base 1 T.cR "behind_step" (spBehindStep T.cR) [] := ok_behindStep T
  have GC : C8.Met P w K mg base 1 T.cW "piles" (spNewL Wd.piles T) [] := ok_wPiles T
  refine mth_met T.R.cl T.rStep sc_st (fun _ _ _ _ _ _ us hl => match us, hl with | [_, _, _, _], _ => rfl) (fun vs H Q E h => ?_) (fun f cdv A outer s H vs Q E hr h => ?_)
  · obtain ⟨U, B, p, lg, pa, c, W, tr, num, m, z, a, i, us, am, rfl, _⟩ := h
    rfl
  · obtain ⟨U, B, p, lg, pa, c, W, tr, num, m, z, a, i, us, am, rfl, hR0, hWd, hUB, nBp, nBl, nBa, hf, ha, hst, hfit, hi, hc, hAm, hm, htl, k⟩ := h
    have nd := sc_st.nd
    have hu := hu_of hr
    have hs := sizeLine_eq
    have hW := hWd.ls
    have hcl := hW.cntsLen
    have hlf := hW.lf
    have hlp := hW.lp
    have hok := (hWd.ac z a ha).2.ok
    have hn : a.outs.length ≤ 60 := hok.ln
    have hch := (hWd.ac z a ha).2.ch _ (Act.out_mem hi)
    have hgo := hch.out
    have ho := Act.out_eq hi
    refine ⟨_, pss_cons (ps_if (pt_cmpR (op_notInO G1 hr (by decide)) (pv 1) (pe_fld (pv 0) rfl) (by rfl)) (pss_one ps_never) pss_nil)
      (pss_cons (ps_if (pt_cmpR op_notIn_seq (pv 1) (C8.pe_mt G2 hr (by decide) (pe_fld (pv 0) rfl) (pa_cons (C8.pe_mt0 G3 hr (by decide) (pv 0)) pa_nil)) (by rfl)) (pss_one ps_never) pss_nil)
      (pss_cons (ps_if (pt_not (pt_chain op_le op_lt pe_int (pv 2) (pe_callB (call_lenO G5 hr (by decide)) (by rfl) (T.blt _ (by decide)) PySem.boot_len (pa_cons (pe_getO G4 hr (by decide) (pe_fld (pv 0) rfl) (pv 1)) pa_nil)))) (pss_one ps_never) pss_nil)
      (pss_cons (ps_set (i := 4) nd rfl (.inr rfl) (C8.pe_mt G6 hr (by decide) (pe_getO G4 hr (by decide) (pe_fld (pv 0) rfl) (pv 1)) (pa_cons (pv 2) pa_nil)))
      (pss_cons (ps_expr (C8.pe_mt G7 hr (by decide) (pv 0) (pa_cons (pv 4) (pa_cons (pv 3) pa_nil))))
      (pss_cons (ps_expr (pe_bm PySem.F.plainAttrs_list PySem.F.slot_list_append PySem.F.type_list_append mt_append (pe_fld (pv 0) rfl) (pa_cons (pe_tup (pa_cons (pe_fld (pv 0) rfl) (pa_cons (pe_fld (pv 0) rfl) pa_nil))) pa_nil)))
      (pss_cons (ps_expr (pe_bm PySem.F.plainAttrs_list PySem.F.slot_list_append PySem.F.type_list_append mt_append (pe_fld (pv 0) rfl) (pa_cons (pe_tup (pa_cons (pv 1) (pa_cons (pv 2) (pa_cons
        (pe_lock (pe_dc (own := [("name", 5)]) (g := gName 5) (by rfl) nd (pi_keys (pv 3)) (blkOk_by (own := [("name", 5)]) (N := ["self", "action", "index", "amounts", "outcome", "name"]) (sc := defScope (inClass (top 26) 4)) (by decide +kernel))
          (fun _ _ _ _ _ => pg_name (i := 5) nd rfl (Or.inl rfl)) (fun _ _ _ _ _ => pts_nil) (fun _ _ _ _ _ => pv 5) (fun _ _ _ _ _ => pe_dget hu (pv 3) (pv 5) (fun _ _ => rfl)))) pa_nil)))) pa_nil)))
      (pss_cons (ps_fld (pv 0) (pe_lc (own := [("name", 5)]) (g := gName 5) (by rfl) nd (pi_list (C8.pe_mt0 G8 hr (by decide) (pe_fld (pv 0) rfl))) (blkOk_by (own := [("name", 5)]) (N := ["self", "action", "index", "amounts", "outcome", "name"]) (sc := defScope (inClass (top 26) 4)) (by decide +kernel))
          (fun _ _ _ _ _ => pg_name (i := 5) nd rfl (Or.inl rfl)) (fun _ _ _ _ _ => pts_one (pt_val (C8.pe_mt G9 hr (by decide) (pv 0) (pa_cons (pv 5) (pa_cons (pe_getO GA hr (by decide) (pv 4) (pv 5)) pa_nil))))) (fun _ _ _ _ _ => pv 5)) rfl)
      (pss_cons (ps_fld (pv 0) (pe_lock (pe_dc (own := [("name", 5)]) (g := gName 5) (by rfl) nd (pi_keys (pe_fld (pv 0) rfl)) (blkOk_by (own := [("name", 5)]) (N := ["self", "action", "index", "amounts", "outcome", "name"]) (sc := defScope (inClass (top 26) 4)) (by decide +kernel))
          (fun _ _ _ _ _ => pg_name (i := 5) nd rfl (Or.inl rfl)) (fun _ _ _ _ _ => pts_nil) (fun _ _ _ _ _ => pv 5) (fun _ _ _ _ _ => C8.pe_mt GB hr (by decide) (pv 0) (pa_cons (pv 5) (pa_cons (pe_getO GA hr (by decide) (pv 4) (pv 5)) (pa_cons (pv 3) pa_nil)))))) rfl)
      (pss_one (ps_ret (pe_callTy call_tuple_of (by rfl) (T.blt _ (by decide)) (by decide +kernel) (pa_cons
        (pe_lc (own := [("name", 5)]) (g := gName 5) (by rfl) nd (pi_list (C8.pe_mt0 GC hr (by decide) (pe_fld (pv 0) rfl))) (blkOk_by (own := [("name", 5)]) (N := ["self", "action", "index", "amounts", "outcome", "name"]) (sc := defScope (inClass (top 26) 4)) (by decide +kernel))
          (fun _ _ _ _ _ => pg_name (i := 5) nd rfl (Or.inl rfl)) (fun _ _ _ _ _ => pts_one (PW.pt (pw_and (pt_cmpR op_eq (pe_getO GA hr (by decide) (pv 4) (pv 5)) pe_str (nomark _)) (pw_and1 (pt_cmpR op_eq (pe_dget hu (pe_fldK (KK := K) rfl (pv 0) rfl) (pv 5) (fun _ _ => rfl)) pe_int (nomark _)))))) (fun _ _ _ _ _ => pv 5)) pa_nil)))))))))))), ?_⟩
    obtain ⟨dx, q, d, t, n, h1, h2, h3, ⟨kn, n1, n2, n3⟩, ⟨ls, h5, h5'⟩, ⟨ps, h6, h6'⟩, h7⟩ := id hR0
    obtain ⟨ka, c1, c2, c3⟩ := id hc
    obtain ⟨dw, pf, pi, pr, kvs, w1, _⟩ := id h2
    have hfn : Fresh (Wo U n) H := fresh_wo hf (some_ne n1.2)
    -- action not in self.inner
    refine ⟨_, rfl, _, rfl, p, T.cR, dx, _, _, rfl, h1, T.R.cl, T.nR _ (by simp), rfl, q, dw, _, rfl, w1.2, Wo U n, true, q, d, W, z, rfl, h2, _, rfl, _, rfl, ifF (by rw [ha]; rfl) ?_⟩
    -- .. possible
    refine ⟨_, rfl, _, rfl, p, T.cR, dx, _, _, rfl, h1, T.R.cl, T.nR _ (by simp), rfl, q, dw, _, rfl, w1.2, rfl, _, rfl, p, dx, _, rfl, h1, rfl, U, p, lg, pa, W, tr, num, m, rfl, hR0, hW, htl, fun t1 H1 s1 ht1n ht1 => ?_⟩
    refine ⟨Wo U n, q, d, t1, W, stL W tr num, rfl, h2.lq (lq_same s1), hWd, .inr (SqT.of ht1), hst, hfn.same s1, fun l ys H2 s2 hl0 hl2 hyl hiff => ?_⟩
    refine ⟨l, _, rfl, .inl (SqL.of hl2), rfl, strs_flat _, _, rfl, ifF (by rw [inV_no, decide_eq_true ((hiff z).mpr ⟨a, ha, hfit⟩)]; rfl) ?_⟩
    have s12 := s1.trans s2
    have hw2 : WoX T true (Wo U n) H2 q d W := h2.lq (lq_same s12)
    have hp2 := s12 _ _ h1
    obtain ⟨dw2, pf2, pi2, pr2, kvs2, w2, _⟩ := id hw2
    -- the index
    refine ⟨_, rfl, _, _, rfl, rfl, _, rfl, dT (by omega) ?_⟩
    refine ⟨_, rfl, p, T.cR, dx, _, _, rfl, hp2, T.R.cl, T.nR _ (by simp), rfl, _, rfl, q, dw2, _, rfl, w2.2, Wo U n, true, q, d, W, z, a, rfl, hw2, ha, fun ac hA => ?_⟩
    obtain ⟨dxa, ca, la, qa, a1, _⟩ := id hA
    refine ⟨ac, dxa, _, rfl, a1.2, Wo (Wo U n) d, ac, a, rfl, hA, a.outs.length, rfl, by omega, _, _, rfl, rfl, _, rfl, ?_⟩
    refine ifF (by rw [decide_eq_true (by omega : (i : Int) < ((a.outs.length : Nat) : Int))]; rfl) ?_
    -- outcome
    refine ⟨_, rfl, p, T.cR, dx, _, _, rfl, hp2, T.R.cl, T.nR _ (by simp), rfl, _, rfl, q, dw2, _, rfl, w2.2, Wo U n, true, q, d, W, z, a, rfl, hw2, ha, fun ac2 hA2 => ?_⟩
    obtain ⟨dxb, cb, lb, qb, b1, _⟩ := id hA2
    refine ⟨ac2, dxb, _, rfl, b1.2, rfl, _, rfl, Wo U n, ac2, a, i, a.out i, rfl, hA2.lq lq_wo, ho, hn, hgo, hfn.same s12, fun o H3 s3 ho3 hO => ?_⟩
    generalize a.out i = f at k hAm hch hgo ho hO
    have s13 := s12.trans s3
    have hp3 := s13 _ _ h1
    -- check_amounts
    refine ⟨_, rfl, p, dx, _, rfl, hp3, rfl, _, rfl, _, rfl, U, p, lg, pa, o, c, W, tr, num, m, f, us, am, rfl, hR0.same s13, hW, hO.lq lq_wo, hgo, hc.lq (lq_same s13), hAm, fun H4 s4 => ?_⟩
    have s14 := s13.trans s4
    have hp4 := s14 _ _ h1
    have hpa4 := s14 _ _ h6
    have hlg4 := s14 _ _ h5
    have hO4 := hO.lq (lq_same (U := Wo U n) s4)
    have n14 := s14 _ _ n1.2
    have ppa : p ≠ pa := ne_of h1 h6 (by intro z; cases z)
    have plg : p ≠ lg := ne_of h1 h5 (by intro z; cases z)
    -- self.past.append
    refine ⟨_, rfl, p, T.cR, dx, _, _, rfl, hp4, T.R.cl, T.nR _ (by simp), rfl, .inl ⟨rfl, _, SqL.of hpa4⟩, _, rfl, p, T.cR, dx, _, _, rfl, hp4, T.R.cl, T.nR _ (by simp), rfl, _, rfl, p, T.cR, dx, _, _, rfl, hp4, T.R.cl, T.nR _ (by simp), rfl, by show 2 ≤ sizeLine; decide, fun T1 hT1 => ?_⟩
    have t1s : Same H4 (upd H4 T1 (.tup [.ref t, .ref n])) := same_new hT1
    refine ⟨pa, ps, _, rfl, rfl, t1s _ _ hpa4, by omega, ?_⟩
    have nUp : ¬ U p := fun h => nBp (hUB _ h)
    have nUl : ¬ U lg := fun h => nBl (hUB _ h)
    have nUa : ¬ U pa := fun h => nBa (hUB _ h)
    have g5 : Gr B H (upd (upd H4 T1 (.tup [.ref t, .ref n])) pa (.lst (ps ++ [.ref T1]))) := (gr_same (s14.trans t1s)).trans (gr_upd nBa)
    have gO5 : OutAt T.cO (Wo U n) (upd (upd H4 T1 (.tup [.ref t, .ref n])) pa (.lst (ps ++ [.ref T1]))) o f := hO4.lq (((gr_same t1s).trans (gr_upd nUa)).sub fun _ h => h.1).lq
    have hp5 : (upd (upd H4 T1 (.tup [.ref t, .ref n])) pa (.lst (ps ++ [.ref T1]))) p = some (.ins T.cR dx (rflds q t n lg pa)) := by
      rw [upd_ne ppa]
      exact t1s _ _ hp4
    have hlg5 : (upd (upd H4 T1 (.tup [.ref t, .ref n])) pa (.lst (ps ++ [.ref T1]))) lg = some (.lst ls) := by
      rw [upd_ne h7]
      exact t1s _ _ hlg4
    have hpa5 : (upd (upd H4 T1 (.tup [.ref t, .ref n])) pa (.lst (ps ++ [.ref T1]))) pa = some (.lst (ps ++ [.ref T1])) := upd_same
    generalize upd (upd H4 T1 (.tup [.ref t, .ref n])) pa (.lst (ps ++ [.ref T1])) = H5 at g5 gO5 hp5 hlg5 hpa5 ⊢
    -- self.log.append
    have c15 : H5 c = some (.dK ka) := g5.k _ _ (hUB _ c1.1) c1.2
    refine ⟨_, rfl, p, T.cR, dx, _, _, rfl, hp5, T.R.cl, T.nR _ (by simp), rfl, .inl ⟨rfl, _, SqL.of hlg5⟩, _, rfl, _, rfl, c, .dK ka, c15, trivial, fun od => ?_⟩
    have hcl : (upd H5 c (.frz od (.dK ka))) c = some (.frz od (.dK ka)) := upd_same
    have un : ∀ H', Same (upd H5 c (.frz od (.dK ka))) H' → Same H5 (upd H' c (.dK ka)) := fun H' s' => same_unlock c15 s'
    refine ⟨_, rfl, c, od, rfl, .inl ⟨ka, hcl, fun D hD => ?_⟩⟩
    refine dc_pure (wk_keys (d := c) (o := od) (kvs := ka)) (fun kv => kv.1) (fun k => (valV ka k).getD .non) (fun _ => true) hD (by omega) (fun _ => rfl) (fun H6 s6 => s6 _ _ hcl)
      (fun kv hm H6 s6 R hR => hR H6 (Same.refl H6)) (fun kv _ _ H6 _ R hR => ⟨_, rfl, hR H6 (Same.refl H6)⟩) (fun kv hm _ H6 s6 R hR => ?_) fun H6 kd s6 hD6 hv6 hl6 => ?_
    · obtain ⟨j, hj⟩ := List.mem_iff_getElem?.mp hm
      obtain ⟨u, hu1⟩ := val_at (k := kv.1) (v := kv.2) hj
      have q := hR H6 (Same.refl H6)
      rw [hu1] at q
      exact ⟨_, rfl, _, rfl, c, u, rfl, .inl ⟨ka, kv.1, .inr ⟨od, s6 _ _ hcl⟩, rfl, hu1.symm⟩, q⟩
    refine ⟨s6 _ _ hcl, by show 3 ≤ sizeLine; decide, fun T2 hT2 => ?_⟩
    have s57 := un H6 s6
    generalize upd H6 c (.dK ka) = H7 at s57 hT2 ⊢
    have t2s : Same H7 (upd H7 T2 (.tup [.str z, .int (i : Nat), .ref D])) := same_new hT2
    refine ⟨lg, ls, _, rfl, rfl, t2s _ _ (s57 _ _ hlg5), by omega, ?_⟩
    have g58 : Gr B H5 (upd (upd H7 T2 (.tup [.str z, .int (i : Nat), .ref D])) lg (.lst (ls ++ [.ref T2]))) := (gr_same (s57.trans t2s)).trans (gr_upd nBl)
    have hp8 : (upd (upd H7 T2 (.tup [.str z, .int (i : Nat), .ref D])) lg (.lst (ls ++ [.ref T2]))) p = some (.ins T.cR dx (rflds q t n lg pa)) := by
      rw [upd_ne plg]
      exact t2s _ _ (s57 _ _ hp5)
    have hpa8 : (upd (upd H7 T2 (.tup [.str z, .int (i : Nat), .ref D])) lg (.lst (ls ++ [.ref T2]))) pa = some (.lst (ps ++ [.ref T1])) := by
      rw [upd_ne h7.symm]
      exact t2s _ _ (s57 _ _ hpa5)
    have hlg8 : (upd (upd H7 T2 (.tup [.str z, .int (i : Nat), .ref D])) lg (.lst (ls ++ [.ref T2]))) lg = some (.lst (ls ++ [.ref T2])) := upd_same
    generalize upd (upd H7 T2 (.tup [.str z, .int (i : Nat), .ref D])) lg (.lst (ls ++ [.ref T2])) = H8 at g58 hp8 hpa8 hlg8 ⊢
    have g8 := g5.trans g58
    have g8U := g8.sub hUB
    have g58U := g58.sub hUB
    have gO8 : OutAt T.cO (Wo U n) H8 o f := gO5.lq (g58U.sub fun _ h => h.1).lq
    have hw8 : WoX T true (Wo U n) H8 q d W := h2.lq (g8U.sub fun _ h => h.1).lq
    have h38 := g8U.lq _ _ h3
    have n18 := g8U.lq _ _ n1
    have c18 := g8U.lq _ _ c1
    have hf8 := hf.gr g8U
    -- self.truths
    obtain ⟨dw8, pf8, pi8, pr8, kvs8, w8, _⟩ := id hw8
    refine ⟨_, rfl, p, T.cR, dx, _, _, rfl, hp8, T.R.cl, T.nR _ (by simp), rfl, q, dw8, _, rfl, w8.2, rfl, Wo U n, true, q, d, W, rfl, hw8, hW, fun fl hfl => ?_⟩
    have s9 : Same H8 (upd H8 fl (.lst (W.facts.map V.str))) := same_new hfl
    have hf9 : (upd H8 fl (.lst (W.facts.map V.str))) fl = some (.lst (W.facts.map V.str)) := upd_same
    generalize upd H8 fl (.lst (W.facts.map V.str)) = H9 at s9 hf9 ⊢
    refine ⟨fl, rfl, ⟨_, SqL.of hf9⟩, fun t' ht9 => ?_⟩
    refine lc_map (wk_list (zs := W.facts) (inj := V.str)) V.str (trB tr f) ht9 (by omega) (fun _ => rfl) (fun HA sA => SqL.of (sA _ _ hf9))
      (fun x hx HA sA R hR => ?_) (fun x _ _ HA sA R hR => ⟨_, rfl, hR HA (Same.refl HA)⟩) fun HA sA htA => ?_
    · have s8A := s9.trans sA
      have hOA := gO8.lq (lq_same (U := Wo U n) s8A)
      obtain ⟨dy, dd, o1, _⟩ := id hOA
      refine ⟨_, rfl, p, dx, _, rfl, s8A _ _ hp8, rfl, _, rfl, _, rfl, _, rfl, o, dy, _, rfl, o1.2, Wo U n, o, f, x, rfl, hOA, p, dx, q, t, n, lg, pa, x, gc f x, tr, rfl, s8A _ _ hp8, SqL.of (s8A _ _ h38.2), trB tr f x, ?_, hR HA (Same.refl HA)⟩
      unfold trB
      rcases fact_chg hW hch hx with e | e | e <;> rw [e] <;> rfl
    have s8A := s9.trans sA
    have nt8 : H8 t' = none := s9.free ht9
    have tp : t' ≠ p := fun e => by subst e; rw [hp8] at nt8; cases nt8
    have tn : t' ≠ n := fun e => by subst e; rw [n18.2] at nt8; cases nt8
    refine ⟨_, rfl, p, T.cR, dx, _, rfl, s8A _ _ hp8, T.R.cl, T.nR _ (by simp), by show 5 < 1000; decide, ?_⟩
    have e1 : putF ("truths" : Str) (.ref t') (rflds q t n lg pa) = rflds q t' n lg pa := rfl
    rw [e1]
    have gAB : Gr B H8 (upd HA p (.ins T.cR dx (rflds q t' n lg pa))) := (gr_same s8A).trans (gr_upd nBp)
    have hpB : (upd HA p (.ins T.cR dx (rflds q t' n lg pa))) p = some (.ins T.cR dx (rflds q t' n lg pa)) := upd_same
    have hlgB : (upd HA p (.ins T.cR dx (rflds q t' n lg pa))) lg = some (.lst (ls ++ [.ref T2])) := by
      rw [upd_ne plg.symm]
      exact s8A _ _ hlg8
    have hpaB : (upd HA p (.ins T.cR dx (rflds q t' n lg pa))) pa = some (.lst (ps ++ [.ref T1])) := by
      rw [upd_ne ppa.symm]
      exact s8A _ _ hpa8
    have htB : (upd HA p (.ins T.cR dx (rflds q t' n lg pa))) t' = some (.lst ((trN W tr f).map V.str)) := by
      rw [upd_ne tp]
      exact htA
    have hUt : U t' := hf8 _ nt8
    generalize upd HA p (.ins T.cR dx (rflds q t' n lg pa)) = HB at gAB hpB hlgB hpaB htB ⊢
    have gB := g8.trans gAB
    have gBU := gB.sub hUB
    have gABU := gAB.sub hUB
    have gOB : OutAt T.cO (Wo U n) HB o f := gO8.lq (gABU.sub fun _ h => h.1).lq
    have nB := gBU.lq _ _ n1
    have cB := gBU.lq _ _ c1
    have hwB : WoX T true (Wo U n) HB q d W := h2.lq (gBU.sub fun _ h => h.1).lq
    -- self.numbers
    refine ⟨n, .dK kn, nB.2, trivial, fun od2 => ?_⟩
    have hnl : (upd HB n (.frz od2 (.dK kn))) n = some (.frz od2 (.dK kn)) := upd_same
    have unB : ∀ H', Same (upd HB n (.frz od2 (.dK kn))) H' → Same HB (upd H' n (.dK kn)) := fun H' s' => same_unlock nB.2 s'
    have pn : p ≠ n := fun e => nUp (by rw [e]; exact n1.1)
    have hpL : (upd HB n (.frz od2 (.dK kn))) p = some (.ins T.cR dx (rflds q t' n lg pa)) := by
      rw [upd_ne pn]
      exact hpB
    have gOL : OutAt T.cO (Wo U n) (upd HB n (.frz od2 (.dK kn))) o f := gOB.lq (lq_off off_upd)
    have hcL : Rd (upd HB n (.frz od2 (.dK kn))) c (.dK ka) := by
      by_cases e : c = n
      · subst e
        have e2 := cB.2
        rw [nB.2] at e2
        cases e2
        exact .inr ⟨od2, upd_same⟩
      · exact .inl (by rw [upd_ne e]; exact cB.2)
    generalize upd HB n (.frz od2 (.dK kn)) = HL at hnl unB hpL gOL hcL ⊢
    refine ⟨_, rfl, p, T.cR, dx, _, _, rfl, hpL, T.R.cl, T.nR _ (by simp), rfl, n, od2, rfl, .inl ⟨kn, hnl, fun n' hn' => ?_⟩⟩
    have n'n : n' ≠ n := fun e => by subst e; rw [hnl] at hn'; cases hn'
    have rdk : ∀ {H' : Hp} {b : Addr} {u : HO}, Same HL H' → Rd HL b u → Rd H' b u := fun s h => h.imp (fun e => s _ _ e) fun ⟨o, e⟩ => ⟨o, s _ _ e⟩
    refine dc_pure (wk_keys (d := n) (o := od2) (kvs := kn)) (fun kv => kv.1) (fun k => (numF W.cnts (numN f num am) k).getD .non) (fun _ => true) hn' (by omega) (fun _ => rfl) (fun HC sC => sC _ _ hnl)
      (fun kv hm HC sC R hR => hR HC (Same.refl HC)) (fun kv _ _ HC _ R hR => ⟨_, rfl, hR HC (Same.refl HC)⟩) (fun kv hm _ HC sC R hR => ?_) fun HC kn' sC hnC hvC hlC => ?_
    · obtain ⟨j, hj⟩ := List.mem_iff_getElem?.mp hm
      obtain ⟨k1, v1⟩ := kv
      obtain ⟨u, hu1⟩ := val_at hj
      obtain ⟨x, e2, hx, e3⟩ := numF_some ((n2 _).symm.trans hu1)
      subst e2
      subst e3
      have qq : R (.int (numN f num am x)) HC := by
        have q3 : R ((numF W.cnts (numN f num am) (.inr x)).getD .non) HC := hR HC (Same.refl HC)
        rw [numF_in hx] at q3
        exact q3
      have hOC := gOL.lq (lq_same (U := Wo U n) sC)
      obtain ⟨dy, dd, o1, _⟩ := id hOC
      exact ⟨_, rfl, p, dx, _, rfl, sC _ _ hpL, rfl, _, rfl, _, rfl, _, rfl, o, dy, _, rfl, o1.2, Wo U n, o, f, x, rfl, hOC, _, rfl,
        p, dx, q, t', n, lg, pa, c, x, gc f x, num x, am x, kn, ka, rfl, sC _ _ hpL, gc_scal hgo x, .inr ⟨od2, sC _ _ hnl⟩, hu1, rdk sC hcL, (fun hcase => by rw [c2, numF_in ((hAm.mem x).mpr ⟨hx, hcase.symm⟩)]), qq⟩
    refine ⟨sC _ _ hnl, ?_⟩
    have sBD := unB HC sC
    have hnD : (upd HC n (.dK kn)) n' = some (.dK kn') := by
      rw [upd_ne n'n]
      exact hnC
    have nn'B : HB n' = none := by
      cases e : HB n' with
      | none => rfl
      | some u =>
        have e2 := unB HL (Same.refl HL) n' u e
        rw [upd_ne n'n, hn'] at e2
        cases e2
    generalize upd HC n (.dK kn) = HD at sBD hnD ⊢
    have n'p : n' ≠ p := fun e => by subst e; rw [hpB] at nn'B; cases nn'B
    refine ⟨_, rfl, p, T.cR, dx, _, rfl, sBD _ _ hpB, T.R.cl, T.nR _ (by simp), by show 5 < 1000; decide, ?_⟩
    have e2 : putF ("numbers" : Str) (.ref n') (rflds q t' n lg pa) = rflds q t' n' lg pa := rfl
    rw [e2]
    have gBE : Gr B HB (upd HD p (.ins T.cR dx (rflds q t' n' lg pa))) := (gr_same sBD).trans (gr_upd nBp)
    have hpE : (upd HD p (.ins T.cR dx (rflds q t' n' lg pa))) p = some (.ins T.cR dx (rflds q t' n' lg pa)) := upd_same
    have hlgE : (upd HD p (.ins T.cR dx (rflds q t' n' lg pa))) lg = some (.lst (ls ++ [.ref T2])) := by
      rw [upd_ne plg.symm]
      exact sBD _ _ hlgB
    have hpaE : (upd HD p (.ins T.cR dx (rflds q t' n' lg pa))) pa = some (.lst (ps ++ [.ref T1])) := by
      rw [upd_ne ppa.symm]
      exact sBD _ _ hpaB
    have htE : (upd HD p (.ins T.cR dx (rflds q t' n' lg pa))) t' = some (.lst ((trN W tr f).map V.str)) := by
      rw [upd_ne tp]
      exact sBD _ _ htB
    have hnE : (upd HD p (.ins T.cR dx (rflds q t' n' lg pa))) n' = some (.dK kn') := by
      rw [upd_ne n'p]
      exact hnD
    have hUn : U n' := (hf.gr gBU) _ nn'B
    generalize upd HD p (.ins T.cR dx (rflds q t' n' lg pa)) = HE at gBE hpE hlgE hpaE htE hnE ⊢
    have gE := gB.trans gBE
    have gEU := gE.sub hUB
    have gBEU := gBE.sub hUB
    have gOE : OutAt T.cO (Wo U n) HE o f := gOB.lq (gBEU.sub fun _ h => h.1).lq
    have hwE : WoX T true (Wo U n') HE q d W := (hwB.lq lq_wo).lq (Lq.trans (lq_out nn'B) (gBEU.sub fun _ h => h.1).lq)
    have vn' : ∀ k, valV kn' k = numF W.cnts (numN f num am) k := fun k' => by
      rw [hvC k']
      have ef : kn.filter (fun _ => true) = kn := List.filter_eq_self.mpr fun _ _ => rfl
      rw [ef]
      cases e : numF W.cnts (numN f num am) k' with
      | none =>
        refine if_neg fun h => ?_
        obtain ⟨kv, hkv, ek⟩ := List.mem_map.mp (inK_iff.mp h)
        obtain ⟨j, hj⟩ := List.mem_iff_getElem?.mp hkv
        obtain ⟨u, hu1⟩ := val_at (k := kv.1) (v := kv.2) hj
        obtain ⟨x, e3, hx, _⟩ := numF_some ((n2 _).symm.trans hu1)
        rw [← ek, e3, numF_in hx] at e
        cases e
      | some u =>
        obtain ⟨x, e3, hx, e4⟩ := numF_some e
        have hin : k' ∈ kn.map (·.1) := by
          have : valV kn k' = some (.int (num x)) := by rw [n2, e3, numF_in hx]
          exact valV_in this
        rw [if_pos (inK_iff.mpr hin)]
        rfl
    have run' : RunAt T U HE p lg pa W (trN W tr f) (numN f num am) (m + 1) := ⟨dx, q, d, t', n', hpE, hwE, ⟨hUt, htE⟩, ⟨kn', ⟨hUn, hnE⟩, vn', by omega⟩, ⟨_, hlgE, by rw [List.length_append]; exact Nat.succ_le_succ h5'⟩, ⟨_, hpaE, by rw [List.length_append]; exact Nat.succ_le_succ h6'⟩, h7⟩
    -- what is gone
    obtain ⟨dwE, pfE, piE, prE, kvsE, wE, _⟩ := id hwE
    refine ⟨_, rfl, p, T.cR, dx, _, _, rfl, hpE, T.R.cl, T.nR _ (by simp), rfl, q, dwE, _, rfl, wE.2, rfl, Wo U n', true, q, d, W, rfl, hwE, hW, fun pl hpl => ?_⟩
    have sF : Same HE (upd HE pl (.lst (W.piles.map V.str))) := same_new hpl
    have hpF : (upd HE pl (.lst (W.piles.map V.str))) pl = some (.lst (W.piles.map V.str)) := upd_same
    generalize upd HE pl (.lst (W.piles.map V.str)) = HF at sF hpF ⊢
    refine ⟨pl, rfl, ⟨_, SqL.of hpF⟩, fun D3 hD3 => ?_⟩
    refine lc_map (wk_list (zs := W.piles) (inj := V.str)) V.str (fun x => decide (gc f x = .str "take") && decide (numN f num am x = 0)) hD3 (by omega) (fun _ => rfl) (fun HG sG => SqL.of (sG _ _ hpF))
      (fun x hx HG sG R hR => ?_) (fun x _ _ HG sG R hR => ⟨_, rfl, hR HG (Same.refl HG)⟩) fun HG sG hDG => ?_
    · have sEG := sF.trans sG
      have hOG := gOE.lq (lq_same (U := Wo U n) sEG)
      obtain ⟨dy, dd, o1, _⟩ := id hOG
      have hxc : x ∈ W.cnts := List.mem_append_left _ hx
      have q := hR HG (Same.refl HG)
      refine ⟨_, rfl, _, rfl, o, dy, _, rfl, o1.2, Wo U n, o, f, x, rfl, hOG, gc_scal hgo x _, _, rfl, ?_⟩
      by_cases e : gc f x = .str "take"
      · rw [decide_eq_true e, Bool.true_and] at q
        refine dT e ⟨_, rfl, p, T.cR, dx, _, _, rfl, sEG _ _ hpE, T.R.cl, T.nR _ (by simp), rfl, _, rfl, n', _, rfl, dget_rd (.inl (sEG _ _ hnE)) (by rw [vn', numF_in hxc]), rfl, _, rfl, ?_⟩
        rw [show decide (V.int (numN f num am x) = V.int 0) = decide (numN f num am x = 0) by simp]
        exact q
      · rw [decide_eq_false e, Bool.false_and] at q
        exact dF e q
    · have sEG := sF.trans sG
      refine ⟨D3, _, rfl, .inl ⟨SqL.of hDG, fun r hr0 => ?_⟩⟩
      have sEH : Same HE (upd HG r (.tup ((W.piles.filter fun x => decide (gc f x = .str "take") && decide (numN f num am x = 0)).map V.str))) := sEG.trans (same_new hr0)
      exact k r _ (gE.trans (gr_same sEH)) (run'.same sEH) upd_same ((hf.gr gEU) _ (sEG.free hr0))
end KK


set_option Elab.async false
set_option linter.all false
set_option maxRecDepth 100000
set_option maxHeartbeats 4000000
/-! the law's draws -/
namespace KK
open PySem PySem.Spec PyProof.Rows L2
variable {P : Program} {w : World} {K : PySem.W.Frag} {mg : Str → Option Value} {base : Heap}
/-- all but the stream -/
def Ust (S L : Addr) : Addr → Prop := fun a => a ≠ S ∧ a ≠ L
structure StA (S L : Addr) (H : Hp) (ns : List Int) (x1 x2 x3 : Int) : Prop where
  s : H S = some (.lst [.ref L, .int x1, .int x2, .int x3])
  l : H L = some (.lst (ns.map V.int))
theorem StA.ne {S L : Addr} {H : Hp} {ns : List Int} {x1 x2 x3 : Int} (h : StA S L H ns x1 x2 x3) : S ≠ L := ne_of h.s h.l (by
  intro z
  cases ns with
  | nil => cases z
  | cons n ns => cases z)
/-- the stream at S, its numbers at L; at most n draws so far -/
def Strm (S L : Addr) (H : Hp) (n : Nat) : Prop := ∃ ns x1 x2 x3, StA S L H ns x1 x2 x3 ∧ ns.length ≤ 63 ∧ 0 ≤ x1 ∧ 0 ≤ x2 ∧ x2 ≤ (n : Int) ∧ 0 ≤ x3 ∧ x3 < 2147483647
theorem StA.to {S L : Addr} {H H' : Hp} {ns : List Int} {x1 x2 x3 : Int} (h : StA S L H ns x1 x2 x3) (s : Same H H') : StA S L H' ns x1 x2 x3 := ⟨s _ _ h.s, s _ _ h.l⟩
theorem Strm.same {S L : Addr} {H H' : Hp} {n : Nat} (h : Strm S L H n) (s : Same H H') : Strm S L H' n := by
  obtain ⟨ns, x1, x2, x3, a, b⟩ := h
  exact ⟨ns, x1, x2, x3, a.to s, b⟩
theorem Strm.mono {S L : Addr} {H : Hp} {n m : Nat} (h : Strm S L H n) (l : n ≤ m) : Strm S L H m := by
  obtain ⟨ns, x1, x2, x3, a, h1, h2, h3, h4, h5⟩ := h
  exact ⟨ns, x1, x2, x3, a, h1, h2, h3, by omega, h5⟩
theorem Strm.noS {S L : Addr} {H : Hp} {n : Nat} (h : Strm S L H n) : H S ≠ none ∧ H L ≠ none := by
  obtain ⟨ns, x1, x2, x3, a, _⟩ := h
  exact ⟨some_ne a.s, some_ne a.l⟩
/-- what is new lies in the region -/
theorem Strm.fresh {S L : Addr} {H : Hp} {n : Nat} (h : Strm S L H n) : Fresh (Ust S L) H := fun a ha => by
  obtain ⟨h1, h2⟩ := h.noS
  exact ⟨fun e => h1 (by rw [← e]; exact ha), fun e => h2 (by rw [← e]; exact ha)⟩
theorem StA.setS {S L : Addr} {H : Hp} {ns : List Int} {x1 x2 x3 y1 y2 y3 : Int} (h : StA S L H ns x1 x2 x3) : StA S L (upd H S (.lst [.ref L, .int y1, .int y2, .int y3])) ns y1 y2 y3 :=
  ⟨upd_same, by rw [upd_ne h.ne.symm]; exact h.l⟩
section
variable {S L : Addr} {H : Hp} {ns : List Int} {x1 x2 x3 y : Int} {Q : Hp → Prop}
theorem st_set1 (h : StA S L H ns x1 x2 x3) (q : Q (upd H S (.lst [.ref L, .int y, .int x2, .int x3]))) : rSetL (.ref S) (.int 1) (.int y) H Q := ⟨S, _, 1, 1, rfl, rfl, h.s, rfl, q⟩
theorem st_set2 (h : StA S L H ns x1 x2 x3) (q : Q (upd H S (.lst [.ref L, .int x1, .int y, .int x3]))) : rSetL (.ref S) (.int 2) (.int y) H Q := ⟨S, _, 2, 2, rfl, rfl, h.s, rfl, q⟩
theorem st_set3 (h : StA S L H ns x1 x2 x3) (q : Q (upd H S (.lst [.ref L, .int x1, .int x2, .int y]))) : rSetL (.ref S) (.int 3) (.int y) H Q := ⟨S, _, 3, 3, rfl, rfl, h.s, rfl, q⟩
end
theorem gr_S {S L : Addr} {H : Hp} {o : HO} : Gr (Ust S L) H (upd H S o) := gr_upd fun h => h.1 rfl
theorem gr_L {S L : Addr} {H : Hp} {o : HO} : Gr (Ust S L) H (upd H L o) := gr_upd fun h => h.2 rfl
def spDraw : Sp := fun vs H Q _ => ∃ (S L : Addr) (n : Nat) (m : Int), vs = [.ref S, .int m] ∧ Strm S L H n ∧ n < 1000000 ∧ 0 < m ∧ m.natAbs < 2 ^ 200 ∧
  ∀ (r : Int) (H' : Hp), 0 ≤ r → r < m → Strm S L H' (n + 1) → Gr (Ust S L) H H' → Q (.int r) H'
theorem sc_dr : FnScope ["_law_stream", "_law_many", "_law_digit", "_law_mixed_here"] ["_law_stream", "_law_many"] (defScope (top 47)) := ⟨rfl, rfl, rfl, by decide +kernel, rfl, by decide +kernel, by decide +kernel⟩
theorem small_pow {i b : Int} {j : Int} (h0 : 0 ≤ i) (h1 : i < b) (hb : b ≤ 2 ^ 64) (hj : 0 ≤ j) (hj2 : j ≤ 1000000) : 0 ≤ j ∧ j ≤ 1000000 ∧ i.natAbs < 2 ^ 64 := ⟨hj, hj2, by
  have h2 : i < 18446744073709551616 := by
    have e : (2 : Int) ^ 64 = 18446744073709551616 := by decide +kernel
    omega
  have e : (2 : Nat) ^ 64 = 18446744073709551616 := by decide +kernel
  omega⟩
theorem ok_draw (T : Txt K mg) : C8.Cal P w K mg base 1 "_law_draw" spDraw [] := by
  refine def_cal T.lDraw sc_dr (fun _ _ _ _ _ _ us hl => match us, hl with | [_, _], _ => rfl) (fun vs H Q E h => ?_) (fun f cdv A outer s H vs Q E hr h => ?_)
  · obtain ⟨S, L, n, m, rfl, _⟩ := h
    rfl
  · obtain ⟨S, L, n, m, rfl, ⟨ns, x1, x2, x3, hS, hlen, h1, h2, h2n, h3, h3'⟩, hn, hm, hmb, k⟩ := h
    have nd := sc_dr.nd
    have hu := hu_of hr
    have e64 : (2 : Int) ^ 64 = 18446744073709551616 := by decide +kernel
    refine ⟨_, pss_cons (ps_asg (pe_op op_add (pe_ix ix_list (pv 0) pe_int (fun _ _ => rfl)) pe_int) (pg_sub (pv 0) pe_int set_list))
      (C8.pss_cut (ps_if (PW.pt (pw_and (pt_cmpR op_eq (pe_ix ix_list (pv 0) pe_int (fun _ _ => rfl)) pe_int (nomark _)) (pw_and1 (pt_cmpR (op_neNil (Nat.lt_of_succ_lt hu)) (pe_ix ix_list (pv 0) pe_int (fun _ _ => rfl)) (pe_lst pa_nil) (nomark _)))))
          (pss_cons (ps_asg (pe_bm PySem.F.plainAttrs_list PySem.F.slot_list_pop PySem.F.type_list_pop mt_popAt (pe_ix ix_list (pv 0) pe_int (fun _ _ => rfl)) (pa_cons pe_int pa_nil)) (pg_sub (pv 0) pe_int set_list))
          (pss_one (ps_if (pt_cmpR op_lt (pe_ix ix_list (pv 0) pe_int (fun _ _ => rfl)) (pe_op op_pow pe_int pe_int) (nomark _))
            (pss_cons (ps_asg (pe_op op_mod (pe_callTy call_int1 (by rfl) (T.blt _ (by decide)) (by decide +kernel) (pa_cons (pe_op op_add (pe_op op_add (pe_op op_mul (pe_ix ix_list (pv 0) pe_int (fun _ _ => rfl)) pe_int) (pe_ix ix_list (pv 0) pe_int (fun _ _ => rfl))) pe_int) pa_nil)) pe_int) (pg_sub (pv 0) pe_int set_list))
            (pss_one (ps_asg pe_int (pg_sub (pv 0) pe_int set_list)))) pss_nil))) pss_nil)
      (pss_cons (ps_if (pt_cmpR op_gt (pe_ix ix_list (pv 0) pe_int (fun _ _ => rfl)) pe_int (nomark _))
        (pss_cons (ps_set (i := 2) nd rfl (.inl rfl) (pe_op op_mod (pe_callTy call_int1 (by rfl) (T.blt _ (by decide)) (by decide +kernel) (pa_cons (pe_ix ix_list (pv 0) pe_int (fun _ _ => rfl)) pa_nil)) (pv 1)))
        (pss_cons (ps_asg (pe_op op_fdivW (pe_ix ix_list (pv 0) pe_int (fun _ _ => rfl)) (pv 1)) (pg_sub (pv 0) pe_int set_list))
        (pss_one (ps_ret (pv 2))))) pss_nil)
      (pss_cons (ps_set (i := 3) nd rfl (.inl rfl) (pe_op op_mod (pe_op op_pow (pe_op op_add (pe_op op_add (pe_ix ix_list (pv 0) pe_int (fun _ _ => rfl)) (pe_op op_mul pe_int (pe_ix ix_list (pv 0) pe_int (fun _ _ => rfl)))) pe_int) pe_int) pe_int))
      (pss_one (ps_ret (pe_op op_mod (pe_op op_mod (pe_op op_pow (pe_op op_add (pe_op op_add (pe_op op_mul (pv 3) pe_int) (pe_op op_mul (pe_op op_mul pe_int (pe_ix ix_list (pv 0) pe_int (fun _ _ => rfl))) (pe_ix ix_list (pv 0) pe_int (fun _ _ => rfl)))) pe_int) pe_int) pe_int) (pv 1))))))), ?_⟩
    have at1 : ∀ {H : Hp} {ns : List Int} {x1 x2 x3 : Int}, StA S L H ns x1 x2 x3 → SqL K H S [.ref L, .int x1, .int x2, .int x3] := fun h => SqL.of h.s
    -- stream[2] += 1
    refine ⟨_, rfl, S, _, 2, _, rfl, rfl, at1 hS, atI_nat (j := 2) rfl, _, _, rfl, rfl, _, rfl, st_set2 hS ?_⟩
    have hS1 : StA S L (upd H S (.lst [.ref L, .int x1, .int (x2 + 1), .int x3])) ns x1 (x2 + 1) x3 := hS.setS
    have g1 : Gr (Ust S L) H (upd H S (.lst [.ref L, .int x1, .int (x2 + 1), .int x3])) := gr_S
    generalize upd H S (.lst [.ref L, .int x1, .int (x2 + 1), .int x3]) = H1 at hS1 g1 ⊢
    refine ⟨fun σ H2 => σ = [some (.ref S), some (.int m), none, none] ∧ Gr (Ust S L) H H2 ∧ ∃ ns y1 y3, StA S L H2 ns y1 (x2 + 1) y3 ∧ ns.length ≤ 63 ∧ 0 ≤ y1 ∧ 0 ≤ y3 ∧ y3 < 2147483647, ?_, ?_⟩
    · refine ⟨_, rfl, S, _, 1, _, rfl, rfl, at1 hS1, atI_nat (j := 1) rfl, rfl, _, rfl, ?_⟩
      by_cases e1 : x1 = 0
      · subst e1
        refine dT rfl ⟨_, rfl, S, _, 0, _, rfl, rfl, at1 hS1, atI_nat (j := 0) rfl, by show 0 ≤ sizeLine; decide, fun b hb => ?_⟩
        have s2 : Same H1 (upd H1 b (.lst [])) := same_new hb
        refine ⟨L, b, ns.map V.int, rfl, rfl, SqL.of (s2 _ _ hS1.l), SqL.of upd_same, _, rfl, ?_⟩
        have hS2 := hS1.to s2
        have g2 := g1.trans (gr_same (U := Ust S L) s2)
        generalize upd H1 b (.lst []) = H2 at hS2 g2 ⊢
        cases ns with
        | nil => exact iteF ⟨rfl, g2, [], 0, x3, hS2, Nat.zero_le _, Int.le_refl _, h3, h3'⟩
        | cons y ns =>
          have hl' : ns.length ≤ 63 := by
            rw [List.length_cons] at hlen
            omega
          refine iteT ⟨_, rfl, S, _, 0, _, rfl, rfl, at1 hS2, atI_nat (j := 0) rfl, .inl ⟨rfl, _, SqL.of hS2.l⟩, L, _, 0, 0, .int y, rfl, rfl, hS2.l, by decide, by decide, seqIndex_of (Int.le_refl _) (by simp), rfl, ?_⟩
          have hS3 : StA S L (upd H2 L (.lst (ns.map V.int))) ns 0 (x2 + 1) x3 := ⟨by rw [upd_ne hS2.ne]; exact hS2.s, upd_same⟩
          have g3 := g2.trans (gr_L (S := S) (L := L) (H := H2) (o := .lst (ns.map V.int)))
          have eer : (V.int y :: ns.map V.int).eraseIdx 0 = ns.map V.int := rfl
          rw [List.map_cons, eer]
          generalize upd H2 L (.lst (ns.map V.int)) = H3 at hS3 g3 ⊢
          refine ⟨_, rfl, st_set1 hS3 ?_⟩
          have hS4 : StA S L (upd H3 S (.lst [.ref L, .int y, .int (x2 + 1), .int x3])) ns y (x2 + 1) x3 := hS3.setS
          have g4 := g3.trans (gr_S (S := S) (L := L) (H := H3) (o := .lst [.ref L, .int y, .int (x2 + 1), .int x3]))
          generalize upd H3 S (.lst [.ref L, .int y, .int (x2 + 1), .int x3]) = H4 at hS4 g4 ⊢
          refine ⟨_, rfl, S, _, 1, _, rfl, rfl, at1 hS4, atI_nat (j := 1) rfl, _, _, rfl, rfl, ⟨by decide, by decide, by decide⟩, _, _, rfl, rfl, _, rfl, ?_⟩
          by_cases e2 : y < 10 ^ 18
          · refine dT e2 ⟨_, rfl, S, _, 3, _, rfl, rfl, at1 hS4, atI_nat (j := 3) rfl, _, _, rfl, rfl, .inl ⟨by omega, by omega⟩, _, rfl, S, _, 1, _, rfl, rfl, at1 hS4, atI_nat (j := 1) rfl, _, _, rfl, rfl, _, _, rfl, rfl, .inl ⟨_, rfl, _, _, rfl, rfl, by show (0 : Int) < 2147483647; decide, _, rfl, st_set3 hS4 ?_⟩⟩
            have b1 : 0 ≤ (x3 * 31 + y + 7) % 2147483647 := Int.emod_nonneg _ (by decide)
            have b2 : (x3 * 31 + y + 7) % 2147483647 < 2147483647 := Int.emod_lt_of_pos _ (by decide)
            have hS5 : StA S L (upd H4 S (.lst [.ref L, .int y, .int (x2 + 1), .int ((x3 * 31 + y + 7) % 2147483647)])) ns y (x2 + 1) ((x3 * 31 + y + 7) % 2147483647) := hS4.setS
            have g5 := g4.trans (gr_S (S := S) (L := L) (H := H4) (o := .lst [.ref L, .int y, .int (x2 + 1), .int ((x3 * 31 + y + 7) % 2147483647)]))
            generalize upd H4 S (.lst [.ref L, .int y, .int (x2 + 1), .int ((x3 * 31 + y + 7) % 2147483647)]) = H5 at hS5 g5 ⊢
            refine ⟨_, rfl, st_set1 hS5 ?_⟩
            exact ⟨rfl, g5.trans gr_S, ns, 0, _, hS5.setS, hl', Int.le_refl _, b1, b2⟩
          · have : (0 : Int) ≤ y := by
              have : (0 : Int) ≤ 10 ^ 18 := by decide
              omega
            exact dF e2 ⟨rfl, g4, ns, y, x3, hS4, hl', this, h3, h3'⟩
      · exact dF (fun e => e1 (V.int.inj e)) (iteF ⟨rfl, g1, ns, x1, x3, hS1, hlen, h1, h3, h3'⟩)
    · rintro σ H2 ⟨rfl, g2, ns2, y1, y3, hS2, hl2, hy1, hy3, hy3'⟩
      refine ⟨_, rfl, S, _, 1, _, rfl, rfl, at1 hS2, atI_nat (j := 1) rfl, _, _, rfl, rfl, _, rfl, ?_⟩
      by_cases e1 : 0 < y1
      · refine dT e1 ⟨_, rfl, S, _, 1, _, rfl, rfl, at1 hS2, atI_nat (j := 1) rfl, .inl ⟨_, rfl, _, rfl, _, _, rfl, rfl, hm, ?_⟩⟩
        refine ⟨_, rfl, S, _, 1, _, rfl, rfl, at1 hS2, atI_nat (j := 1) rfl, _, rfl, _, _, rfl, rfl, wide_div hm hmb (by decide) (by decide), _, rfl, st_set1 hS2 ⟨_, rfl, ?_⟩⟩
        exact k _ _ (Int.emod_nonneg _ (by omega)) (Int.emod_lt_of_pos _ hm) ⟨ns2, y1 / m, x2 + 1, y3, hS2.setS, hl2, Int.ediv_nonneg hy1 (by omega), by omega, by omega, hy3, hy3'⟩ (g2.trans gr_S)
      · refine dF e1 ⟨_, rfl, S, _, 3, _, rfl, rfl, at1 hS2, atI_nat (j := 3) rfl, _, rfl, S, _, 2, _, rfl, rfl, at1 hS2, atI_nat (j := 2) rfl, _, _, rfl, rfl, .inl ⟨by decide, by decide⟩, _, _, rfl, rfl, _, _, rfl, rfl, _, _, rfl, rfl, ?_⟩
        refine ⟨small_pow (b := 1000000000000000) (by omega) (by omega) (by decide +kernel) (by decide) (by decide), _, _, rfl, rfl, by show (0 : Int) < 2147483629; decide, ?_⟩
        have b1 : 0 ≤ ((y3 + 104729 * (x2 + 1) + 17) ^ (5 : Int).toNat) % 2147483629 := Int.emod_nonneg _ (by decide)
        have b2 : ((y3 + 104729 * (x2 + 1) + 17) ^ (5 : Int).toNat) % 2147483629 < 2147483629 := Int.emod_lt_of_pos _ (by decide)
        generalize ((y3 + 104729 * (x2 + 1) + 17) ^ (5 : Int).toNat) % 2147483629 = mx at b1 b2 ⊢
        have c1 : 0 ≤ (40503 * (x2 + 1)) * (x2 + 1) := Int.mul_nonneg (by omega) (by omega)
        have c2 : (40503 * (x2 + 1)) * (x2 + 1) ≤ (40503 * 1000000) * 1000000 := Int.mul_le_mul (by omega) (by omega) (by omega) (by decide)
        refine ⟨_, rfl, _, _, rfl, rfl, .inl ⟨by omega, by omega⟩, ?_⟩
        refine ⟨_, rfl, S, _, 2, _, rfl, rfl, at1 hS2, atI_nat (j := 2) rfl, _, _, rfl, rfl, .inl ⟨by decide, by decide⟩, _, rfl, S, _, 2, _, rfl, rfl, at1 hS2, atI_nat (j := 2) rfl, _, _, rfl, rfl, .inl ⟨by omega, by omega⟩, _, _, rfl, rfl, _, _, rfl, rfl, _, _, rfl, rfl, ?_⟩
        refine ⟨small_pow (b := 1000000000000000000) (by omega) (by omega) (by decide +kernel) (by decide) (by decide), _, _, rfl, rfl, by show (0 : Int) < 1000000007; decide, _, rfl, _, _, rfl, rfl, hm, ?_⟩
        exact k _ _ (Int.emod_nonneg _ (by omega)) (Int.emod_lt_of_pos _ hm) ⟨ns2, y1, x2 + 1, y3, hS2, hl2, hy1, by omega, by omega, hy3, hy3'⟩ g2
end KK


set_option Elab.async false
set_option linter.all false
set_option maxRecDepth 100000
set_option maxHeartbeats 4000000
/-! pick, mixed, some -/
namespace KK
open PySem PySem.Spec PyProof.Rows L2
variable {P : Program} {w : World} {K : PySem.W.Frag} {mg : Str → Option Value} {base : Heap}
section
variable {X : Cx} {KF : PySem.W.Frag} {o e : Expr} {es : List Expr} {to : TE} {t : TA} {name : Str} {apos cpos : Pos} {T id : String} {r : V → List V → Hp → VK → Prop}
theorem pe_bmK (hK : X.K = KF) (pa : PlainAttrs T) (slot : Slot T name id) (hty : typeOf (.builtin id) = pure (.type "method_descriptor")) (hm : MtR X id r) (ho : PE X o to) (ha : PA X (e :: es) t)
    (hbase : attributeBase o name X.env (eval o X.env) = eval o X.env := by rfl)
    (hfew : ((backTo cpos (starEach (e :: es) X.env)).all (fun x => !x.1) && (backToKw cpos (keywordEach [] X.env)).all (fun x => x.1.isSome)
      && decide ((e :: es).length + ([] : List Keyword).length + (if ([] : List Keyword).isEmpty then 0 else 1) < 30)) = true := by rfl)
    (hline : (apos.endLine == cpos.line) = true := by rfl) (hs : starEach (e :: es) X.env = (false, eval e X.env) :: starEach es X.env := by rfl) (hplain : (backTo cpos (starEach es X.env)).any (·.1) = false := by rfl) :
    PE X (.Call (.Attribute o name apos) (e :: es) [] cpos) (tBM KF T r to t) := by
  subst hK
  exact pe_bm pa slot hty hm ho ha hbase hfew hline hs hplain
end
/-! ### _law_pick -/
def spPick : Sp := fun vs H Q _ => ∃ (S L p : Addr) (n : Nat) (xs : List V), vs = [.ref S, .ref p] ∧ Strm S L H n ∧ n < 1000000 ∧ At (Ust S L) H p (.lst xs) ∧ xs ≠ [] ∧ xs.length ≤ 100000 ∧
  ∀ (x : V) (H' : Hp), x ∈ xs → Strm S L H' (n + 1) → Gr (Ust S L) H H' → Q x H'
theorem sc_pk : FnScope ["_law_stream", "_law_some_here"] ["_law_stream", "_law_some_here"] (defScope (top 48)) := ⟨rfl, rfl, rfl, by decide +kernel, rfl, by decide +kernel, by decide +kernel⟩
theorem small200 {n : Nat} (h : n ≤ 1000000) : ((n : Nat) : Int).natAbs < 2 ^ 200 := by
  rw [Int.natAbs_natCast]
  exact Nat.lt_of_le_of_lt h (by decide +kernel)
theorem ok_pick (T : Txt K mg) : C8.Cal P w K mg base 2 "_law_pick" spPick [] := by
  have G : C8.Cal P w K mg base 1 "_law_draw" spDraw [] := ok_draw T
  refine def_cal T.lPick sc_pk (fun _ _ _ _ _ _ us hl => match us, hl with | [_, _], _ => rfl) (fun vs H Q E h => ?_) (fun f cdv A outer s H vs Q E hr h => ?_)
  · obtain ⟨S, L, p, n, xs, rfl, _⟩ := h
    rfl
  · obtain ⟨S, L, p, n, xs, rfl, hS, hn, hp, hne, hlen, k⟩ := h
    refine ⟨_, pss_one (ps_ret (pe_ix ix_list (pv 1) (C8.pe_c G hr (by decide) (by rfl) (pa_cons (pv 0) (pa_cons (pe_callB call_len_seq (by rfl) (T.blt _ (by decide)) PySem.boot_len (pa_cons (pv 1) pa_nil)) pa_nil))) (fun _ _ => rfl))), ?_⟩
    have h0 : 0 < xs.length := List.length_pos_iff.mpr hne
    refine ⟨_, rfl, _, rfl, _, rfl, p, xs, rfl, .inl (SqL.of hp.2), S, L, n, _, rfl, hS, hn, by omega, small200 (by omega), fun r H' hr0 hr1 hS' g => ?_⟩
    obtain ⟨j, rfl⟩ := Int.eq_ofNat_of_zero_le hr0
    have hj : j < xs.length := by omega
    exact ⟨p, xs, _, xs[j], rfl, rfl, SqL.of (g.k _ _ hp.1 hp.2), atI_nat (List.getElem?_eq_getElem hj), k _ _ (List.getElem_mem _) hS' g⟩
/-! ### _law_mixed -/
def spMixed : Sp := fun vs H Q _ => ∃ (S L p : Addr) (n : Nat) (zs : List Str), vs = [.ref S, .ref p] ∧ Strm S L H n ∧ n + zs.length < 1000000 ∧ zs.length ≤ 1000 ∧ LAt (Ust S L) H p zs ∧
  ∀ (q : Addr) (ys : List Str) (H' : Hp), ys.Perm zs → H q = none → H' q = some (.lst (ys.map V.str)) → Strm S L H' (n + zs.length) → Gr (Ust S L) H H' → Q (.ref q) H'
theorem sc_mx : FnScope ["_law_stream", "_law_some_here", "_law_left", "_law_k"] ["_law_stream", "_law_some_here"] (defScope (top 49)) := ⟨rfl, rfl, rfl, by decide +kernel, rfl, by decide +kernel, by decide +kernel⟩
theorem map_erase {α β : Type} (f : α → β) : ∀ (l : List α) (j : Nat), (l.map f).eraseIdx j = (l.eraseIdx j).map f
  | [], _ => by simp
  | a :: l, 0 => rfl
  | a :: l, j + 1 => congrArg (f a :: ·) (map_erase f l j)
theorem perm_erase {l : List Str} {j : Nat} {z : Str} (h : l[j]? = some z) : (z :: l.eraseIdx j).Perm l := by
  induction l generalizing j with
  | nil => simp at h
  | cons a l ih =>
    cases j with
    | zero =>
      cases h
      exact List.Perm.refl _
    | succ j =>
      have := ih (j := j) h
      exact (List.Perm.swap a z _).trans (this.cons a)
theorem ok_mixed (T : Txt K mg) : C8.Cal P w K mg base 2 "_law_mixed" spMixed [] := by
  have G : C8.Cal P w K mg base 1 "_law_draw" spDraw [] := ok_draw T
  refine def_cal T.lMixed sc_mx (fun _ _ _ _ _ _ us hl => match us, hl with | [_, _], _ => rfl) (fun vs H Q E h => ?_) (fun f cdv A outer s H vs Q E hr h => ?_)
  · obtain ⟨S, L, p, n, zs, rfl, _⟩ := h
    rfl
  · obtain ⟨S, L, p, n, zs, rfl, hS, hn, hlen, hp, k⟩ := h
    have nd := sc_mx.nd
    have hs := sizeLine_eq
    refine ⟨_, pss_cons (ps_set (i := 2) nd rfl (.inr rfl) (pe_callTy call_list_of (by rfl) (T.blt _ (by decide)) (by decide +kernel) (pa_cons (pv 1) pa_nil)))
      (pss_one (ps_ret (pe_lc (own := [("_law_k", 3)]) (g := gName 3) (by rfl) nd (pi_range1 (by rfl) (T.blt _ (by decide)) (pa_cons (pe_callB call_len_seq (by rfl) (T.blt _ (by decide)) PySem.boot_len (pa_cons (pv 2) pa_nil)) pa_nil)) (blkOk_by (own := [("_law_k", 3)]) (N := ["_law_stream", "_law_some_here", "_law_left", "_law_k"]) (sc := defScope (top 49)) (by decide +kernel))
          (fun _ _ _ _ _ => pg_name (i := 3) nd rfl (Or.inl rfl)) (fun _ _ _ _ _ => pts_nil)
          (fun _ _ _ _ _ => pe_bmK (KF := K) rfl PySem.F.plainAttrs_list PySem.F.slot_list_pop PySem.F.type_list_pop mt_popAt (pv 2) (pa_cons (C8.pe_c G hr (by decide) (by rfl) (pa_cons (pv 0) (pa_cons (pe_callB (call_lenK (KK := K) rfl) (by rfl) (T.blt _ (by decide)) PySem.boot_len (pa_cons (pv 2) pa_nil)) pa_nil))) pa_nil))))), ?_⟩
    refine ⟨_, rfl, p, _, rfl, .inl (SqL.of hp.2), fun l hl => ?_⟩
    have s1 : Same H (upd H l (.lst (zs.map V.str))) := same_new hl
    have hl1 : (upd H l (.lst (zs.map V.str))) l = some (.lst (zs.map V.str)) := upd_same
    have hUl := hS.fresh l hl
    generalize upd H l (.lst (zs.map V.str)) = H1 at s1 hl1 ⊢
    have hS1 := hS.same s1
    refine ⟨_, rfl, l, _, rfl, .inl (SqL.of hl1), _, rfl, by omega, by rw [List.length_map]; omega, fun D hD => ?_⟩
    have en : (((zs.map V.str).length : Nat) : Int).toNat = zs.length := by rw [Int.toNat_natCast, List.length_map]
    rw [en]
    have hUD := hS1.fresh D hD
    have lD : l ≠ D := ne_of_none hl1 hD
    have elr : (List.range zs.length).length = zs.length := List.length_range
    have wk := wk_range (n := zs.length)
    unfold Wk at wk
    rw [elr] at wk
    refine lc_it wk (g := gName 3) (fun i H2 => ∃ acc left, H2 D = some (.lst (acc.map V.str)) ∧ H2 l = some (.lst (left.map V.str)) ∧ (acc ++ left).Perm zs ∧ acc.length = i ∧ Strm S L H2 (n + i) ∧ ∀ a o, Ust S L a → a ≠ l → H1 a = some o → a ≠ D → H2 a = some o)
      ⟨[], zs, upd_same, by rw [upd_ne lD]; exact hl1, List.Perm.refl _, rfl, hS1.same (same_new hD), fun a o _ _ e h => by rw [upd_ne h]; exact e⟩ (fun _ _ _ _ => trivial) ?_ ?_
    · rintro i x H2 H2' hi ⟨acc, left, hD2, hl2, hp2, ha2, hS2, ho2⟩ ⟨rfl, z, hz, rfl⟩
      refine ⟨rfl, ?_⟩
      have hll : acc.length + left.length = zs.length := by
        rw [← List.length_append]
        exact hp2.length_eq
      refine ⟨_, rfl, .inl ⟨rfl, _, SqL.of hl2⟩, _, rfl, _, rfl, l, _, rfl, .inl (SqL.of hl2), S, L, n + i, _, rfl, hS2, by omega, by rw [List.length_map]; omega, small200 (by rw [List.length_map]; omega), fun r H3 hr0 hr1 hS3 g3 => ?_⟩
      obtain ⟨j, rfl⟩ := Int.eq_ofNat_of_zero_le hr0
      rw [List.length_map] at hr1
      have hj : j < left.length := by omega
      have hjz : left[j]? = some left[j] := List.getElem?_eq_getElem hj
      have hl3 := g3.k _ _ hUl hl2
      have hD3 := g3.k _ _ hUD hD2
      refine ⟨l, _, _, j, .str left[j], rfl, rfl, hl3, by omega, by omega, by rw [List.length_map]; rw [seqIndex_of (by omega) (by omega)]; rfl, by rw [List.getElem?_map, hjz]; rfl, ?_⟩
      refine ⟨acc.map V.str, by rw [upd_ne lD.symm]; exact hD3, by rw [List.length_map]; omega, acc ++ [left[j]], left.eraseIdx j, ?_, ?_, ?_, by rw [List.length_append, ha2]; rfl, ?_, fun a o hU hal e haD => ?_⟩
      · rw [upd_same, List.map_append]
        rfl
      · rw [upd_ne lD, upd_same]
        exact congrArg (fun q => some (HO.lst q)) (map_erase V.str left j)
      · rw [List.append_assoc]
        exact (List.Perm.append_left acc (perm_erase hjz)).trans hp2
      · obtain ⟨ns, x1, x2, x3, a, b⟩ := hS3
        exact ⟨ns, x1, x2, x3, ⟨by rw [upd_ne hUD.1.symm, upd_ne hUl.1.symm]; exact a.s, by rw [upd_ne hUD.2.symm, upd_ne hUl.2.symm]; exact a.l⟩, by rw [show n + (i + 1) = n + i + 1 by omega]; exact b⟩
      · rw [upd_ne haD, upd_ne hal]
        exact g3.k _ _ hU (ho2 a o hU hal e haD)
    · rintro H2 ⟨acc, left, hD2, hl2, hp2, ha2, hS2, ho2⟩
      have hll : acc.length + left.length = zs.length := by
        rw [← List.length_append]
        exact hp2.length_eq
      have e0 : left = [] := List.length_eq_zero_iff.mp (by omega)
      rw [e0, List.append_nil] at hp2
      refine k D acc H2 hp2 (s1.free hD) hD2 hS2 ⟨fun a o hU e => ho2 a o hU (ne_of_none e hl) (s1 _ _ e) (ne_of_none (s1 _ _ e) hD), fun a e => ?_⟩
      cases q : H a with
      | none => rfl
      | some o =>
        by_cases hU : Ust S L a
        · rw [ho2 a o hU (ne_of_none q hl) (s1 _ _ q) (ne_of_none (s1 _ _ q) hD)] at e
          cases e
        · obtain ⟨n1, n2⟩ := hS2.noS
          by_cases e1 : a = S
          · subst e1
            exact absurd e n1
          · by_cases e2 : a = L
            · subst e2
              exact absurd e n2
            · exact absurd ⟨e1, e2⟩ hU
/-! ### _law_some -/
def spSome : Sp := fun vs H Q _ => ∃ (S L p : Addr) (n : Nat) (m : Int) (zs : List Str), vs = [.ref S, .ref p, .int m] ∧ Strm S L H n ∧ n + zs.length < 1000000 ∧ zs.length ≤ 1000 ∧ 0 < m ∧ m < 1000 ∧ LAt (Ust S L) H p zs ∧
  ∀ (q : Addr) (ys : List Str) (H' : Hp), ys.Sublist zs → H q = none → H' q = some (.lst (ys.map V.str)) → Strm S L H' (n + zs.length) → Gr (Ust S L) H H' → Q (.ref q) H'
theorem sc_sm : FnScope ["_law_stream", "_law_things", "_law_one_in", "_law_thing"] ["_law_stream", "_law_things", "_law_one_in"] (defScope (top 50)) := ⟨rfl, rfl, rfl, by decide +kernel, rfl, by decide +kernel, by decide +kernel⟩
/-- a stream and a region behind a change of a new list -/
theorem Strm.upd {S L D : Addr} {H : Hp} {n : Nat} {o : HO} (h : Strm S L H n) (hU : Ust S L D) : Strm S L (upd H D o) n := by
  obtain ⟨ns, x1, x2, x3, a, b⟩ := h
  exact ⟨ns, x1, x2, x3, ⟨by rw [upd_ne hU.1.symm]; exact a.s, by rw [upd_ne hU.2.symm]; exact a.l⟩, b⟩
/-- H' agrees with H but for the stream and for D, which H does not know -/
structure GrD (S L D : Addr) (H H' : Hp) : Prop where
  k : ∀ a o, Ust S L a → a ≠ D → H a = some o → H' a = some o
theorem GrD.gr {S L D : Addr} {H H' : Hp} {n : Nat} (g : GrD S L D H H') (hS : Strm S L H' n) (hD : H D = none) : Gr (Ust S L) H H' := ⟨fun a o hU e => g.k a o hU (ne_of_none e hD) e, fun a e => by
  cases q : H a with
  | none => rfl
  | some o =>
    by_cases hU : Ust S L a
    · rw [g.k a o hU (ne_of_none q hD) q] at e
      cases e
    · obtain ⟨n1, n2⟩ := hS.noS
      by_cases e1 : a = S
      · subst e1
        exact absurd e n1
      · by_cases e2 : a = L
        · subst e2
          exact absurd e n2
        · exact absurd ⟨e1, e2⟩ hU⟩
theorem GrD.gr2 {S L D : Addr} {H H1 H2 : Hp} (g : GrD S L D H H1) (h : Gr (Ust S L) H1 H2) : GrD S L D H H2 := ⟨fun a o hU hD e => h.k a o hU (g.k a o hU hD e)⟩
theorem GrD.upd {S L D : Addr} {H H1 : Hp} {o : HO} (g : GrD S L D H H1) : GrD S L D H (upd H1 D o) := ⟨fun a u hU hD e => by rw [upd_ne hD]; exact g.k a u hU hD e⟩
theorem GrD.refl (S L D : Addr) (H : Hp) : GrD S L D H H := ⟨fun _ _ _ _ e => e⟩
theorem ok_some (T : Txt K mg) : C8.Cal P w K mg base 2 "_law_some" spSome [] := by
  have G : C8.Cal P w K mg base 1 "_law_draw" spDraw [] := ok_draw T
  refine def_cal T.lSome sc_sm (fun _ _ _ _ _ _ us hl => match us, hl with | [_, _, _], _ => rfl) (fun vs H Q E h => ?_) (fun f cdv A outer s H vs Q E hr h => ?_)
  · obtain ⟨S, L, p, n, m, zs, rfl, _⟩ := h
    rfl
  · obtain ⟨S, L, p, n, m, zs, rfl, hS, hn, hlen, hm, hm2, hp, k⟩ := h
    have nd := sc_sm.nd
    have hs := sizeLine_eq
    refine ⟨_, pss_one (ps_ret (pe_lc (own := [("_law_thing", 3)]) (g := gName 3) (by rfl) nd (pi_list (pv 1)) (blkOk_by (own := [("_law_thing", 3)]) (N := ["_law_stream", "_law_things", "_law_one_in", "_law_thing"]) (sc := defScope (top 50)) (by decide +kernel))
          (fun _ _ _ _ _ => pg_name (i := 3) nd rfl (Or.inl rfl)) (fun _ _ _ _ _ => pts_one (pt_cmpR op_eq (C8.pe_c G hr (by decide) (by rfl) (pa_cons (pv 0) (pa_cons (pv 2) pa_nil))) pe_int (nomark _))) (fun _ _ _ _ _ => pv 3))), ?_⟩
    refine ⟨_, rfl, p, rfl, ⟨_, SqL.of hp.2⟩, fun D hD => ?_⟩
    have hUD := hS.fresh D hD
    have pD : p ≠ D := ne_of_none hp.2 hD
    have wk := wk_list (K := K) (a := p) (zs := zs) (inj := V.str)
    refine lc_it wk (g := gName 3) (fun i H2 => ∃ acc, H2 D = some (.lst (acc.map V.str)) ∧ acc.Sublist (zs.take i) ∧ Strm S L H2 (n + i) ∧ GrD S L D H H2)
      ⟨[], upd_same, List.nil_sublist _, hS.upd hUD, (GrD.refl S L D H).upd⟩ (fun i H2 _ ⟨_, _, _, _, g⟩ => SqL.of (g.k _ _ hp.1 pD hp.2)) ?_ ?_
    · rintro i x H2 H2' hi ⟨acc, hD2, hsub, hS2, g2⟩ ⟨rfl, z, hz, rfl⟩
      have et : zs.take (i + 1) = zs.take i ++ [z] := by
        rw [List.take_add_one, hz]
        rfl
      refine ⟨rfl, _, rfl, _, rfl, S, L, n + i, m, rfl, hS2, by omega, hm, by omega, fun r H3 hr0 hr1 hS3 g3 => ⟨rfl, _, rfl, ?_⟩⟩
      have hD3 := g3.k _ _ hUD hD2
      have hal : acc.length ≤ 1000 := by
        have := hsub.length_le
        rw [List.length_take] at this
        omega
      by_cases e : r = 0
      · subst e
        refine dT rfl ⟨_, rfl, acc.map V.str, hD3, by rw [List.length_map]; omega, acc ++ [z], by rw [upd_same, List.map_append]; rfl, by rw [et]; exact hsub.append (List.Sublist.refl _), hS3.upd hUD, (g2.gr2 g3).upd⟩
      · exact dF (fun h => e (V.int.inj h)) ⟨acc, hD3, by rw [et]; exact hsub.trans (List.sublist_append_left _ _), hS3, g2.gr2 g3⟩
    · rintro H2 ⟨acc, hD2, hsub, hS2, g2⟩
      rw [List.take_length] at hsub
      exact k D acc H2 hsub hD hD2 hS2 (g2.gr hS2 hD)
end KK


set_option Elab.async false
set_option linter.all false
set_option maxRecDepth 100000
set_option maxHeartbeats 4000000
/-! names -/
namespace KK
open PySem PySem.Spec PyProof.Rows L2
variable {P : Program} {w : World} {K : PySem.W.Frag} {mg : Str → Option Value} {base : Heap}
theorem joinL_one : ∀ cs : List Nat, TL.joinL [] (cs.map fun c => [c]) = cs
  | [] => rfl
  | [_] => rfl
  | c :: d :: cs => by
    have ih := joinL_one (d :: cs)
    show [c] ++ ([] ++ TL.joinL [] ((d :: cs).map fun c => [c])) = c :: d :: cs
    rw [ih]
    rfl
theorem join_one (cs : List Nat) : Txt.join "" (cs.map fun c => (⟨#[c]⟩ : Str)) = ⟨cs.toArray⟩ := by
  have e0 : ("" : Str) = SX.S [] := by decide +kernel
  have e := SX.join_S [] (cs.map fun c => [c])
  rw [joinL_one, List.map_map] at e
  rw [e0]
  exact e
theorem sum_ones : ∀ cs : List Nat, (cs.map fun _ => 1).sum = cs.length
  | [] => rfl
  | c :: cs => by
    rw [List.map_cons, List.sum_cons, sum_ones cs, List.length_cons]
    omega
def spName : Sp := fun vs H Q _ => ∃ (S L p : Addr) (n : Nat) (zs : List Str), vs = [.ref S, .ref p] ∧ Strm S L H n ∧ n + 9 < 1000000 ∧ zs.length ≤ 15 ∧ LAt (Ust S L) H p zs ∧
  ∀ (z : Str) (H' : Hp), NameOk z → z ∉ zs → Strm S L H' (n + 9) → Gr (Ust S L) H H' → Q (.str z) H'
theorem sc_nm : FnScope ["_law_stream", "_law_taken", "_law_size", "_law_name_here", "_law_k", "_law_letter", "_law_one"] ["_law_stream", "_law_taken"] (defScope (top 52)) := ⟨rfl, rfl, rfl, by decide +kernel, rfl, by decide +kernel, by decide +kernel⟩
def let20 : List Nat := ("abcdefghijklmnopqrst" : Str).cps.toList
def q20 : List Str := let20.map fun c => ("q" : Str) ++ ⟨#[c]⟩
theorem q20_ok : ∀ z ∈ q20, NameOk z := by
  intro z hz
  have h : (q20.all fun z => decide (1 ≤ z.length) && decide (z.length ≤ 8) && decide (z ∉ resL) && z.cps.toList.all fun c => decide (c ∈ letS.cps.toList)) = true := by decide +kernel
  have q := List.all_eq_true.mp h z hz
  simp only [Bool.and_eq_true, decide_eq_true_eq, List.all_eq_true] at q
  exact ⟨q.1.1.1, q.1.1.2, q.1.2, q.2⟩
theorem q20_nd : q20.Nodup := by decide +kernel
theorem q20_len : q20.length = 20 := by decide +kernel
theorem q20_left {zs : List Str} (h : zs.length ≤ 15) : q20.filter (fun z => !decide (z ∈ zs)) ≠ [] := by
  intro e
  have hs : ∀ z ∈ q20, z ∈ zs := fun z hz => by
    by_cases hm : z ∈ zs
    · exact hm
    · have : z ∈ q20.filter (fun z => !decide (z ∈ zs)) := List.mem_filter.mpr ⟨hz, by simp [hm]⟩
      rw [e] at this
      cases this
  have : ∀ (l m : List Str), l.Nodup → (∀ z ∈ l, z ∈ m) → l.length ≤ m.length := by
    intro l
    induction l with
    | nil => intro m _ _; exact Nat.zero_le _
    | cons a l ih =>
      intro m hn hm
      obtain ⟨h1, h2⟩ := List.nodup_cons.mp hn
      have ha : a ∈ m := hm a List.mem_cons_self
      have := ih (m.erase a) h2 fun z hz => (List.mem_erase_of_ne (fun e => h1 (by rw [← e]; exact hz))).mpr (hm z (List.mem_cons_of_mem _ hz))
      rw [List.length_erase_of_mem ha] at this
      have : 0 < m.length := List.length_pos_of_mem ha
      simp only [List.length_cons]
      omega
  have q := this q20 zs q20_nd hs
  rw [q20_len] at q
  omega
theorem ok_name (T : Txt K mg) : C8.Cal P w K mg base 2 "_law_name" spName [] := by
  have G : C8.Cal P w K mg base 1 "_law_draw" spDraw [] := ok_draw T
  refine def_cal T.lName sc_nm (fun _ _ _ _ _ _ us hl => match us, hl with | [_, _], _ => rfl) (fun vs H Q E h => ?_) (fun f cdv A outer s H vs Q E hr h => ?_)
  · obtain ⟨S, L, p, n, zs, rfl, _⟩ := h
    rfl
  · obtain ⟨S, L, p, n, zs, rfl, hS, hn, hlen, hp, k⟩ := h
    have nd := sc_nm.nd
    have hs := sizeLine_eq
    have l26 : letS.cps.toList.length = 26 := by decide +kernel
    refine ⟨_, pss_cons (ps_set (i := 2) nd rfl (.inl rfl) (pe_ix ix_list (pe_lst (pa_cons pe_int (pa_cons pe_int (pa_cons pe_int (pa_cons pe_int (pa_cons pe_int (pa_cons pe_int pa_nil))))))) (C8.pe_c G hr (by decide) (by rfl) (pa_cons (pv 0) (pa_cons pe_int pa_nil))) (fun _ _ => rfl)))
      (pss_cons (ps_set (i := 3) nd rfl (.inl rfl) (pe_join pe_str (pe_lc (own := [("_law_k", 4)]) (g := gName 4) (by rfl) nd (pi_range1 (by rfl) (T.blt _ (by decide)) (pa_cons (pv 2) pa_nil)) (blkOk_by (own := [("_law_k", 4)]) (N := ["_law_stream", "_law_taken", "_law_size", "_law_name_here", "_law_k", "_law_letter", "_law_one"]) (sc := defScope (top 52)) (by decide +kernel))
          (fun _ _ _ _ _ => pg_name (i := 4) nd rfl (Or.inl rfl)) (fun _ _ _ _ _ => pts_nil) (fun _ _ _ _ _ => pe_ix (r := rIxS) ix_str pe_str (C8.pe_c G hr (by decide) (by rfl) (pa_cons (pv 0) (pa_cons pe_int pa_nil))) (fun _ _ => rfl)))))
      (pss_cons (ps_if (PW.pt (pw_or (pt_cmpR op_in_seq (pv 3) (pv 1) (by rfl)) (pw_or1 (pt_cmpR op_in_seq (pv 3) (pe_lst (pa_cons pe_str (pa_cons pe_str (pa_cons pe_str (pa_cons pe_str (pa_cons pe_str pa_nil)))))) (by rfl)))))
        (pss_one (ps_ret (pe_ix ix_list (pe_lc (own := [("_law_one", 6)]) (g := gName 6) (by rfl) nd
          (pi_list (pe_lc (own := [("_law_letter", 5)]) (g := gName 5) (by rfl) nd (pi_str pe_str) (blkOk_by (own := [("_law_letter", 5)]) (N := ["_law_stream", "_law_taken", "_law_size", "_law_name_here", "_law_k", "_law_letter", "_law_one"]) (sc := defScope (top 52)) (by decide +kernel))
            (fun _ _ _ _ _ => pg_name (i := 5) nd rfl (Or.inl rfl)) (fun _ _ _ _ _ => pts_nil) (fun _ _ _ _ _ => pe_op op_add_str pe_str (pv 5))))
          (blkOk_by (own := [("_law_one", 6)]) (N := ["_law_stream", "_law_taken", "_law_size", "_law_name_here", "_law_k", "_law_letter", "_law_one"]) (sc := defScope (top 52)) (by decide +kernel))
          (fun _ _ _ _ _ => pg_name (i := 6) nd rfl (Or.inl rfl)) (fun _ _ _ _ _ => pts_one (pt_cmpR (r := rIn K true) op_notIn_seq (pv 6) (pv 1) (by rfl))) (fun _ _ _ _ _ => pv 6)) pe_int (fun _ _ => rfl)))) pss_nil)
      (pss_one (ps_ret (pv 3))))), ?_⟩
    -- the size
    refine ⟨by show 6 ≤ sizeLine; decide, fun l hl => ?_⟩
    have s1 : Same H (upd H l (.lst [.int 1, .int 1, .int 2, .int 3, .int 5, .int 8])) := same_new hl
    have hl1 : (upd H l (.lst [.int 1, .int 1, .int 2, .int 3, .int 5, .int 8])) l = some (.lst [.int 1, .int 1, .int 2, .int 3, .int 5, .int 8]) := upd_same
    have hUl := hS.fresh l hl
    refine ⟨_, rfl, S, L, n, 6, rfl, hS.same s1, by omega, by decide, by decide, fun r H1 hr0 hr1 hS1 g1 => ?_⟩
    have hl2 := g1.k _ _ hUl hl1
    have gH1 : Gr (Ust S L) H H1 := (gr_same s1).trans g1
    obtain ⟨sz, hsz, hsz1, hsz8⟩ : ∃ sz : Nat, atI [V.int 1, .int 1, .int 2, .int 3, .int 5, .int 8] r = some (.int (sz : Nat)) ∧ 1 ≤ sz ∧ sz ≤ 8 := by
      obtain ⟨j, rfl⟩ := Int.eq_ofNat_of_zero_le hr0
      have hj : j < 6 := by omega
      match j, hj with
      | 0, _ => exact ⟨1, atI_nat rfl, by decide, by decide⟩
      | 1, _ => exact ⟨1, atI_nat rfl, by decide, by decide⟩
      | 2, _ => exact ⟨2, atI_nat rfl, by decide, by decide⟩
      | 3, _ => exact ⟨3, atI_nat rfl, by decide, by decide⟩
      | 4, _ => exact ⟨5, atI_nat rfl, by decide, by decide⟩
      | 5, _ => exact ⟨8, atI_nat rfl, by decide, by decide⟩
    refine ⟨l, _, r, _, rfl, rfl, SqL.of hl2, hsz, ?_⟩
    -- the name
    refine ⟨⟨_, rfl⟩, _, rfl, _, rfl, by omega, by omega, fun D hD => ?_⟩
    have en : ((sz : Nat) : Int).toNat = sz := Int.toNat_natCast _
    rw [en]
    have hUD := hS1.fresh D hD
    have elr : (List.range sz).length = sz := List.length_range
    have wk := wk_range (n := sz)
    unfold Wk at wk
    rw [elr] at wk
    refine lc_it wk (g := gName 4) (fun i H2 => ∃ cs : List Nat, H2 D = some (.lst (cs.map fun c => V.str ⟨#[c]⟩)) ∧ cs.length = i ∧ (∀ c ∈ cs, c ∈ letS.cps.toList) ∧ Strm S L H2 (n + 1 + i) ∧ GrD S L D H1 H2)
      ⟨[], upd_same, rfl, fun _ h => (nomatch h), hS1.upd hUD, (GrD.refl S L D H1).upd⟩ (fun _ _ _ _ => trivial) ?_ ?_
    · rintro i x H2 H2' hi ⟨cs, hD2, hc2, hm2, hS2, g2⟩ ⟨rfl, z, hz, rfl⟩
      refine ⟨rfl, ?_⟩
      refine ⟨_, rfl, S, L, n + 1 + i, 26, rfl, hS2, by omega, by decide, by decide, fun r2 H3 hr0' hr1' hS3 g3 => ?_⟩
      obtain ⟨j, rfl⟩ := Int.eq_ofNat_of_zero_le hr0'
      have hj : j < letS.cps.toList.length := by omega
      refine ⟨letS, _, _, rfl, rfl, by show 26 ≤ sizeLine; decide, atI_nat (List.getElem?_eq_getElem hj), ?_⟩
      have hD3 := g3.k _ _ hUD hD2
      refine ⟨_, hD3, by rw [List.length_map]; omega, cs ++ [letS.cps.toList[j]], by rw [upd_same, List.map_append]; rfl, by rw [List.length_append, hc2]; rfl, fun c hc => ?_, ?_, (g2.gr2 g3).upd⟩
      · rcases List.mem_append.mp hc with q | q
        · exact hm2 c q
        · rw [List.mem_singleton.mp q]
          exact List.getElem_mem _
      · have q := hS3.upd (o := .lst ((cs.map fun c => V.str ⟨#[c]⟩) ++ [V.str ⟨#[letS.cps.toList[j]]⟩])) hUD
        rw [show n + 1 + (i + 1) = n + 1 + i + 1 by omega]
        exact q
    rintro H2 ⟨cs, hD2, hc2, hm2, hS2, g2⟩
    have gH2 : Gr (Ust S L) H H2 := gH1.trans (g2.gr hS2 hD)
    have hp2 := gH2.k _ _ hp.1 hp.2
    refine ⟨("" : Str), D, cs.map fun c => (⟨#[c]⟩ : Str), rfl, rfl, .inl (SqL.of (by rw [hD2, List.map_map]; rfl)), ?_, ?_⟩
    · have e1 : ((cs.map fun c => (⟨#[c]⟩ : Str)).map (·.length)).sum = cs.length := by
        rw [List.map_map]
        have : ((fun x : Str => x.length) ∘ fun c : Nat => (⟨#[c]⟩ : Str)) = fun _ => 1 := by
          funext c
          rfl
        rw [this]
        exact sum_ones cs
      rw [e1, List.length_map]
      show cs.length + cs.length * 0 ≤ 16777216
      omega
    rw [join_one]
    have ncps : (⟨cs.toArray⟩ : Str).cps.toList = cs := rfl
    have nlen : (⟨cs.toArray⟩ : Str).length = cs.length := by show cs.toArray.size = _; simp
    generalize hnm : (⟨cs.toArray⟩ : Str) = nm at ncps nlen ⊢
    refine ⟨_, rfl, _, rfl, p, _, rfl, .inl (SqL.of hp2), rfl, strs_flat _, _, rfl, ?_⟩
    rw [inV_in]
    -- the other way: q and a letter
    have other : ∀ H3, Gr (Ust S L) H H3 → Strm S L H3 (n + 9) → tRet (tOp (rIxL K) (tLc (iList K (tLc (iStr (tC (.str "abcdefghijklmnopqrst"))) (gName 5) tYes (tOp (fun x y H Q => ∃ i j, x = .str i ∧ y = .str j ∧ i.length + j.length ≤ sizeLine ∧ Q (.str (i ++ j)) H) (tC (.str "q")) (tVar 5)) [5])) (gName 6) (tTest (tOp (rIn K true) (tVar 6) (tVar 1))) (tVar 6) [6]) (tC (.int 0)))
        { nx := fun _ H' => Q .non H', rt := Q } [some (.ref S), some (.ref p), some (.int (sz : Nat)), some (.str nm), none, none, none] H3 := by
      intro H3 g3 hS3
      have hp3 := g3.k _ _ hp.1 hp.2
      refine ⟨_, rfl, fun D1 hD1 => ?_⟩
      refine lc_all (wk_str (z := "abcdefghijklmnopqrst")) (fun c => .str (("q" : Str) ++ ⟨#[c]⟩)) hD1 (by decide +kernel) (fun _ => rfl) (fun _ _ => trivial)
        (fun c _ H4 _ R hR => ⟨_, rfl, _, _, rfl, rfl, by show 1 + 1 ≤ sizeLine; decide, hR H4 (Same.refl H4)⟩) fun H4 s4 hD4 => ?_
      have eq20 : (("abcdefghijklmnopqrst" : Str).cps.toList.map fun c => V.str (("q" : Str) ++ ⟨#[c]⟩)) = q20.map V.str := by
        unfold q20 let20
        rw [List.map_map]
        rfl
      rw [eq20] at hD4
      refine ⟨D1, rfl, ⟨_, SqL.of hD4⟩, fun D2 hD2 => ?_⟩
      have hp4 := s4 _ _ hp3
      refine lc_map (wk_list (zs := q20) (inj := V.str)) V.str (fun z => !decide (z ∈ zs)) hD2 (by rw [q20_len]; decide) (fun _ => rfl) (fun H5 s5 => SqL.of (s5 _ _ hD4))
        (fun z _ H5 s5 R hR => ⟨_, rfl, _, rfl, p, _, rfl, .inl (SqL.of (s5 _ _ hp4)), rfl, strs_flat _, _, rfl, by rw [inV_no]; exact hR H5 (Same.refl H5)⟩) (fun z _ _ H5 s5 R hR => ⟨_, rfl, hR H5 (Same.refl H5)⟩) fun H5 s5 hD5 => ?_
      have hne := q20_left hlen
      have hmem : ∀ z ∈ q20.filter (fun z => !decide (z ∈ zs)), NameOk z ∧ z ∉ zs := fun z hz => by
        obtain ⟨h1, h2⟩ := List.mem_filter.mp hz
        exact ⟨q20_ok z h1, by simpa using h2⟩
      generalize q20.filter (fun z => !decide (z ∈ zs)) = ql at hD5 hne hmem
      cases ql with
      | nil => exact absurd rfl hne
      | cons z ql =>
        obtain ⟨h1, h2⟩ := hmem z List.mem_cons_self
        have s35 := s4.trans s5
        exact ⟨D2, _, 0, _, rfl, rfl, SqL.of hD5, atI_nat (j := 0) rfl, k z H5 h1 h2 (hS3.same s35) (g3.trans (gr_same s35))⟩
    have hS9 : Strm S L H2 (n + 9) := hS2.mono (by omega)
    by_cases ht : nm ∈ zs
    · exact dT ht (iteT (other H2 gH2 hS9))
    · refine dF ht ⟨_, rfl, by show 5 ≤ sizeLine; decide, fun rl hrl => ⟨rl, resL.map V.str, rfl, .inl (SqL.of upd_same), rfl, strs_flat _, _, rfl, ?_⟩⟩
      rw [inV_in]
      have s3 : Same H2 (upd H2 rl (.lst (resL.map V.str))) := same_new hrl
      have g3 : Gr (Ust S L) H (upd H2 rl (.lst (resL.map V.str))) := gH2.trans (gr_same s3)
      by_cases hr : nm ∈ resL
      · refine dT hr ?_
        exact other _ g3 (hS9.same s3)
      · refine dF hr ?_
        exact ⟨_, rfl, k nm _ ⟨by omega, by omega, hr, fun c hc => hm2 c (by rw [ncps] at hc; exact hc)⟩ ht (hS9.same s3) g3⟩
end KK


set_option Elab.async false
set_option linter.all false
set_option maxRecDepth 100000
set_option maxHeartbeats 4000000
/-! names, lists -/
namespace KK
open PySem PySem.Spec PyProof.Rows L2
variable {P : Program} {w : World} {K : PySem.W.Frag} {mg : Str → Option Value} {base : Heap}
def spNames : Sp := fun vs H Q _ => ∃ (S L t : Addr) (n m : Nat), vs = [.ref S, .int (m : Nat), .ref t] ∧ Strm S L H n ∧ n + 9 * m < 1000000 ∧ m ≤ 15 ∧ LAt (Ust S L) H t [] ∧
  ∀ (q : Addr) (ys : List Str) (H' : Hp), (∀ y ∈ ys, NameOk y) → ys.Nodup → ys.length = m → H q = none → H' q = some (.lst (ys.map V.str)) → Strm S L H' (n + 9 * m) → Gr (Ust S L) H H' → Q (.ref q) H'
theorem sc_ns : FnScope ["_law_stream", "_law_many", "_law_taken", "_law_found", "_law_k"] ["_law_stream", "_law_many", "_law_taken"] (defScope (top 53)) := ⟨rfl, rfl, rfl, by decide +kernel, rfl, by decide +kernel, by decide +kernel⟩
theorem ok_names (T : Txt K mg) : C8.Cal P w K mg base 3 "_law_names" spNames [] := by
  have G : C8.Cal P w K mg base 2 "_law_name" spName [] := ok_name T
  refine def_cal T.lNames sc_ns (fun _ _ _ _ _ _ us hl => match us, hl with | [_, _, _], _ => rfl) (fun vs H Q E h => ?_) (fun f cdv A outer s H vs Q E hr h => ?_)
  · obtain ⟨S, L, t, n, m, rfl, _⟩ := h
    rfl
  · obtain ⟨S, L, t, n, m, rfl, hS, hn, hm, ht, k⟩ := h
    have nd := sc_ns.nd
    have hs := sizeLine_eq
    refine ⟨_, pss_cons (ps_set (i := 3) nd rfl (.inl rfl) (pe_lst pa_nil))
      (pss_cons (ps_for PassesOwn.never (by rfl) (pi_range1 (by rfl) (T.blt _ (by decide)) (pa_cons (pv 1) pa_nil)) (pg_name (i := 4) nd rfl (Or.inl rfl))
        (pss_one (ps_expr (pe_bm PySem.F.plainAttrs_list PySem.F.slot_list_append PySem.F.type_list_append mt_append (pv 3) (pa_cons (C8.pe_c G hr (by decide) (by rfl) (pa_cons (pv 0) (pa_cons (pe_op op_cat (pv 2) (pv 3)) pa_nil))) pa_nil)))))
      (pss_one (ps_ret (pv 3)))), ?_⟩
    refine ⟨by show 0 ≤ sizeLine; decide, fun D hD => ?_⟩
    have hUD := hS.fresh D hD
    have tD : t ≠ D := ne_of_none ht.2 hD
    refine ⟨_, rfl, _, rfl, by omega, by omega, ?_⟩
    have en : ((m : Nat) : Int).toNat = m := Int.toNat_natCast _
    rw [en]
    have elr : (List.range m).length = m := List.length_range
    have wk := wk_range (n := m)
    unfold Wk at wk
    rw [elr] at wk
    refine for_it wk (fun i σ H2 => i ≤ m ∧ ∃ y ys, σ = [some (.ref S), some (.int (m : Nat)), some (.ref t), some (.ref D), y] ∧ H2 D = some (.lst (ys.map V.str)) ∧ (∀ y ∈ ys, NameOk y) ∧ ys.Nodup ∧ ys.length = i ∧ Strm S L H2 (n + 9 * i) ∧ GrD S L D H H2)
      ⟨Nat.zero_le _, none, [], rfl, upd_same, fun _ h => (nomatch h), List.nodup_nil, rfl, hS.upd hUD, (GrD.refl S L D H).upd⟩ (fun _ _ _ _ _ => trivial) ?_ ?_
    · rintro i y σ H2 H2' hi ⟨_, y0, ys, rfl, hD2, hok, hnd, hyl, hS2, g2⟩ ⟨rfl, z, hz, rfl⟩
      have ht2 := g2.k _ _ ht.1 tD ht.2
      refine ⟨_, rfl, .inl ⟨rfl, _, SqL.of hD2⟩, _, rfl, _, rfl, _, rfl, t, D, _, _, rfl, rfl, ht2, hD2, by rw [List.length_map, List.length_map]; show 0 + ys.length ≤ _; omega, fun c hc => ?_⟩
      have s3 : Same H2' (upd H2' c (.lst (([] : List Str).map V.str ++ ys.map V.str))) := same_new hc
      have hUc := hS2.fresh c hc
      refine ⟨S, L, c, n + 9 * i, ys, rfl, hS2.same s3, by omega, by omega, ⟨hUc, upd_same⟩, fun x H3 hx hxn hS3 g3 => ?_⟩
      have hD3 := g3.k _ _ hUD (s3 _ _ hD2)
      refine ⟨D, _, _, rfl, rfl, hD3, by rw [List.length_map]; omega, hi, _, ys ++ [x], rfl, by rw [upd_same, List.map_append]; rfl, fun y hy => ?_, ?_, by rw [List.length_append, hyl]; rfl, ?_, ((g2.gr2 (gr_same s3)).gr2 g3).upd⟩
      · rcases List.mem_append.mp hy with q | q
        · exact hok y q
        · rw [List.mem_singleton.mp q]
          exact hx
      · refine List.nodup_append.mpr ⟨hnd, List.nodup_cons.mpr ⟨fun h => (nomatch h), List.nodup_nil⟩, fun a ha b hb e => ?_⟩
        rw [List.mem_singleton.mp hb] at e
        rw [e] at ha
        exact hxn ha
      · have q := hS3.upd (o := .lst (ys.map V.str ++ [.str x])) hUD
        rw [show n + 9 * (i + 1) = n + 9 * i + 9 by omega]
        exact q
    · rintro σ H2 ⟨_, y0, ys, rfl, hD2, hok, hnd, hyl, hS2, g2⟩
      exact ⟨_, rfl, k D ys H2 hok hnd hyl hD hD2 hS2 (g2.gr hS2 hD)⟩
/-! ### the law's own world: a dict of lists -/
def LwD (U : Addr → Prop) (H : Hp) (p f i r a : Addr) : Prop := ∃ kvs, At U H p (.dK kvs) ∧ valV kvs (.inr "facts") = some (.ref f) ∧ valV kvs (.inr "piles") = some (.ref i) ∧ valV kvs (.inr "reserves") = some (.ref r) ∧ valV kvs (.inr "actions") = some (.ref a)
theorem LwD.lq {U U' : Addr → Prop} {H H' : Hp} {p f i r a : Addr} (h : LwD U H p f i r a) (q : Lq U H U' H') : LwD U' H' p f i r a := by
  obtain ⟨kvs, h1, h2⟩ := h
  exact ⟨kvs, q _ _ h1, h2⟩
/-- its lists; a: the list of its actions -/
def LwL (U : Addr → Prop) (H : Hp) (p a : Addr) (W : Wd) : Prop := ∃ f i r, LwD U H p f i r a ∧ LAt U H f W.facts ∧ LAt U H i W.piles ∧ LAt U H r W.reserves
theorem LwL.lq {U U' : Addr → Prop} {H H' : Hp} {p a : Addr} {W : Wd} (h : LwL U H p a W) (q : Lq U H U' H') : LwL U' H' p a W := by
  obtain ⟨f, i, r, h1, h2, h3, h4⟩ := h
  exact ⟨f, i, r, h1.lq q, q _ _ h2, q _ _ h3, q _ _ h4⟩
def spLw (g : Wd → List Str) : Sp := fun vs H Q _ => ∃ (U : Addr → Prop) (p a : Addr) (W : Wd), vs = [.ref p] ∧ LwL U H p a W ∧ ListsOk W ∧ ∀ q, H q = none → Q (.ref q) (upd H q (.lst ((g W).map V.str)))
theorem sc_sc {i : Nat} (h : i = 56 ∨ i = 57) : FnScope ["_law_w"] ["_law_w"] (defScope (top i)) := by
  rcases h with h | h <;> subst h <;> exact ⟨rfl, rfl, rfl, by decide +kernel, rfl, by decide +kernel, by decide +kernel⟩
theorem ok_lSeen (T : Txt K mg) : C8.Cal P w K mg base 1 "_law_seen" (spLw Wd.seen) [] := by
  refine def_cal T.lSeen (sc_sc (.inl rfl)) (fun _ _ _ _ _ _ us hl => match us, hl with | [_], _ => rfl) (fun vs H Q E h => ?_) (fun f cdv A outer s H vs Q E hr h => ?_)
  · obtain ⟨U, p, a, W, rfl, _⟩ := h
    rfl
  · obtain ⟨U, p, a, W, rfl, ⟨pf, pi, pr, ⟨kvs, hp, e1, e2, e3, e4⟩, h1, h2, h3⟩, hW, k⟩ := h
    have hu := hu_of hr
    refine ⟨_, pss_one (ps_ret (pe_op op_cat (pe_dget hu (pv 0) pe_str (fun _ _ => rfl)) (pe_dget hu (pv 0) pe_str (fun _ _ => rfl)))), ?_⟩
    refine ⟨_, rfl, p, _, rfl, dget_rd (.inl hp.2) e1, _, rfl, p, _, rfl, dget_rd (.inl hp.2) e2, pf, pi, _, _, rfl, rfl, h1.2, h2.2, ?_, fun q hq => ?_⟩
    · have := hW.lf
      have := hW.lp
      rw [List.length_map, List.length_map]
      exact size60 (by omega)
    · have e := k q hq
      unfold Wd.seen at e
      rw [List.map_append] at e
      exact e
theorem ok_lCounters (T : Txt K mg) : C8.Cal P w K mg base 1 "_law_counters" (spLw Wd.cnts) [] := by
  refine def_cal T.lCounters (sc_sc (.inr rfl)) (fun _ _ _ _ _ _ us hl => match us, hl with | [_], _ => rfl) (fun vs H Q E h => ?_) (fun f cdv A outer s H vs Q E hr h => ?_)
  · obtain ⟨U, p, a, W, rfl, _⟩ := h
    rfl
  · obtain ⟨U, p, a, W, rfl, ⟨pf, pi, pr, ⟨kvs, hp, e1, e2, e3, e4⟩, h1, h2, h3⟩, hW, k⟩ := h
    have hu := hu_of hr
    refine ⟨_, pss_one (ps_ret (pe_op op_cat (pe_dget hu (pv 0) pe_str (fun _ _ => rfl)) (pe_dget hu (pv 0) pe_str (fun _ _ => rfl)))), ?_⟩
    refine ⟨_, rfl, p, _, rfl, dget_rd (.inl hp.2) e2, _, rfl, p, _, rfl, dget_rd (.inl hp.2) e3, pi, pr, _, _, rfl, rfl, h2.2, h3.2, ?_, fun q hq => ?_⟩
    · have := hW.lp
      have := hW.lr
      rw [List.length_map, List.length_map]
      exact size60 (by omega)
    · have e := k q hq
      unfold Wd.cnts at e
      rw [List.map_append] at e
      exact e
/-- names cut in three -/
def wd3 (ys : List Str) (nf np : Nat) : Wd := ⟨ys.take nf, (ys.drop nf).take np, ys.drop (nf + np), fun _ => none, 0⟩
theorem wd3_cat (ys : List Str) (nf np : Nat) : (wd3 ys nf np).facts ++ ((wd3 ys nf np).piles ++ (wd3 ys nf np).reserves) = ys := by
  show ys.take nf ++ ((ys.drop nf).take np ++ ys.drop (nf + np)) = ys
  rw [← List.drop_drop, List.take_append_drop, List.take_append_drop]
theorem wd3_ok {ys : List Str} {nf np nr : Nat} (h1 : ∀ y ∈ ys, NameOk y) (h2 : ys.Nodup) (h3 : ys.length = nf + np + nr) (hf : nf ≤ 10) (hp : np ≤ 3) (hr : nr ≤ 10) : ListsOk (wd3 ys nf np) where
  nf := fun z hz => h1 z (List.mem_of_mem_take hz)
  np := fun z hz => h1 z (List.mem_of_mem_drop (List.mem_of_mem_take hz))
  nr := fun z hz => h1 z (List.mem_of_mem_drop hz)
  nd := by rw [wd3_cat]; exact h2
  lf := by show (ys.take nf).length ≤ 10; rw [List.length_take]; omega
  lp := by show ((ys.drop nf).take np).length ≤ 3; rw [List.length_take]; omega
  lr := by show (ys.drop (nf + np)).length ≤ 10; rw [List.length_drop]; omega
  ls := Nat.zero_le _
def spLists : Sp := fun vs H Q _ => ∃ (S L : Addr) (n nf np nr : Nat), vs = [.ref S, .int (nf : Nat), .int (np : Nat), .int (nr : Nat)] ∧ Strm S L H n ∧ n + 200 < 1000000 ∧ nf ≤ 3 ∧ np ≤ 3 ∧ nr ≤ 3 ∧
  ∀ (p a : Addr) (W : Wd) (H' : Hp), ListsOk W → W.sz = 0 → (∀ z, W.acts z = none) → LwL (Wo (Ust S L) a) H' p a W → At (Ust S L) H' a (.lst []) → H a = none → Strm S L H' (n + 100) → Gr (Ust S L) H H' → Q (.ref p) H'
theorem sc_ls : FnScope ["_law_stream", "_law_facts", "_law_piles", "_law_reserves", "_law_names_here"] ["_law_stream", "_law_facts", "_law_piles", "_law_reserves"] (defScope (top 60)) := ⟨rfl, rfl, rfl, by decide +kernel, rfl, by decide +kernel, by decide +kernel⟩
theorem ok_lists (T : Txt K mg) : C8.Cal P w K mg base 4 "_law_lists" spLists [] := by
  have G : C8.Cal P w K mg base 3 "_law_names" spNames [] := ok_names T
  refine def_cal T.lLists sc_ls (fun _ _ _ _ _ _ us hl => match us, hl with | [_, _, _, _], _ => rfl) (fun vs H Q E h => ?_) (fun f cdv A outer s H vs Q E hr h => ?_)
  · obtain ⟨S, L, n, nf, np, nr, rfl, _⟩ := h
    rfl
  · obtain ⟨S, L, n, nf, np, nr, rfl, hS, hn, hf, hp, hr3, k⟩ := h
    have nd := sc_ls.nd
    have hs := sizeLine_eq
    refine ⟨_, pss_cons (ps_set (i := 4) nd rfl (.inl rfl) (C8.pe_c G hr (by decide) (by rfl) (pa_cons (pv 0) (pa_cons (pe_op op_add (pe_op op_add (pv 1) (pv 2)) (pv 3)) (pa_cons (pe_lst pa_nil) pa_nil)))))
      (pss_one (ps_ret (pe_disp (pps_cons pe_str (pe_slice sl_list (pv 4) po_none (po_some (pv 1))) (pps_cons pe_str (pe_slice sl_list (pv 4) (po_some (pv 1)) (po_some (pe_op op_add (pv 1) (pv 2)))) (pps_cons pe_str (pe_slice sl_list (pv 4) (po_some (pe_op op_add (pv 1) (pv 2))) po_none) (pps_cons pe_str (pe_lst pa_nil) pps_nil)))) (by rfl) (by rfl) (fun z => by cases z) (by decide)))), ?_⟩
    refine ⟨_, rfl, _, rfl, _, rfl, _, _, rfl, rfl, _, rfl, _, _, rfl, rfl, by show 0 ≤ sizeLine; decide, fun t ht => ?_⟩
    have s1 : Same H (upd H t (.lst [])) := same_new ht
    have hUt := hS.fresh t ht
    refine ⟨S, L, t, n, nf + np + nr, rfl, hS.same s1, by omega, by omega, ⟨hUt, upd_same⟩, fun q ys H1 hok hnd hyl hq0 hq1 hS1 g1 => ?_⟩
    have gH1 : Gr (Ust S L) H H1 := (gr_same s1).trans g1
    have ylen : (ys.map V.str).length = nf + np + nr := by rw [List.length_map, hyl]
    intro d hd
    have sd : Same H1 (upd H1 d (.dK [])) := same_new hd
    have hd2 : (upd H1 d (.dK [])) d = some (.dK []) := upd_same
    generalize upd H1 d (.dK []) = H2 at sd hd2 ⊢
    have hq2 := sd _ _ hq1
    -- the facts
    refine ⟨_, rfl, _, rfl, (nf : Int), rfl, q, _, rfl, SqL.of hq2, fun p1 hp1 => ?_⟩
    have s3 : Same H2 (upd H2 p1 (.lst (cutV (ys.map V.str) none (some (nf : Int))))) := same_new hp1
    have h31 : (upd H2 p1 (.lst (cutV (ys.map V.str) none (some (nf : Int))))) p1 = some (.lst (cutV (ys.map V.str) none (some (nf : Int)))) := upd_same
    generalize upd H2 p1 (.lst (cutV (ys.map V.str) none (some (nf : Int)))) = H3 at s3 h31 ⊢
    -- the piles
    refine ⟨_, rfl, _, rfl, (nf : Int), rfl, _, rfl, _, rfl, _, _, rfl, rfl, (nf : Int) + (np : Int), rfl, q, _, rfl, SqL.of (s3 _ _ hq2), fun p2 hp2 => ?_⟩
    have e2 : ((nf : Int) + (np : Int)) = ((nf + np : Nat) : Int) := by omega
    rw [e2]
    have s4 : Same H3 (upd H3 p2 (.lst (cutV (ys.map V.str) (some (nf : Int)) (some ((nf + np : Nat) : Int))))) := same_new hp2
    have h42 : (upd H3 p2 (.lst (cutV (ys.map V.str) (some (nf : Int)) (some ((nf + np : Nat) : Int))))) p2 = some (.lst (cutV (ys.map V.str) (some (nf : Int)) (some ((nf + np : Nat) : Int)))) := upd_same
    generalize upd H3 p2 (.lst (cutV (ys.map V.str) (some (nf : Int)) (some ((nf + np : Nat) : Int)))) = H4 at s4 h42 ⊢
    -- the reserves
    refine ⟨_, rfl, _, rfl, _, rfl, _, _, rfl, rfl, (nf : Int) + (np : Int), rfl, q, _, rfl, SqL.of (s4 _ _ (s3 _ _ hq2)), fun p3 hp3 => ?_⟩
    rw [e2]
    have s5 : Same H4 (upd H4 p3 (.lst (cutV (ys.map V.str) (some ((nf + np : Nat) : Int)) none))) := same_new hp3
    have h53 : (upd H4 p3 (.lst (cutV (ys.map V.str) (some ((nf + np : Nat) : Int)) none))) p3 = some (.lst (cutV (ys.map V.str) (some ((nf + np : Nat) : Int)) none)) := upd_same
    generalize upd H4 p3 (.lst (cutV (ys.map V.str) (some ((nf + np : Nat) : Int)) none)) = H5 at s5 h53 ⊢
    -- the actions
    refine ⟨by show 0 ≤ sizeLine; decide, fun a ha => ?_⟩
    have s6 : Same H5 (upd H5 a (.lst [])) := same_new ha
    have h64 : (upd H5 a (.lst [])) a = some (.lst []) := upd_same
    generalize upd H5 a (.lst []) = H6 at s6 h64 ⊢
    have s36 := (s4.trans s5).trans s6
    have s26 := s3.trans s36
    have hd6 := s26 _ _ hd2
    refine ⟨hd6, [(.inr "facts", .ref p1), (.inr "piles", .ref p2), (.inr "reserves", .ref p3), (.inr "actions", .ref a)], rfl, by show 4 ≤ 15; decide, ?_⟩
    have keep : ∀ {b o}, b ≠ d → H6 b = some o → (upd H6 d (.dK (mergeK [] [(.inr "facts", .ref p1), (.inr "piles", .ref p2), (.inr "reserves", .ref p3), (.inr "actions", .ref a)]))) b = some o := fun {b o} n e => by rw [upd_ne n]; exact e
    have n1 : p1 ≠ d := fun e => by subst e; rw [hd2] at hp1; cases hp1
    have n2 : p2 ≠ d := fun e => by subst e; rw [s3 _ _ hd2] at hp2; cases hp2
    have n3 : p3 ≠ d := fun e => by subst e; rw [s4 _ _ (s3 _ _ hd2)] at hp3; cases hp3
    have n4 : a ≠ d := fun e => by subst e; rw [s5 _ _ (s4 _ _ (s3 _ _ hd2))] at ha; cases ha
    have n5 : p1 ≠ a := ne_of_none ((s4.trans s5) _ _ h31) ha
    have n6 : p2 ≠ a := ne_of_none (s5 _ _ h42) ha
    have n7 : p3 ≠ a := ne_of_none h53 ha
    have hf1 := hS1.fresh
    have hf2 := hf1.same sd
    have hS6 := hS1.same (sd.trans s26)
    have hUd := hf1 d hd
    refine k d a (wd3 ys nf np) _ (wd3_ok hok hnd hyl (by omega) hp (by omega)) rfl (fun _ => rfl) ⟨p1, p2, p3, ⟨_, ⟨⟨hUd, n4.symm⟩, upd_same⟩, ?_, ?_, ?_, ?_⟩, ⟨⟨hf2 _ hp1, n5⟩, ?_⟩, ⟨⟨(hf2.same s3) _ hp2, n6⟩, ?_⟩, ⟨⟨((hf2.same s3).same s4) _ hp3, n7⟩, ?_⟩⟩ ⟨(((hf2.same s3).same s4).same s5) _ ha, keep n4 h64⟩ ((gH1.trans (gr_same (U := Ust S L) (sd.trans ((s3.trans s4).trans s5)))).f a ha) ((hS6.upd hUd).mono (by omega)) ?_
    · rfl
    · rfl
    · rfl
    · rfl
    · refine (keep n1 (s36 _ _ h31)).trans ?_
      rw [cut_to _ (by omega)]
      show some (HO.lst ((ys.map V.str).take nf)) = some (HO.lst ((ys.take nf).map V.str))
      rw [List.map_take]
    · refine (keep n2 ((s5.trans s6) _ _ h42)).trans ?_
      rw [cut_mid _ (by omega) (by omega)]
      show some (HO.lst (((ys.map V.str).drop nf).take (nf + np - nf))) = some (HO.lst (((ys.drop nf).take np).map V.str))
      rw [List.map_take, List.map_drop, show nf + np - nf = np by omega]
    · refine (keep n3 (s6 _ _ h53)).trans ?_
      rw [cut_from _ (by omega)]
      show some (HO.lst ((ys.map V.str).drop (nf + np))) = some (HO.lst ((ys.drop (nf + np)).map V.str))
      rw [List.map_drop]
    · have g16 : Gr (Ust S L) H1 H6 := gr_same (sd.trans s26)
      refine gH1.trans ⟨fun b o hU e => keep (ne_of_none e hd) (g16.k b o hU e), fun b e => ?_⟩
      by_cases eb : b = d
      · subst eb
        exact hd
      · rw [upd_ne eb] at e
        exact g16.f b e
end KK


set_option Elab.async false
set_option linter.all false
set_option maxRecDepth 100000
set_option maxHeartbeats 4000000
/-! conditions, changes -/
namespace KK
open PySem PySem.Spec PyProof.Rows L2
variable {P : Program} {w : World} {K : PySem.W.Frag} {mg : Str → Option Value} {base : Heap}
/-! ### _law_condition -/
def cnt (d : Nat) : Nat := 4 * 2 ^ d - 1
theorem cnt_succ (d : Nat) : cnt (d + 1) = 2 * cnt d + 1 := by
  unfold cnt
  have : 0 < 2 ^ d := Nat.pow_pos (by decide)
  rw [Nat.pow_succ]
  omega
theorem cnt_ge (d : Nat) : 3 ≤ cnt d := by
  unfold cnt
  have : 0 < 2 ^ d := Nat.pow_pos (by decide)
  omega
def spCond (k : Nat) : Sp := fun vs H Q _ => ∃ (S L p : Addr) (n d : Nat) (zs : List Str), vs = [.ref S, .ref p, .int (d : Nat)] ∧ d < k ∧ d ≤ 4 ∧ Strm S L H n ∧ n + cnt d ≤ 900000 ∧ zs.length ≤ 100 ∧ LAt (Ust S L) H p zs ∧
  ∀ (t : Tree) (v : V) (H' : Hp), (∀ z ∈ t.names, z ∈ zs) → t.depth ≤ d + 2 → t.size ≤ 2 ^ d → Strm S L H' (n + cnt d) → Gr (Ust S L) H H' → TrAt (Ust S L) H' t v → Q v H'
theorem sc_co : FnScope ["_law_stream", "_law_names_here", "_law_deep", "_law_way", "_law_name_here", "_law_one"] ["_law_stream", "_law_names_here", "_law_deep"] (defScope (top 54)) := ⟨rfl, rfl, rfl, by decide +kernel, rfl, by decide +kernel, by decide +kernel⟩
theorem cnt4 {d : Nat} (h : d ≤ 4) : cnt d ≤ 63 := by
  unfold cnt
  have : 2 ^ d ≤ 2 ^ 4 := Nat.pow_le_pow_right (by decide) h
  omega
theorem at2 {a b : V} {r : Int} (h0 : 0 ≤ r) (h1 : r < 2) : ∃ x, atI [a, b] r = some x ∧ (x = a ∨ x = b) := by
  obtain ⟨j, rfl⟩ := Int.eq_ofNat_of_zero_le h0
  have hj : j < 2 := by omega
  match j, hj with
  | 0, _ => exact ⟨a, atI_nat rfl, .inl rfl⟩
  | 1, _ => exact ⟨b, atI_nat rfl, .inr rfl⟩
theorem ok_cond (T : Txt K mg) : ∀ k, C8.Cal P w K mg base (k + 3) "_law_condition" (spCond k) []
  | 0 => by
    refine def_cal (k := 2) (N := ["_law_stream", "_law_names_here", "_law_deep", "_law_way", "_law_name_here", "_law_one"]) T.lCondition sc_co (fun _ _ _ _ _ _ us hl => match us, hl with | [_, _, _], _ => rfl) (fun vs H Q E h => ?_) (fun f cdv A outer s H vs Q E hr h => ?_)
    · obtain ⟨S, L, p, n, d, zs, rfl, _⟩ := h
      rfl
    · obtain ⟨S, L, p, n, d, zs, rfl, hd, _⟩ := h
      exact absurd hd (Nat.not_lt_zero _)
  | k + 1 => by
    have G0 : C8.Cal P w K mg base 1 "_law_draw" spDraw [] := ok_draw T
    have G1 : C8.Cal P w K mg base 2 "_law_pick" spPick [] := ok_pick T
    have G := ok_cond T k
    refine def_cal (k := k + 3) (N := ["_law_stream", "_law_names_here", "_law_deep", "_law_way", "_law_name_here", "_law_one"]) T.lCondition sc_co (fun _ _ _ _ _ _ us hl => match us, hl with | [_, _, _], _ => rfl) (fun vs H Q E h => ?_) (fun f cdv A outer s H vs Q E hr h => ?_)
    · obtain ⟨S, L, p, n, d, zs, rfl, _⟩ := h
      rfl
    · obtain ⟨S, L, p, n, d, zs, rfl, hd, hd4, hS, hn, hlen, hp, q⟩ := h
      have nd := sc_co.nd
      have hu := hu_of hr
      have hs := sizeLine_eq
      have c4 := cnt4 hd4
      have c3 := cnt_ge d
      refine ⟨_, pss_cons (ps_set (i := 3) nd rfl (.inl rfl) (C8.pe_c G0 hr (by omega) (by rfl) (pa_cons (pv 0) (pa_cons pe_int pa_nil))))
        (pss_cons (ps_if (PW.pt (pw_or (pt_cmpR (op_eqNil (Nat.lt_of_succ_lt hu)) (pv 1) (pe_lst pa_nil) (nomark _)) (pw_or1 (pt_cmpR op_eq (pv 3) pe_int (nomark _)))))
          (pss_one (ps_ret (pe_ix ix_list (pe_lst (pa_cons (pe_tup (pa_cons pe_str pa_nil)) (pa_cons (pe_tup (pa_cons pe_str pa_nil)) pa_nil))) (C8.pe_c G0 hr (by omega) (by rfl) (pa_cons (pv 0) (pa_cons pe_int pa_nil))) (fun _ _ => rfl)))) pss_nil)
        (pss_cons (ps_if (PW.pt (pw_or (pt_cmpR op_eq (pv 2) pe_int (nomark _)) (pw_or1 (pt_cmpR op_lt (pv 3) pe_int (nomark _)))))
          (pss_cons (ps_set (i := 4) nd rfl (.inl rfl) (C8.pe_c G1 hr (by omega) (by rfl) (pa_cons (pv 0) (pa_cons (pv 1) pa_nil))))
          (pss_one (ps_ret (pe_ifExp (pt_cmpR op_eq (C8.pe_c G0 hr (by omega) (by rfl) (pa_cons (pv 0) (pa_cons pe_int pa_nil))) pe_int (nomark _)) (pe_tup (pa_cons pe_str (pa_cons (pv 4) pa_nil))) (pe_tup (pa_cons pe_str (pa_cons (pe_tup (pa_cons pe_str (pa_cons (pv 4) pa_nil))) pa_nil))))))) pss_nil)
        (pss_cons (ps_if (pt_cmpR op_eq (pv 3) pe_int (nomark _)) (pss_one (ps_ret (pe_tup (pa_cons pe_str (pa_cons (C8.pe_c G hr (Nat.le_refl _) (by rfl) (pa_cons (pv 0) (pa_cons (pv 1) (pa_cons (pe_op op_sub (pv 2) pe_int) pa_nil)))) pa_nil))))) pss_nil)
        (pss_cons (ps_set (i := 5) nd rfl (.inl rfl) (C8.pe_c G hr (Nat.le_refl _) (by rfl) (pa_cons (pv 0) (pa_cons (pv 1) (pa_cons (pe_op op_sub (pv 2) pe_int) pa_nil)))))
        (pss_one (ps_ret (pe_tup (pa_cons (pe_ix ix_list (pe_lst (pa_cons pe_str (pa_cons pe_str pa_nil))) (pe_op op_mod (pv 3) pe_int) (fun _ _ => rfl)) (pa_cons (pv 5) (pa_cons (C8.pe_c G hr (Nat.le_refl _) (by rfl) (pa_cons (pv 0) (pa_cons (pv 1) (pa_cons (pe_op op_sub (pv 2) pe_int) pa_nil)))) pa_nil)))))))))), ?_⟩
      refine ⟨_, rfl, S, L, n, 9, rfl, hS, by omega, by decide, by decide, fun way H1 hw0 hw1 hS1 g1 => ?_⟩
      have hp1 := g1.k _ _ hp.1 hp.2
      refine ⟨_, rfl, by show 0 ≤ sizeLine; decide, fun e0 he0 => ?_⟩
      have s2 : Same H1 (upd H1 e0 (.lst [])) := same_new he0
      refine ⟨p, e0, _, rfl, rfl, SqL.of (s2 _ _ hp1), SqL.of upd_same, _, rfl, ?_⟩
      have hS2 := hS1.same s2
      have g2 : Gr (Ust S L) H (upd H1 e0 (.lst [])) := g1.trans (gr_same s2)
      generalize upd H1 e0 (.lst []) = H2 at s2 hS2 g2 ⊢
      have hp2 := g2.k _ _ hp.1 hp.2
      -- a constant
      have konst : ∀ nxt : L2.St → Hp → Prop, tRet (tOp (rIxL K) (tLst (tCons (tTup (tCons (tC (.str "always")) tNil)) (tCons (tTup (tCons (tC (.str "never")) tNil)) tNil))) (tCall spDraw [] C8.E0 (tCons (tVar 0) (tCons (tC (.int 2)) tNil))))
          { nx := nxt, rt := Q } [some (.ref S), some (.ref p), some (.int (d : Nat)), some (.int way), none, none] H2 := by
        intro nxt
        refine ⟨by show 1 ≤ sizeLine; decide, fun t1 ht1 => ⟨by show 1 ≤ sizeLine; decide, fun t2 ht2 => ⟨by show 2 ≤ sizeLine; decide, fun l hl => ?_⟩⟩⟩
        have sa : Same H2 (upd H2 t1 (.tup [.str "always"])) := same_new ht1
        have sb := sa.trans (same_new (o := .tup [.str "never"]) ht2)
        have sc := sb.trans (same_new (o := .lst [.ref t1, .ref t2]) hl)
        have fr := hS2.fresh
        have h1 : (upd (upd (upd H2 t1 (.tup [.str "always"])) t2 (.tup [.str "never"])) l (.lst [.ref t1, .ref t2])) t1 = some (.tup [.str "always"]) := by
          rw [upd_ne (ne_of_none (by rw [upd_ne (ne_of_none upd_same ht2), upd_same]) hl), upd_ne (ne_of_none upd_same ht2), upd_same]
        have h2 : (upd (upd (upd H2 t1 (.tup [.str "always"])) t2 (.tup [.str "never"])) l (.lst [.ref t1, .ref t2])) t2 = some (.tup [.str "never"]) := by rw [upd_ne (ne_of_none upd_same hl), upd_same]
        have h3 : (upd (upd (upd H2 t1 (.tup [.str "always"])) t2 (.tup [.str "never"])) l (.lst [.ref t1, .ref t2])) l = some (.lst [.ref t1, .ref t2]) := upd_same
        have u1 := fr t1 ht1
        have u2 := fr t2 (sa.free ht2)
        have u3 := fr l (sb.free hl)
        generalize upd (upd (upd H2 t1 (.tup [.str "always"])) t2 (.tup [.str "never"])) l (.lst [.ref t1, .ref t2]) = H3 at sc h1 h2 h3 ⊢
        refine ⟨_, rfl, S, L, n + 1, 2, rfl, hS2.same sc, by omega, by decide, by decide, fun r H4 hr0 hr1 hS4 g4 => ?_⟩
        obtain ⟨x, hx, hx2⟩ := at2 (a := .ref t1) (b := .ref t2) hr0 hr1
        refine ⟨l, _, r, x, rfl, rfl, SqL.of (g4.k _ _ u3 h3), hx, ?_⟩
        have gg : Gr (Ust S L) H H4 := (g2.trans (gr_same sc)).trans g4
        have hpow : 0 < 2 ^ d := Nat.pow_pos (by decide)
        rcases hx2 with e | e
        · subst e
          exact q .always _ H4 (fun _ h => (nomatch h)) (by show 1 ≤ d + 2; omega) (Nat.zero_le _) (hS4.mono (by omega)) gg ⟨t1, rfl, u1, g4.k _ _ u1 h1⟩
        · subst e
          exact q .never _ H4 (fun _ h => (nomatch h)) (by show 1 ≤ d + 2; omega) (Nat.zero_le _) (hS4.mono (by omega)) gg ⟨t2, rfl, u2, g4.k _ _ u2 h2⟩
      cases zs with
      | nil => exact iteT (iteT (konst _))
      | cons z0 zr =>
        refine iteF ⟨_, rfl, rfl, _, rfl, ?_⟩
        by_cases ew : way = 0
        · subst ew
          refine dT rfl ?_
          exact konst _
        · refine dF (fun e => ew (V.int.inj e)) ?_
          refine ⟨_, rfl, rfl, _, rfl, ?_⟩
          -- a name
          have name : ∀ nxt : L2.St → Hp → Prop, tSeq (tAsg (tCall spPick [] C8.E0 (tCons (tVar 0) (tCons (tVar 1) tNil))) (gName 4))
              (tRet (tIf (tTest (tOp rEq (tCall spDraw [] C8.E0 (tCons (tVar 0) (tCons (tC (.int 2)) tNil))) (tC (.int 0)))) (tTup (tCons (tC (.str "is")) (tCons (tVar 4) tNil))) (tTup (tCons (tC (.str "not")) (tCons (tTup (tCons (tC (.str "is")) (tCons (tVar 4) tNil))) tNil)))))
              { nx := nxt, rt := Q } [some (.ref S), some (.ref p), some (.int (d : Nat)), some (.int way), none, none] H2 := by
            intro nxt
            refine ⟨_, rfl, _, rfl, S, L, p, n + 1, _, rfl, hS2, by omega, ⟨hp.1, hp2⟩, by simp, by rw [List.length_map]; omega, fun x H3 hx hS3 g3 => ?_⟩
            obtain ⟨z, hz, rfl⟩ := List.mem_map.mp hx
            refine ⟨_, rfl, S, L, n + 2, 2, rfl, hS3, by omega, by decide, by decide, fun r H4 hr0 hr1 hS4 g4 => ⟨rfl, _, rfl, ?_⟩⟩
            have gg : Gr (Ust S L) H H4 := (g2.trans g3).trans g4
            have hf4 := hS4.fresh
            have hpow : 0 < 2 ^ d := Nat.pow_pos (by decide)
            by_cases er : r = 0
            · subst er
              refine dT rfl ⟨_, rfl, by show 2 ≤ sizeLine; decide, fun t ht => ?_⟩
              exact q (.is z) _ _ (fun y hy => by rw [List.mem_singleton.mp hy]; exact hz) (by show 1 ≤ d + 2; omega) (by show 1 ≤ 2 ^ d; omega) ((hS4.same (same_new ht)).mono (by omega)) (gg.trans (gr_same (same_new ht))) ⟨t, rfl, hf4 t ht, upd_same⟩
            · refine dF (fun e => er (V.int.inj e)) ⟨_, rfl, by show 2 ≤ sizeLine; decide, fun t ht => ⟨by show 2 ≤ sizeLine; decide, fun t2 ht2 => ?_⟩⟩
              have sa : Same H4 (upd H4 t (.tup [.str "is", .str z])) := same_new ht
              have sb := sa.trans (same_new (o := .tup [.str "not", .ref t]) ht2)
              exact q (.not (.is z)) _ _ (fun y hy => by rw [List.mem_singleton.mp hy]; exact hz) (by show 2 ≤ d + 2; omega) (by show 1 ≤ 2 ^ d; omega) ((hS4.same sb).mono (by omega)) (gg.trans (gr_same sb))
                ⟨t2, .ref t, rfl, ⟨hf4 t2 (sa.free ht2), upd_same⟩, t, rfl, hf4 t ht, by rw [upd_ne (ne_of_none upd_same ht2), upd_same]⟩
          by_cases ed : d = 0
          · subst ed
            refine dT rfl ?_
            exact name _
          · obtain ⟨d', rfl⟩ : ∃ d', d = d' + 1 := ⟨d - 1, by omega⟩
            refine dF (fun e => by have := V.int.inj e; omega) ⟨_, rfl, _, _, rfl, rfl, _, rfl, ?_⟩
            by_cases e4 : way < 4
            · refine dT e4 ?_
              exact name _
            · refine dF e4 ⟨_, rfl, rfl, _, rfl, ?_⟩
              have ei : ((d' + 1 : Nat) : Int) - 1 = (d' : Int) := by omega
              have hpd : cnt (d' + 1) = 2 * cnt d' + 1 := cnt_succ d'
              have hc3 := cnt_ge d'
              have hpow : 2 ^ (d' + 1) = 2 ^ d' + 2 ^ d' := by rw [Nat.pow_succ]; omega
              by_cases e5 : way = 4
              · subst e5
                refine dT rfl ⟨_, rfl, _, rfl, _, rfl, _, _, rfl, rfl, S, L, p, n + 1, d', z0 :: zr, congrArg (fun x => [V.ref S, V.ref p, V.int x]) ei, by omega, by omega, hS2, by omega, hlen, ⟨hp.1, hp2⟩, fun t v H3 hnm hdp hsz hS3 g3 ht => ?_⟩
                refine ⟨by show 2 ≤ sizeLine; decide, fun t2 ht2 => ?_⟩
                have sa : Same H3 (upd H3 t2 (.tup [.str "not", v])) := same_new ht2
                exact q (.not t) _ _ hnm (by show t.depth + 1 ≤ d' + 1 + 2; omega) (by show t.size ≤ _; omega) ((hS3.same sa).mono (by omega)) ((g2.trans g3).trans (gr_same sa)) ⟨t2, v, rfl, ⟨hS3.fresh t2 ht2, upd_same⟩, ht.lq (lq_same sa)⟩
              · refine dF (fun e => e5 (V.int.inj e)) ?_
                refine ⟨_, rfl, _, rfl, _, rfl, _, _, rfl, rfl, S, L, p, n + 1, d', z0 :: zr, congrArg (fun x => [V.ref S, V.ref p, V.int x]) ei, by omega, by omega, hS2, by omega, hlen, ⟨hp.1, hp2⟩, fun t v H3 hnm hdp hsz hS3 g3 ht => ?_⟩
                have gg3 := g2.trans g3
                refine ⟨by show 2 ≤ sizeLine; decide, fun l hl => ?_⟩
                have sa : Same H3 (upd H3 l (.lst [.str "and", .str "or"])) := same_new hl
                have hl1 : (upd H3 l (.lst [.str "and", .str "or"])) l = some (.lst [.str "and", .str "or"]) := upd_same
                have ht4 := ht.lq (lq_same (U := Ust S L) sa)
                have hS4 := hS3.same sa
                have g4 := gg3.trans (gr_same (U := Ust S L) sa)
                generalize upd H3 l (.lst [.str "and", .str "or"]) = H4 at sa hl1 ht4 hS4 g4 ⊢
                have hm0 : 0 ≤ way % 2 := Int.emod_nonneg _ (by decide)
                have hm1 : way % 2 < 2 := Int.emod_lt_of_pos _ (by decide)
                obtain ⟨x, hx, hx2⟩ := at2 (a := .str "and") (b := .str "or") hm0 hm1
                refine ⟨_, rfl, _, _, rfl, rfl, by show (0 : Int) < 2; decide, l, _, way % 2, x, rfl, rfl, SqL.of hl1, hx, _, rfl, ?_⟩
                refine ⟨_, rfl, _, rfl, _, rfl, _, _, rfl, rfl, S, L, p, n + 1 + cnt d', d', z0 :: zr, congrArg (fun x => [V.ref S, V.ref p, V.int x]) ei, by omega, by omega, hS4, by omega, hlen, ⟨hp.1, g4.k _ _ hp.1 hp.2⟩, fun t' v' H5 hnm' hdp' hsz' hS5 g5 ht' => ?_⟩
                refine ⟨by show 3 ≤ sizeLine; decide, fun t2 ht2 => ?_⟩
                have sb : Same H5 (upd H5 t2 (.tup [x, v, v'])) := same_new ht2
                have hS6 := (hS5.same sb).mono (m := n + cnt (d' + 1)) (by omega)
                have g6 := (g4.trans g5).trans (gr_same (U := Ust S L) sb)
                have hmem : ∀ y ∈ t.names ++ t'.names, y ∈ z0 :: zr := fun y hy => (List.mem_append.mp hy).elim (hnm y) (hnm' y)
                have hmax : max t.depth t'.depth + 1 ≤ d' + 1 + 2 := by omega
                have hsum : t.size + t'.size ≤ 2 ^ (d' + 1) := by omega
                have hv := (ht4.lq g5.lq).lq (lq_same (U := Ust S L) sb)
                have hv' := ht'.lq (lq_same (U := Ust S L) sb)
                rcases hx2 with e | e
                · subst e
                  exact q (.and t t') _ _ hmem hmax hsum hS6 g6 ⟨t2, v, v', rfl, ⟨hS5.fresh t2 ht2, upd_same⟩, hv, hv'⟩
                · subst e
                  exact q (.or t t') _ _ hmem hmax hsum hS6 g6 ⟨t2, v, v', rfl, ⟨hS5.fresh t2 ht2, upd_same⟩, hv, hv'⟩
end KK


set_option Elab.async false
set_option linter.all false
set_option maxRecDepth 100000
set_option maxHeartbeats 4000000
/-! changes -/
namespace KK
open PySem PySem.Spec PyProof.Rows L2
variable {P : Program} {w : World} {K : PySem.W.Frag} {mg : Str → Option Value} {base : Heap}
/-- a change more -/
theorem chOk_put {W : Wd} {kvs : List (Key × V)} {z : Str} {v : V} (h : ChOk W (valV kvs)) (hz : NameOk z)
    (hv : (z ∈ W.facts ∧ (v = .bl true ∨ v = .bl false)) ∨ (z ∈ W.piles ∧ (v = .str "add" ∨ v = .str "take" ∨ v = .str "empty")) ∨ (z ∈ W.reserves ∧ (v = .str "add" ∨ v = .str "take"))) : ChOk W (valV (putK kvs (.inr z) v)) := fun k u e => by
  rw [valV_put] at e
  by_cases ek : k = Sum.inr z
  · rw [if_pos ek] at e
    cases e
    exact ⟨z, ek, hz, hv⟩
  · rw [if_neg ek] at e
    exact h k u e
/-- nothing is taken from a reserve -/
def NoRes (W : Wd) (f : Key → Option V) : Prop := ∀ z ∈ W.reserves, f (.inr z) ≠ some (.str "take")
theorem noRes_take {W : Wd} {f : Key → Option V} (h : NoRes W f) : resTake W f = false := by
  refine Bool.eq_false_iff.mpr fun e => ?_
  obtain ⟨z, hz, q⟩ := List.any_eq_true.mp e
  have q' : gc f z = .str "take" := of_decide_eq_true q
  unfold gc at q'
  cases ef : f (.inr z) with
  | none =>
    rw [ef] at q'
    cases q'
  | some v =>
    rw [ef] at q'
    have e2 : v = .str "take" := q'
    exact h z hz (by rw [ef, e2])
def spChanges : Sp := fun vs H Q _ => ∃ (S L p a : Addr) (n : Nat) (W : Wd) (b : Bool), vs = [.ref S, .ref p, .bl b] ∧ Strm S L H n ∧ n + 100 ≤ 900000 ∧ LwL (Ust S L) H p a W ∧ ListsOk W ∧
  ∀ (q : Addr) (f : Key → Option V) (H' : Hp), ChOk W f → (b = true → NoRes W f) → H q = none → DV (Ust S L) H' q f 30 → Strm S L H' (n + 50) → Gr (Ust S L) H H' → Q (.ref q) H'
theorem sc_cg : FnScope ["_law_stream", "_law_w", "_law_free", "_law_changes_here", "_law_name_here", "_law_way"] ["_law_stream", "_law_w", "_law_free"] (defScope (top 58)) := ⟨rfl, rfl, rfl, by decide +kernel, rfl, by decide +kernel, by decide +kernel⟩
/-- the invariant of the loops of changes -/
def ChI (S L D : Addr) (W : Wd) (b : Bool) (H H2 : Hp) (m c : Nat) : Prop := ∃ kvs, H2 D = some (.dK kvs) ∧ ChOk W (valV kvs) ∧ (b = true → NoRes W (valV kvs)) ∧ kvs.length ≤ c ∧ Strm S L H2 m ∧ GrD S L D H H2
theorem at4 {a b c d : V} {r : Int} (h0 : 0 ≤ r) (h1 : r < 4) : ∃ x, atI [a, b, c, d] r = some x ∧ (x = a ∨ x = b ∨ x = c ∨ x = d) := by
  obtain ⟨j, rfl⟩ := Int.eq_ofNat_of_zero_le h0
  have hj : j < 4 := by omega
  match j, hj with
  | 0, _ => exact ⟨a, atI_nat rfl, .inl rfl⟩
  | 1, _ => exact ⟨b, atI_nat rfl, .inr (.inl rfl)⟩
  | 2, _ => exact ⟨c, atI_nat rfl, .inr (.inr (.inl rfl))⟩
  | 3, _ => exact ⟨d, atI_nat rfl, .inr (.inr (.inr rfl))⟩
theorem ok_changes (T : Txt K mg) : C8.Cal P w K mg base 3 "_law_changes" spChanges [] := by
  have G0 : C8.Cal P w K mg base 1 "_law_draw" spDraw [] := ok_draw T
  have G1 : C8.Cal P w K mg base 2 "_law_mixed" spMixed [] := ok_mixed T
  refine def_cal T.lChanges sc_cg (fun _ _ _ _ _ _ us hl => match us, hl with | [_, _, _], _ => rfl) (fun vs H Q E h => ?_) (fun f cdv A outer s H vs Q E hr h => ?_)
  · obtain ⟨S, L, p, a, n, W, b, rfl, _⟩ := h
    rfl
  · obtain ⟨S, L, p, a, n, W, b, rfl, hS, hn, hLw, hW, k⟩ := h
    have nd := sc_cg.nd
    have hu := hu_of hr
    have hs := sizeLine_eq
    have hlf := hW.lf
    have hlp := hW.lp
    have hlr := hW.lr
    refine ⟨_, pss_cons (ps_set (i := 3) nd rfl (.inl rfl) pe_dnewK)
      (pss_cons (ps_for PassesOwn.never (by rfl) (pi_list (C8.pe_c G1 hr (by decide) (by rfl) (pa_cons (pv 0) (pa_cons (pe_dget hu (pv 1) pe_str (fun _ _ => rfl)) pa_nil)))) (pg_name (i := 4) nd rfl (Or.inl rfl))
        (pss_cons (ps_set (i := 5) nd rfl (.inl rfl) (C8.pe_c G0 hr (by decide) (by rfl) (pa_cons (pv 0) (pa_cons pe_int pa_nil))))
        (pss_one (ps_if (pt_cmpR op_lt (pv 5) pe_int (nomark _)) (pss_one (ps_dput hu (pv 3) (pv 4) (pe_cmpR op_eq (pv 5) pe_int (nomark _)) rfl)) pss_nil))))
      (pss_cons (ps_for PassesOwn.never (by rfl) (pi_list (C8.pe_c G1 hr (by decide) (by rfl) (pa_cons (pv 0) (pa_cons (pe_dget hu (pv 1) pe_str (fun _ _ => rfl)) pa_nil)))) (pg_name (i := 4) nd rfl (Or.inl rfl))
        (pss_cons (ps_set (i := 5) nd rfl (.inl rfl) (C8.pe_c G0 hr (by decide) (by rfl) (pa_cons (pv 0) (pa_cons pe_int pa_nil))))
        (pss_one (ps_if (pt_cmpR op_lt (pv 5) pe_int (nomark _)) (pss_one (ps_dput hu (pv 3) (pv 4) (pe_ix ix_list (pe_lst (pa_cons pe_str (pa_cons pe_str (pa_cons pe_str (pa_cons pe_str pa_nil))))) (pv 5) (fun _ _ => rfl)) rfl)) pss_nil))))
      (pss_cons (ps_for PassesOwn.never (by rfl) (pi_list (pe_dget hu (pv 1) pe_str (fun _ _ => rfl))) (pg_name (i := 4) nd rfl (Or.inl rfl))
        (pss_cons (ps_set (i := 5) nd rfl (.inl rfl) (C8.pe_c G0 hr (by decide) (by rfl) (pa_cons (pv 0) (pa_cons pe_int pa_nil))))
        (pss_one (ps_if (PW.pt (pw_and (pt_cmpR op_eq (pv 5) pe_int (nomark _)) (pw_and1 (pt_not (pt_val (pv 2)))))) (pss_one (ps_dput hu (pv 3) (pv 4) pe_str rfl))
          (pss_one (ps_if (pt_cmpR op_eq (pv 5) pe_int (nomark _)) (pss_one (ps_dput hu (pv 3) (pv 4) pe_str rfl)) pss_nil))))))
      (pss_one (ps_ret (pv 3)))))), ?_⟩
    obtain ⟨pf, pi, pr, ⟨kvw, w1, w2, w3, w4, w5⟩, hf, hp, hrs⟩ := id hLw
    intro D hD
    have hUD := hS.fresh D hD
    have keepD : ∀ {b o H2}, Ust S L b → H b = some o → GrD S L D H H2 → H2 b = some o := fun hU e g => g.k _ _ hU (ne_of_none e hD) e
    have I0 : ChI S L D W b H (upd H D (.dK [])) n 0 := ⟨[], upd_same, fun k v e => (nomatch e), fun _ z _ e => (nomatch e), Nat.le_refl _, hS.upd hUD, (GrD.refl S L D H).upd⟩
    show tSeq _ _ _ _ (upd H D (.dK []))
    generalize upd H D (.dK []) = H1 at I0 ⊢
    obtain ⟨kv0, hd0, ho0, hb0, hl0, hS0, g0⟩ := id I0
    have hw1 := keepD w1.1 w1.2 g0
    -- the facts
    refine ⟨_, rfl, _, rfl, p, _, rfl, dget_rd (.inl hw1) w2, S, L, pf, n, W.facts, rfl, hS0, by omega, by omega, ⟨hf.1, keepD hf.1 hf.2 g0⟩, fun q1 ys1 H2 hperm1 hq1n hq1 hS1 g1 => ?_⟩
    have q1D : q1 ≠ D := fun e => by subst e; rw [hd0] at hq1n; cases hq1n
    have hUq1 : Ust S L q1 := hS0.fresh q1 hq1n
    have I1 : ChI S L D W b H H2 (n + 10) 0 := ⟨kv0, g1.k _ _ hUD hd0, ho0, hb0, hl0, hS1.mono (by omega), g0.gr2 g1⟩
    have ly1 : ys1.length ≤ 10 := by rw [hperm1.length_eq]; omega
    refine ⟨q1, rfl, ⟨_, SqL.of hq1⟩, for_it (wk_list (zs := ys1) (inj := V.str)) (fun i σ H3 => i ≤ ys1.length ∧ ∃ y4 y5, σ = [some (.ref S), some (.ref p), some (.bl b), some (.ref D), y4, y5] ∧ ChI S L D W b H H3 (n + 10 + i) i ∧ H3 q1 = some (.lst (ys1.map V.str)))
      ⟨Nat.zero_le _, none, none, rfl, I1, hq1⟩ (fun i σ H3 _ ⟨_, _, _, _, _, h⟩ => SqL.of h) ?_ ?_⟩
    · rintro i y σ H3 H3' hi ⟨_, y4, y5, rfl, ⟨kvs, hd3, ho3, hb3, hl3, hS3, g3⟩, hq3⟩ ⟨rfl, z, hz, rfl⟩
      have hzf : z ∈ W.facts := hperm1.mem_iff.mp (List.mem_of_getElem? hz)
      refine ⟨_, rfl, S, L, n + 10 + i, 4, rfl, hS3, by omega, by decide, by decide, fun r H4 hr0 hr1 hS4 g4 => ?_⟩
      have hd4 := g4.k _ _ hUD hd3
      have hq4 := g4.k _ _ hUq1 hq3
      refine ⟨_, rfl, _, _, rfl, rfl, _, rfl, ?_⟩
      by_cases e : r < 2
      · refine dT e ⟨_, rfl, rfl, _, rfl, _, rfl, D, _, rfl, DPut.k (k := Sum.inr z) hd4 (by omega), hi, _, _, rfl, ⟨_, upd_same, chOk_put ho3 (hW.nf z hzf) (.inl ⟨hzf, ?_⟩), fun hb z' hz' => ?_, Nat.le_trans (DSub.putK_len _ _ _) (by omega), hS4.upd hUD, (g3.gr2 g4).upd⟩, ?_⟩
        · cases decide (V.int r = V.int 0) <;> simp
        · rw [valV_put]
          have nz : ¬ (Sum.inr z' : Key) = Sum.inr z := fun e => (hW.fp hzf).2 (by rw [← Sum.inr.inj e]; exact hz')
          rw [if_neg nz]
          exact hb3 hb z' hz'
        · rw [upd_ne q1D]
          exact hq4
      · exact dF e ⟨hi, _, _, rfl, ⟨kvs, hd4, ho3, hb3, by omega, hS4, g3.gr2 g4⟩, hq4⟩
    rintro σ H3 ⟨_, y4, y5, rfl, I3, _⟩
    obtain ⟨kv3, hd3, ho3, hb3, hl3, hS3, g3⟩ := id I3
    -- the piles
    refine ⟨_, rfl, _, rfl, p, _, rfl, dget_rd (.inl (keepD w1.1 w1.2 g3)) w3, S, L, pi, _, W.piles, rfl, hS3, by omega, by omega, ⟨hp.1, keepD hp.1 hp.2 g3⟩, fun q2 ys2 H4 hperm2 hq2n hq2 hS4 g4 => ?_⟩
    have q2D : q2 ≠ D := fun e => by subst e; rw [hd3] at hq2n; cases hq2n
    have hUq2 : Ust S L q2 := hS3.fresh q2 hq2n
    have I4 : ChI S L D W b H H4 (n + 23) 10 := ⟨kv3, g4.k _ _ hUD hd3, ho3, hb3, by omega, hS4.mono (by omega), g3.gr2 g4⟩
    have ly2 : ys2.length ≤ 3 := by rw [hperm2.length_eq]; omega
    refine ⟨q2, rfl, ⟨_, SqL.of hq2⟩, for_it (wk_list (zs := ys2) (inj := V.str)) (fun i σ H5 => i ≤ ys2.length ∧ ∃ y4 y5, σ = [some (.ref S), some (.ref p), some (.bl b), some (.ref D), y4, y5] ∧ ChI S L D W b H H5 (n + 23 + i) (10 + i) ∧ H5 q2 = some (.lst (ys2.map V.str)))
      ⟨Nat.zero_le _, _, _, rfl, I4, hq2⟩ (fun i σ H5 _ ⟨_, _, _, _, _, h⟩ => SqL.of h) ?_ ?_⟩
    · rintro i y σ H5 H5' hi ⟨_, y4, y5, rfl, ⟨kvs, hd5, ho5, hb5, hl5, hS5, g5⟩, hq5⟩ ⟨rfl, z, hz, rfl⟩
      have hzp : z ∈ W.piles := hperm2.mem_iff.mp (List.mem_of_getElem? hz)
      refine ⟨_, rfl, S, L, n + 23 + i, 7, rfl, hS5, by omega, by decide, by decide, fun r H6 hr0 hr1 hS6 g6 => ?_⟩
      have hd6 := g6.k _ _ hUD hd5
      have hq6 := g6.k _ _ hUq2 hq5
      refine ⟨_, rfl, _, _, rfl, rfl, _, rfl, ?_⟩
      by_cases e : r < 4
      · refine dT e ⟨by show 4 ≤ sizeLine; decide, fun l hl => ?_⟩
        obtain ⟨x, hx, hx2⟩ := at4 (a := .str "take") (b := .str "take") (c := .str "add") (d := .str "empty") hr0 e
        have sl : Same H6 (upd H6 l (.lst [.str "take", .str "take", .str "add", .str "empty"])) := same_new hl
        refine ⟨_, rfl, l, _, r, x, rfl, rfl, SqL.of upd_same, hx, _, rfl, _, rfl, D, _, rfl, DPut.k (k := Sum.inr z) (sl _ _ hd6) (by omega), hi, _, _, rfl, ⟨_, upd_same, chOk_put ho5 (hW.np z hzp) (.inr (.inl ⟨hzp, ?_⟩)), fun hb z' hz' => ?_, Nat.le_trans (DSub.putK_len _ _ _) (by omega), (hS6.same sl).upd hUD, ((g5.gr2 g6).gr2 (gr_same sl)).upd⟩, ?_⟩
        · rcases hx2 with q | q | q | q <;> simp [q]
        · rw [valV_put]
          have nz : ¬ (Sum.inr z' : Key) = Sum.inr z := fun e => hW.pr hzp (by rw [← Sum.inr.inj e]; exact hz')
          rw [if_neg nz]
          exact hb5 hb z' hz'
        · rw [upd_ne q2D]
          exact sl _ _ hq6
      · exact dF e ⟨hi, _, _, rfl, ⟨kvs, hd6, ho5, hb5, by omega, hS6, g5.gr2 g6⟩, hq6⟩
    rintro σ H5 ⟨_, y4', y5', rfl, I5, _⟩
    obtain ⟨kv5, hd5, ho5, hb5, hl5, hS5, g5⟩ := id I5
    -- the reserves
    have prD : pr ≠ D := ne_of_none hrs.2 hD
    have I5' : ChI S L D W b H H5 (n + 26) 13 := ⟨kv5, hd5, ho5, hb5, by omega, hS5.mono (by omega), g5⟩
    refine ⟨_, rfl, p, _, rfl, dget_rd (.inl (keepD w1.1 w1.2 g5)) w4, pr, rfl, ⟨_, SqL.of (keepD hrs.1 hrs.2 g5)⟩, for_it (wk_list (zs := W.reserves) (inj := V.str)) (fun i σ H6 => i ≤ W.reserves.length ∧ ∃ y4 y5, σ = [some (.ref S), some (.ref p), some (.bl b), some (.ref D), y4, y5] ∧ ChI S L D W b H H6 (n + 26 + i) (13 + i))
      ⟨Nat.zero_le _, _, _, rfl, I5'⟩ (fun i σ H6 _ ⟨_, _, _, _, ⟨_, _, _, _, _, _, g⟩⟩ => SqL.of (keepD hrs.1 hrs.2 g)) ?_ ?_⟩
    · rintro i y σ H6 H6' hi ⟨_, y4, y5, rfl, ⟨kvs, hd6, ho6, hb6, hl6, hS6, g6⟩⟩ ⟨rfl, z, hz, rfl⟩
      have hzr : z ∈ W.reserves := List.mem_of_getElem? hz
      refine ⟨_, rfl, S, L, n + 26 + i, 4, rfl, hS6, by omega, by decide, by decide, fun r H7 hr0 hr1 hS7 g7 => ?_⟩
      have hd7 := g7.k _ _ hUD hd6
      -- nothing is stored, or add
      have rest : tIfS (tTest (tOp rEq (tVar 5) (tC (.int 1)))) (sDPut (tVar 3) (tVar 4) (tC (.str "add"))) tNext
          { nx := fun σ H6 => i + 1 ≤ W.reserves.length ∧ ∃ y4 y5, σ = [some (.ref S), some (.ref p), some (.bl b), some (.ref D), y4, y5] ∧ ChI S L D W b H H6 (n + 26 + (i + 1)) (13 + (i + 1)), rt := Q }
          [some (.ref S), some (.ref p), some (.bl b), some (.ref D), some (.str z), some (.int r)] H7 := by
        refine ⟨_, rfl, rfl, _, rfl, ?_⟩
        by_cases e1 : r = 1
        · subst e1
          refine dT rfl ⟨_, rfl, _, rfl, D, _, rfl, DPut.k (k := Sum.inr z) hd7 (by omega), hi, _, _, rfl, ⟨_, upd_same, chOk_put ho6 (hW.nr z hzr) (.inr (.inr ⟨hzr, .inl rfl⟩)), fun hb z' hz' => ?_, Nat.le_trans (DSub.putK_len _ _ _) (by omega), hS7.upd hUD, (g6.gr2 g7).upd⟩⟩
          rw [valV_put]
          by_cases ez : (Sum.inr z' : Key) = Sum.inr z
          · rw [if_pos ez]
            exact fun q => absurd (Option.some.inj q) (by decide +kernel)
          · rw [if_neg ez]
            exact hb6 hb z' hz'
        · exact dF (fun q => e1 (V.int.inj q)) ⟨hi, _, _, rfl, ⟨kvs, hd7, ho6, hb6, by omega, hS7, g6.gr2 g7⟩⟩
      refine ⟨_, rfl, rfl, _, rfl, ?_⟩
      by_cases e0 : r = 0
      · subst e0
        refine dT rfl ⟨_, rfl, b, rfl, ?_⟩
        cases hb : b with
        | true =>
          rw [hb] at rest
          exact iteF rest
        | false =>
          refine iteT ⟨_, rfl, _, rfl, D, _, rfl, DPut.k (k := Sum.inr z) hd7 (by omega), hi, _, _, rfl, ⟨_, upd_same, chOk_put ho6 (hW.nr z hzr) (.inr (.inr ⟨hzr, .inr rfl⟩)), fun hb' => (nomatch hb'), Nat.le_trans (DSub.putK_len _ _ _) (by omega), hS7.upd hUD, (g6.gr2 g7).upd⟩⟩
      · exact dF (fun q => e0 (V.int.inj q)) (iteF rest)
    · rintro σ H6 ⟨_, y4, y5, rfl, ⟨kvs, hd6, ho6, hb6, hl6, hS6, g6⟩⟩
      exact ⟨_, rfl, k D (valV kvs) H6 ho6 hb6 hD ⟨kvs, ⟨hUD, hd6⟩, fun _ => rfl, by omega⟩ (hS6.mono (by omega)) (g6.gr hS6 hD)⟩
end KK


set_option Elab.async false
set_option linter.all false
set_option maxRecDepth 100000
set_option maxHeartbeats 4000000
/-! actions, worlds -/
namespace KK
open PySem PySem.Spec PyProof.Rows L2
variable {P : Program} {w : World} {K : PySem.W.Frag} {mg : Str → Option Value} {base : Heap}
/-- an action, as the law writes it -/
def LActAt (U : Addr → Prop) (H : Hp) (p : Addr) (x : Str × Act) : Prop := ∃ v l qs, At U H p (.lst [.str x.1, v, .ref l]) ∧ TrAt U H x.2.need v ∧ At U H l (.lst (qs.map V.ref)) ∧ Paired (fun q f => DV U H q f 30) qs x.2.outs
theorem LActAt.lq {U U' : Addr → Prop} {H H' : Hp} {p : Addr} {x : Str × Act} (h : LActAt U H p x) (q : Lq U H U' H') : LActAt U' H' p x := by
  obtain ⟨v, l, qs, h1, h2, h3, h4⟩ := h
  exact ⟨v, l, qs, q _ _ h1, h2.lq q, q _ _ h3, paired_mono h4 fun _ _ d => d.lq q⟩
/-- what the law knows of an action -/
structure LaOk (W : Wd) (x : Str × Act) : Prop where
  nm : NameOk x.1
  aw : ActW W x.2
  fr : ∃ f ∈ x.2.outs, NoRes W f
  ln : x.2.outs.length ≤ 3
def spAction : Sp := fun vs H Q _ => ∃ (S L p a : Addr) (n m : Nat) (W : Wd) (z : Str), vs = [.ref S, .ref p, .str z, .int (m : Nat)] ∧ Strm S L H n ∧ n + 400 ≤ 900000 ∧ 1 ≤ m ∧ m ≤ 3 ∧ LwL (Ust S L) H p a W ∧ ListsOk W ∧ NameOk z ∧
  ∀ (q : Addr) (x : Str × Act) (H' : Hp), x.1 = z → LaOk W x → H q = none → LActAt (Ust S L) H' q x → Strm S L H' (n + 200) → Gr (Ust S L) H H' → Q (.ref q) H'
theorem sc_ac : FnScope ["_law_stream", "_law_w", "_law_name_here", "_law_most", "_law_many", "_law_free", "_law_need", "_law_k"] ["_law_stream", "_law_w", "_law_name_here", "_law_most"] (defScope (top 59)) := ⟨rfl, rfl, rfl, by decide +kernel, rfl, by decide +kernel, by decide +kernel⟩
theorem LwL.same {U : Addr → Prop} {H H' : Hp} {p a : Addr} {W : Wd} (h : LwL U H p a W) (s : Same H H') : LwL U H' p a W := h.lq (lq_same s)
theorem ok_action (T : Txt K mg) : C8.Cal P w K mg base 6 "_law_action" spAction [] := by
  have G0 : C8.Cal P w K mg base 1 "_law_draw" spDraw [] := ok_draw T
  have G1 : C8.Cal P w K mg base 5 "_law_condition" (spCond 2) [] := ok_cond T 2
  have G2 : C8.Cal P w K mg base 1 "_law_seen" (spLw Wd.seen) [] := ok_lSeen T
  have G3 : C8.Cal P w K mg base 3 "_law_changes" spChanges [] := ok_changes T
  refine def_cal T.lAction sc_ac (fun _ _ _ _ _ _ us hl => match us, hl with | [_, _, _, _], _ => rfl) (fun vs H Q E h => ?_) (fun f cdv A outer s H vs Q E hr h => ?_)
  · obtain ⟨S, L, p, a, n, m, W, z, rfl, _⟩ := h
    rfl
  · obtain ⟨S, L, p, a, n, m, W, z, rfl, hS, hn, hm1, hm3, hLw, hW, hz, k⟩ := h
    have nd := sc_ac.nd
    have hs := sizeLine_eq
    have hsl := hW.seenLen
    refine ⟨_, pss_cons (ps_set (i := 4) nd rfl (.inl rfl) (pe_op op_add pe_int (C8.pe_c G0 hr (by decide) (by rfl) (pa_cons (pv 0) (pa_cons (pv 3) pa_nil)))))
      (pss_cons (ps_set (i := 5) nd rfl (.inr rfl) (C8.pe_c G0 hr (by decide) (by rfl) (pa_cons (pv 0) (pa_cons (pv 4) pa_nil))))
      (pss_cons (ps_set (i := 6) nd rfl (.inl rfl) (C8.pe_c G1 hr (by decide) (by rfl) (pa_cons (pv 0) (pa_cons (C8.pe_c G2 hr (by decide) (by rfl) (pa_cons (pv 1) pa_nil)) (pa_cons pe_int pa_nil)))))
      (pss_one (ps_ret (pe_lst (pa_cons (pv 2) (pa_cons (pv 6) (pa_cons
        (pe_lc (own := [("_law_k", 7)]) (g := gName 7) (by rfl) nd (pi_range1 (by rfl) (T.blt _ (by decide)) (pa_cons (pv 4) pa_nil)) (blkOk_by (own := [("_law_k", 7)]) (N := ["_law_stream", "_law_w", "_law_name_here", "_law_most", "_law_many", "_law_free", "_law_need", "_law_k"]) (sc := defScope (top 59)) (by decide +kernel))
          (fun _ _ _ _ _ => pg_name (i := 7) nd rfl (Or.inl rfl)) (fun _ _ _ _ _ => pts_nil)
          (fun _ _ _ _ _ => C8.pe_c G3 hr (by decide) (by rfl) (pa_cons (pv 0) (pa_cons (pv 1) (pa_cons (pe_cmpR op_eq (pv 7) (pv 5) (nomark _)) pa_nil))))) pa_nil)))))))), ?_⟩
    -- how many, which is free
    refine ⟨_, rfl, _, rfl, S, L, n, _, rfl, hS, by omega, by omega, small200 (by omega), fun r H1 hr0 hr1 hS1 g1 => ?_⟩
    obtain ⟨j, rfl⟩ := Int.eq_ofNat_of_zero_le hr0
    refine ⟨_, _, rfl, rfl, ?_⟩
    have ej : (1 : Int) + (j : Int) = ((j + 1 : Nat) : Int) := by omega
    dsimp only [gName]
    rw [ej]
    refine ⟨_, rfl, _, rfl, S, L, n + 1, _, rfl, hS1, by omega, by omega, small200 (by omega), fun fr H2 hf0 hf1 hS2 g2 => ?_⟩
    obtain ⟨fi, rfl⟩ := Int.eq_ofNat_of_zero_le hf0
    have hfi : fi < j + 1 := by omega
    have g02 := g1.trans g2
    -- the condition
    refine ⟨_, rfl, _, rfl, Ust S L, p, a, W, rfl, hLw.lq g02.lq, hW, fun sn hsn => ?_⟩
    have s3 : Same H2 (upd H2 sn (.lst (W.seen.map V.str))) := same_new hsn
    have hs3 : (upd H2 sn (.lst (W.seen.map V.str))) sn = some (.lst (W.seen.map V.str)) := upd_same
    have hUs := hS2.fresh sn hsn
    have hS3 := hS2.same s3
    have g03 := g02.trans (gr_same (U := Ust S L) s3)
    show tCons _ _ _ (upd H2 sn (.lst (W.seen.map V.str))) _
    generalize upd H2 sn (.lst (W.seen.map V.str)) = H3 at s3 hs3 hS3 g03 ⊢
    refine ⟨S, L, sn, n + 2, 1, W.seen, rfl, by decide, by decide, hS3, by show n + 2 + 7 ≤ _; omega, by omega, ⟨hUs, hs3⟩, fun t v H4 hnm hdp hsz hS4 g4 ht => ?_⟩
    have g04 := g03.trans g4
    -- the outcomes
    refine ⟨_, rfl, _, rfl, _, rfl, _, rfl, by omega, by omega, fun D hD => ?_⟩
    have en : ((j + 1 : Nat) : Int).toNat = j + 1 := Int.toNat_natCast _
    rw [en]
    have hUD := hS4.fresh D hD
    have elr : (List.range (j + 1)).length = j + 1 := List.length_range
    have wk := wk_range (n := j + 1)
    unfold Wk at wk
    rw [elr] at wk
    have hLw4 : LwL (Ust S L) H4 p a W := hLw.lq g04.lq
    have lD : Lq (Ust S L) H4 (Wo (Ust S L) D) H4 := lq_out hD
    refine lc_it wk (g := gName 7) (fun i H5 => i ≤ j + 1 ∧ ∃ qs fs, H5 D = some (.lst (qs.map V.ref)) ∧ Paired (fun q f => DV (Wo (Ust S L) D) H5 q f 30) qs fs ∧ (∀ f ∈ fs, ChOk W f) ∧ (fi < i → ∃ f ∈ fs, NoRes W f) ∧ fs.length = i ∧ Strm S L H5 (n + 9 + 50 * i) ∧ GrD S L D H4 H5)
      ⟨Nat.zero_le _, [], [], upd_same, .nil, fun _ h => (nomatch h), fun h => absurd h (Nat.not_lt_zero _), rfl, (hS4.mono (by show n + 2 + 7 ≤ _; omega)).upd hUD, (GrD.refl S L D H4).upd⟩ (fun _ _ _ _ => trivial) ?_ ?_
    · rintro i x H5 H5' hi ⟨_, qs, fs, hD5, hp5, hc5, hfr5, hl5, hS5, g5⟩ ⟨rfl, z', hz', rfl⟩
      have ez : z' = i := by
        rw [List.getElem?_range hi] at hz'
        exact (Option.some.inj hz').symm
      subst ez
      refine ⟨rfl, ?_⟩
      have hLw5 : LwL (Ust S L) H5' p a W := (hLw4.lq lD).lq (fun b o e => ⟨e.1.1, g5.k _ _ e.1.1 e.1.2 e.2⟩)
      refine ⟨_, rfl, _, rfl, _, rfl, _, rfl, rfl, S, L, p, a, n + 9 + 50 * z', W, _, rfl, hS5, by omega, hLw5, hW, fun q f H6 hcf hnf hq0 hq6 hS6 g6 => ?_⟩
      have hD6 := g6.k _ _ hUD hD5
      have qD : q ≠ D := fun e => by subst e; rw [hD5] at hq0; cases hq0
      refine ⟨_, hD6, by rw [List.length_map, Paired.length hp5, hl5]; omega, hi, qs ++ [q], fs ++ [f], by rw [upd_same, List.map_append]; rfl, paired_snoc (paired_mono hp5 fun q' f' d => d.lq (Lq.trans (g6.sub fun _ h => h.1).lq (lq_off off_upd))) ?_, fun f' hf' => ?_, fun hlt => ?_, by rw [List.length_append, hl5]; rfl, ?_, (g5.gr2 g6).upd⟩
      · obtain ⟨kvs, a1, a2, a3⟩ := hq6
        exact ⟨kvs, ⟨⟨a1.1, qD⟩, by rw [upd_ne qD]; exact a1.2⟩, a2, a3⟩
      · rcases List.mem_append.mp hf' with h | h
        · exact hc5 f' h
        · rw [List.mem_singleton.mp h]
          exact hcf
      · by_cases e : fi < z'
        · obtain ⟨f', h1, h2⟩ := hfr5 e
          exact ⟨f', List.mem_append_left _ h1, h2⟩
        · have e2 : z' = fi := by omega
          refine ⟨f, List.mem_append_right _ (List.mem_singleton.mpr rfl), hnf ?_⟩
          exact decide_eq_true (by rw [e2])
      · have q6 := hS6.upd (o := .lst (qs.map V.ref ++ [.ref q])) hUD
        rw [show n + 9 + 50 * (z' + 1) = n + 9 + 50 * z' + 50 by omega]
        exact q6
    · rintro H5 ⟨_, qs, fs, hD5, hp5, hc5, hfr5, hl5, hS5, g5⟩
      refine ⟨by show 3 ≤ sizeLine; decide, fun q hq => ?_⟩
      have sq : Same H5 (upd H5 q (.lst [.str z, v, .ref D])) := same_new hq
      have gH5 : Gr (Ust S L) H4 H5 := g5.gr hS5 hD
      have gAll := (g04.trans gH5).trans (gr_same (U := Ust S L) sq)
      refine k q (z, ⟨t, fs⟩) _ rfl ⟨hz, ⟨⟨by show t.depth ≤ 4; omega, by show t.size ≤ 60; omega, (fun e => by have e' : fs = [] := e; rw [e'] at hl5; cases hl5), by show fs.length ≤ 60; omega, fun f hf => (hc5 f hf).out⟩, fun y hy => List.mem_append.mp (hnm y hy), hc5⟩, hfr5 hfi, by show fs.length ≤ 3; omega⟩ ((g04.trans gH5).f q hq) ⟨v, D, qs, ⟨hS5.fresh q hq, upd_same⟩, (ht.lq gH5.lq).lq (lq_same sq), ⟨hUD, sq _ _ hD5⟩, paired_mono hp5 fun q' f' d => (d.lq lq_wo).lq (lq_same sq)⟩ ((hS5.same sq).mono (by omega)) gAll
end KK


set_option Elab.async false
set_option linter.all false
set_option maxRecDepth 100000
set_option maxHeartbeats 4000000
/-! worlds of the law -/
namespace KK
open PySem PySem.Spec PyProof.Rows L2
variable {P : Program} {w : World} {K : PySem.W.Frag} {mg : Str → Option Value} {base : Heap}
/-- a tree's tuples are no list -/
theorem TrAt.wo {U : Addr → Prop} {H : Hp} {a : Addr} {xs : List V} (ha : H a = some (.lst xs)) : ∀ {t : Tree} {v : V}, TrAt U H t v → TrAt (Wo U a) H t v
  | .is _, _, ⟨p, e, h⟩ => ⟨p, e, ⟨h.1, ne_of h.2 ha (by intro z; cases z)⟩, h.2⟩
  | .always, _, ⟨p, e, h⟩ => ⟨p, e, ⟨h.1, ne_of h.2 ha (by intro z; cases z)⟩, h.2⟩
  | .never, _, ⟨p, e, h⟩ => ⟨p, e, ⟨h.1, ne_of h.2 ha (by intro z; cases z)⟩, h.2⟩
  | .not _, _, ⟨p, x, e, h, b⟩ => ⟨p, x, e, ⟨⟨h.1, ne_of h.2 ha (by intro z; cases z)⟩, h.2⟩, b.wo ha⟩
  | .and _ _, _, ⟨p, x, y, e, h, b, c⟩ => ⟨p, x, y, e, ⟨⟨h.1, ne_of h.2 ha (by intro z; cases z)⟩, h.2⟩, b.wo ha, c.wo ha⟩
  | .or _ _, _, ⟨p, x, y, e, h, b, c⟩ => ⟨p, x, y, e, ⟨⟨h.1, ne_of h.2 ha (by intro z; cases z)⟩, h.2⟩, b.wo ha, c.wo ha⟩
/-- a new action stands apart from the list of the actions -/
theorem LActAt.wo {U U' : Addr → Prop} {H : Hp} {a q : Addr} {ps : List Addr} {al : List (Str × Act)} {x : Str × Act} (h : LActAt U H q x) (ha : H a = some (.lst (ps.map V.ref))) (hp : Paired (fun p x => LActAt U' H p x) ps al) (hne : x.2.outs ≠ []) : LActAt (Wo U a) H q x := by
  obtain ⟨zn, nd, os⟩ := x
  obtain ⟨v, l, qs, h1, h2, h3, h4⟩ := h
  dsimp only at h1 h2 h4 hne
  refine ⟨v, l, qs, ⟨⟨h1.1, ne_of h1.2 ha fun e => ?_⟩, h1.2⟩, h2.wo ha, ⟨⟨h3.1, fun e => ?_⟩, h3.2⟩, paired_mono h4 fun q' f d => ?_⟩
  · cases ps with
    | nil => cases e
    | cons p ps => cases e
  · subst e
    have e1 := h3.2
    rw [ha] at e1
    injection e1 with e1
    injection e1 with e1
    cases h4 with
    | nil => exact hne rfl
    | @cons q0 f0 qs fs hd tl =>
      cases hp with
      | nil => cases e1
      | @cons p0 x0 ps al hd' tl' =>
        rw [List.map_cons, List.map_cons] at e1
        injection e1 with e2 _
        have e3 : p0 = q0 := V.ref.inj e2
        subst e3
        obtain ⟨kvs, b1, _⟩ := hd
        obtain ⟨v', l', qs', b2, _⟩ := hd'
        have e4 := b1.2
        rw [b2.2] at e4
        cases e4
  · obtain ⟨kvs, b1, b2⟩ := d
    exact ⟨kvs, ⟨⟨b1.1, ne_of b1.2 ha (by intro z; cases z)⟩, b1.2⟩, b2⟩
/-- the law's world with its actions -/
def LwA (U : Addr → Prop) (H : Hp) (p : Addr) (W : Wd) (al : List (Str × Act)) : Prop := ∃ a ps, LwL U H p a W ∧ At U H a (.lst (ps.map V.ref)) ∧ Paired (fun p x => LActAt U H p x) ps al
theorem LwA.lq {U U' : Addr → Prop} {H H' : Hp} {p : Addr} {W : Wd} {al : List (Str × Act)} (h : LwA U H p W al) (q : Lq U H U' H') : LwA U' H' p W al := by
  obtain ⟨a, ps, h1, h2, h3⟩ := h
  exact ⟨a, ps, h1.lq q, q _ _ h2, paired_mono h3 fun _ _ x => x.lq q⟩
structure AlOk (W : Wd) (al : List (Str × Act)) : Prop where
  ok : ∀ x ∈ al, LaOk W x
  nd : (al.map (·.1)).Nodup
  ln : al.length ≤ 5
/-- for name in names: w['actions'].append(_law_action(stream, w, name, most)) -/
theorem loop_actions {D : Ends} {σ : L2.St} {H : Hp} {iw j : Nat} {tl tm : TE} {S L p a q : Addr} {n m : Nat} {W : Wd} {ys : List Str} (hS : Strm S L H n) (hn : n + 3000 ≤ 900000) (hm1 : 1 ≤ m) (hm3 : m ≤ 3)
    (hLw : LwL (Wo (Ust S L) a) H p a W) (ha : At (Ust S L) H a (.lst [])) (hW : ListsOk W) (hq : LAt (Ust S L) H q ys) (qa : q ≠ a) (hys : ∀ y ∈ ys, NameOk y) (hnd : ys.Nodup) (hyl : ys.length ≤ 5)
    (h0 : σ[0]? = some (some (.ref S))) (hw : σ[iw]? = some (some (.ref p))) (j0 : j ≠ 0) (jw : j ≠ iw) (hj : j < σ.length) (htl : ∀ R : VK, R (.ref q) H → tl σ H R)
    (htm : ∀ (y : V) (H1 : Hp) (R : VK), R (.int (m : Nat)) H1 → tm (σ.set j (some y)) H1 R)
    (hd : ∀ (y : Option V) (al : List (Str × Act)) (H' : Hp), AlOk W al → LwA (Ust S L) H' p W al → Strm S L H' (n + 1000) → Gr (Wo (Ust S L) a) H H' → D.nx (σ.set j y) H') :
    tFor (iList K tl) (gName j) (tDrop (tBM K "list" rAppend (tDGet (tVar iw) (tC (.str "actions"))) (tCons (tCall spAction [] C8.E0 (tCons (tVar 0) (tCons (tVar iw) (tCons (tVar j) (tCons tm tNil))))) tNil))) D σ H := by
  have hUa := ha.1
  refine htl _ ⟨q, rfl, ⟨_, SqL.of hq.2⟩, for_it (wk_list (zs := ys) (inj := V.str)) (fun i σ2 H2 => i ≤ ys.length ∧ (∃ y, σ2 = σ.set j y) ∧ ∃ ps al, H2 a = some (.lst (ps.map V.ref)) ∧ Paired (fun p x => LActAt (Wo (Ust S L) a) H2 p x) ps al ∧ al.map (·.1) = ys.take i ∧ (∀ x ∈ al, LaOk W x) ∧ Strm S L H2 (n + 200 * i) ∧ GrD S L a H H2)
    ⟨Nat.zero_le _, ⟨σ[j], by rw [List.set_getElem_self]⟩, [], [], ha.2, .nil, rfl, fun _ h => (nomatch h), hS, GrD.refl S L a H⟩ (fun i σ2 H2 _ ⟨_, _, _, _, _, _, _, _, _, g⟩ => SqL.of (g.k _ _ hq.1 qa hq.2)) ?_ ?_⟩
  · rintro i y σ2 H2 H2' hi ⟨_, ⟨y0, rfl⟩, ps, al, ha2, hp2, hn2, hok2, hS2, g2⟩ ⟨rfl, z, hz, rfl⟩
    have hLw2 : LwL (Wo (Ust S L) a) H2' p a W := hLw.lq fun b o e => ⟨e.1, g2.k _ _ e.1.1 e.1.2 e.2⟩
    have e0 : ((σ.set j y0).set j (some (V.str z)))[0]? = some (some (.ref S)) := by
      rw [List.set_set, List.getElem?_set_ne j0]
      exact h0
    have ew : ((σ.set j y0).set j (some (V.str z)))[iw]? = some (some (.ref p)) := by
      rw [List.set_set, List.getElem?_set_ne jw]
      exact hw
    have ej : ((σ.set j y0).set j (some (V.str z)))[j]? = some (some (.str z)) := by
      rw [List.set_set]
      simp [hj]
    obtain ⟨pf, pi, pr, ⟨kvw, w1, w2, w3, w4, w5⟩, hf, hpi, hrs⟩ := id hLw2
    refine ⟨_, ew, p, _, rfl, dget_rd (.inl w1.2) w5, .inl ⟨rfl, _, SqL.of ha2⟩, _, e0, _, ew, _, ej, ?_⟩
    have htm' := htm (.str z)
    rw [List.set_set]
    refine htm' _ _ ⟨S, L, p, a, n + 200 * i, m, W, z, rfl, hS2, by omega, hm1, hm3, hLw2.lq lq_wo, hW, hys z (List.mem_of_getElem? hz), fun x0 x H3 hxn hxok hx0 hx hS3 g3 => ?_⟩
    have ha3 := g3.k _ _ hUa ha2
    have gW : Gr (Wo (Ust S L) a) H2' H3 := g3.sub fun _ h => h.1
    have hp3 : Paired (fun p x => LActAt (Wo (Ust S L) a) H3 p x) ps al := paired_mono hp2 fun _ _ x => x.lq gW.lq
    have hx3 := hx.wo ha3 hp3 hxok.aw.ok.ne
    have hpl : ps.length ≤ 5 := by
      have e1 := Paired.length hp2
      have e2 := congrArg List.length hn2
      rw [List.length_map, List.length_take] at e2
      omega
    refine ⟨a, _, _, rfl, rfl, ha3, by rw [List.length_map]; have := sizeLine_eq; omega, hi, ⟨some (.str z), rfl⟩, ps ++ [x0], al ++ [x], by rw [upd_same, List.map_append]; rfl, paired_snoc (paired_mono hp3 fun _ _ x => x.lq (lq_off off_upd)) (hx3.lq (lq_off off_upd)), ?_, fun x' hx' => ?_, ?_, (g2.gr2 g3).upd⟩
    · rw [List.map_append, hn2, List.take_add_one, hz]
      show _ ++ [x.1] = _ ++ [z]
      rw [hxn]
    · rcases List.mem_append.mp hx' with h | h
      · exact hok2 x' h
      · rw [List.mem_singleton.mp h]
        exact hxok
    · have q := hS3.upd (o := .lst (ps.map V.ref ++ [.ref x0])) hUa
      rw [show n + 200 * (i + 1) = n + 200 * i + 200 by omega]
      exact q
  · rintro σ2 H2 ⟨_, ⟨y0, rfl⟩, ps, al, ha2, hp2, hn2, hok2, hS2, g2⟩
    rw [List.take_length] at hn2
    have hal : al.length = ys.length := by
      have := congrArg List.length hn2
      rwa [List.length_map] at this
    refine hd y0 al H2 ⟨hok2, by rw [hn2]; exact hnd, by omega⟩ ⟨a, ps, (hLw.lq fun b o e => ⟨e.1, g2.k _ _ e.1.1 e.1.2 e.2⟩ : LwL (Wo (Ust S L) a) H2 p a W).lq lq_wo, ⟨hUa, ha2⟩, paired_mono hp2 fun _ _ x => x.lq lq_wo⟩ (hS2.mono (by omega)) ⟨fun b o hU e => g2.k b o hU.1 hU.2 e, fun b e => ?_⟩
    cases q : H b with
    | none => rfl
    | some o =>
      by_cases hU : Ust S L b
      · by_cases eb : b = a
        · subst eb
          rw [ha2] at e
          cases e
        · rw [g2.k b o hU eb q] at e
          cases e
      · obtain ⟨n1, n2⟩ := hS2.noS
        by_cases e1 : b = S
        · subst e1
          exact absurd e n1
        · by_cases e2 : b = L
          · subst e2
            exact absurd e n2
          · exact absurd ⟨e1, e2⟩ hU
/-- what a drawn world is -/
def spWorld (lim dl : Nat) : Sp := fun vs H Q _ => ∃ (S L : Addr) (n many most : Nat), vs = [.ref S, .int (many : Nat), .int (most : Nat)] ∧ Strm S L H n ∧ n + 8000 ≤ lim ∧ many = 3 ∧ most = 3 ∧
  ∀ (p : Addr) (W : Wd) (al : List (Str × Act)) (H' : Hp), ListsOk W → W.sz = 0 → (∀ z, W.acts z = none) → AlOk W al → LwA (Ust S L) H' p W al → Strm S L H' (n + dl) → Gr (Ust S L) H H' → Q (.ref p) H'
theorem sc_wo : FnScope ["_law_stream", "_law_many", "_law_most", "_law_facts", "_law_piles", "_law_w", "_law_name_here"] ["_law_stream", "_law_many", "_law_most"] (defScope (top 61)) := ⟨rfl, rfl, rfl, by decide +kernel, rfl, by decide +kernel, by decide +kernel⟩
theorem ok_world (T : Txt K mg) : C8.Cal P w K mg base 7 "_law_world" (spWorld 900000 1500) [] := by
  have G0 : C8.Cal P w K mg base 1 "_law_draw" spDraw [] := ok_draw T
  have G1 : C8.Cal P w K mg base 4 "_law_lists" spLists [] := ok_lists T
  have G2 : C8.Cal P w K mg base 3 "_law_names" spNames [] := ok_names T
  have G3 : C8.Cal P w K mg base 6 "_law_action" spAction [] := ok_action T
  refine def_cal T.lWorld sc_wo (fun _ _ _ _ _ _ us hl => match us, hl with | [_, _, _], _ => rfl) (fun vs H Q E h => ?_) (fun f cdv A outer s H vs Q E hr h => ?_)
  · obtain ⟨S, L, n, many, most, rfl, _⟩ := h
    rfl
  · obtain ⟨S, L, n, many, most, rfl, hS, hn, rfl, rfl, k⟩ := h
    have nd := sc_wo.nd
    have hu := hu_of hr
    refine ⟨_, pss_cons (ps_set (i := 3) nd rfl (.inl rfl) (C8.pe_c G0 hr (by decide) (by rfl) (pa_cons (pv 0) (pa_cons pe_int pa_nil))))
      (pss_cons (ps_set (i := 4) nd rfl (.inl rfl) (pe_ix ix_list (pe_lst (pa_cons pe_int (pa_cons pe_int (pa_cons pe_int (pa_cons pe_int pa_nil))))) (C8.pe_c G0 hr (by decide) (by rfl) (pa_cons (pv 0) (pa_cons pe_int pa_nil))) (fun _ _ => rfl)))
      (pss_cons (ps_set (i := 5) nd rfl (.inl rfl) (C8.pe_c G1 hr (by decide) (by rfl) (pa_cons (pv 0) (pa_cons (pe_callB (call_min2 (by rfl)) (by rfl) (T.blt _ (by decide)) (by decide +kernel) (pa_cons (pe_callTy call_int1 (by rfl) (T.blt _ (by decide)) (by decide +kernel) (pa_cons (pv 3) pa_nil)) (pa_cons (pe_op op_sub pe_int (pv 4)) pa_nil)))
        (pa_cons (pv 4) (pa_cons (pe_ix ix_list (pe_lst (pa_cons pe_int (pa_cons pe_int pa_nil))) (C8.pe_c G0 hr (by decide) (by rfl) (pa_cons (pv 0) (pa_cons pe_int pa_nil))) (fun _ _ => rfl)) pa_nil))))))
      (pss_cons (ps_for PassesOwn.never (by rfl) (pi_list (C8.pe_c G2 hr (by decide) (by rfl) (pa_cons (pv 0) (pa_cons (pe_op op_add pe_int (C8.pe_c G0 hr (by decide) (by rfl) (pa_cons (pv 0) (pa_cons (pv 1) pa_nil)))) (pa_cons (pe_lst pa_nil) pa_nil))))) (pg_name (i := 6) nd rfl (Or.inl rfl))
        (pss_one (ps_expr (pe_bm PySem.F.plainAttrs_list PySem.F.slot_list_append PySem.F.type_list_append mt_append (pe_dget hu (pv 5) pe_str (fun _ _ => rfl)) (pa_cons (C8.pe_c G3 hr (by decide) (by rfl) (pa_cons (pv 0) (pa_cons (pv 5) (pa_cons (pv 6) (pa_cons (pv 2) pa_nil))))) pa_nil)))))
      (pss_one (ps_ret (pv 5)))))), ?_⟩
    refine ⟨_, rfl, S, L, n, 3, rfl, hS, by omega, by decide, by decide, fun r1 H1 a0 a1 hS1 g1 => ?_⟩
    obtain ⟨nf, rfl⟩ := Int.eq_ofNat_of_zero_le a0
    -- piles
    refine ⟨by show 4 ≤ sizeLine; decide, fun l1 hl1 => ?_⟩
    have s1 : Same H1 (upd H1 l1 (.lst [.int 1, .int 2, .int 1, .int 0])) := same_new hl1
    have u1 := hS1.fresh l1 hl1
    refine ⟨_, rfl, S, L, n + 1, 4, rfl, hS1.same s1, by omega, by decide, by decide, fun r2 H2 b0 b1 hS2 g2 => ?_⟩
    obtain ⟨x, hx, hx4⟩ := at4 (a := .int 1) (b := .int 2) (c := .int 1) (d := .int 0) b0 b1
    obtain ⟨np, hxp, hnp⟩ : ∃ np : Nat, x = .int (np : Nat) ∧ np ≤ 2 := by
      rcases hx4 with e | e | e | e
      · exact ⟨1, e, by decide⟩
      · exact ⟨2, e, by decide⟩
      · exact ⟨1, e, by decide⟩
      · exact ⟨0, e, by decide⟩
    subst hxp
    refine ⟨l1, _, r2, _, rfl, rfl, SqL.of (g2.k _ _ u1 upd_same), hx, ?_⟩
    have g02 : Gr (Ust S L) H H2 := (g1.trans (gr_same s1)).trans g2
    -- the lists
    refine ⟨_, rfl, _, rfl, .inl ⟨_, rfl, _, rfl, _, _, rfl, rfl, _, _, rfl, _, rfl, by show 2 ≤ sizeLine; decide, fun l2 hl2 => ?_⟩⟩
    have s2 : Same H2 (upd H2 l2 (.lst [.int 0, .int 1])) := same_new hl2
    have u2 := hS2.fresh l2 hl2
    refine ⟨_, rfl, S, L, n + 2, 2, rfl, hS2.same s2, by omega, by decide, by decide, fun r3 H3 c0 c1 hS3 g3 => ?_⟩
    obtain ⟨y, hy, hy2⟩ := at2 (a := .int 0) (b := .int 1) c0 c1
    obtain ⟨nr, hyr, hnr⟩ : ∃ nr : Nat, y = .int (nr : Nat) ∧ nr ≤ 1 := by
      rcases hy2 with e | e
      · exact ⟨0, e, by decide⟩
      · exact ⟨1, e, by decide⟩
    subst hyr
    refine ⟨l2, _, r3, _, rfl, rfl, SqL.of (g3.k _ _ u2 upd_same), hy, ?_⟩
    have g03 : Gr (Ust S L) H H3 := (g02.trans (gr_same s2)).trans g3
    have emin : (if (3 : Int) - (np : Int) < (nf : Int) then (3 : Int) - (np : Int) else (nf : Int)) = ((min nf (3 - np) : Nat) : Int) := by
      by_cases e : (3 : Int) - (np : Int) < (nf : Int)
      · rw [if_pos e]
        omega
      · rw [if_neg e]
        omega
    have hmin : min nf (3 - np) ≤ 3 - np := Nat.min_le_right _ _
    refine ⟨S, L, n + 3, min nf (3 - np), np, nr, congrArg (fun x => [V.ref S, V.int x, V.int (np : Int), V.int (nr : Int)]) emin, hS3, by omega, by exact Nat.le_trans hmin (Nat.sub_le 3 np), by omega, by omega, fun p a W H4 hW hsz hacts hLw ha ha0 hS4 g4 => ?_⟩
    have g04 := g03.trans g4
    -- how many actions
    refine ⟨_, rfl, _, rfl, _, rfl, S, L, n + 3 + 100, 3, rfl, hS4, by omega, by decide, by decide, fun r4 H5 d0 d1 hS5 g5 => ?_⟩
    obtain ⟨na, rfl⟩ := Int.eq_ofNat_of_zero_le d0
    refine ⟨_, _, rfl, rfl, by show 0 ≤ sizeLine; decide, fun l3 hl3 => ?_⟩
    have s5 : Same H5 (upd H5 l3 (.lst [])) := same_new hl3
    have u3 := hS5.fresh l3 hl3
    have e1 : (1 : Int) + (na : Int) = ((na + 1 : Nat) : Int) := by omega
    refine ⟨S, L, l3, n + 3 + 100 + 1, na + 1, congrArg (fun x => [V.ref S, V.int x, V.ref l3]) e1, hS5.same s5, by omega, by omega, ⟨u3, upd_same⟩, fun q ys H6 hok hnd hyl hq0 hq hS6 g6 => ?_⟩
    have g46 : Gr (Ust S L) H4 H6 := (g5.trans (gr_same s5)).trans g6
    have qa : q ≠ a := fun e => by
      subst e
      have := (g5.trans (gr_same (U := Ust S L) s5)).k _ _ ha.1 ha.2
      rw [this] at hq0
      cases hq0
    exact loop_actions (n := n + 150) (m := 3) (S := S) (L := L) (p := p) (a := a) (q := q) (W := W) (ys := ys) (iw := 5) (j := 6) (tl := fun _ H R => R (.ref q) H) (tm := tVar 2)
      (σ := [some (.ref S), some (.int 3), some (.int 3), some (.int (nf : Int)), some (.int (np : Int)), some (.ref p), none])
      (hS6.mono (by omega)) (by omega) (by decide) (by decide) (hLw.lq (g46.sub fun _ h => h.1).lq) (g46.lq _ _ ha) hW ⟨(hS5.same s5).fresh q hq0, hq⟩ qa hok hnd (by omega) rfl rfl (by decide) (by decide) (by show 6 < 7; decide) (fun R r => r) (fun y H1 R r => ⟨_, rfl, r⟩)
      (fun y al H7 hal hA hS7 g7 => ⟨_, rfl, k p W al H7 hW hsz hacts hal hA (hS7.mono (by omega)) ⟨fun b o hU e => g7.k b o ⟨hU, ne_of_none e (g03.f a ha0)⟩ ((g04.trans g46).k b o hU e), fun b e => (g04.trans g46).f b (g7.f b e)⟩⟩)
end KK


set_option Elab.async false
set_option linter.all false
set_option maxRecDepth 100000
set_option maxHeartbeats 4000000
namespace KK
open PySem PySem.Spec PyProof.Rows L2
variable {P : Program} {w : World} {K : PySem.W.Frag} {mg : Str → Option Value} {base : Heap}
theorem sc_wd : FnScope ["_law_stream", "_law_many", "_law_most", "_law_w", "_law_name_here"] ["_law_stream", "_law_many", "_law_most"] (defScope (top 62)) := ⟨rfl, rfl, rfl, by decide +kernel, rfl, by decide +kernel, by decide +kernel⟩
theorem ok_wide (T : Txt K mg) : C8.Cal P w K mg base 8 "_law_wide" (spWorld 890000 1600) [] := by
  have G0 : C8.Cal P w K mg base 1 "_law_draw" spDraw [] := ok_draw T
  have G1 : C8.Cal P w K mg base 4 "_law_lists" spLists [] := ok_lists T
  have G2 : C8.Cal P w K mg base 3 "_law_names" spNames [] := ok_names T
  have G3 : C8.Cal P w K mg base 6 "_law_action" spAction [] := ok_action T
  have G4 : C8.Cal P w K mg base 7 "_law_world" (spWorld 900000 1500) [] := ok_world T
  refine def_cal T.lWide sc_wd (fun _ _ _ _ _ _ us hl => match us, hl with | [_, _, _], _ => rfl) (fun vs H Q E h => ?_) (fun f cdv A outer s H vs Q E hr h => ?_)
  · obtain ⟨S, L, n, many, most, rfl, _⟩ := h
    rfl
  · obtain ⟨S, L, n, many, most, rfl, hS, hn, rfl, rfl, k⟩ := h
    have nd := sc_wd.nd
    have hu := hu_of hr
    refine ⟨_, pss_cons (ps_if (pt_cmp (pc_gt (C8.pe_c G0 hr (by decide) (by rfl) (pa_cons (pv 0) (pa_cons pe_int pa_nil))) pe_int)) (pss_one (ps_ret (C8.pe_c G4 hr (by decide) (by rfl) (pa_cons (pv 0) (pa_cons (pv 1) (pa_cons (pv 2) pa_nil)))))) pss_nil)
      (pss_cons (ps_set (i := 3) nd rfl (.inl rfl) (C8.pe_c G1 hr (by decide) (by rfl) (pa_cons (pv 0) (pa_cons pe_int (pa_cons pe_int (pa_cons pe_int pa_nil))))))
      (pss_cons (ps_for PassesOwn.never (by rfl) (pi_list (C8.pe_c G2 hr (by decide) (by rfl) (pa_cons (pv 0) (pa_cons (pe_op op_add pe_int (C8.pe_c G0 hr (by decide) (by rfl) (pa_cons (pv 0) (pa_cons pe_int pa_nil)))) (pa_cons (pe_lst pa_nil) pa_nil))))) (pg_name (i := 4) nd rfl (Or.inl rfl))
        (pss_one (ps_expr (pe_bm PySem.F.plainAttrs_list PySem.F.slot_list_append PySem.F.type_list_append mt_append (pe_dget hu (pv 3) pe_str (fun _ _ => rfl)) (pa_cons (C8.pe_c G3 hr (by decide) (by rfl) (pa_cons (pv 0) (pa_cons (pv 3) (pa_cons (pv 4) (pa_cons pe_int pa_nil))))) pa_nil)))))
      (pss_one (ps_ret (pv 3))))), ?_⟩
    refine ⟨_, rfl, S, L, n, 4, rfl, hS, by omega, by decide, by decide, fun r1 H1 a0 a1 hS1 g1 => ?_⟩
    refine ⟨_, _, rfl, rfl, _, rfl, ?_⟩
    by_cases hc : (0 : Int) < r1
    · refine ifT (by exact decide_eq_true hc) ?_
      exact ⟨_, rfl, _, rfl, _, rfl, S, L, n + 1, 3, 3, rfl, hS1, by omega, rfl, rfl, fun p W al H' hW hsz hac hal hA hS' g' => k p W al H' hW hsz hac hal hA (hS'.mono (by omega)) (g1.trans g')⟩
    · refine ifF (by exact decide_eq_false hc) ?_
      refine ⟨_, rfl, S, L, n + 1, 0, 3, 0, rfl, hS1, by omega, by omega, by omega, by omega, fun p a W H4 hW hsz hacts hLw ha ha0 hS4 g4 => ?_⟩
      have g04 := g1.trans g4
      refine ⟨_, rfl, _, rfl, S, L, n + 1 + 100, 2, rfl, hS4, by omega, by decide, by decide, fun r4 H5 d0 d1 hS5 g5 => ?_⟩
      obtain ⟨na, rfl⟩ := Int.eq_ofNat_of_zero_le d0
      refine ⟨_, _, rfl, rfl, by show 0 ≤ sizeLine; decide, fun l3 hl3 => ?_⟩
      have s5 : Same H5 (upd H5 l3 (.lst [])) := same_new hl3
      have u3 := hS5.fresh l3 hl3
      have e1 : (1 : Int) + (na : Int) = ((na + 1 : Nat) : Int) := by omega
      refine ⟨S, L, l3, n + 1 + 100 + 1, na + 1, congrArg (fun x => [V.ref S, V.int x, V.ref l3]) e1, hS5.same s5, by omega, by omega, ⟨u3, upd_same⟩, fun q ys H6 hok hnd hyl hq0 hq hS6 g6 => ?_⟩
      have g46 : Gr (Ust S L) H4 H6 := (g5.trans (gr_same s5)).trans g6
      have qa : q ≠ a := fun e => by
        subst e
        have := (g5.trans (gr_same (U := Ust S L) s5)).k _ _ ha.1 ha.2
        rw [this] at hq0
        cases hq0
      exact loop_actions (n := n + 150) (m := 2) (S := S) (L := L) (p := p) (a := a) (q := q) (W := W) (ys := ys) (iw := 3) (j := 4) (tl := fun _ H R => R (.ref q) H) (tm := tC (.int 2))
        (σ := [some (.ref S), some (.int 3), some (.int 3), some (.ref p), none])
        (hS6.mono (by omega)) (by omega) (by decide) (by decide) (hLw.lq (g46.sub fun _ h => h.1).lq) (g46.lq _ _ ha) hW ⟨(hS5.same s5).fresh q hq0, hq⟩ qa hok hnd (by omega) rfl rfl (by decide) (by decide) (by show 4 < 5; decide) (fun R r => r) (fun y H1 R r => r)
        (fun y al H7 hal hA hS7 g7 => ⟨_, rfl, k p W al H7 hW hsz hacts hal hA (hS7.mono (by omega)) ⟨fun b o hU e => g7.k b o ⟨hU, ne_of_none e (g1.f a ha0)⟩ ((g04.trans g46).k b o hU e), fun b e => (g04.trans g46).f b (g7.f b e)⟩⟩)
end KK


set_option Elab.async false
set_option linter.all false
set_option maxRecDepth 100000
set_option maxHeartbeats 4000000
namespace KK
open PySem PySem.Spec PyProof.Rows L2
variable {P : Program} {w : World} {K : PySem.W.Frag} {mg : Str → Option Value} {base : Heap}
/-! ### _law_built -/
def spBuilt (C : Addr) (n : Nat) : Sp := fun vs H Q _ => ∃ (U : Addr → Prop) (t : Tree) (v : V), vs = [v] ∧ TrAt U H t v ∧ t.depth ≤ n ∧ (∀ z ∈ t.names, NameOk z) ∧ Fresh U H ∧ spNewCond C U t H Q
theorem sc_bu : FnScope ["_law_tree"] ["_law_tree"] (defScope (top 55)) := ⟨rfl, rfl, rfl, by decide +kernel, rfl, by decide +kernel, by decide +kernel⟩
theorem ok_built (T : Txt K mg) : ∀ n, C8.Cal P w K mg base (n + 4) "_law_built" (spBuilt T.cC n) []
  | 0 => by
    refine def_cal (k := 3) (N := ["_law_tree"]) T.lBuilt sc_bu (fun _ _ _ _ _ _ us hl => match us, hl with | [_], _ => rfl) (fun vs H Q E h => ?_) (fun f cdv A outer s H vs Q E hr h => ?_)
    · obtain ⟨U, t, v, rfl, _⟩ := h
      rfl
    · obtain ⟨U, t, v, rfl, _, hd, _⟩ := h
      exact absurd hd (by have := t.depth_pos; omega)
  | n + 1 => by
    have G := ok_built T n
    have G1 : SMet P w K mg base 3 T.cC "of" (spOf T.cC) := ok_of T
    have G2 : SMet P w K mg base 3 T.cC "always" (spConst T.cC .always) := ok_always T
    have G3 : SMet P w K mg base 3 T.cC "never" (spConst T.cC .never) := ok_never T
    have G4 : Own P w K mg base 3 T.cC "__and__" (spCond2 T.cC .and) := ok_and T
    have G5 : Own P w K mg base 3 T.cC "__or__" (spCond2 T.cC .or) := ok_or T
    have G6 : Own P w K mg base 3 T.cC "__invert__" (spCond1 T.cC) := ok_inv T
    refine def_cal (k := n + 4) (N := ["_law_tree"]) T.lBuilt sc_bu (fun _ _ _ _ _ _ us hl => match us, hl with | [_], _ => rfl) (fun vs H Q E h => ?_) (fun f cdv A outer s H vs Q E hr h => ?_)
    · obtain ⟨U, t, v, rfl, _⟩ := h
      rfl
    · obtain ⟨U, t, v, rfl, ht, hd, hz, hf, k⟩ := h
      refine ⟨_, pss_cons (ps_if (pt_cmpR op_eq (pe_ix ix_tup (pv 0) pe_int (fun _ _ => rfl)) pe_str (nomark _)) (pss_one (ps_ret (pe_smeth G1 hr (by omega) (pe_glob (by rfl) T.C.mgC (rr _)) (pa_cons (pe_ix ix_tup (pv 0) pe_int (fun _ _ => rfl)) pa_nil)))) pss_nil)
        (pss_cons (ps_if (pt_cmpR op_eq (pe_ix ix_tup (pv 0) pe_int (fun _ _ => rfl)) pe_str (nomark _)) (pss_one (ps_ret (pe_un (un_invO G6 hr (by omega)) (C8.pe_c G hr (Nat.le_refl _) (by rfl) (pa_cons (pe_ix ix_tup (pv 0) pe_int (fun _ _ => rfl)) pa_nil))))) pss_nil)
        (pss_cons (ps_if (pt_cmpR op_eq (pe_ix ix_tup (pv 0) pe_int (fun _ _ => rfl)) pe_str (nomark _)) (pss_one (ps_ret (pe_op (op_binO (by rfl) G4 hr (by omega) T.selfC) (C8.pe_c G hr (Nat.le_refl _) (by rfl) (pa_cons (pe_ix ix_tup (pv 0) pe_int (fun _ _ => rfl)) pa_nil)) (C8.pe_c G hr (Nat.le_refl _) (by rfl) (pa_cons (pe_ix ix_tup (pv 0) pe_int (fun _ _ => rfl)) pa_nil))))) pss_nil)
        (pss_cons (ps_if (pt_cmpR op_eq (pe_ix ix_tup (pv 0) pe_int (fun _ _ => rfl)) pe_str (nomark _)) (pss_one (ps_ret (pe_op (op_binO (by rfl) G5 hr (by omega) T.selfC) (C8.pe_c G hr (Nat.le_refl _) (by rfl) (pa_cons (pe_ix ix_tup (pv 0) pe_int (fun _ _ => rfl)) pa_nil)) (C8.pe_c G hr (Nat.le_refl _) (by rfl) (pa_cons (pe_ix ix_tup (pv 0) pe_int (fun _ _ => rfl)) pa_nil))))) pss_nil)
        (pss_one (ps_ret (pe_ifExp (pt_cmpR op_eq (pe_ix ix_tup (pv 0) pe_int (fun _ _ => rfl)) pe_str (nomark _)) (pe_smeth0 G2 hr (by omega) (pe_glob (by rfl) T.C.mgC (rr _))) (pe_smeth0 G3 hr (by omega) (pe_glob (by rfl) T.C.mgC (rr _))))))))), ?_⟩
      cases t with
      | is z =>
        obtain ⟨p, rfl, hp⟩ := ht
        refine ⟨_, rfl, p, _, 0, _, rfl, rfl, SqT.of hp.2, atI_nat (j := 0) rfl, rfl, _, rfl, dT rfl ?_⟩
        refine ⟨rfl, _, rfl, p, _, 1, _, rfl, rfl, SqT.of hp.2, atI_nat (j := 1) rfl, U, z, rfl, hz z List.mem_cons_self, hf, k⟩
      | always =>
        obtain ⟨p, rfl, hp⟩ := ht
        refine ⟨_, rfl, p, _, 0, _, rfl, rfl, SqT.of hp.2, atI_nat (j := 0) rfl, rfl, _, rfl, dF (by decide +kernel) ?_⟩
        refine ⟨_, rfl, p, _, 0, _, rfl, rfl, SqT.of hp.2, atI_nat (j := 0) rfl, rfl, _, rfl, dF (by decide +kernel) ?_⟩
        refine ⟨_, rfl, p, _, 0, _, rfl, rfl, SqT.of hp.2, atI_nat (j := 0) rfl, rfl, _, rfl, dF (by decide +kernel) ?_⟩
        refine ⟨_, rfl, p, _, 0, _, rfl, rfl, SqT.of hp.2, atI_nat (j := 0) rfl, rfl, _, rfl, dF (by decide +kernel) ?_⟩
        refine ⟨_, rfl, p, _, 0, _, rfl, rfl, SqT.of hp.2, atI_nat (j := 0) rfl, rfl, _, rfl, dT rfl ?_⟩
        exact ⟨rfl, U, rfl, hf, k⟩
      | never =>
        obtain ⟨p, rfl, hp⟩ := ht
        refine ⟨_, rfl, p, _, 0, _, rfl, rfl, SqT.of hp.2, atI_nat (j := 0) rfl, rfl, _, rfl, dF (by decide +kernel) ?_⟩
        refine ⟨_, rfl, p, _, 0, _, rfl, rfl, SqT.of hp.2, atI_nat (j := 0) rfl, rfl, _, rfl, dF (by decide +kernel) ?_⟩
        refine ⟨_, rfl, p, _, 0, _, rfl, rfl, SqT.of hp.2, atI_nat (j := 0) rfl, rfl, _, rfl, dF (by decide +kernel) ?_⟩
        refine ⟨_, rfl, p, _, 0, _, rfl, rfl, SqT.of hp.2, atI_nat (j := 0) rfl, rfl, _, rfl, dF (by decide +kernel) ?_⟩
        refine ⟨_, rfl, p, _, 0, _, rfl, rfl, SqT.of hp.2, atI_nat (j := 0) rfl, rfl, _, rfl, dF (by decide +kernel) ?_⟩
        exact ⟨rfl, U, rfl, hf, k⟩
      | not t =>
        obtain ⟨p, x, rfl, hp, hx⟩ := ht
        have hd' : t.depth ≤ n := Nat.le_of_succ_le_succ hd
        refine ⟨_, rfl, p, _, 0, _, rfl, rfl, SqT.of hp.2, atI_nat (j := 0) rfl, rfl, _, rfl, dF (by decide +kernel) ?_⟩
        refine ⟨_, rfl, p, _, 0, _, rfl, rfl, SqT.of hp.2, atI_nat (j := 0) rfl, rfl, _, rfl, dT rfl ?_⟩
        refine ⟨_, rfl, p, _, 1, _, rfl, rfl, SqT.of hp.2, atI_nat (j := 1) rfl, U, t, x, rfl, hx, hd', hz, hf, fun q H1 s1 n1 c1 => ?_⟩
        obtain ⟨dy, u, c2, c3⟩ := id c1
        exact ⟨q, dy, _, rfl, c2.2, U, q, t, rfl, c1, hf.same s1, fun q2 H2 s2 n2 c => k q2 H2 (s1.trans s2) (s1.free n2) c⟩
      | and a b =>
        obtain ⟨p, x, y, rfl, hp, hx, hy⟩ := ht
        have hd' : max a.depth b.depth ≤ n := Nat.le_of_succ_le_succ hd
        have ha : a.depth ≤ n := by omega
        have hb : b.depth ≤ n := by omega
        refine ⟨_, rfl, p, _, 0, _, rfl, rfl, SqT.of hp.2, atI_nat (j := 0) rfl, rfl, _, rfl, dF (by decide +kernel) ?_⟩
        refine ⟨_, rfl, p, _, 0, _, rfl, rfl, SqT.of hp.2, atI_nat (j := 0) rfl, rfl, _, rfl, dF (by decide +kernel) ?_⟩
        refine ⟨_, rfl, p, _, 0, _, rfl, rfl, SqT.of hp.2, atI_nat (j := 0) rfl, rfl, _, rfl, dT rfl ?_⟩
        refine ⟨_, rfl, p, _, 1, _, rfl, rfl, SqT.of hp.2, atI_nat (j := 1) rfl, U, a, x, rfl, hx, ha, fun z m => hz z (List.mem_append_left _ m), hf, fun q H1 s1 n1 c1 => ?_⟩
        refine ⟨_, rfl, p, _, 2, _, rfl, rfl, SqT.of (s1 _ _ hp.2), atI_nat (j := 2) rfl, U, b, y, rfl, hy.lq (lq_same s1), hb, fun z m => hz z (List.mem_append_right _ m), hf.same s1, fun q2 H2 s2 n2 c2 => ?_⟩
        have c1' := c1.lq (lq_same s2)
        obtain ⟨dy, u, e1, _⟩ := id c1'
        obtain ⟨dz, v, e2, _⟩ := id c2
        exact ⟨q, dy, _, q2, dz, _, rfl, e1.2, rfl, e2.2, U, q, q2, a, b, rfl, c1', c2, (hf.same s1).same s2, fun q3 H3 s3 n3 c => ⟨q3, rfl, k q3 H3 ((s1.trans s2).trans s3) ((s1.trans s2).free n3) c⟩⟩
      | or a b =>
        obtain ⟨p, x, y, rfl, hp, hx, hy⟩ := ht
        have hd' : max a.depth b.depth ≤ n := Nat.le_of_succ_le_succ hd
        have ha : a.depth ≤ n := by omega
        have hb : b.depth ≤ n := by omega
        refine ⟨_, rfl, p, _, 0, _, rfl, rfl, SqT.of hp.2, atI_nat (j := 0) rfl, rfl, _, rfl, dF (by decide +kernel) ?_⟩
        refine ⟨_, rfl, p, _, 0, _, rfl, rfl, SqT.of hp.2, atI_nat (j := 0) rfl, rfl, _, rfl, dF (by decide +kernel) ?_⟩
        refine ⟨_, rfl, p, _, 0, _, rfl, rfl, SqT.of hp.2, atI_nat (j := 0) rfl, rfl, _, rfl, dF (by decide +kernel) ?_⟩
        refine ⟨_, rfl, p, _, 0, _, rfl, rfl, SqT.of hp.2, atI_nat (j := 0) rfl, rfl, _, rfl, dT rfl ?_⟩
        refine ⟨_, rfl, p, _, 1, _, rfl, rfl, SqT.of hp.2, atI_nat (j := 1) rfl, U, a, x, rfl, hx, ha, fun z m => hz z (List.mem_append_left _ m), hf, fun q H1 s1 n1 c1 => ?_⟩
        refine ⟨_, rfl, p, _, 2, _, rfl, rfl, SqT.of (s1 _ _ hp.2), atI_nat (j := 2) rfl, U, b, y, rfl, hy.lq (lq_same s1), hb, fun z m => hz z (List.mem_append_right _ m), hf.same s1, fun q2 H2 s2 n2 c2 => ?_⟩
        have c1' := c1.lq (lq_same s2)
        obtain ⟨dy, u, e1, _⟩ := id c1'
        obtain ⟨dz, v, e2, _⟩ := id c2
        exact ⟨q, dy, _, q2, dz, _, rfl, e1.2, rfl, e2.2, U, q, q2, a, b, rfl, c1', c2, (hf.same s1).same s2, fun q3 H3 s3 n3 c => ⟨q3, rfl, k q3 H3 ((s1.trans s2).trans s3) ((s1.trans s2).free n3) c⟩⟩
end KK


set_option Elab.async false
set_option linter.all false
set_option maxRecDepth 100000
set_option maxHeartbeats 4000000
namespace KK
open PySem PySem.Spec PyProof.Rows L2
variable {P : Program} {w : World} {K : PySem.W.Frag} {mg : Str → Option Value} {base : Heap}
/-! ### _law_made -/
def Wd.putAll : Wd → List (Str × Act) → Wd
  | W, [] => W
  | W, x :: al => Wd.putAll (W.put x.1 x.2) al
theorem putAll_snoc : ∀ (al : List (Str × Act)) (W : Wd) (x : Str × Act), W.putAll (al ++ [x]) = (W.putAll al).put x.1 x.2
  | [], _, _ => rfl
  | y :: al, W, x => putAll_snoc al (W.put y.1 y.2) x
theorem putAll_facts : ∀ (al : List (Str × Act)) (W : Wd), (W.putAll al).facts = W.facts ∧ (W.putAll al).piles = W.piles ∧ (W.putAll al).reserves = W.reserves ∧ (W.putAll al).sz = W.sz + al.length
  | [], _ => ⟨rfl, rfl, rfl, rfl⟩
  | y :: al, W => by
    obtain ⟨a, b, c, d⟩ := putAll_facts al (W.put y.1 y.2)
    refine ⟨a, b, c, d.trans ?_⟩
    show W.sz + 1 + al.length = W.sz + (al.length + 1)
    omega
theorem putAll_acts : ∀ (al : List (Str × Act)) (W : Wd) (z : Str) (a : Act), (W.putAll al).acts z = some a → (z, a) ∈ al ∨ W.acts z = some a
  | [], _, _, _, h => .inr h
  | y :: al, W, z, a, h => by
    rcases putAll_acts al (W.put y.1 y.2) z a h with q | q
    · exact .inl (List.mem_cons_of_mem _ q)
    · have q' : (if z = y.1 then some y.2 else W.acts z) = some a := q
      by_cases e : z = y.1
      · rw [if_pos e] at q'
        cases q'
        exact .inl (by rw [e]; exact List.mem_cons_self)
      · rw [if_neg e] at q'
        exact .inr q'
theorem putAll_keep : ∀ (al : List (Str × Act)) (W : Wd) (z : Str), z ∉ al.map (·.1) → (W.putAll al).acts z = W.acts z
  | [], _, _, _ => rfl
  | y :: al, W, z, h => by
    have h' : z ≠ y.1 ∧ z ∉ al.map (·.1) := ⟨fun e => h (by rw [e]; exact List.mem_cons_self), fun e => h (List.mem_cons_of_mem _ e)⟩
    refine (putAll_keep al (W.put y.1 y.2) z h'.2).trans ?_
    show (if z = y.1 then some y.2 else W.acts z) = W.acts z
    rw [if_neg h'.1]
theorem putAll_mem : ∀ (al : List (Str × Act)) (W : Wd), (al.map (·.1)).Nodup → ∀ x ∈ al, (W.putAll al).acts x.1 = some x.2
  | y :: al, W, nd, x, h => by
    have nd' := List.nodup_cons.mp nd
    cases h with
    | head => 
      refine (putAll_keep al (W.put y.1 y.2) y.1 nd'.1).trans ?_
      show (if y.1 = y.1 then some y.2 else W.acts y.1) = some y.2
      rw [if_pos rfl]
    | tail _ h => exact putAll_mem al (W.put y.1 y.2) nd'.2 x h
theorem ListsOk.cong {W W' : Wd} (h : ListsOk W) (a : W'.facts = W.facts) (b : W'.piles = W.piles) (c : W'.reserves = W.reserves) (d : W'.sz ≤ 40) : ListsOk W' := by
  obtain ⟨f, p, r, ac, sz⟩ := W'
  dsimp only at a b c d
  subst a; subst b; subst c
  exact ⟨h.nf, h.np, h.nr, h.nd, h.lf, h.lp, h.lr, d⟩
theorem ActW.cong {W W' : Wd} {x : Act} (h : ActW W x) (a : W'.facts = W.facts) (b : W'.piles = W.piles) (c : W'.reserves = W.reserves) : ActW W' x := by
  obtain ⟨f, p, r, ac, sz⟩ := W'
  dsimp only at a b c
  subst a; subst b; subst c
  exact ⟨h.ok, h.nm, h.ch⟩
theorem AlOk.wd {W : Wd} {al : List (Str × Act)} (h : AlOk W al) (hW : ListsOk W) (hs : W.sz = 0) (ha : ∀ z, W.acts z = none) : WdOk (W.putAll al) := by
  obtain ⟨e1, e2, e3, e4⟩ := putAll_facts al W
  refine ⟨hW.cong e1 e2 e3 (by have := h.ln; omega), fun z a q => ?_⟩
  rcases putAll_acts al W z a q with m | m
  · exact ⟨(h.ok _ m).nm, (h.ok _ m).aw.cong e1 e2 e3⟩
  · rw [ha] at m
    cases m
def spMade (T : Txt K mg) : Sp := fun vs H Q _ => ∃ (U : Addr → Prop) (p : Addr) (W : Wd) (al : List (Str × Act)), vs = [.ref p] ∧ LwA U H p W al ∧ ListsOk W ∧ W.sz = 0 ∧ (∀ z, W.acts z = none) ∧ AlOk W al ∧ Fresh U H ∧
  ∀ (q d : Addr) (H' : Hp), Same H H' → H q = none → WoX T true U H' q d (W.putAll al) → Q (.ref q) H'
theorem sc_md : FnScope ["_law_w", "_law_world_here", "_law_name_here", "_law_need", "_law_outcomes", "_law_changes_here"] ["_law_w"] (defScope (top 63)) := ⟨rfl, rfl, rfl, by decide +kernel, rfl, by decide +kernel, by decide +kernel⟩
theorem ok_made (T : Txt K mg) : C8.Cal P w K mg base 12 "_law_made" (spMade T) [] := by
  have G1 : C8.Mak P w K mg base 4 "World" T.cW (spWorldInit K T.cW) [.non] := ok_worldInit4 T
  have G2 : C8.Mak P w K mg base 7 "Action" T.cA (spActInit T) [] := ok_actInit T
  have G3 : C8.Mak P w K mg base 4 "Outcome" T.cO (spOutInit T.cO) [] := ok_outInit T
  have G4 : C8.Cal P w K mg base 10 "_law_built" (spBuilt T.cC 6) [] := ok_built T 6
  have G5 : Own P w K mg base 10 T.cW "__setitem__" (spWSet T) := ok_wSet T
  refine def_cal T.lMade sc_md (fun _ _ _ _ _ _ us hl => match us, hl with | [_], _ => rfl) (fun vs H Q E h => ?_) (fun f cdv A outer s H vs Q E hr h => ?_)
  · obtain ⟨U, p, W, al, rfl, _⟩ := h
    rfl
  · obtain ⟨U, p, W, al, rfl, ⟨a, ps, hLw, ha, hal⟩, hW, hsz, hacts, hok, hf, k⟩ := h
    have nd := sc_md.nd
    have hu := hu_of hr
    have hs := sizeLine_eq
    refine ⟨_, pss_cons (ps_set (i := 1) nd rfl (.inl rfl) (C8.pe_mk G1 hr (by decide) (by rfl) (pa_cons (pe_dget hu (pv 0) pe_str (fun _ _ => rfl)) (pa_cons (pe_callTy call_tuple_of (by rfl) (T.blt _ (by decide)) (by decide +kernel) (pa_cons (pe_dget hu (pv 0) pe_str (fun _ _ => rfl)) pa_nil)) (pa_cons (pe_dget hu (pv 0) pe_str (fun _ _ => rfl)) pa_nil)))))
      (pss_cons (ps_for PassesOwn.never (by rfl) (pi_list (pe_dget hu (pv 0) pe_str (fun _ _ => rfl))) (pg_unl (by rfl) (pgs_cons (pg_name (i := 2) nd rfl (Or.inl rfl)) (pgs_cons (pg_name (i := 3) nd rfl (Or.inl rfl)) (pgs_cons (pg_name (i := 4) nd rfl (Or.inl rfl)) pgs_nil))))
        (pss_one (ps_asg (C8.pe_mk G2 hr (by decide) (by rfl) (pa_cons (C8.pe_c G4 hr (by decide) (by rfl) (pa_cons (pv 3) pa_nil)) (pa_cons
            (pe_lc (own := [("_law_changes_here", 5)]) (g := gName 5) (by rfl) nd (pi_list (pv 4)) (blkOk_by (own := [("_law_changes_here", 5)]) (N := ["_law_w", "_law_world_here", "_law_name_here", "_law_need", "_law_outcomes", "_law_changes_here"]) (sc := defScope (top 63)) (by decide +kernel))
              (fun _ _ _ _ _ => pg_name (i := 5) nd rfl (Or.inl rfl)) (fun _ _ _ _ _ => pts_nil)
              (fun _ _ _ _ _ => C8.pe_mk G3 hr (by decide) (by rfl) (pa_cons (pe_callTy call_dictD (by rfl) (T.blt _ (by decide)) (by decide +kernel) (pa_cons (pv 5) pa_nil)) pa_nil))) pa_nil)))
          (pg_sub (pv 1) (pv 2) (set_own G5 hr (by decide) T.seqW)))))
      (pss_one (ps_ret (pv 1)))), ?_⟩
    obtain ⟨pf, pi, pr, ⟨kvw, w1, w2, w3, w4, w5⟩, hpf, hpi, hpr⟩ := id hLw
    refine ⟨_, rfl, p, _, rfl, dget_rd (.inl w1.2) w2, _, rfl, p, _, rfl, dget_rd (.inl w1.2) w3, pi, _, rfl, .inl ⟨SqL.of hpi.2, fun l1 hl1 => ?_⟩⟩
    have s1 : Same H (upd H l1 (.tup (W.piles.map V.str))) := same_new hl1
    have t1 : (upd H l1 (.tup (W.piles.map V.str))) l1 = some (.tup (W.piles.map V.str)) := upd_same
    generalize upd H l1 (.tup (W.piles.map V.str)) = H1 at s1 t1 ⊢
    refine ⟨_, rfl, p, _, rfl, dget_rd (.inl (s1 _ _ w1.2)) w4, ?_⟩
    intro x dx nx ndx ne
    have keep : ∀ {b o}, H1 b = some o → (upd (upd H1 dx (.own x)) x (.ins T.cW dx [])) b = some o := fun {b o} e => by
      rw [upd_ne (ne_of_none e nx), upd_ne (ne_of_none e ndx)]
      exact e
    refine ⟨W, x, dx, pf, l1, pr, .non, [], rfl, upd_same, .inl (SqL.of (keep (s1 _ _ hpf.2))), .inr (SqT.of (keep t1)), .inl (SqL.of (keep (s1 _ _ hpr.2))), hW, .inl ⟨rfl, rfl⟩, fun f' i' r' d kt H2 ho nf ni nr n4 g1 g2 g3 g4 g5 g6 g7 => ⟨rfl, ?_⟩⟩
    obtain ⟨s2, n5, wo⟩ := world_made (T := T) (V := U) (W := W) (hf.same s1) nx ndx ⟨fun k v e => (by have e' : (none : Option V) = some v := e; cases e'), fun z b e => by rw [hacts] at e; cases e⟩ (fun _ h => h) ho nf ni nr n4 g1 g2 g3 g4 g5 g6 (by rw [hsz]; exact g7)
    have s02 := s1.trans s2
    have hd0 : H d = none := s1.free n5
    have hd2 : H2 d ≠ none := by rw [g5]; exact fun z => nomatch z
    have lq0 : Lq U H (Wo U d) H2 := fun b o e => ⟨⟨e.1, ne_of_none e.2 hd0⟩, s02 _ _ e.2⟩
    -- the actions
    refine ⟨_, rfl, p, _, rfl, dget_rd (.inl (s02 _ _ w1.2)) w5, a, rfl, ⟨_, SqL.of (s02 _ _ ha.2)⟩, for_it (wk_list (zs := ps) (inj := V.ref)) (fun i σ H3 => (∃ y1 y2 y3, σ = [some (.ref p), some (.ref x), y1, y2, y3, none]) ∧ Off d H2 H3 ∧ WoX T true U H3 x d (W.putAll (al.take i)))
      ⟨⟨none, none, none, rfl⟩, fun _ _ _ e => e, wo⟩ (fun i σ H3 _ ⟨_, o3, _⟩ => SqL.of (o3 _ _ (ne_of_none ha.2 hd0) (s02 _ _ ha.2))) ?_ ?_⟩
    · rintro i y σ H3 H3' hi ⟨⟨y1, y2, y3, rfl⟩, o3, wo3⟩ ⟨rfl, q, hq, rfl⟩
      have lq3 : Lq U H (Wo U d) H3' := lq0.trans (lq_off o3)
      have hilt : i < al.length := by rw [← Paired.length hal]; exact (List.getElem?_eq_some_iff.mp hq).1
      have hal? : al[i]? = some al[i] := List.getElem?_eq_getElem hilt
      obtain ⟨q', eq', hA⟩ := paired_ix hal hal?
      rw [hq] at eq'
      cases eq'
      have hxm : al[i] ∈ al := List.getElem_mem _
      have etk : al.take (i + 1) = al.take i ++ [al[i]] := by rw [List.take_add_one, hal?]; rfl
      generalize al[i] = xa at hA hxm etk
      obtain ⟨zn, act⟩ := xa
      have hx := hok.ok _ hxm
      obtain ⟨v, l, qs, b1, b2, b3, b4⟩ := id (hA.lq lq3)
      dsimp only at b1 b2 b4
      obtain ⟨dw, pf2, pi2, pr2, kvs3, v1, v2, v3, v4, v5, v6, v7, v8⟩ := id wo3
      have hd3 : H3' d = some (.dK kvs3) := v6.elim id fun z => nomatch z.1
      have hfU : Fresh U H3' := fun b hb => hf b (by
        cases e : H b with
        | none => rfl
        | some o =>
          rw [o3 b o (ne_of_none e hd0) (s02 _ _ e)] at hb
          cases hb)
      have hf3 : Fresh (Wo U d) H3' := fresh_wo hfU (some_ne hd3)
      obtain ⟨zs, ez1, ez2, hzs⟩ := paired_zip b4
      have eq1 : qs.map V.ref = zs.map fun z => V.ref z.1 := by
        rw [← ez1, List.map_map]
        rfl
      rw [eq1] at b3
      have zl : zs.length = act.outs.length := by rw [← ez2, List.length_map]
      have haok := hx.aw.ok
      refine ⟨q, _, rfl, SqL.of b1.2, rfl, _, _, rfl, _, _, rfl, _, _, rfl, rfl, ?_⟩
      refine ⟨_, rfl, Wo U d, act.need, v, rfl, b2, Nat.le_trans haok.dp (by decide), fun z hz => (hx.aw.nm z hz).elim (hW.nf z) (hW.np z), hf3, fun c H4 s4 nc hc => ?_⟩
      refine ⟨_, rfl, l, rfl, ⟨_, SqL.of (s4 _ _ b3.2)⟩, fun D hD => ?_⟩
      have hf4 := hf3.same s4
      refine lc_allE (wk_list (zs := zs) (inj := fun z => V.ref z.1)) (fun z y H5 => ∃ q, y = .ref q ∧ OutAt T.cO (Wo (Wo U d) D) H5 q z.2) hD (by have := hx.ln; have e : act.outs.length ≤ 3 := this; omega) (fun _ => rfl) (fun H5 s5 => SqL.of (s5 _ _ (s4 _ _ b3.2)))
        (fun z y Ha Hb ho ⟨q, e, h⟩ => ⟨q, e, h.lq (lq_off ho)⟩) (fun z hm H5 s5 hD5 R hR => ?_) fun H5 ys s5 hD5 r => ?_
      · obtain ⟨kvs, d1, d2, d3⟩ := hzs z hm
        have hzm : z.2 ∈ act.outs := by rw [← ez2]; exact List.mem_map.mpr ⟨z, hm, rfl⟩
        refine ⟨_, rfl, z.1, kvs, rfl, .inl (s5 _ _ (s4 _ _ d1.2)), fun c1 hc1 => ?_⟩
        have s6 : Same H5 (upd H5 c1 (.dK kvs)) := same_new hc1
        have t6 : (upd H5 c1 (.dK kvs)) c1 = some (.dK kvs) := upd_same
        generalize upd H5 c1 (.dK kvs) = H6 at s6 t6 ⊢
        intro x2 dx2 nx2 nd2 ne2
        have hf6 : Fresh (Wo (Wo U d) D) H6 := (fresh_wo (hf4.same s5) hD5).same s6
        have hc6 : (upd (upd H6 dx2 (.own x2)) x2 (.ins T.cO dx2 [])) c1 = some (.dK kvs) := by
          rw [upd_ne (ne_of_none t6 nx2), upd_ne (ne_of_none t6 nd2)]
          exact t6
        refine ⟨x2, dx2, c1, kvs, rfl, upd_same, hc6, (by intro k' v' e; rw [d2] at e; exact haok.ok _ hzm k' v' e), by omega, fun d2' kt' H7 hoff hd2' hx2 ht2 hv2 hl2 => ⟨rfl, ?_⟩⟩
        obtain ⟨s7, o7⟩ := out_made (f := z.2) hf6 nx2 nd2 hoff hd2' hx2 ht2 (fun k' => by rw [hv2 k', d2 k']) (by omega)
        exact hR _ H7 (s6.trans s7) ⟨x2, rfl, o7⟩
      · obtain ⟨qs', eqs, hp2⟩ := paired_refs (g := fun z : Addr × (Key → Option V) => z.2) r
        rw [ez2] at hp2
        intro x2 dx2 nx2 nd2 ne2
        have hfr : Fresh (Wo U d) H5 := hf4.same s5
        have lqm : Lq (Wo U d) H5 (Wo (Wo U d) x2) (upd (upd H5 dx2 (.own x2)) x2 (.ins T.cA dx2 [])) := lq_made nx2 nd2
        have hD6 : (upd (upd H5 dx2 (.own x2)) x2 (.ins T.cA dx2 [])) D = some (.lst (qs'.map V.ref)) := by
          rw [upd_ne (ne_of_none hD5 nx2), upd_ne (ne_of_none hD5 nd2), hD5, eqs]
        refine ⟨Wo (Wo U d) x2, x2, dx2, D, .ref c, qs', act.outs, rfl, upd_same, fun h => h.2 rfl, fresh_made hfr, SqL.of hD6, paired_mono hp2 fun q f o => (o.lq lq_wo).lq lqm, haok.ne, haok.ln, haok.ok, fun l' qs2 H6 hoff hl' h3x h3l h3p => ⟨rfl, ?_⟩⟩
        obtain ⟨s6, hA6⟩ := act_made (a := act) hfr nx2 nd2 (hc.lq (lq_same s5)) hoff hl' h3x h3l h3p
        have s36 := (s4.trans s5).trans s6
        have wo6 := wo3.lq (lq_same (U := U) s36)
        obtain ⟨e1, e2, e3, e4⟩ := putAll_facts (al.take i) W
        obtain ⟨fr, hfr2, hnr⟩ := hx.fr
        refine ⟨_, rfl, _, rfl, x, dw, _, rfl, s36 _ _ v1.2, U, x, d, x2, _, zn, act, rfl, wo6, hW.cong e1 e2 e3 (by rw [e4, hsz, List.length_take]; have := hok.ln; omega), hx.nm, hA6, hx.aw.cong e1 e2 e3, ⟨fr, hfr2, ?_⟩, hfU.same s36, fun H7 o7 wo7 => ⟨⟨_, _, _, rfl⟩, (o3.trans (off_same s36)).trans o7, ?_⟩⟩
        · refine noRes_take fun z hz => hnr z ?_
          rwa [e3] at hz
        · rw [etk, putAll_snoc]
          exact wo7
    · rintro σ H3 ⟨⟨y1, y2, y3, rfl⟩, o3, wo3⟩
      have el : ps.length = al.length := Paired.length hal
      rw [el, List.take_length] at wo3
      exact ⟨_, rfl, k x d H3 (fun b o e => o3 b o (ne_of_none e hd0) (s02 _ _ e)) (s1.free nx) wo3⟩
end KK


set_option Elab.async false
set_option linter.all false
set_option maxRecDepth 100000
set_option maxHeartbeats 4000000
namespace KK
open PySem PySem.Spec PyProof.Rows L2
variable {P : Program} {w : World} {K : PySem.W.Frag} {mg : Str → Option Value} {base : Heap}
/-! ### _law_named -/
theorem key_uniq {al : List (Str × Act)} (nd : (al.map (·.1)).Nodup) {x y : Str × Act} (hx : x ∈ al) (hy : y ∈ al) (e : x.1 = y.1) : x = y := by
  have h1 := putAll_mem al ⟨[], [], [], fun _ => none, 0⟩ nd x hx
  have h2 := putAll_mem al ⟨[], [], [], fun _ => none, 0⟩ nd y hy
  rw [e, h2] at h1
  exact Prod.ext e (Option.some.inj h1).symm
def spNamed : Sp := fun vs H Q _ => ∃ (U : Addr → Prop) (p : Addr) (W : Wd) (al : List (Str × Act)) (z : Str) (a : Act), vs = [.ref p, .str z] ∧ LwA U H p W al ∧ AlOk W al ∧ (z, a) ∈ al ∧
  ∀ (q : Addr) (H' : Hp), Same H H' → LActAt U H' q (z, a) → Q (.ref q) H'
theorem sc_nd : FnScope ["_law_w", "_law_name_here", "_law_some_here", "_law_action_here"] ["_law_w", "_law_name_here"] (defScope (top 64)) := ⟨rfl, rfl, rfl, by decide +kernel, rfl, by decide +kernel, by decide +kernel⟩
theorem ok_named (T : Txt K mg) : C8.Cal P w K mg base 1 "_law_named" spNamed [] := by
  refine def_cal (k := 0) T.lNamed sc_nd (fun _ _ _ _ _ _ us hl => match us, hl with | [_, _], _ => rfl) (fun vs H Q E h => ?_) (fun f cdv A outer s H vs Q E hr h => ?_)
  · obtain ⟨U, p, W, al, z, a, rfl, _⟩ := h
    rfl
  · obtain ⟨U, p, W, al, z, a, rfl, ⟨la, ps, hLw, hla, hal⟩, hok, hza, k⟩ := h
    have nd := sc_nd.nd
    have hu := hu_of hr
    have hs := sizeLine_eq
    refine ⟨_, pss_cons (ps_setLc (i := 2) (own := [("_law_action_here", 3)]) (g := gName 3) (by rfl) nd rfl rfl (sw_true rfl rfl rfl (by decide +kernel))
        (pi_list (pe_dget hu (pv 0) pe_str (fun _ _ => rfl))) (blkOk_by (own := [("_law_action_here", 3)]) (N := ["_law_w", "_law_name_here", "_law_some_here", "_law_action_here"]) (sc := defScope (top 64)) (by decide +kernel))
        (fun _ _ _ _ _ => pg_name (i := 3) nd rfl (Or.inl rfl)) (fun _ _ _ _ _ => pts_one (pt_cmpR op_eq (pe_ix (r := rIxL K) ix_list (pv 3) pe_int (fun _ _ => rfl)) (pv 1) (nomark _))) (fun _ _ _ _ _ => pv 3))
      (pss_one (ps_ret (pe_ifExp (pt_cmpR (op_neNil (Nat.lt_of_succ_lt hu)) (pv 2) (pe_lst pa_nil) (nomark _)) (pe_ix ix_list (pv 2) pe_int (fun _ _ => rfl)) pe_non))), ?_⟩
    obtain ⟨pf, pi, pr, ⟨kvw, w1, w2, w3, w4, w5⟩, hpf, hpi, hpr⟩ := id hLw
    obtain ⟨zs, ez1, ez2, hzs⟩ := paired_zip hal
    have eq1 : ps.map V.ref = zs.map fun z => V.ref z.1 := by
      rw [← ez1, List.map_map]
      rfl
    rw [eq1] at hla
    have zl : zs.length = al.length := by rw [← ez2, List.length_map]
    refine ⟨_, rfl, p, _, rfl, dget_rd (.inl w1.2) w5, la, rfl, ⟨_, SqL.of hla.2⟩, fun D hD => ?_⟩
    refine lc_map (wk_list (zs := zs) (inj := fun z => V.ref z.1)) (fun y => V.ref y.1) (fun y => decide (y.2.1 = z)) hD (by have := hok.ln; omega) (fun _ => rfl) (fun H2 s2 => SqL.of (s2 _ _ hla.2))
      (fun y hy H2 s2 R hR => ?_) (fun y _ _ H2 s2 R hR => ⟨_, rfl, hR H2 (Same.refl H2)⟩) fun H2 s2 hD2 => ?_
    · obtain ⟨v, l, qs, b1, _⟩ := id ((hzs y hy).lq (lq_same s2))
      refine ⟨_, rfl, y.1, _, 0, _, rfl, rfl, SqL.of b1.2, atI_nat (j := 0) rfl, _, rfl, rfl, _, rfl, ?_⟩
      have q := hR H2 (Same.refl H2)
      have e : (decide (y.2.1 = z)) = decide (V.str y.2.1 = V.str z) := by
        by_cases e : y.2.1 = z
        · rw [e]
          simp
        · have e2 : ¬ V.str y.2.1 = V.str z := fun h => e (V.str.inj h)
          rw [decide_eq_false e, decide_eq_false e2]
      rw [e] at q
      exact q
    · have hmem : (z, a) ∈ zs.map (·.2) := by rw [ez2]; exact hza
      obtain ⟨y, hy, ey⟩ := List.mem_map.mp hmem
      have hne : y ∈ zs.filter fun y => decide (y.2.1 = z) := List.mem_filter.mpr ⟨hy, by rw [ey]; simp⟩
      cases hfl : zs.filter fun y => decide (y.2.1 = z) with
      | nil =>
        rw [hfl] at hne
        cases hne
      | cons y1 rest =>
        rw [hfl] at hD2
        have hy1 : y1 ∈ zs.filter fun y => decide (y.2.1 = z) := by rw [hfl]; exact List.mem_cons_self
        obtain ⟨m1, m2⟩ := List.mem_filter.mp hy1
        have e1 : y1.2.1 = z := of_decide_eq_true m2
        have m3 : y1.2 ∈ al := by rw [← ez2]; exact List.mem_map.mpr ⟨y1, m1, rfl⟩
        have e2 : y1.2 = (z, a) := key_uniq hok.nd m3 hza e1
        refine ⟨_, rfl, by show 0 ≤ sizeLine; decide, fun l hl => ?_⟩
        have s3 : Same H2 (upd H2 l (.lst [])) := same_new hl
        refine ⟨D, l, _, rfl, rfl, SqL.of (s3 _ _ hD2), SqL.of upd_same, _, rfl, iteT ?_⟩
        refine ⟨_, rfl, D, _, 0, _, rfl, rfl, SqL.of (s3 _ _ hD2), atI_nat (j := 0) rfl, ?_⟩
        have hA := (hzs y1 m1).lq (lq_same (U := U) (s2.trans s3))
        rw [e2] at hA
        exact k y1.1 _ (s2.trans s3) hA
end KK


set_option Elab.async false
set_option linter.all false
set_option maxRecDepth 100000
set_option maxHeartbeats 4000000
namespace KK
open PySem PySem.Spec PyProof.Rows L2
variable {P : Program} {w : World} {K : PySem.W.Frag} {mg : Str → Option Value} {base : Heap}
/-! ### _law_start -/
theorem at_mem {xs : List V} {r : Int} (h0 : 0 ≤ r) (h1 : r < xs.length) : ∃ x, atI xs r = some x ∧ x ∈ xs := by
  obtain ⟨j, rfl⟩ := Int.eq_ofNat_of_zero_le h0
  have hj : j < xs.length := by omega
  exact ⟨xs[j], atI_nat (List.getElem?_eq_getElem hj), List.getElem_mem _⟩
/-- a number is put -/
theorem numF_put {cs ds : List Str} {num : Str → Int} {kvs : List (Key × V)} {z : Str} {i : Int} (h : ∀ k, valV kvs k = numF cs num k) (hd : ∀ y, y ∈ ds ↔ y ∈ cs ∨ y = z) :
    ∀ k, valV (putK kvs (Sum.inr z) (.int i)) k = numF ds (fun y => if y = z then i else num y) k := fun k => by
  rw [valV_put]
  by_cases e : k = Sum.inr z
  · subst e
    rw [if_pos rfl, numF_in ((hd z).mpr (.inr rfl)), if_pos rfl]
  · rw [if_neg e, h k]
    cases k with
    | inl j => rfl
    | inr y =>
      have ey : y ≠ z := fun q => e (by rw [q])
      by_cases hy : y ∈ cs
      · rw [numF_in hy, numF_in ((hd y).mpr (.inl hy)), if_neg ey]
      · rw [numF_out hy, numF_out fun q => ((hd y).mp q).elim hy ey]
def big : Int := 10000000000000000000000000000
def spStart : Sp := fun vs H Q _ => ∃ (S L p a : Addr) (n : Nat) (W : Wd), vs = [.ref S, .ref p] ∧ Strm S L H n ∧ n + 200 ≤ 900000 ∧ LwL (Ust S L) H p a W ∧ ListsOk W ∧
  ∀ (t q d : Addr) (tr : List Str) (num : Str → Int) (H' : Hp), tr.Sublist W.facts → (∀ z ∈ W.cnts, 0 ≤ num z ∧ num z ≤ big) → At (Ust S L) H' t (.tup [.ref q, .ref d]) → LAt (Ust S L) H' q tr → NumAt (Ust S L) H' d W.cnts num →
    Strm S L H' (n + 100) → Gr (Ust S L) H H' → Q (.ref t) H'
theorem sc_lst : FnScope ["_law_stream", "_law_w", "_law_numbers", "_law_name_here"] ["_law_stream", "_law_w"] (defScope (top 65)) := ⟨rfl, rfl, rfl, by decide +kernel, rfl, by decide +kernel, by decide +kernel⟩
theorem ok_start (T : Txt K mg) : C8.Cal P w K mg base 3 "_law_start" spStart [] := by
  have G0 : C8.Cal P w K mg base 1 "_law_draw" spDraw [] := ok_draw T
  have G1 : C8.Cal P w K mg base 1 "_law_counters" (spLw Wd.cnts) [] := ok_lCounters T
  have G2 : C8.Cal P w K mg base 2 "_law_some" spSome [] := ok_some T
  refine def_cal T.lStart sc_lst (fun _ _ _ _ _ _ us hl => match us, hl with | [_, _], _ => rfl) (fun vs H Q E h => ?_) (fun f cdv A outer s H vs Q E hr h => ?_)
  · obtain ⟨S, L, p, a, n, W, rfl, _⟩ := h
    rfl
  · obtain ⟨S, L, p, a, n, W, rfl, hS, hn, hLw, hW, k⟩ := h
    have nd := sc_lst.nd
    have hu := hu_of hr
    have hs := sizeLine_eq
    have hcl := hW.cntsLen
    have hfl := hW.lf
    refine ⟨_, pss_cons (ps_set (i := 2) nd rfl (.inl rfl) pe_dnewK)
      (pss_cons (ps_for PassesOwn.never (by rfl) (pi_list (C8.pe_c G1 hr (by decide) (by rfl) (pa_cons (pv 1) pa_nil))) (pg_name (i := 3) nd rfl (Or.inl rfl))
        (pss_one (ps_dput hu (pv 2) (pv 3) (pe_ix ix_list (pe_lst (pa_cons pe_int (pa_cons pe_int (pa_cons pe_int (pa_cons pe_int (pa_cons pe_int (pa_cons (pe_op op_pow pe_int pe_int) pa_nil))))))) (C8.pe_c G0 hr (by decide) (by rfl) (pa_cons (pv 0) (pa_cons pe_int pa_nil))) (fun _ _ => rfl)) rfl)))
      (pss_one (ps_ret (pe_tup (pa_cons (C8.pe_c G2 hr (by decide) (by rfl) (pa_cons (pv 0) (pa_cons (pe_dget hu (pv 1) pe_str (fun _ _ => rfl)) (pa_cons pe_int pa_nil)))) (pa_cons (pv 2) pa_nil)))))), ?_⟩
    obtain ⟨pf, pi, pr, ⟨kvw, w1, w2, w3, w4, w5⟩, hpf, hpi, hpr⟩ := id hLw
    intro D hD
    have hUD := hS.fresh D hD
    have keepD : ∀ {b o H2}, Ust S L b → H b = some o → GrD S L D H H2 → H2 b = some o := fun hU e g => g.k _ _ hU (ne_of_none e hD) e
    have d1 : (upd H D (.dK [])) D = some (.dK []) := upd_same
    have g1 : GrD S L D H (upd H D (.dK [])) := (GrD.refl S L D H).upd
    have hS1 : Strm S L (upd H D (.dK [])) n := hS.upd hUD
    have s01 : Same H (upd H D (.dK [])) := same_new hD
    show tSeq _ _ _ _ (upd H D (.dK []))
    generalize upd H D (.dK []) = H1 at d1 g1 hS1 s01 ⊢
    refine ⟨_, rfl, Ust S L, p, a, W, rfl, hLw.same s01, hW, fun c hc => ?_⟩
    have cD : c ≠ D := fun e => by subst e; rw [d1] at hc; cases hc
    have hUc := hS1.fresh c hc
    have s2 : Same H1 (upd H1 c (.lst (W.cnts.map V.str))) := same_new hc
    have c2 : (upd H1 c (.lst (W.cnts.map V.str))) c = some (.lst (W.cnts.map V.str)) := upd_same
    generalize upd H1 c (.lst (W.cnts.map V.str)) = H2 at s2 c2 ⊢
    refine ⟨c, rfl, ⟨_, SqL.of c2⟩, for_it (wk_list (zs := W.cnts) (inj := V.str)) (fun i σ H3 => i ≤ W.cnts.length ∧ (∃ y3, σ = [some (.ref S), some (.ref p), some (.ref D), y3]) ∧ ∃ kvs num, H3 D = some (.dK kvs) ∧ (∀ k, valV kvs k = numF (W.cnts.take i) num k) ∧ (∀ z ∈ W.cnts.take i, 0 ≤ num z ∧ num z ≤ big) ∧ kvs.length ≤ i ∧ Strm S L H3 (n + i) ∧ GrD S L D H H3 ∧ H3 c = some (.lst (W.cnts.map V.str)))
      ⟨Nat.zero_le _, ⟨none, rfl⟩, [], fun _ => 0, s2 _ _ d1, fun k => by rw [List.take_zero]; cases k <;> rfl, fun z hz => (by rw [List.take_zero] at hz; cases hz), Nat.le_refl _, hS1.same s2, g1.gr2 (gr_same s2), c2⟩
      (fun i σ H3 _ ⟨_, _, _, _, _, _, _, _, _, _, h⟩ => SqL.of h) ?_ ?_⟩
    · rintro i y σ H3 H3' hi ⟨_, ⟨y3, rfl⟩, kvs, num, e1, e2, e3, e4, hS3, g3, hc3⟩ ⟨rfl, z, hz, rfl⟩
      have et : W.cnts.take (i + 1) = W.cnts.take i ++ [z] := by
        rw [List.take_add_one, hz]
        rfl
      refine ⟨_, _, rfl, rfl, ⟨by decide, by decide, by decide⟩, by show 6 ≤ sizeLine; decide, fun l hl => ?_⟩
      have s4 : Same H3' (upd H3' l (.lst [.int 0, .int 1, .int 2, .int 3, .int 7, .int (10 ^ (28 : Int).toNat)])) := same_new hl
      have l4 : (upd H3' l (.lst [.int 0, .int 1, .int 2, .int 3, .int 7, .int (10 ^ (28 : Int).toNat)])) l = some (.lst [.int 0, .int 1, .int 2, .int 3, .int 7, .int (10 ^ (28 : Int).toNat)]) := upd_same
      have hUl := hS3.fresh l hl
      generalize upd H3' l (.lst [.int 0, .int 1, .int 2, .int 3, .int 7, .int (10 ^ (28 : Int).toNat)]) = H4 at s4 l4 ⊢
      refine ⟨_, rfl, S, L, n + i, 6, rfl, hS3.same s4, by omega, by decide, by decide, fun r H5 hr0 hr1 hS5 g5 => ?_⟩
      obtain ⟨x, hx, hxm⟩ := at_mem (xs := [.int 0, .int 1, .int 2, .int 3, .int 7, .int (10 ^ (28 : Int).toNat)]) hr0 hr1
      obtain ⟨iv, rfl, b1, b2⟩ : ∃ iv : Int, x = .int iv ∧ 0 ≤ iv ∧ iv ≤ big := by
        simp only [List.mem_cons, List.not_mem_nil, or_false] at hxm
        rcases hxm with q | q | q | q | q | q <;> exact ⟨_, q, by decide +kernel, by decide +kernel⟩
      have d5 := g5.k _ _ hUD (s4 _ _ e1)
      refine ⟨l, _, r, _, rfl, rfl, SqL.of (g5.k _ _ hUl l4), hx, _, rfl, _, rfl, D, _, rfl, DPut.k (k := Sum.inr z) d5 (by omega), hi, ⟨_, rfl⟩, _, fun y => if y = z then iv else num y, upd_same, numF_put e2 (fun y => by rw [et, List.mem_append, List.mem_singleton]), fun y hy => ?_, Nat.le_trans (DSub.putK_len _ _ _) (by omega), ?_, ((g3.gr2 (gr_same s4)).gr2 g5).upd, ?_⟩
      · dsimp only
        by_cases ey : y = z
        · rw [if_pos ey]
          exact ⟨b1, b2⟩
        · rw [if_neg ey]
          rw [et] at hy
          exact (List.mem_append.mp hy).elim (e3 y) fun q => absurd (List.mem_singleton.mp q) ey
      · exact hS5.upd hUD
      · rw [upd_ne cD]
        exact g5.k _ _ hUc (s4 _ _ hc3)
    · rintro σ H3 ⟨_, ⟨y3, rfl⟩, kvs, num, e1, e2, e3, e4, hS3, g3, hc3⟩
      rw [List.take_length] at e2 e3
      refine ⟨_, rfl, _, rfl, p, _, rfl, dget_rd (.inl (keepD w1.1 w1.2 g3)) w2, S, L, pf, _, 2, W.facts, rfl, hS3, by omega, by omega, by decide, by decide, ⟨hpf.1, keepD hpf.1 hpf.2 g3⟩, fun q tr H4 hsub hq0 hq hS4 g4 => ?_⟩
      have gH3 := g3.gr hS3 hD
      refine ⟨_, rfl, by show 2 ≤ sizeLine; decide, fun t ht => ?_⟩
      have s5 : Same H4 (upd H4 t (.tup [.ref q, .ref D])) := same_new ht
      refine k t q D tr num _ hsub e3 ⟨hS4.fresh t ht, upd_same⟩ ⟨hS3.fresh q hq0, s5 _ _ hq⟩ ⟨kvs, ⟨hUD, s5 _ _ (g4.k _ _ hUD e1)⟩, e2, by omega⟩ ((hS4.same s5).mono (by omega)) ((gH3.trans g4).trans (gr_same s5))
end KK


set_option Elab.async false
set_option linter.all false
set_option maxRecDepth 100000
set_option maxHeartbeats 4000000
namespace KK
open PySem PySem.Spec PyProof.Rows L2
variable {P : Program} {w : World} {K : PySem.W.Frag} {mg : Str → Option Value} {base : Heap}
/-! ### _law_amounts -/
def selB (f : Key → Option V) (z : Str) : Bool := decide (gc f z = .str "take") || decide (gc f z = .str "add")
def spAmounts : Sp := fun vs H Q _ => ∃ (S L p a nu ch : Addr) (n : Nat) (W : Wd) (num : Str → Int) (f : Key → Option V), vs = [.ref S, .ref p, .ref nu, .ref ch] ∧ Strm S L H n ∧ n + 200 ≤ 900000 ∧ LwL (Ust S L) H p a W ∧ ListsOk W ∧
  NumAt (Ust S L) H nu W.cnts num ∧ (∀ z ∈ W.cnts, 0 ≤ num z ∧ num z ≤ 20 * big) ∧ DV (Ust S L) H ch f 30 ∧ OutOk f ∧
  (∀ H', Strm S L H' (n + 100) → Gr (Ust S L) H H' → Q .non H') ∧
  ∀ (q : Addr) (us : List Str) (am : Str → Int) (H' : Hp), AmtOk W f num us am → (∀ z ∈ us, gc f z = .str "add" → am z ≤ big) → NumAt (Ust S L) H' q us am → Strm S L H' (n + 100) → Gr (Ust S L) H H' → Q (.ref q) H'
theorem sc_am : FnScope ["_law_stream", "_law_w", "_law_numbers", "_law_changes_here", "_law_found", "_law_name_here"] ["_law_stream", "_law_w", "_law_numbers", "_law_changes_here"] (defScope (top 66)) := ⟨rfl, rfl, rfl, by decide +kernel, rfl, by decide +kernel, by decide +kernel⟩
theorem ok_amounts (T : Txt K mg) : C8.Cal P w K mg base 3 "_law_amounts" spAmounts [] := by
  have G0 : C8.Cal P w K mg base 1 "_law_draw" spDraw [] := ok_draw T
  have G1 : C8.Cal P w K mg base 1 "_law_counters" (spLw Wd.cnts) [] := ok_lCounters T
  have G2 : C8.Cal P w K mg base 2 "_law_mixed" spMixed [] := ok_mixed T
  refine def_cal T.lAmounts sc_am (fun _ _ _ _ _ _ us hl => match us, hl with | [_, _, _, _], _ => rfl) (fun vs H Q E h => ?_) (fun f0 cdv A outer s H vs Q E hr h => ?_)
  · obtain ⟨S, L, p, a, nu, ch, n, W, num, f, rfl, _⟩ := h
    rfl
  · obtain ⟨S, L, p, a, nu, ch, n, W, num, f, rfl, hS, hn, hLw, hW, ⟨kn, n1, n2, n3⟩, hnum, ⟨kc, c1, c2, c3⟩, hok, k0, k⟩ := h
    have nd := sc_am.nd
    have hu := hu_of hr
    have hs := sizeLine_eq
    have hcl := hW.cntsLen
    refine ⟨_, pss_cons (ps_set (i := 4) nd rfl (.inl rfl) pe_dnewK)
      (pss_cons (ps_for PassesOwn.never (by rfl) (pi_list (C8.pe_c G2 hr (by decide) (by rfl) (pa_cons (pv 0) (pa_cons (C8.pe_c G1 hr (by decide) (by rfl) (pa_cons (pv 1) pa_nil)) pa_nil)))) (pg_name (i := 5) nd rfl (Or.inl rfl))
        (pss_one (ps_if (pt_cmpR op_eq (pe_dget1 hu (pv 3) (pv 5) ⟨rfl, rfl, rfl, rfl⟩) pe_str (nomark _))
          (pss_one (ps_dput hu (pv 4) (pv 5) (pe_ix ix_list (pe_lst (pa_cons pe_int (pa_cons pe_int (pa_cons pe_int (pa_cons (pe_op op_pow pe_int pe_int) pa_nil))))) (C8.pe_c G0 hr (by decide) (by rfl) (pa_cons (pv 0) (pa_cons pe_int pa_nil))) (fun _ _ => rfl)) rfl))
          (pss_one (ps_if (pt_cmpR op_eq (pe_dget1 hu (pv 3) (pv 5) ⟨rfl, rfl, rfl, rfl⟩) pe_str (nomark _))
            (pss_cons (ps_if (pt_cmpR op_eq (pe_dget hu (pv 2) (pv 5) (fun _ _ => rfl)) pe_int (nomark _)) (pss_one (ps_ret pe_non)) pss_nil)
            (pss_one (ps_dput hu (pv 4) (pv 5) (pe_ix ix_list (pe_lst (pa_cons pe_int (pa_cons (pe_dget hu (pv 2) (pv 5) (fun _ _ => rfl)) (pa_cons (pe_op op_add pe_int (C8.pe_c G0 hr (by decide) (by rfl) (pa_cons (pv 0) (pa_cons (pe_dget hu (pv 2) (pv 5) (fun _ _ => rfl)) pa_nil)))) pa_nil)))) (C8.pe_c G0 hr (by decide) (by rfl) (pa_cons (pv 0) (pa_cons pe_int pa_nil))) (fun _ _ => rfl)) rfl)))
            pss_nil)))))
      (pss_one (ps_ret (pv 4)))), ?_⟩
    obtain ⟨pf, pi, pr, ⟨kvw, w1, w2, w3, w4, w5⟩, hpf, hpi, hpr⟩ := id hLw
    intro D hD
    have hUD := hS.fresh D hD
    have keepD : ∀ {b o H2}, Ust S L b → H b = some o → GrD S L D H H2 → H2 b = some o := fun hU e g => g.k _ _ hU (ne_of_none e hD) e
    have d1 : (upd H D (.dK [])) D = some (.dK []) := upd_same
    have g1 : GrD S L D H (upd H D (.dK [])) := (GrD.refl S L D H).upd
    have hS1 : Strm S L (upd H D (.dK [])) n := hS.upd hUD
    have s01 : Same H (upd H D (.dK [])) := same_new hD
    show tSeq _ _ _ _ (upd H D (.dK []))
    generalize upd H D (.dK []) = H1 at d1 g1 hS1 s01 ⊢
    refine ⟨_, rfl, _, rfl, Ust S L, p, a, W, rfl, hLw.same s01, hW, fun c hc => ?_⟩
    have hUc := hS1.fresh c hc
    have s2 : Same H1 (upd H1 c (.lst (W.cnts.map V.str))) := same_new hc
    have c2' : (upd H1 c (.lst (W.cnts.map V.str))) c = some (.lst (W.cnts.map V.str)) := upd_same
    generalize upd H1 c (.lst (W.cnts.map V.str)) = H2 at s2 c2' ⊢
    refine ⟨S, L, c, n, W.cnts, rfl, hS1.same s2, by omega, by omega, ⟨hUc, c2'⟩, fun q ys H3 hperm hq0 hq hS3 g3 => ?_⟩
    have qD : q ≠ D := fun e => by subst e; rw [s2 _ _ d1] at hq0; cases hq0
    have hUq : Ust S L q := (hS1.same s2).fresh q hq0
    have hyl : ys.length ≤ 13 := by rw [hperm.length_eq]; exact hcl
    have hmem : ∀ z, z ∈ ys ↔ z ∈ W.cnts := fun z => hperm.mem_iff
    refine ⟨q, rfl, ⟨_, SqL.of hq⟩, for_it (wk_list (zs := ys) (inj := V.str)) (fun i σ H4 => i ≤ ys.length ∧ (∃ y5, σ = [some (.ref S), some (.ref p), some (.ref nu), some (.ref ch), some (.ref D), y5]) ∧ ∃ kvs am, H4 D = some (.dK kvs) ∧ (∀ k, valV kvs k = numF ((ys.take i).filter (selB f)) am k) ∧
        (∀ z ∈ (ys.take i).filter (selB f), 1 ≤ am z ∧ (gc f z = .str "take" → am z ≤ num z) ∧ (gc f z = .str "add" → am z ≤ big)) ∧ kvs.length ≤ i ∧ Strm S L H4 (n + 13 + 2 * i) ∧ GrD S L D H H4 ∧ H4 q = some (.lst (ys.map V.str)))
      ⟨Nat.zero_le _, ⟨none, rfl⟩, [], fun _ => 0, g3.k _ _ hUD (s2 _ _ d1), fun k => by rw [List.take_zero]; cases k <;> rfl, fun z hz => (by rw [List.take_zero] at hz; cases hz), Nat.le_refl _, hS3.mono (by omega), (g1.gr2 (gr_same s2)).gr2 g3, hq⟩
      (fun i σ H4 _ ⟨_, _, _, _, _, _, _, _, _, _, h⟩ => SqL.of h) ?_ ?_⟩
    · rintro i y σ H4 H4' hi ⟨_, ⟨y5, rfl⟩, kvs, am, e1, e2, e3, e4, hS4, g4, hq4⟩ ⟨rfl, z, hz, rfl⟩
      have hzc : z ∈ W.cnts := (hmem z).mp (List.mem_of_getElem? hz)
      have et : ys.take (i + 1) = ys.take i ++ [z] := by
        rw [List.take_add_one, hz]
        rfl
      have hch : H4' ch = some (.dK kc) := keepD c1.1 c1.2 g4
      have hnu : H4' nu = some (.dK kn) := keepD n1.1 n1.2 g4
      have hz0 := hnum z hzc
      -- a value is put
      have put : ∀ (iv : Int) (H5 : Hp), selB f z = true → 1 ≤ iv → (gc f z = .str "take" → iv ≤ num z) → (gc f z = .str "add" → iv ≤ big) → GrD S L D H H5 → H5 D = some (.dK kvs) → H5 q = some (.lst (ys.map V.str)) → Strm S L H5 (n + 13 + 2 * (i + 1)) →
          ∃ kvs' am, (upd H5 D (.dK (putK kvs (Sum.inr z) (.int iv)))) D = some (.dK kvs') ∧ (∀ k, valV kvs' k = numF ((ys.take (i + 1)).filter (selB f)) am k) ∧
        (∀ z ∈ (ys.take (i + 1)).filter (selB f), 1 ≤ am z ∧ (gc f z = .str "take" → am z ≤ num z) ∧ (gc f z = .str "add" → am z ≤ big)) ∧ kvs'.length ≤ i + 1 ∧ Strm S L (upd H5 D (.dK (putK kvs (Sum.inr z) (.int iv)))) (n + 13 + 2 * (i + 1)) ∧ GrD S L D H (upd H5 D (.dK (putK kvs (Sum.inr z) (.int iv)))) ∧ (upd H5 D (.dK (putK kvs (Sum.inr z) (.int iv)))) q = some (.lst (ys.map V.str)) := fun iv H5 hsel h1 h2 h3 g5 d5 q5 hS5 => by
        have ef : (ys.take (i + 1)).filter (selB f) = (ys.take i).filter (selB f) ++ [z] := by
          rw [et, List.filter_append]
          have : [z].filter (selB f) = [z] := by simp [hsel]
          rw [this]
        refine ⟨_, fun y => if y = z then iv else am y, upd_same, numF_put e2 (fun y => by rw [ef, List.mem_append, List.mem_singleton]), fun y hy => ?_, Nat.le_trans (DSub.putK_len _ _ _) (by omega), hS5.upd hUD, g5.upd, by rw [upd_ne qD]; exact q5⟩
        dsimp only
        by_cases ey : y = z
        · subst ey
          rw [if_pos rfl]
          exact ⟨h1, h2, h3⟩
        · rw [if_neg ey]
          rw [ef] at hy
          exact (List.mem_append.mp hy).elim (e3 y) fun q => absurd (List.mem_singleton.mp q) ey
      -- none is put
      have pass : ∀ (H5 : Hp), selB f z = false → GrD S L D H H5 → H5 D = some (.dK kvs) → H5 q = some (.lst (ys.map V.str)) → Strm S L H5 (n + 13 + 2 * (i + 1)) →
          ∃ kvs am, H5 D = some (.dK kvs) ∧ (∀ k, valV kvs k = numF ((ys.take (i + 1)).filter (selB f)) am k) ∧
        (∀ z ∈ (ys.take (i + 1)).filter (selB f), 1 ≤ am z ∧ (gc f z = .str "take" → am z ≤ num z) ∧ (gc f z = .str "add" → am z ≤ big)) ∧ kvs.length ≤ i + 1 ∧ Strm S L H5 (n + 13 + 2 * (i + 1)) ∧ GrD S L D H H5 ∧ H5 q = some (.lst (ys.map V.str)) := fun H5 hsel g5 d5 q5 hS5 => by
        have ef : (ys.take (i + 1)).filter (selB f) = (ys.take i).filter (selB f) := by
          rw [et, List.filter_append]
          have : [z].filter (selB f) = [] := by simp [hsel]
          rw [this, List.append_nil]
        rw [ef]
        exact ⟨kvs, am, d5, e2, e3, by omega, hS5, g5, q5⟩
      have egc : (valV kc (.inr z)).getD .non = gc f z := by
        unfold gc
        rw [c2]
      refine ⟨_, rfl, ch, rfl, .inl ⟨kc, .inl hch⟩, _, rfl, valV kc (.inr z), DGet.k (k := Sum.inr z) hch, ?_⟩
      rw [egc]
      refine ⟨gc_scal hok z _, _, rfl, ?_⟩
      by_cases ea : gc f z = .str "add"
      · have hsel : selB f z = true := by unfold selB; rw [ea]; simp
        have nt : gc f z ≠ .str "take" := by rw [ea]; exact fun q => absurd q (by decide +kernel)
        refine dT ea ⟨_, _, rfl, rfl, ⟨by decide, by decide, by decide⟩, by show 4 ≤ sizeLine; decide, fun l hl => ?_⟩
        have s5 : Same H4' (upd H4' l (.lst [.int 1, .int 2, .int 5, .int (10 ^ (27 : Int).toNat)])) := same_new hl
        have l5 : (upd H4' l (.lst [.int 1, .int 2, .int 5, .int (10 ^ (27 : Int).toNat)])) l = some (.lst [.int 1, .int 2, .int 5, .int (10 ^ (27 : Int).toNat)]) := upd_same
        have hUl := hS4.fresh l hl
        generalize upd H4' l (.lst [.int 1, .int 2, .int 5, .int (10 ^ (27 : Int).toNat)]) = H5 at s5 l5 ⊢
        refine ⟨_, rfl, S, L, _, 4, rfl, hS4.same s5, by omega, by decide, by decide, fun r H6 hr0 hr1 hS6 g6 => ?_⟩
        obtain ⟨x, hx, hxm⟩ := at_mem (xs := [.int 1, .int 2, .int 5, .int (10 ^ (27 : Int).toNat)]) hr0 hr1
        obtain ⟨iv, rfl, b1, b2⟩ : ∃ iv : Int, x = .int iv ∧ 1 ≤ iv ∧ iv ≤ big := by
          simp only [List.mem_cons, List.not_mem_nil, or_false] at hxm
          rcases hxm with q | q | q | q <;> exact ⟨_, q, by decide +kernel, by decide +kernel⟩
        have d6 := g6.k _ _ hUD (s5 _ _ e1)
        have q6 := g6.k _ _ hUq (s5 _ _ hq4)
        refine ⟨l, _, r, _, rfl, rfl, SqL.of (g6.k _ _ hUl l5), hx, _, rfl, _, rfl, D, _, rfl, DPut.k (k := Sum.inr z) d6 (by omega), hi, ⟨_, rfl⟩, put iv H6 hsel b1 (fun q => absurd q nt) (fun _ => b2) ((g4.gr2 (gr_same s5)).gr2 g6) d6 q6 (hS6.mono (by omega))⟩
      refine dF ea ⟨_, rfl, ch, rfl, .inl ⟨kc, .inl hch⟩, _, rfl, valV kc (.inr z), DGet.k (k := Sum.inr z) hch, ?_⟩
      rw [egc]
      refine ⟨gc_scal hok z _, _, rfl, ?_⟩
      by_cases etk : gc f z = .str "take"
      · have hsel : selB f z = true := by unfold selB; rw [etk]; simp
        have hvn : valV kn (.inr z) = some (.int (num z)) := by rw [n2, numF_in hzc]
        refine dT etk ⟨_, rfl, _, rfl, nu, _, rfl, dget_rd (.inl hnu) hvn, rfl, _, rfl, ?_⟩
        by_cases e0 : num z = 0
        · exact dT (by rw [e0]) (k0 H4' (hS4.mono (by omega)) (g4.gr hS4 hD))
        refine dF (fun q => e0 (V.int.inj q)) ⟨_, rfl, _, rfl, nu, _, rfl, dget_rd (.inl hnu) hvn, ?_⟩
        have hb : num z ≤ 200000000000000000000000000000 := Int.le_trans hz0.2 (by decide)
        have hpos : 0 < num z := by omega
        refine ⟨_, rfl, _, rfl, _, rfl, nu, _, rfl, dget_rd (.inl hnu) hvn, S, L, _, num z, rfl, hS4, by omega, hpos, ?_, fun r0 H5 hr0 hr1 hS5 g5 => ⟨_, _, rfl, rfl, by show 3 ≤ sizeLine; decide, fun l hl => ?_⟩⟩
        · have : (2 : Nat) ^ 200 = 1606938044258990275541962092341162602522202993782792835301376 := by decide +kernel
          rw [this]
          omega
        have s6 : Same H5 (upd H5 l (.lst [.int 1, .int (num z), .int (1 + r0)])) := same_new hl
        have l6 : (upd H5 l (.lst [.int 1, .int (num z), .int (1 + r0)])) l = some (.lst [.int 1, .int (num z), .int (1 + r0)]) := upd_same
        have hUl := hS5.fresh l hl
        generalize upd H5 l (.lst [.int 1, .int (num z), .int (1 + r0)]) = H6 at s6 l6 ⊢
        refine ⟨_, rfl, S, L, _, 3, rfl, hS5.same s6, by omega, by decide, by decide, fun r H7 hr2 hr3 hS7 g7 => ?_⟩
        obtain ⟨x, hx, hxm⟩ := at_mem (xs := [.int 1, .int (num z), .int (1 + r0)]) hr2 hr3
        obtain ⟨iv, rfl, b1, b2⟩ : ∃ iv : Int, x = .int iv ∧ 1 ≤ iv ∧ iv ≤ num z := by
          simp only [List.mem_cons, List.not_mem_nil, or_false] at hxm
          rcases hxm with q | q | q
          · exact ⟨_, q, by omega, by omega⟩
          · exact ⟨_, q, by omega, by omega⟩
          · exact ⟨_, q, by omega, by omega⟩
        have g47 : Gr (Ust S L) H4' H7 := (g5.trans (gr_same s6)).trans g7
        have d7 := g47.k _ _ hUD e1
        have q7 := g47.k _ _ hUq hq4
        have na : gc f z ≠ .str "add" := ea
        exact ⟨l, _, r, _, rfl, rfl, SqL.of (g7.k _ _ hUl l6), hx, _, rfl, _, rfl, D, _, rfl, DPut.k (k := Sum.inr z) d7 (by omega), hi, ⟨_, rfl⟩, put iv H7 hsel b1 (fun _ => b2) (fun q => absurd q na) (g4.gr2 g47) d7 q7 (hS7.mono (by omega))⟩
      · have hsel : selB f z = false := by unfold selB; rw [decide_eq_false etk, decide_eq_false ea]; rfl
        exact dF etk ⟨hi, ⟨_, rfl⟩, pass H4' hsel g4 e1 hq4 (hS4.mono (by omega))⟩
    · rintro σ H4 ⟨_, ⟨y5, rfl⟩, kvs, am, e1, e2, e3, e4, hS4, g4, hq4⟩
      rw [List.take_length] at e2 e3
      refine ⟨_, rfl, k D (ys.filter (selB f)) am H4 ⟨fun z => ?_, fun z hz => (e3 z hz).1, fun z hz => (e3 z hz).2.1⟩ (fun z hz => (e3 z hz).2.2) ⟨kvs, ⟨hUD, e1⟩, e2, by omega⟩ (hS4.mono (by omega)) (g4.gr hS4 hD)⟩
      rw [List.mem_filter, hmem]
      unfold selB
      simp
end KK


set_option Elab.async false
set_option linter.all false
set_option maxRecDepth 100000
set_option maxHeartbeats 4000000
namespace KK
open PySem PySem.Spec PyProof.Rows L2
variable {P : Program} {w : World} {K : PySem.W.Frag} {mg : Str → Option Value} {base : Heap}
open GenW
/-! ### a generator's body that a comprehension walks: between two turns the comprehension fills its list (at S) and its names (at Z) -/
structure Nap (S Z : Addr) (v : Value) (s t : Shared) : Prop where
  os : t.os = s.os
  bare : AllBare t.gens
  stay : ∀ b o, b ≠ S → b ≠ Z → s.heap.get? b = some o → t.heap.get? b = some o
  lst : ∀ acc c, s.heap.get? S = some (lstObj acc c) → ∃ d, t.heap.get? S = some (lstObj (acc.push v) d)
  own : ∃ o, t.heap.get? Z = some o ∧ ∀ u, o.data ≠ .cell u
/-- amid a run; s0: where the run was woken -/
def JI (X : Cx) (S Z : Addr) (s0 : Shared) (ip : List (Addr × Obj)) (ys : List V) (σ : L2.St) (H : Hp) (s : Shared) : Prop :=
  ∃ (acc : Array Value) (c : Nat) (oz : Obj), Vals ys acc.toList ∧ s0.heap.get? Z = some oz ∧ Inv X ((S, lstObj acc c) :: (Z, oz) :: ip) σ H s
theorem JI.inv {X : Cx} {S Z : Addr} {s0 : Shared} {ip : List (Addr × Obj)} {ys : List V} {σ : L2.St} {H : Hp} {s : Shared} (h : JI X S Z s0 ip ys σ H s) : Inv X ip σ H s := by
  obtain ⟨acc, c, oz, _, _, I⟩ := h
  exact I.pins_of fun p hp => I.pin p (List.mem_append_right _ (List.mem_cons_of_mem _ (List.mem_cons_of_mem _ hp)))
theorem JI.facts {X : Cx} {S Z : Addr} {s0 : Shared} {ip : List (Addr × Obj)} {ys : List V} {σ : L2.St} {H : Hp} {s : Shared} (h : JI X S Z s0 ip ys σ H s) :
    (H S = none ∧ S ≠ X.env.locals ∧ S ∉ X.fs) ∧ (H Z = none ∧ Z ≠ X.env.locals ∧ Z ∉ X.fs) ∧ s.heap.get? Z = s0.heap.get? Z ∧ ∃ (acc : Array Value) (c : Nat), Vals ys acc.toList ∧ s.heap.get? S = some (lstObj acc c) := by
  obtain ⟨acc, c, oz, r, z, I⟩ := h
  obtain ⟨a1, a2, a3, a4, _⟩ := I.pin (S, lstObj acc c) (List.mem_append_right _ List.mem_cons_self)
  obtain ⟨b1, b2, b3, b4, _⟩ := I.pin (Z, oz) (List.mem_append_right _ (List.mem_cons_of_mem _ List.mem_cons_self))
  exact ⟨⟨a2, a3, a4⟩, ⟨b2, b3, b4⟩, b1.trans z.symm, acc, c, r, a1⟩
theorem JI.wake {X : Cx} {S Z : Addr} {s0 : Shared} {ip : List (Addr × Obj)} {ys : List V} {x : V} {v : Value} {σ : L2.St} {H : Hp} {s t : Shared} (n1 : ∀ p ∈ X.pn, p.1 ≠ S ∧ p.1 ≠ Z) (n2 : ∀ p ∈ ip, p.1 ≠ S ∧ p.1 ≠ Z) (aS : Apart X S) (aZ : Apart X Z)
    (h : JI X S Z s0 ip ys σ H s) (rv : RelV x v) (z : Nap S Z v s t) : JI X S Z t ip (ys ++ [x]) σ H t := by
  obtain ⟨⟨f1, f2, f3⟩, ⟨f4, f5, f6⟩, _, acc, c, r, eS⟩ := h.facts
  have I0 := h.inv
  obtain ⟨z1, z2, z3, z4, oz, z5, z6⟩ := z
  obtain ⟨d, eS'⟩ := z4 acc c eS
  have lives : ∀ b u, H b = some u → b ≠ S ∧ b ≠ Z := fun b u q => ⟨fun e => (by rw [e, f1] at q; cases q), fun e => (by rw [e, f4] at q; cases q)⟩
  obtain ⟨hh, gg, dd, tt, oo⟩ := t
  have ho : oo = s.os := z1
  subst ho
  have outs : ∀ b, b ∉ [S, Z] → b ≠ S ∧ b ≠ Z := fun b hb => ⟨(fun e => hb (by rw [e]; simp)), (fun e => hb (by rw [e]; simp))⟩
  have J : Inv X ip σ H { s with heap := hh, gens := gg, drawn := dd, toks := tt } := by
    refine I0.step (g' := gg) (t' := tt) (d' := dd) (ch := [S, Z]) (fun b hb => ?_)
      (fun b ob _ _ hc q _ => z3 b ob (outs b hc).1 (outs b hc).2 q) (fun b ob _ _ hc q _ => ⟨ob.slots, z3 b ob (outs b hc).1 (outs b hc).2 q⟩) (fun _ _ _ _ n => n) (fun b ob hc q => ⟨ob, z3 b ob (outs b hc).1 (outs b hc).2 q⟩)
      (fun _ _ q => q) (fun _ _ _ q => q) (fun b ps q => ⟨#[], by rw [q]; simp⟩) (fun m hm => ?_) (fun b u q => ?_) z2
    · rcases List.mem_cons.mp hb with e | hb
      · rw [e]
        refine ⟨.inr aS.1, aS.2.1, aS.2.2, fun p hp => ?_⟩
        rcases List.mem_append.mp hp with hp | hp
        · exact (n1 p hp).1
        · exact (n2 p hp).1
      · rw [List.mem_singleton.mp hb]
        refine ⟨.inr aZ.1, aZ.2.1, aZ.2.2, fun p hp => ?_⟩
        rcases List.mem_append.mp hp with hp | hp
        · exact (n1 p hp).2
        · exact (n2 p hp).2
    · obtain ⟨ob, es, ep, ho, rest⟩ := hm
      exact ⟨ob, es, ep, z3 _ ob f2.symm f5.symm ho, rest⟩
    · refine (I0.hok b u q).stay (fun c v hc y => z3 c v ?_ ?_ y) (fun _ y => y) fun _ _ y => y
      · rcases hc with y | y
        · rw [y]; exact (lives b u q).1
        · exact (lives c _ y).1
      · rcases hc with y | y
        · rw [y]; exact (lives b u q).2
        · exact (lives c _ y).2
  refine ⟨acc.push v, d, oz, ?_, z5, J.pins_of fun p hp => ?_⟩
  · rw [Array.toList_push]
    exact r.append (.cons rv .nil)
  · rcases List.mem_cons.mp hp with hp | hp
    · rw [hp]
      exact ⟨eS', f1, f2, f3, fun v q => by cases q⟩
    · rcases List.mem_cons.mp hp with hp | hp
      · rw [hp]
        exact ⟨z5, f4, f5, f6, z6⟩
      · exact J.pin p (List.mem_append_right _ hp)
/-! ### the protocol -/
def JY (X : Cx) (S Z : Addr) : Protocol := fun n s0 v s kap =>
  ∃ ys x ip σ H, n + 1 + ys.length = sizeLine ∧ RelV x v ∧ JI X S Z s0 ip ys σ H s ∧ ∀ t, Nap S Z v s t → kap (.send .none) t
def JR (X : Cx) (S Z : Addr) (Q : List V → VK) (F : Value → Shared → Prop) : GenEnd := fun n s0 r s => match r with
  | .ok (.ret u) => ∃ ys v ip σ H, n + ys.length = sizeLine ∧ JI X S Z s0 ip ys σ H s ∧ RelV v u ∧ Q ys v H
  | .ok _ => False
  | .error e => F e s
def JSP (X : Cx) (S Z : Addr) (s0 : Shared) (ip : List (Addr × Obj)) (D : GEnds) (ys : List V) (f : Flow) (s : Shared) : Prop :=
  match f with
  | .next => ∃ σ H, JI X S Z s0 ip ys σ H s ∧ D.nx ys σ H
  | .brk => ∃ σ H, JI X S Z s0 ip ys σ H s ∧ D.bk ys σ H
  | .cont => ∃ σ H, JI X S Z s0 ip ys σ H s ∧ D.ct ys σ H
  | .ret u => ∃ v σ H, JI X S Z s0 ip ys σ H s ∧ RelV v u ∧ D.rt ys v H
structure JC (X : Cx) (S Z : Addr) (ip : List (Addr × Obj)) (A : Around) (c : Code) (fs : List Frame) (gd : Bool → Bool) : Prop where
  n1 : ∀ p ∈ X.pn, p.1 ≠ S ∧ p.1 ≠ Z
  n2 : ∀ p ∈ ip, p.1 ≠ S ∧ p.1 ≠ Z
  aS : Apart X S
  aZ : Apart X Z
  over : A.over c fs = X.A
  split : splitAtGen fs = none
  guard : fs.any Frame.guarded = false
  gd : gd false = false
structure JK (X : Cx) (S Z : Addr) (ip : List (Addr × Obj)) (A : Around) (R : GenEnd) (c : Code) (fs : List Frame) (K : Flow → Sem PySem.Fin) (J : Value → Sem PySem.Fin) (D : GEnds) : Prop where
  ok : ∀ (n : Nat) (ys : List V) (s0 s : Shared) (f : Flow), n + ys.length = sizeLine → JSP X S Z s0 ip D ys f s → Seg (model X.prog X.w) A R (JY X S Z) n s0 c (K f) fs s
  exc : ∀ (n : Nat) (s0 : Shared) (e : Value) (s : Shared), X.xe e s → Seg (model X.prog X.w) A R (JY X S Z) n s0 c (J e) fs s
structure JS (X : Cx) (st : Stmt) (t : TGn) : Prop where
  run : ∀ (A : Around) (S Z : Addr) (ip : List (Addr × Obj)) (R : GenEnd) (n : Nat) (ys : List V) (s0 : Shared) (c : Code) (fs : List Frame) (K : Flow → Sem PySem.Fin) (J : Value → Sem PySem.Fin) (gd : Bool → Bool) (lv : List Value → List Value) (s : Shared) (σ : L2.St) (H : Hp) (D : GEnds),
    JC X S Z ip A c fs gd → n + ys.length = sizeLine → JK X S Z ip A R c fs K J D → JI X S Z s0 ip ys σ H s → t D ys σ H → Seg (model X.prog X.w) A R (JY X S Z) n s0 c ((exec st X.env).wrap K J gd lv) fs s
structure JSs (X : Cx) (st : List Stmt) (t : TGn) : Prop where
  run : ∀ (A : Around) (S Z : Addr) (ip : List (Addr × Obj)) (R : GenEnd) (n : Nat) (ys : List V) (s0 : Shared) (c : Code) (fs : List Frame) (K : Flow → Sem PySem.Fin) (J : Value → Sem PySem.Fin) (gd : Bool → Bool) (lv : List Value → List Value) (s : Shared) (σ : L2.St) (H : Hp) (D : GEnds),
    JC X S Z ip A c fs gd → n + ys.length = sizeLine → JK X S Z ip A R c fs K J D → JI X S Z s0 ip ys σ H s → t D ys σ H → Seg (model X.prog X.w) A R (JY X S Z) n s0 c ((execs st X.env).wrap K J gd lv) fs s
section
variable {X : Cx} {st : Stmt} {rest : List Stmt}
theorem jss_nil : JSs X [] tG0 :=
  ⟨fun A S Z ip R n ys s0 c fs K J gd lv s σ H D g hn k hI ht => seg_execs_nil (k.ok n ys s0 s .next hn ⟨σ, H, hI, ht⟩)⟩
theorem jss_cons {t u : TGn} (a : JS X st t) (b : JSs X rest u) : JSs X (st :: rest) (tGThen t u) := by
  refine ⟨fun A S Z ip R n ys s0 c fs K J gd lv s σ H D g hn k hI ht => seg_execs_cons ?_⟩
  refine a.run A S Z ip R n ys s0 c fs _ J gd lv s σ H { D with nx := fun ys1 σ1 H1 => u D ys1 σ1 H1 } g hn ⟨fun m zs t0 t f hm hs => ?_, k.exc⟩ hI ht
  cases f with
  | next =>
    obtain ⟨σ1, H1, I1, q⟩ := hs
    exact b.run A S Z ip R m zs t0 c fs K J gd lv t σ1 H1 D g hm k I1 q
  | brk => exact k.ok m zs t0 t .brk hm hs
  | cont => exact k.ok m zs t0 t .cont hm hs
  | ret u => exact k.ok m zs t0 t (.ret u) hm hs
theorem js_yield {e : Expr} {yp pos : Pos} {te : TE} (he : PE X e te) (hco : X.env.scope.isCoroutine = false := by rfl) (hi : interactive X.env = false := by rfl) : JS X (.Expr (.Yield (some e) yp) pos) (tGYield te) := by
  refine ⟨fun A S Z ip R n ys s0 c fs K J gd lv s σ H D g hn k hI ht => ?_⟩
  obtain ⟨hlt, ht⟩ := ht
  obtain ⟨n, rfl⟩ : ∃ m, n = m + 1 := ⟨n - 1, by omega⟩
  obtain ⟨acc, cc, oz, r, ez, I⟩ := hI
  refine seg_Expr_Yield g.split g.gd g.guard ?_ hco hi
  rw [g.over]
  refine wpAny_mono (he.run _ s σ H _ I ht) (fun v t hv => ?_) fun x t hx => k.exc _ s0 x t hx
  obtain ⟨x, H1, I1, rv, q⟩ := hv
  have G1 : JI X S Z s0 ip ys σ H1 t := ⟨acc, cc, oz, r, ez, I1⟩
  exact fun kap hk => ⟨ys, x, ip, σ, H1, hn, rv, G1, fun t' z => hk .none t' (k.ok n (ys ++ [x]) t' t' .next (by rw [List.length_append, List.length_singleton]; omega) ⟨σ, H1, G1.wake g.n1 g.n2 g.aS g.aZ rv z, q⟩)⟩
end
end KK


set_option Elab.async false
set_option linter.all false
set_option maxRecDepth 100000
set_option maxHeartbeats 4000000
namespace KK
open PySem PySem.Spec PyProof.Rows L2
variable {P : Program} {w : World} {K : PySem.W.Frag} {mg : Str → Option Value} {base : Heap}
open GenW
/-! ### for within a generator -/
def tJFor (wi : TI) (g : TG) (tb : TGn) : TGn := fun D ys σ H => wi σ H fun J H1 => ∃ W : Nat → Nat → List V → L2.St → Hp → Prop, (∃ m, W 0 m ys σ H1) ∧ ∀ i m ys σ H, W i m ys σ H →
  (J.stop i H ∧ D.nx ys σ H) ∨ (J.go i H ∧ ∃ N : List V → L2.St → Hp → Prop, (∀ zs τ G, N zs τ G → ∃ k, k < m ∧ W (i + 1) k zs τ G) ∧
    ∀ x G, J.yld i H x G → g x σ G fun σ2 H2 => tb { D with nx := N, ct := N, bk := D.nx } ys σ2 H2)
section
variable {X : Cx}
theorem jc_loop {S Z : Addr} {ip : List (Addr × Obj)} {A : Around} {c c1 : Code} {fs : List Frame} {gd : Bool → Bool} {k : Result → Sem PySem.Fin} {l kp : List Value} {p : Pos} (g : JC X S Z ip A c fs gd) (hw : c1.weight = 0) (hu : c1.cUnits = 0) :
    JC X S Z ip A c1 (.ret k none (gd false) l c p kp :: fs) id where
  n1 := g.n1
  n2 := g.n2
  aS := g.aS
  aZ := g.aZ
  over := (over_loop hw hu).trans g.over
  split := by
    show (splitAtGen fs).map _ = none
    rw [g.split]
    rfl
  guard := by
    show (gd false || fs.any Frame.guarded) = false
    rw [g.gd, g.guard]
    rfl
  gd := rfl
theorem seg_came {S Z : Addr} {ip : List (Addr × Obj)} {A : Around} {R : GenEnd} {c : Code} {fs : List Frame} {K : Flow → Sem PySem.Fin} {J : Value → Sem PySem.Fin} {gd : Bool → Bool} {lv : List Value → List Value} {D : GEnds} {n : Nat} {s0 s : Shared} {e : Value}
    (g : JC X S Z ip A c fs gd) (k : JK X S Z ip A R c fs K J D) (h : cameBackBy (model X.prog X.w) X.A X.env X.xe e s) :
    Seg (model X.prog X.w) A R (JY X S Z) n s0 c (((Sem.raise e : Sem Flow).onRaise (cameBack X.env)).wrap K J gd lv) fs s := by
  show Seg _ _ _ _ _ _ _ (((cameBack X.env e).bind fun _ => (Sem.raise e : Sem Flow)).wrap K J gd lv) _ _
  rw [Sem.bind_eq_wrap, Sem.wrap_wrap]
  exact seg_wrap (by rw [g.over]; exact wpAny_mono h (fun _ t hx => k.exc n s0 e t hx) fun x t hx => k.exc n s0 x t hx)
theorem js_for {tg iter : Expr} {body : List Stmt} {wi : TI} {g : TG} {tb : TGn} {pos : Pos} (hp : PassesOwn (model X.prog X.w) X.A X.env X.xe) (hc : X.calm = true) (hi : PI X tg iter wi) (hg : PG X tg g) (hb : JSs X body tb)
    (hs : ∀ x, foldedSetIterable iter X.env x = pure x := by intro _; rfl) : JS X (.For tg iter body [] pos) (tJFor wi g tb) := by
  refine ⟨fun A S Z ip R n ys s0 c fs K J gd lv s σ H D gc hn k hI ht => ?_⟩
  obtain ⟨acc, cc, oz, r, ez, I⟩ := hI
  rw [exec_For]
  refine seg_bind_wrap (wpAny_standAt (seg_bind_wrap ?_))
  rw [gc.over]
  refine wpAny_mono (hi.run _ s σ H _ I ht) (fun v s1 h1 => ?_) fun x t hx => k.exc n s0 x t hx
  refine seg_bind_wrap (wpAny_of_eq (hs v) (seg_bind_wrap (wpAny_standAt (seg_bind_wrap (wpAny_holding ?_)))))
  rw [gc.over]
  refine wpAny_mono h1 (fun itv s2 h2 => ?_) fun x t hx => k.exc n s0 x t hx
  obtain ⟨it, fp, tn, T0, H2, e, I2, T, st2, f2, W, ⟨m0, w0⟩, turn⟩ := h2
  subst e
  refine seg_call fun p => ?_
  generalize hfr : (Frame.ret (fun r : Result => ((match r with | .ok fl => (.pure fl : Sem Flow) | .error x => .raise x).onRaise (cameBack X.env)).wrap K J gd lv) none (gd false) (lv []) c p [] :: fs) = fr
  have gl : ∀ c1 : Code, c1.weight = 0 → c1.cUnits = 0 → JC X S Z ip A c1 fr id := fun c1 hw hu => by
    rw [← hfr]
    exact jc_loop gc hw hu
  have leaf : ∀ (c1 : Code) (n : Nat) (s0 t : Shared) (r : Result), Seg (model X.prog X.w) A R (JY X S Z) n s0 c (((match r with | .ok fl => (.pure fl : Sem Flow) | .error x => .raise x).onRaise (cameBack X.env)).wrap K J gd lv) fs t → Seg (model X.prog X.w) A R (JY X S Z) n s0 c1 (leafOf r) fr t := fun c1 n s0 t r h => by
    rw [← hfr]
    exact seg_leaf r h
  have stat : ∀ {o1 o2 : Obj} {G : Hp}, (∀ b ∈ fp, G b = none) → ∀ b ∈ fp, FpOk X ((S, o1) :: (Z, o2) :: ip) G b := fun {o1 o2 G} hG b hb => by
    obtain ⟨_, a1, a2, a3, a4, a5⟩ := f2 b hb
    refine ⟨hG b hb, a1, a2, a3, a4, fun q hq => ?_⟩
    rcases List.mem_append.mp hq with hq | hq
    · exact a5 q (List.mem_append_left _ hq)
    · rcases List.mem_cons.mp hq with hq | hq
      · rw [hq]
        exact a5 (S, lstObj acc cc) (List.mem_append_right _ List.mem_cons_self)
      · rcases List.mem_cons.mp hq with hq | hq
        · rw [hq]
          exact a5 (Z, oz) (List.mem_append_right _ (List.mem_cons_of_mem _ List.mem_cons_self))
        · exact a5 q (List.mem_append_right _ (List.mem_cons_of_mem _ (List.mem_cons_of_mem _ hq)))
  have far : ∀ b ∈ fp, b ≠ S ∧ b ≠ Z := fun b hb => by
    obtain ⟨_, _, _, _, _, a5⟩ := f2 b hb
    exact ⟨fun q => a5 (S, lstObj acc cc) (List.mem_append_right _ List.mem_cons_self) q.symm, fun q => a5 (Z, oz) (List.mem_append_right _ (List.mem_cons_of_mem _ List.mem_cons_self)) q.symm⟩
  have esc : ∀ (n : Nat) (s0 : Shared) (x : Value) (t : Shared), X.xe x t → Seg (model X.prog X.w) A R (JY X S Z) n s0 (.forLoop tg (.ref it) body [] X.env) ((do noteFrame x X.env; theTreesLotGoes x : Sem Unit).bind fun _ => .raise x) fr t := fun n s0 x t hx => by
    rw [Sem.bind_eq_wrap]
    refine seg_wrap ?_
    rw [(gl _ rfl rfl).over]
    refine wpAny_bind (wpAny_mono (hp x t hx) (fun _ t2 hcb => wpAny_theTreesLotGoes ?_) fun y t2 hcb => ?_)
    · exact leaf _ n s0 _ (.error x) (seg_came gc k hcb)
    · exact leaf _ n s0 _ (.error y) (seg_came gc k hcb)
  have loop : ∀ (m n : Nat) (ys : List V) (s0 s : Shared) (i : Nat) (σ : L2.St) (H : Hp), n + ys.length = sizeLine → W i m ys σ H → JI X S Z s0 ip ys σ H s → tn i s.heap → (∀ b ∈ fp, H b = none) →
      Seg (model X.prog X.w) A R (JY X S Z) n s0 (.forLoop tg (.ref it) body [] X.env) ((model X.prog X.w).den (.forLoop tg (.ref it) body [] X.env)) fr s := by
    intro m
    induction m using Nat.strongRecOn with
    | ind m ih =>
      intro n ys s0 s i σ H hn w hI st fr0
      show Seg _ A R _ n s0 _ ((forTurn tg (.ref it) body [] X.env).onRaise (fun x => do noteFrame x X.env; theTreesLotGoes x)) fr s
      unfold forTurn
      rw [Sem.onRaise_eq_wrap]
      obtain ⟨acc, cc, oz, r, ez, I⟩ := hI
      refine seg_bind_wrap (wpAny_standAt (seg_bind_wrap (wpAny_onRaise ?_)))
      rw [(gl _ rfl rfl).over]
      rcases turn i m ys σ H w with ⟨stop, qn⟩ | ⟨go, N, hN, step⟩
      · refine wpAny_mono (T.done X rfl rfl rfl hc i _ s σ H X.xe I (stat fr0) st stop) (fun rr t ⟨hr, I4⟩ => ?_) fun x t hx => wpAny_standAt (esc n s0 x t hx)
        subst hr
        refine seg_again rfl ?_
        exact leaf _ n s0 _ (.ok .next) (k.ok n ys s0 t .next hn ⟨σ, H, ⟨acc, cc, oz, r, ez, I4⟩, qn⟩)
      · refine wpAny_mono (T.item X rfl rfl rfl hc i _ s σ H X.xe I (stat fr0) st go) (fun rr t ⟨u, hr, h4⟩ => ?_) fun x t hx => wpAny_standAt (esc n s0 x t hx)
        subst hr
        refine seg_bind_wrap ?_
        rw [(gl _ rfl rfl).over]
        refine wpAny_mono h4 (fun _ s5 ⟨x, H5, I5, r5, y5, st5, fr5⟩ => ?_) fun x t hx => esc n s0 x t hx
        refine seg_bind_wrap ?_
        rw [(gl _ rfl rfl).over]
        have I5' := I5.pinned (stat fr5) (T.obj _ _ st5)
        refine wpAny_mono (hg.run _ s5 σ H5 x u _ I5' r5 (step x H5 y5)) (fun _ s6 ⟨σ6, H6, I6, q6⟩ => ?_) fun x t hx => esc n s0 x t hx
        rw [Sem.bind_eq_wrap', Sem.wrap_wrap]
        have next : ∀ (n : Nat) (zs : List V) (s0 t : Shared) (σ7 : L2.St) (H7 : Hp), n + zs.length = sizeLine → JI X S Z s0 (ip ++ pinsAt fp s5.heap) zs σ7 H7 t → N zs σ7 H7 →
            Seg (model X.prog X.w) A R (JY X S Z) n s0 (.forLoop tg (.ref it) body [] X.env) (.pure (.again (.forLoop tg (.ref it) body [] X.env))) fr t := fun n zs s0 t σ7 H7 hn7 I7 n7 => by
          obtain ⟨m', hm, w7⟩ := hN zs σ7 H7 n7
          obtain ⟨a7, c7, o7, r7, e7, J7⟩ := I7
          refine seg_again rfl (ih m' hm n zs s0 t (i + 1) σ7 H7 hn7 w7 ⟨a7, c7, o7, r7, e7, J7.unpinned (pins := (S, lstObj a7 c7) :: (Z, o7) :: ip)⟩ (T.keep _ _ _ st5 fun b hb o e => ?_) fun b hb => ?_)
          · exact (J7.pin (b, o) (List.mem_append_right _ (List.mem_cons_of_mem _ (List.mem_cons_of_mem _ (List.mem_append_right _ (mem_pinsAt hb e)))))).1
          · obtain ⟨o, e, d⟩ := T.obj _ _ st5 b hb
            exact (J7.pin (b, o) (List.mem_append_right _ (List.mem_cons_of_mem _ (List.mem_cons_of_mem _ (List.mem_append_right _ (mem_pinsAt hb e)))))).2.1
        have less : ∀ {zs : List V} {s0 t : Shared} {σ7 : L2.St} {H7 : Hp}, JI X S Z s0 (ip ++ pinsAt fp s5.heap) zs σ7 H7 t → JI X S Z s0 ip zs σ7 H7 t := fun {zs s0 t σ7 H7} ⟨a7, c7, o7, r7, e7, J7⟩ =>
          ⟨a7, c7, o7, r7, e7, J7.unpinned (pins := (S, lstObj a7 c7) :: (Z, o7) :: ip)⟩
        refine hb.run A S Z (ip ++ pinsAt fp s5.heap) R n ys s0 _ fr _ _ _ _ s6 σ6 H6 { D with nx := N, ct := N, bk := D.nx } ⟨gc.n1, fun q hq => ?_, gc.aS, gc.aZ, (gl _ rfl rfl).over, (gl (.forLoop tg (.ref it) body [] X.env) rfl rfl).split, (gl (.forLoop tg (.ref it) body [] X.env) rfl rfl).guard, rfl⟩ hn ⟨fun n7 zs s07 t f hn7 hs7 => ?_, fun n7 s07 x t hx => esc n7 s07 x t hx⟩ ⟨acc, cc, oz, r, ez, I6⟩ q6
        · rcases List.mem_append.mp hq with hq | hq
          · exact gc.n2 q hq
          · exact far q.1 (of_pinsAt hq).1
        · cases f with
          | next =>
            obtain ⟨σ7, H7, I7, n7'⟩ := hs7
            exact next n7 zs s07 t σ7 H7 hn7 I7 n7'
          | cont =>
            obtain ⟨σ7, H7, I7, n7'⟩ := hs7
            exact next n7 zs s07 t σ7 H7 hn7 I7 n7'
          | brk =>
            obtain ⟨σ7, H7, I7, q7⟩ := hs7
            exact leaf _ n7 s07 t (.ok .next) (k.ok n7 zs s07 t .next hn7 ⟨σ7, H7, less I7, q7⟩)
          | ret v =>
            obtain ⟨x7, σ7, H7, I7, r7, q7⟩ := hs7
            exact leaf _ n7 s07 t (.ok (.ret v)) (k.ok n7 zs s07 t (.ret v) hn7 ⟨x7, σ7, H7, less I7, r7, q7⟩)
  rw [← hfr] at loop
  exact loop m0 n ys s0 s2 0 σ H2 hn w0 ⟨acc, cc, oz, r, ez, I2⟩ st2 fun b hb => (f2 b hb).1
end
end KK


set_option Elab.async false
set_option linter.all false
set_option maxRecDepth 100000
set_option maxHeartbeats 4000000
namespace KK
open PySem PySem.Spec PyProof.Rows L2
variable {P : Program} {w : World} {K : PySem.W.Frag} {mg : Str → Option Value} {base : Heap}
open GenW
/-! ### a call of a generator def that a comprehension walks -/
def JF (P : Program) (w : World) (outer : List Env) (H : Hp) (s : Shared) (S Z : Addr) (Q : List V → Hp → Prop) (_ : Nat) (s0 s1 : Shared) : Prop :=
  ∃ G ys acc c, s1.os = s.os ∧ AllBare s1.gens ∧ Un (frs outer) [] H G s.heap s1.heap ∧ HOk P w G s1.heap ∧ (G S = none ∧ G Z = none) ∧ s1.heap.get? Z = s0.heap.get? Z ∧
    s1.heap.get? S = some (lstObj acc c) ∧ Vals ys acc.toList ∧ ys.length ≤ sizeLine ∧ Q ys G
def JEr (_ : Value) (_ : Shared) : Prop := False
def JEnd (P : Program) (w : World) (outer : List Env) (H : Hp) (s : Shared) (S Z : Addr) (Q : List V → Hp → Prop) : GenEnd := fun n s0 r s1 =>
  ((r = .ok (.ret .none) ∨ r = .ok .next) ∧ JF P w outer H s S Z Q n s0 s1) ∨ ∃ e, r = .error e ∧ JEr e s1
def JItem (s : Shared) (S Z a : Addr) (g : Nat) : Protocol := fun n s0 v s1 kap =>
  s1.os = s.os ∧ AllBare s1.gens ∧ s1.heap.NoLimit ∧ s1.heap.IsGen a g ∧ s1.heap.get? Z = s0.heap.get? Z ∧ (∃ (acc : Array Value) (c : Nat), s1.heap.get? S = some (lstObj acc c) ∧ n + 1 + acc.size = sizeLine) ∧
    ∀ t, Nap S Z v s1 t → kap (.send .none) t
/-- a generator that has not begun -/
def JMade (P : Program) (w : World) (k : Nat) (outer : List Env) (H : Hp) (s : Shared) (Q : List V → Hp → Prop) (u : Value) (t : Shared) : Prop :=
  ∃ (a : Addr) (g : Nat) (c : Code), u = .ref a ∧ s.heap.objs.size ≤ a ∧ a < t.heap.objs.size ∧ t.heap.IsGen a g ∧ t.gens[g]? = some (.fresh c) ∧ t.os = s.os ∧ AllBare t.gens ∧ t.heap.NoLimit ∧ (∀ b o, s.heap.get? b = some o → t.heap.get? b = some o) ∧
    ∀ (A : Around) (S Z : Addr) (s2 : Shared), Room k A → A.frames = some outer → t.heap.objs.size ≤ S → t.heap.objs.size ≤ Z → (∀ b o, t.heap.get? b = some o → s2.heap.get? b = some o) → (∃ c, s2.heap.get? S = some (lstObj #[] c)) →
      (∃ o, s2.heap.get? Z = some o ∧ ∀ v, o.data ≠ .cell v) → s2.os = s.os → AllBare s2.gens → Seg (model P w) A (JEnd P w outer H s S Z Q) (JItem s S Z a g) sizeLine s2 c ((model P w).den c) [] s2
abbrev SpJ := List V → Hp → (List V → Hp → Prop) → Prop
structure JFn (P : Program) (w : World) (K : PySem.W.Frag) (mg : Str → Option Value) (base : Heap) (k : Nat) (f : Addr) (fd : FuncData) (ps : List Str) (sp : SpJ) : Prop where
  len : ∀ vs H Q, sp vs H Q → vs.length = ps.length
  run : ∀ (A : Around) (outer : List Env) (s : Shared) (H : Hp) (args : Args) (us : List Value) (vs : List V) (Q : List V → Hp → Prop), Room k A → Env0 P w K mg base A outer s H → BindsTo s fd args (ps.zip us) → Vals vs us → sp vs H Q →
    codeAny (model P w) A (.call (.ref f) args) (fun r t => match r with | .ok (.ret u) => JMade P w k outer H s Q u t | _ => False) s
/-- the context of its body: no exception leaves it -/
def jcx (P : Program) (w : World) (K : PySem.W.Frag) (mg : Str → Option Value) (base : Heap) (N : List Str) (qual : Str) (scope : Scope) (f : Addr) (cd : Value) (A : Around) (outer : List Env) (s : Shared) (H : Hp) (pn : List (Addr × Obj)) : Cx :=
  { (cxOf C8.CX0 P w K mg base N qual scope f cd A outer s H C8.E0).nox with pn := pn }
theorem inv_jcx {P : Program} {w : World} {K : PySem.W.Frag} {mg : Str → Option Value} {base : Heap} {N : List Str} {qual : Str} {scope : Scope} {f : Addr} {cd : Value} {A : Around} {outer : List Env} {s s1 : Shared} {H G : Hp} {pn pins : List (Addr × Obj)} {σ : L2.St}
    (I : L2.Inv (gcxOf P w K mg base N qual scope f cd A outer s H C8.E0 []) [] σ G s1)
    (h : ∀ p ∈ pn ++ pins, s1.heap.get? p.1 = some p.2 ∧ G p.1 = none ∧ p.1 ≠ (envOfC qual scope s.heap.objs.size f cd).locals ∧ p.1 ∉ frs outer ∧ ∀ v, p.2.data ≠ .cell v) :
    L2.Inv (jcx P w K mg base N qual scope f cd A outer s H pn) pins σ G s1 :=
  { ok := ⟨I.ok.mod, I.ok.kind, I.ok.glob, I.ok.blt, I.ok.above, I.ok.inj, I.ok.has, I.ok.cab, I.ok.hd, I.ok.frames, I.ok.stk, I.ok.exf, I.ok.bs, I.ok.bsz, I.ok.noex, I.ok.exfs, I.ok.funs, I.ok.frf⟩
    os := I.os, bare := I.bare, base := I.base, loc := I.loc, cell := I.cell, free := I.free, freeC := I.freeC, pin := h, hok := I.hok, len := I.len }
theorem jfn_of {P : Program} {w : World} {K : PySem.W.Frag} {mg : Str → Option Value} {base : Heap} {k : Nat} {f : Addr} {name qual : Str} {params : Arguments} {body : List Stmt} {scope : Scope} {dV kV doc pm cdv ct oc : Value} {an od : Option Addr}
    {osl : Array (Option Value)} {N ps : List Str} {sp : SpJ} (lk : K.lookup f = some ⟨oc, od, .func (PySem.W.fnOf name qual params body scope dV kV doc pm an cdv ct), osl⟩) (hcd : PySem.W.codeIn K cdv qual = true) (SC : GScope N ps scope)
    (len : ∀ vs H Q, sp vs H Q → vs.length = ps.length)
    (hbody : ∀ (A : Around) (outer : List Env) (s : Shared) (H : Hp) (vs : List V) (Q : List V → Hp → Prop) (pn : List (Addr × Obj)), Room k (A.deeper (envOfC qual scope s.heap.objs.size f cdv)) → sp vs H Q →
      ∃ t, JSs (jcx P w K mg base N qual scope f cdv A outer s H pn) body t ∧ t { nx := fun ys _ G => Q ys G, rt := fun ys v G => v = .non ∧ Q ys G } [] (start N vs) H) :
    JFn P w K mg base (k + 1) f (PySem.W.fnOf name qual params body scope dV kV doc pm an cdv ct) ps sp := by
  refine ⟨len, fun A outer s H args us vs Q hr e0 hb r hsp => ?_⟩
  have hl := len _ _ _ hsp
  have KX : K.In s.heap := e0.mod.kin.keeps fun b o e => (e0.bs b o e).1
  have lim : s.heap.NoLimit := e0.mod.nolimit.keeps fun b o e => (e0.bs b o e).1
  refine codeAny_call_generator hr.depth (KX _ _ lk) rfl SC.co SC.gen rfl (PySem.W.codeRec_of KX hcd) (hb _ _ _ _ ?_)
  refine wpAny_newFunctionEnv_cells SC.kind (fun ⟨n, v⟩ hy => ?_) fun env he s1 x => ?_
  · rcases SC.par n (List.of_mem_zip hy).1 with q | q
    · exact .inl q
    · exact .inr ⟨q, PySem.W.cellsFrom_some _ _ _ (.inl q)⟩
  subst he
  have kp1 : ∀ b o, s.heap.get? b = some o → s1.heap.get? b = some o := x.toInCall.keep
  have lim1 : s1.heap.NoLimit := lim.keeps kp1
  refine ⟨lim1, ?_⟩
  obtain ⟨h1, tk, es1, hk1⟩ := x.done
  have os1 : s1.os = s.os := by rw [es1]
  have gen1 : s1.gens = s.gens := by rw [es1]
  have lt1 : s.heap.objs.size < s1.heap.objs.size := x.toInCall.ns.lt
  have main : ∀ (go : Obj) (nm qn : Value) (tk2 : Nat), go.cls = .type "generator" → go.data = .fields #[.int s1.gens.size 0, nm, qn] → go.slots = #[] → (∀ h : Heap, (h.push go).get? h.objs.size = some go) →
      JMade P w (k + 1) outer H s Q (.ref s1.heap.objs.size) { s1 with gens := s1.gens.push (.fresh (.func body (envOfC qual scope s.heap.objs.size f cdv))), toks := tk2, heap := s1.heap.push go } := by
    intro go nm qn tk2 hgc hgd0 hgs hgp
    have hgen : ∀ h : Heap, h.get? s1.heap.objs.size = some go → h.IsGen s1.heap.objs.size s1.gens.size := fun h e => ⟨go, nm, qn, e, hgc, hgd0, hgs⟩
    have hpushed : (s1.heap.push go).get? s1.heap.objs.size = some go := hgp _
    have szp : (s1.heap.push go).objs.size = s1.heap.objs.size + 1 := Heap.size_push ..
    refine ⟨s1.heap.objs.size, s1.gens.size, _, rfl, Nat.le_of_lt lt1, by show _ < (s1.heap.push go).objs.size; rw [szp]; exact Nat.lt_succ_self _, hgen _ hpushed, Array.getElem?_push_size .., os1, AllBare.push (by rw [gen1]; exact e0.bare) rfl,
      lim1.keeps fun b o e => Heap.get?_push_of_some _ e, fun b o e => Heap.get?_push_of_some _ (kp1 b o e), fun Aw S Z s2 hrw hfr hS hZ hk2 hSo hZo hos hba => ?_⟩
    have e0w : Env0 P w K mg base Aw outer s H := ⟨hfr, e0.mod, e0.bs, e0.bsz, e0.funs, e0.frf, e0.hok, e0.bare⟩
    obtain ⟨t, ht, hq⟩ := hbody Aw outer s H vs Q [(s1.heap.objs.size, go)] (hrw.deeper _) hsp
    have I1 : L2.Inv (gcxOf P w K mg base N qual scope f cdv Aw outer s H C8.E0 []) [] (start N vs) H s1 := inv_startG SC hrw.hd e0w hl r x
    have kp2 : ∀ b o, s1.heap.get? b = some o → s2.heap.get? b = some o := fun b o e => hk2 b o (Heap.get?_push_of_some _ e)
    have I2 : L2.Inv (gcxOf P w K mg base N qual scope f cdv Aw outer s H C8.E0 []) [] (start N vs) H s2 := I1.call' (ch := []) (hos.trans os1.symm) (Un.kept kp2) (I1.hok.kept kp2) hba fun b z => by simp at z
    have hS1 : s1.heap.objs.size < S := by
      have q : (s1.heap.push go).objs.size ≤ S := hS
      rw [szp] at q
      exact q
    have hZ1 : s1.heap.objs.size < Z := by
      have q : (s1.heap.push go).objs.size ≤ Z := hZ
      rw [szp] at q
      exact q
    obtain ⟨cS, heS⟩ := hSo
    obtain ⟨oz, heZ, hzd⟩ := hZo
    have hea : s2.heap.get? s1.heap.objs.size = some go := hk2 s1.heap.objs.size go hpushed
    have hgd : ∀ v, go.data ≠ .cell v := fun v q => by rw [hgd0] at q; cases q
    have young : ∀ b, s1.heap.objs.size ≤ b → H b = none ∧ b ≠ s.heap.objs.size ∧ b ∉ frs outer ∧ s.heap.objs.size ≤ b ∧ ∀ y c, (cellsFrom (s.heap.objs.size + 1) scope.names []).lookup y = some c → c ≠ b := fun b hb => by
      refine ⟨I1.hok.fresh hb, Nat.ne_of_gt (Nat.lt_of_lt_of_le lt1 hb), I1.nofs hb, Nat.le_trans (Nat.le_of_lt lt1) hb, fun y c e z => ?_⟩
      obtain ⟨v, ob, ho, _⟩ := I1.cell y c e
      have q := Heap.lt_size ho
      rw [z] at q
      exact absurd (Nat.lt_of_lt_of_le q hb) (Nat.lt_irrefl _)
    have apart : ∀ b, s1.heap.objs.size ≤ b → Apart (jcx P w K mg base N qual scope f cdv Aw outer s H [(s1.heap.objs.size, go)]) b := fun b hb => by
      obtain ⟨_, y2, _, y4, y5⟩ := young b hb
      exact ⟨y4, y2, y5⟩
    have hG : JI (jcx P w K mg base N qual scope f cdv Aw outer s H [(s1.heap.objs.size, go)]) S Z s2 [] [] (start N vs) H s2 := by
      refine ⟨#[], cS, oz, .nil, heZ, inv_jcx I2 fun p hp => ?_⟩
      have there : ∀ b, s1.heap.objs.size ≤ b → H b = none ∧ b ≠ (envOfC qual scope s.heap.objs.size f cdv).locals ∧ b ∉ frs outer := fun b hb => by
        obtain ⟨y1, y2, y3, _, _⟩ := young b hb
        exact ⟨y1, y2, y3⟩
      rcases List.mem_append.mp hp with z | z
      · rw [List.mem_singleton.mp z]
        obtain ⟨y1, y2, y3⟩ := there s1.heap.objs.size (Nat.le_refl _)
        exact ⟨hea, y1, y2, y3, hgd⟩
      · rcases List.mem_cons.mp z with z | z
        · rw [z]
          obtain ⟨y1, y2, y3⟩ := there S (Nat.le_of_lt hS1)
          exact ⟨heS, y1, y2, y3, fun v q => by cases q⟩
        · rw [List.mem_singleton.mp z]
          obtain ⟨y1, y2, y3⟩ := there Z (Nat.le_of_lt hZ1)
          exact ⟨heZ, y1, y2, y3, hzd⟩
    have pinned : ∀ {s0 : Shared} {ip : List (Addr × Obj)} {ys : List V} {t : Shared} {σ : L2.St} {G : Hp}, JI (jcx P w K mg base N qual scope f cdv Aw outer s H [(s1.heap.objs.size, go)]) S Z s0 ip ys σ G t → t.heap.IsGen s1.heap.objs.size s1.gens.size := fun {s0 ip ys t σ G} hI => by
      obtain ⟨_, _, _, _, _, J⟩ := hI
      exact hgen _ (J.pin (s1.heap.objs.size, go) (List.mem_append_left _ (List.mem_singleton.mpr rfl))).1
    refine seg_func (seg_imp (R := JR (jcx P w K mg base N qual scope f cdv Aw outer s H [(s1.heap.objs.size, go)]) S Z (fun ys v G => v = .non ∧ Q ys G) fun _ _ => False)
      (Y := JY (jcx P w K mg base N qual scope f cdv Aw outer s H [(s1.heap.objs.size, go)]) S Z) (fun n s0 r t hR => ?_) (fun n s0 v t kap kap' hkk hY => ?_) sizeLine ?_)
    · cases r with
      | error e => exact hR.elim
      | ok fl =>
        cases fl with
        | next => exact hR.elim
        | brk => exact hR.elim
        | cont => exact hR.elim
        | ret u =>
          obtain ⟨ys, v, ip, σ, G, hn, hI, rv, ev, hQ⟩ := hR
          subst ev
          have eu : u = Value.none := rv
          subst eu
          obtain ⟨⟨a1, _, _⟩, ⟨a4, _, _⟩, a7, acc, cc, ra, ea⟩ := hI.facts
          have J := hI.inv
          exact .inl ⟨.inl rfl, G, ys, acc, cc, J.os, J.bare, J.base, J.hok, ⟨a1, a4⟩, a7, ea, ra, by omega, hQ⟩
    · obtain ⟨ys, xx, ip, σ, G, hn, h2, hI, h3⟩ := hY
      obtain ⟨_, _, a7, acc, cc, ra, ea⟩ := hI.facts
      have J := hI.inv
      have hsz : acc.size = ys.length := by
        have e1 := ra.length
        have e2 : acc.toList.length = acc.size := by simp
        omega
      exact ⟨J.os, J.bare, J.nolimit, pinned hI, a7, ⟨acc, cc, ea, by rw [hsz]; exact hn⟩, fun t' z => hkk _ _ (h3 t' z)⟩
    · refine ht.run Aw S Z [] _ sizeLine [] s2 _ [] _ _ id id s2 (start N vs) H _ ⟨fun p hp => ?_, fun p hp => (by simp at hp), apart S (Nat.le_of_lt hS1), apart Z (Nat.le_of_lt hZ1), over_func, rfl, rfl, rfl⟩ (Nat.add_zero _) ⟨fun n ys s0 t fl hn hs => ?_, fun n s0 e t hx => hx.elim⟩ hG hq
      · rw [List.mem_singleton.mp hp]
        exact ⟨Nat.ne_of_lt hS1, Nat.ne_of_lt hZ1⟩
      · cases fl with
        | next =>
          obtain ⟨σ, G, hI, hQ⟩ := hs
          exact seg_end (.ok (.ret .none)) ⟨ys, .non, [], σ, G, hn, hI, rfl, rfl, hQ⟩
        | brk =>
          obtain ⟨_, _, _, q⟩ := hs
          exact q.elim
        | cont =>
          obtain ⟨_, _, _, q⟩ := hs
          exact q.elim
        | ret u =>
          obtain ⟨v, σ, G, hI, rv, ev, hQ⟩ := hs
          exact seg_end (.ok (.ret u)) ⟨ys, v, [], σ, G, hn, hI, rv, ev, hQ⟩
  exact main _ _ _ _ rfl rfl rfl fun h => Heap.get?_push_size _ rfl
end KK


set_option Elab.async false
set_option linter.all false
set_option maxRecDepth 100000
set_option maxHeartbeats 4000000
namespace KK
open PySem PySem.Spec PyProof.Rows L2
variable {P : Program} {w : World} {K : PySem.W.Frag} {mg : Str → Option Value} {base : Heap}
open GenW
/-! ### a comprehension that walks a generator -/
theorem Nap.push {S Z : Addr} {v : Value} {s : Shared} {acc : Array Value} {c : Nat} {G : Array GenState} {oz : Obj} (hn : Z ≠ S) (hS : s.heap.get? S = some (lstObj acc c)) (hZ : s.heap.get? Z = some oz) (hz : ∀ u, oz.data ≠ .cell u) (hG : AllBare G) :
    Nap S Z v s { s with gens := G, heap := s.heap.update S (Obj.mapSeq (·.push v)) } where
  os := rfl
  bare := hG
  stay := fun b o hb _ e => (Heap.get?_update_other _ _ (Ne.symm hb)).trans e
  lst := fun acc' c' e => by
    rw [hS] at e
    cases e
    exact ⟨_, Heap.get?_update_self _ hS rfl⟩
  own := ⟨oz, (Heap.get?_update_other _ _ hn.symm).trans hZ, hz⟩
/-- an expression whose value is a generator that has not begun -/
structure PJ (X : Cx) (k : Nat) (e : Expr) (tg : TGen) : Prop where
  run : ∀ (pins : List (Addr × Obj)) (s : Shared) (σ : L2.St) (H : Hp) (cont : List V → Hp → Prop), L2.Inv X pins σ H s → tg σ H cont →
    wpAny (model X.prog X.w) X.A (eval e X.env) (fun u t => ∃ H1 sc, L2.Inv X pins σ H1 sc ∧ JMade X.prog X.w k X.stack H1 sc cont u t) X.xe s
def tJList (tg : TGen) : TE := fun σ H Q => tg σ H fun out G => ∀ p, G p = none → Q (.ref p) (upd G p (.lst out))
section
variable {X : Cx}
theorem jlc_core {pins : List (Addr × Obj)} {s : Shared} {σ : L2.St} {H : Hp} {Q : VK} {k : Nat} {x : Str} {p1 p2 : Pos} {iter : Expr} {scope : Scope} {pos pos' : Pos} {tg : TGen} {use : Option (Value → Sem Unit)} {Qf : Value → Shared → Prop}
    (hc : X.calm = true) (I : L2.Inv X pins σ H s) (hi : PJ X k iter tg) (hr : Room (k + 1) X.A) (hkind : scope.kind = .function) (hall : ∀ y ∈ scope.names, y.2 = NameKind.local) (hlook : ∀ y ∈ scope.names, scope.names.lookup y.1 = some NameKind.local) (hnm : scope.names.lookup x = some NameKind.local)
    (hd : (x == ("__debug__" : Str)) = false) (hs : ∀ y, foldedSetIterable iter X.env y = pure y) (h : tJList tg σ H Q)
    (hRR : ∀ D C t m G, L2.Inv X pins σ G t → Q (.ref D) G → t.heap.Ns C m → FpOk X pins G C → compPost (model X.prog X.w) X.A X.xe use Qf (.ref D) C (.ok .next) t) :
    wpAny (model X.prog X.w) X.A (comprehension (.ListComp (.Name x p1) [⟨.Name x p2, iter, [], 0⟩] scope pos) scope X.env pos' (newList []) false (eval iter X.env) use) Qf X.xe s := by
  have hfree : ∀ y ∈ scope.names, y.2 = .free → ∃ c, X.env.cells.lookup y.1 = some c := fun y hy e => by
    rw [hall y hy] at e
    cases e
  have huniq : ∀ y ∈ scope.names, y.2 = .local → scope.names.lookup y.1 = some .local := fun y hy _ => hlook y hy
  refine wpAny_comprehension_free (use := use) rfl hs (closure_ok hfree) hkind huniq (thn (hi.run pins s σ H _ I h) fun u s1 hq => ?_)
  obtain ⟨H1, sc, I1, a, g, c, eu, ha1, ha2, hg, hgs, hos, hb, hl, hkp, wake⟩ := hq
  subst eu
  refine wpAny_pyIter_gen hg ?_
  refine wpAny_newObj_type (newEnv_comp ?_) (by show 0 ≤ sizeLine; decide)
  obtain ⟨S, eS⟩ : ∃ S, S = s1.heap.objs.size := ⟨_, rfl⟩
  obtain ⟨h1, eh1⟩ : ∃ h1, h1 = s1.heap.push { cls := .type "list", data := .seq #[] } := ⟨_, rfl⟩
  obtain ⟨Z, eZ⟩ : ∃ Z, Z = h1.objs.size := ⟨_, rfl⟩
  have hSZ : Z ≠ S := by
    rw [eZ, eS, eh1, Heap.size_push]
    exact Nat.succ_ne_self _
  have hS1 : h1.get? S = some (lstObj #[] 0) := by
    rw [eh1, eS]
    exact Heap.get?_push_size _ rfl
  obtain ⟨s4, es4⟩ : ∃ s4 : Shared, s4 = { s1 with heap := pushCells (h1.push { cls := .type "dict", data := .dict #[] }) scope.names } := ⟨_, rfl⟩
  have k14 : ∀ b o, h1.get? b = some o → s4.heap.get? b = some o := fun b o e => by
    rw [es4]
    exact pushCells_keeps _ _ _ _ (Heap.get?_push_of_some _ e)
  have k4 : ∀ b o, s1.heap.get? b = some o → s4.heap.get? b = some o := fun b o e => k14 b o (by rw [eh1]; exact Heap.get?_push_of_some _ e)
  have hns : s4.heap.Ns Z (fun _ => none) := by
    rw [es4, eZ]
    exact Heap.Ns.keeps (Heap.Ns.new ..) fun b o e => pushCells_keeps _ _ _ _ e
  obtain ⟨ce, ece⟩ : ∃ ce, ce = compEnvC scope (cellsFrom (Z + 1) scope.names (cloFrom X.env.cells scope.names [])) Z X.env := ⟨_, rfl⟩
  have hce : codeAny (model X.prog X.w) X.A (.compStart (.ListComp (.Name x p1) [⟨.Name x p2, iter, [], 0⟩] scope pos) 0 (.ref a) (.ref S) ce) (compPost (model X.prog X.w) X.A X.xe use Qf (.ref S) Z) s4 := by
    have cL : ce.locals = Z := by rw [ece]; rfl
    have cK : ce.scope.kind = .function := by rw [ece]; exact hkind
    have cX : ce.kindOf x = some .local := by
      rw [ece]
      exact lookup_relabel_local hnm
    have cC : (ce.scope.kind == .class || (ce.scope.kind == .module && ce.locals != ce.globals)) = false := by rw [cK]; rfl
    have loop : codeAny (model X.prog X.w) X.A (.compLoop (.ListComp (.Name x p1) [⟨.Name x p2, iter, [], 0⟩] scope pos) 0 (.ref a) (.ref S) ce) (compPost (model X.prog X.w) X.A X.xe use Qf (.ref S) Z) s4 := by
      have hgl : g < s1.gens.size := (Array.getElem?_eq_some_iff.mp hgs).1
      have hnsd : ∀ {hh : Heap} {m : Str → Option Value}, hh.Ns Z m → ∃ o, hh.get? Z = some o ∧ ∀ u, o.data ≠ .cell u := fun {hh m} q => by
        obtain ⟨o, ds, ep, ho, hdd, _⟩ := id q
        exact ⟨o, ho, fun u e => by rw [hdd] at e; cases e⟩
      have hdep : X.A.depth < recursionLimit := hr.depth
      refine compLoop_any (fun n t => t.heap.IsGen a g ∧ t.heap.NoLimit ∧ (∃ m, t.heap.Ns Z m) ∧ ∃ gs, t.gens[g]? = some gs ∧
        gs.Goes (model X.prog X.w) X.A.in1 (JEnd X.prog X.w X.stack H1 sc S Z fun out G => ∀ (p : Addr), G p = none → Q (V.ref p) (upd G p (HO.lst out))) (JItem sc S Z a g) n (.send .none) (t.setGen g .running)) ?_ sizeLine
        ⟨hg.keeps k4, hl.keeps k4, ⟨_, hns⟩, .fresh c, by rw [es4]; exact hgs, rfl, ?_⟩
      · rintro n t ⟨hgt, hlt, ⟨m, hn⟩, gs, hgs2, hgo⟩
        have hgl2 : g < t.gens.size := (Array.getElem?_eq_some_iff.mp hgs2).1
        refine wpAny_gsz (n := g + 1) hgl2 (next_genG (A := X.A) (I1.ok.hd hc) hlt hdep hgt hgs2 hgo (fun v t1 gs' hbare hv => ?_) (fun t1 hp h' hk => ?_) fun e t1 he => he.elim)
        · intro hsz
          obtain ⟨os1, hb1, hl1, hg1, hZ1, ⟨acc, c, hS1, hasz⟩, hk⟩ := hv
          have hnZ : t1.heap.Ns Z m := hn.at' fun o e => by
            rw [hZ1]
            exact e
          cases n with
          | zero =>
            obtain ⟨oz, e1, e2⟩ := hnsd hnZ
            exact (hk _ (Nap.push hSZ hS1 e1 e2 hb1)).elim
          | succ n =>
            have hlive : g < t1.gens.size := by
              have q : (t1.setGen g gs').gens.size = t1.gens.size := setGen_size _ _ _
              have hsz' : g + 1 ≤ (t1.setGen g gs').gens.size := hsz
              omega
            refine wpAny_of_eq (a := ()) rfl ?_
            refine wpAny_assign_Name (wpAny_storeName_local cX (by rw [cL]; exact hnZ) (fun h2 hn2 sb2 => ?_) cC)
            rw [cL] at hn2 sb2
            refine wpAny_tests_nil ?_
            rw [if_pos rfl]
            refine wpAny_Name (wpAny_loadName_local cK cX (by rw [cL]; exact hn2) (v := v) (by simp) ?_) hd
            have hS2 : h2.get? S = some (lstObj acc c) := (sb2.2 S hSZ.symm).trans hS1
            refine append_at (hsz := by omega) hS2 fun h3 sb3 ho3 => ?_
            have hn3 := hn2.sameBut sb3 hSZ
            have st3 : ∀ b o, b ≠ S → b ≠ Z → t1.heap.get? b = some o → h3.get? b = some o := fun b o n1 n2 e => (sb3.2 b n1).trans ((sb2.2 b n2).trans e)
            have ha : a ≠ S ∧ a ≠ Z := ⟨fun e => by rw [e, eS] at ha2; exact Nat.lt_irrefl _ ha2, fun e => by
              rw [e, eZ, eh1, Heap.size_push] at ha2
              exact absurd ha2 (Nat.not_lt_of_le (Nat.le_succ _))⟩
            refine ⟨n, Nat.lt_succ_self n, ?_, ?_, ⟨_, hn3⟩, gs', setGen_at hlive, ?_⟩
            · obtain ⟨o, nm, qn, ho, rest⟩ := hg1
              exact ⟨o, nm, qn, st3 a o ha.1 ha.2 ho, rest⟩
            · have hcl : cStatics < s1.heap.objs.size := let ⟨_, hn, _⟩ := hl; hn.lt
              obtain ⟨mc, hns', hnn⟩ := hl1
              refine ⟨mc, hns'.at' fun o e => st3 _ o (fun q => ?_) (fun q => ?_) e, hnn⟩
              · rw [q, eS] at hcl
                exact Nat.lt_irrefl _ hcl
              · rw [q, eZ, eh1, Heap.size_push] at hcl
                exact absurd hcl (Nat.not_lt_of_le (Nat.le_succ _))
            · refine hk _ ⟨rfl, ?_, st3, fun acc' c' e => ?_, hnsd hn3⟩
              · exact allBare_setGen (allBare_setGen hb1 hbare) rfl
              · rw [hS1] at e
                cases e
                exact ⟨_, ho3⟩
        · intro hsz
          obtain ⟨G, ys, acc, c, os1, hb1, un, hok, ⟨g1, g2⟩, hZ1, hSl, rv, hlen, hQ⟩ := hp
          have scS : sc.heap.objs.size ≤ S := by rw [eS]; exact Nat.le_trans ha1 (Nat.le_of_lt ha2)
          have scZ : sc.heap.objs.size ≤ Z := by
            rw [eZ, eh1, Heap.size_push, ← eS]
            exact Nat.le_succ_of_le scS
          have I6 : L2.Inv X pins σ (upd G S (.lst ys)) { t1.setGen g .finished with heap := h' } := I1.drained scS hlen (hk _ _ hSl) rv ExOk.nil os1 (allBare_setGen hb1 rfl) (un.trans (Un.kept hk)) (hok.kept hk) g1
          have hnZ : h'.Ns Z m := hn.at' fun o e => hk _ _ (by rw [hZ1]; exact e)
          exact hRR S Z _ m _ I6 (hQ S g1) hnZ (I1.fpOk scZ (by rw [upd_ne hSZ]; exact g2))
      · refine wake _ S Z _ hr.in1 I1.ok.frames (by rw [eS]; exact Nat.le_refl _) (by rw [eZ, eh1, Heap.size_push]; exact Nat.le_succ _) k4 ⟨_, k14 _ _ hS1⟩ (hnsd hns) (by rw [es4]; exact hos) ?_
        rw [es4]
        exact allBare_setGen hb rfl
    exact codeAny_compStart_list loop (wpAny_pyIter_gen (hg.keeps k4) loop)
  rw [es4, ece, eS, eZ, eh1] at hce
  exact hce
end
end KK


set_option Elab.async false
set_option linter.all false
set_option maxRecDepth 100000
set_option maxHeartbeats 4000000
namespace KK
open PySem PySem.Spec PyProof.Rows L2
variable {P : Program} {w : World} {K : PySem.W.Frag} {mg : Str → Option Value} {base : Heap}
open GenW
/-! ### y = [x for x in o.m(..)] -/
section
variable {X : Cx} {k j : Nat} {C : Addr} {m : Str} {sp : SpJ} {f : Addr} {fd : FuncData} {ps : List Str}
theorem ps_setJ {i : Nat} {x y : Str} {py p1 p2 : Pos} {iter : Expr} {scope : Scope} {pos spos : Pos} {tg : TGen} (hc : X.calm = true) (hN : X.N.Nodup) (hy : X.N[i]? = some y) (hyl : X.env.scope.names.lookup y = some .local)
    (hsw : swapsWith (.ListComp (.Name x p1) [⟨.Name x p2, iter, [], 0⟩] scope pos) (some (.Name y py)) spos.line X.env = pure true) (hi : PJ X k iter tg) (hr : Room (k + 1) X.A) (hkind : scope.kind = .function) (hall : ∀ y ∈ scope.names, y.2 = NameKind.local) (hlook : ∀ y ∈ scope.names, scope.names.lookup y.1 = some NameKind.local) (hnm : scope.names.lookup x = some NameKind.local)
    (hd : (x == ("__debug__" : Str)) = false := by decide) (hs : ∀ z, foldedSetIterable iter X.env z = pure z := by intro _; rfl) :
    PS X (.Assign [.Name y py] (.ListComp (.Name x p1) [⟨.Name x p2, iter, [], 0⟩] scope pos) spos) (tAsg (tJList tg) (gName i)) := by
  refine ⟨fun pins s σ H D I h => ?_⟩
  rw [exec_Assign_Name_used _ _ _ _ hsw]
  refine wpAny_bind (wpAny_standAt (wpAny_bind ?_))
  have h : tJList tg σ H (fun v G => gName i v σ G D.nx) := h
  show wpAny _ X.A (comprehension (.ListComp (.Name x p1) [⟨.Name x p2, iter, [], 0⟩] scope pos) scope X.env (firstIterPos [⟨.Name x p2, iter, [], 0⟩] pos) (newList []) false (eval iter X.env) (some (assign (.Name y py) X.env)) >>= fun _ => pure ()) _ _ s
  refine wpAny_bind (thn (jlc_core (Qf := fun _ t => SP X pins D .next t) hc I hi hr hkind hall hlook hnm hd hs h fun L Z t n G J q hn ff => ?_) fun _ t hq => wpAny_pure (wpAny_pure hq))
  show wpAny _ _ (assign (.Name y py) X.env (.ref L)) _ _ _
  refine wpAny_assign_Name (store_ok2 (v := V.ref L) J hN hy (.inl hyl) rfl (fun s2 I2 ⟨a, sb, ha⟩ => ?_) (.inr hyl))
  obtain ⟨f0, f1, f2, f3, f4, f5⟩ := ff
  have haZ : Z ≠ a := by
    rcases ha with z | z
    · rw [z]
      exact f1
    · exact fun e => f4 y a z e.symm
  exact ⟨n, hn.sameBut sb haZ, fun h3 sb3 => ⟨_, G, I2.turned (t' := s2.toks) (fun b o hb e => (sb3.2 b hb).trans e) f0 f1 f3 f4 f5, q⟩⟩
/-- a generator method -/
structure JMet (P : Program) (w : World) (K : PySem.W.Frag) (mg : Str → Option Value) (base : Heap) (k : Nat) (C : Addr) (m : Str) (sp : SpJ) : Prop where
  ex : ∃ (f : Addr) (fd : FuncData) (ps : List Str), Cls K C ∧ Meth K C m f ∧ JFn P w K mg base k f fd ps sp ∧ Binds K fd ps []
theorem run_jfn {pins : List (Addr × Obj)} {σ : L2.St} {H : Hp} {s : Shared} {us : List Value} {vs : List V} {cont : List V → Hp → Prop} {E1 : Value → Shared → Prop} (F : JFn X.prog X.w X.K X.mg X.base k f fd ps sp) (hr : Room k X.A) (hb : Binds X.K fd ps [])
    (I : L2.Inv X pins σ H s) (r : Vals vs us) (h : sp vs H cont) :
    wpAny (model X.prog X.w) X.A (call (.ref f) us) (fun u t => ∃ H1 sc, L2.Inv X pins σ H1 sc ∧ JMade X.prog X.w k X.stack H1 sc cont u t) E1 s := by
  have hl : (us ++ []).length = ps.length := by
    rw [List.append_nil, ← r.length]
    exact F.len _ _ _ h
  have bt := hb s us I.kIn hl
  rw [List.append_nil] at bt
  refine wpAny_call (codeAny_mono (F.run X.A X.stack s H ⟨us, []⟩ us vs cont hr I.env0 bt r h) fun q t hq => ?_)
  cases q with
  | error e => exact hq.elim
  | ok fl =>
    cases fl with
    | ret u => exact ⟨H, s, I, hq⟩
    | next => exact hq.elim
    | brk => exact hq.elim
    | cont => exact hq.elim
def tMethJ (C : Addr) (m : Str) (sp : SpJ) (ta : TE) (t : TA) : TGen := fun σ H cont => ta σ H fun x H1 => ∃ a dx fs, x = .ref a ∧ H1 a = some (.ins C dx fs) ∧ fs.lookup m = none ∧ t σ H1 fun vs H2 => sp (x :: vs) H2 cont
theorem pj_meth {o e : Expr} {es : List Expr} {ta : TE} {t : TA} {apos pos : Pos} {pl : Sem Bool} (c : JMet X.prog X.w X.K X.mg X.base k C m sp) (he : PE X o ta) (hr : Room j X.A) (hk : k ≤ j) (ha : PA X (e :: es) t)
    (hst : starEach (e :: es) X.env = (false, eval e X.env) :: starEach es X.env := by rfl) (hpl : (backTo pos (starEach es X.env)).any (·.1) = false := by rfl)
    (ht : eval (.Call (.Attribute o m apos) (e :: es) [] pos) X.env = (do
      let ov ← eval o X.env
      standAt apos.atName
      let (f, first) ← holding [ov] (getMethod ov m pl)
      callWith pos f first (backTo pos (starEach (e :: es) X.env)) (backToKw pos (keywordEach [] X.env))) := by rfl) :
    PJ X k (.Call (.Attribute o m apos) (e :: es) [] pos) (tMethJ C m sp ta t) := by
  obtain ⟨f, fd, ps, hc, hm, F, hb⟩ := c.ex
  refine ⟨fun pins s σ H cont I h => ?_⟩
  refine PySem.W.methodCall_KW (pl := pl) (thn (he.run pins s σ H _ I h) fun u s1 ⟨x, H1, I1, rx, a, dx, fs, ex, ea, l, q⟩ => ?_) ht
  subst ex
  obtain rfl : u = Value.ref a := rx
  refine getmeth_ok I1 ea hc hm l ?_
  refine PySem.W.callWith_K (first := [.ref a]) (h₀ := X.base) I.ok.mod.kin hm.kp (thn (ha.run pos pins s1 σ H1 _ I1 q) fun us s2 ⟨vs, H2, I2, r, q2⟩ => ⟨I2.kIn, ?_⟩) hst hpl
  exact run_jfn (us := .ref a :: us) (vs := .ref a :: vs) F (hr.mono hk) hb I2 (.cons rfl r) q2
end
end KK


set_option Elab.async false
set_option linter.all false
set_option maxRecDepth 100000
set_option maxHeartbeats 4000000
namespace KK
open PySem PySem.Spec PyProof.Rows L2
variable {P : Program} {w : World} {K : PySem.W.Frag} {mg : Str → Option Value} {base : Heap}
open GenW
/-! ### World.moves -/
theorem jfor_it {α : Type} {J : It} {zs : List α} {inj : α → V} {G : Hp → Prop} (w : Wk J zs inj G) {g : TG} {tb : TGn} {D : GEnds} {ys0 : List V} {σ : L2.St} {H : Hp} (Pv : Nat → List V → L2.St → Hp → Prop) (h0 : Pv 0 ys0 σ H) (hG : ∀ i ys σ H, i ≤ zs.length → Pv i ys σ H → G H)
    (hs : ∀ i x ys σ H H', i < zs.length → Pv i ys σ H → (H' = H ∧ ∃ z, zs[i]? = some z ∧ x = inj z) → g x σ H' fun σ2 H2 => tb { D with nx := Pv (i + 1), ct := Pv (i + 1), bk := D.nx } ys σ2 H2) (hd : ∀ ys σ H, Pv zs.length ys σ H → D.nx ys σ H) :
    ∃ W : Nat → Nat → List V → L2.St → Hp → Prop, (∃ m, W 0 m ys0 σ H) ∧ ∀ i m ys σ H, W i m ys σ H →
      (J.stop i H ∧ D.nx ys σ H) ∨ (J.go i H ∧ ∃ N : List V → L2.St → Hp → Prop, (∀ zs τ G, N zs τ G → ∃ k, k < m ∧ W (i + 1) k zs τ G) ∧ ∀ x G, J.yld i H x G → g x σ G fun σ2 H2 => tb { D with nx := N, ct := N, bk := D.nx } ys σ2 H2) := by
  refine ⟨fun i m ys σ H => m = zs.length - i ∧ i ≤ zs.length ∧ Pv i ys σ H, ⟨zs.length, rfl, Nat.zero_le _, h0⟩, ?_⟩
  rintro i m ys σ H ⟨rfl, hi, p⟩
  have q := hG i ys σ H hi p
  by_cases hlt : i < zs.length
  · exact .inr ⟨w.goes i H hlt q, Pv (i + 1), fun ys' σ' H' p' => ⟨zs.length - (i + 1), by omega, rfl, hlt, p'⟩, fun x H' y => hs i x ys σ H H' hlt p (w.yields i H x H' hlt q y)⟩
  · have e : i = zs.length := by omega
    subst e
    exact .inl ⟨w.stops H q, hd ys σ H p⟩
/-- a generator method keeps a promise -/
theorem mth_gen {P : Program} {w : World} {K : PySem.W.Frag} {mg : Str → Option Value} {base : Heap} {C : Addr} {m q : Str} {st : Stmt} {N ps : List Str} {k : Nat} {sp : SpJ} (c : Cls K C) (D : MthK K C m q st []) (S : GScope N ps (defScope st))
    (hb : ∀ (kV doc pm : Value) (an : Option Addr) (cdv ct : Value) (us : List Value), us.length = ps.length →
      bindArgs (PySem.W.fnOf m q (defArgs st) (defBody st) (defScope st) .none kV doc pm an cdv ct) ⟨us, []⟩ = pure (ps.zip us))
    (len : ∀ vs H Q, sp vs H Q → vs.length = ps.length)
    (hbody : ∀ (f : Addr) (cdv : Value) (A : Around) (outer : List Env) (s : Shared) (H : Hp) (vs : List V) (Q : List V → Hp → Prop) (pn : List (Addr × Obj)),
      Room k (A.deeper (envOfC q (defScope st) s.heap.objs.size f cdv)) → sp vs H Q →
      ∃ t, JSs (jcx P w K mg base N q (defScope st) f cdv A outer s H pn) (defBody st) t ∧ t { nx := fun ys _ G => Q ys G, rt := fun ys v G => v = .non ∧ Q ys G } [] (start N vs) H) :
    JMet P w K mg base (k + 1) C m sp := by
  obtain ⟨f, fd, F, hm, hf⟩ := D
  refine ⟨f, fd, ps, c, hm, ?_, F.bindsN hb⟩
  obtain ⟨oc, od, dV, kV, doc, pm, an, cdv, ct, osl, rfl, lk, hcd, _, _⟩ := F.ex
  exact jfn_of lk hcd S len fun A outer s H vs Q pn hr hsp => hbody f cdv A outer s H vs Q pn hr hsp
/-- a move: its name and its index -/
def MvAt (W : Wd) (zs : List Str) (U : Addr → Prop) (H : Hp) (v : V) : Prop :=
  ∃ (t : Addr) (z : Str) (a : Act) (i : Nat) (x y : V), v = .ref t ∧ At U H t (.tup [.str z, .int (i : Nat), x, y]) ∧ W.acts z = some a ∧ fitsB W zs a = true ∧ i < a.outs.length
theorem MvAt.lq {W : Wd} {zs : List Str} {U U' : Addr → Prop} {H H' : Hp} {v : V} (h : MvAt W zs U H v) (q : Lq U H U' H') : MvAt W zs U' H' v := by
  obtain ⟨t, z, a, i, x, y, h1, h2, h3⟩ := h
  exact ⟨t, z, a, i, x, y, h1, q _ _ h2, h3⟩
theorem rslL_ix {W : Wd} {zs : List Str} {a : Act} {x : Nat × List Str × List Str} (h : x ∈ rslL W zs a) : x.1 < a.outs.length := by
  obtain ⟨i, hi, hx⟩ := List.mem_flatMap.mp h
  obtain ⟨g, _, e⟩ := List.mem_map.mp hx
  rw [← e]
  exact List.mem_range.mp hi
theorem subT_ne : ∀ zs : List Str, subT zs ≠ []
  | [] => by simp [subT]
  | z :: r => by simp [subT]
theorem rslL_ne {W : Wd} {zs : List Str} {a : Act} (h : a.outs ≠ []) : rslL W zs a ≠ [] := fun e => by
  obtain ⟨g, hg⟩ := List.exists_mem_of_ne_nil _ (subT_ne (takes W (a.out 0)))
  have h0 : 0 < a.outs.length := List.length_pos_iff.mpr h
  have : (0, g, behindL W zs (a.out 0) g) ∈ rslL W zs a := List.mem_flatMap.mpr ⟨0, List.mem_range.mpr h0, List.mem_map.mpr ⟨g, hg, rfl⟩⟩
  rw [e] at this
  cases this
def spMoves (T : Txt K mg) : SpJ := fun vs H Q => ∃ (U : Addr → Prop) (p d q : Addr) (W : Wd) (zs : List Str), vs = [.ref p, .ref q] ∧ WoX T true U H p d W ∧ WdOk W ∧ SqE K H q zs ∧ StOk W zs ∧ Fresh U H ∧
  ∀ (out : List V) (H' : Hp), Same H H' → (∀ v ∈ out, MvAt W zs U H' v) → out.length ≤ 36000 → (out = [] → ∀ z a, W.acts z = some a → fitsB W zs a = false) → Q out H'
theorem sc_mv : GScope ["self", "state", "action", "index", "gone", "following"] ["self", "state"] (defScope (inClass (top 45) 19)) := ⟨rfl, rfl, rfl, by decide +kernel, rfl, by decide +kernel, by decide +kernel⟩
theorem ok_moves (T : Txt K mg) : JMet P w K mg base 11 T.cW "moves" (spMoves T) := by
  have G1 : C8.Met P w K mg base 9 T.cW "possible" (spPossible T) [] := ok_possible T
  have G2 : C8.Met P w K mg base 10 T.cW "results" (spResults T) [] := ok_results T
  refine mth_gen T.W.cl T.wMoves sc_mv (fun _ _ _ _ _ _ us hl => match us, hl with | [_, _], _ => rfl) (fun vs H Q h => ?_) (fun f cdv A outer s H vs Q pn hr h => ?_)
  · obtain ⟨U, p, d, q, W, zs, rfl, _⟩ := h
    rfl
  · obtain ⟨U, p, d, q, W, zs, rfl, hw, hW, hq, hst, hf, k⟩ := h
    have nd := sc_mv.nd
    have hs := sizeLine_eq
    refine ⟨_, jss_cons (js_for PassesOwn.never (by rfl) (pi_list (C8.pe_mt G1 hr (by decide) (pv 0) (pa_cons (pv 1) pa_nil))) (pg_name (i := 2) nd rfl (Or.inl rfl))
      (jss_cons (js_for PassesOwn.never (by rfl) (pi_list (C8.pe_mt G2 hr (by decide) (pv 0) (pa_cons (pv 1) (pa_cons (pv 2) pa_nil)))) (pg_tup (by rfl) (pgs_cons (pg_name (i := 3) nd rfl (Or.inl rfl)) (pgs_cons (pg_name (i := 4) nd rfl (Or.inl rfl)) (pgs_cons (pg_name (i := 5) nd rfl (Or.inl rfl)) pgs_nil))))
        (jss_cons (js_yield (pe_tup (pa_cons (pv 2) (pa_cons (pv 3) (pa_cons (pv 4) (pa_cons (pv 5) pa_nil)))))) jss_nil)) jss_nil)) jss_nil, ?_⟩
    obtain ⟨dx, pf, pi, pr, kvs, w1, _⟩ := id hw
    refine ⟨_, rfl, p, dx, _, rfl, w1.2, rfl, _, rfl, U, p, d, q, W, zs, rfl, hw, hW, hq, hst, hf, fun l ps H1 s1 hl0 hl hpl hps => ?_⟩
    refine ⟨l, rfl, ⟨_, SqL.of hl⟩, jfor_it (wk_list (zs := ps) (inj := V.str)) (fun i ys σ H2 => (∃ y2 y3 y4 y5, σ = [some (.ref p), some (.ref q), y2, y3, y4, y5]) ∧ Same H1 H2 ∧ (∀ v ∈ ys, MvAt W zs U H2 v) ∧ ys.length ≤ i * 900 ∧ (1 ≤ i → ys ≠ []))
      ⟨⟨none, none, none, none, rfl⟩, Same.refl _, fun v hv => (nomatch hv), Nat.zero_le _, fun h => absurd h (by decide)⟩ (fun i ys σ H2 _ ⟨_, s2, _⟩ => SqL.of (s2 _ _ hl)) ?_ ?_⟩
    · rintro i x ys σ H2 H2' hi ⟨⟨y2, y3, y4, y5, rfl⟩, s2, hys, hyl, hyn⟩ ⟨rfl, z, hz, rfl⟩
      obtain ⟨a, ha, hfit⟩ := (hps z).mp (List.mem_of_getElem? hz)
      have hao := (hW.ac z a ha).2.ok
      have s12 := s1.trans s2
      have hw2 := hw.lq (lq_same (U := U) s12)
      refine ⟨_, rfl, p, dx, _, rfl, s12 _ _ w1.2, rfl, _, rfl, _, rfl, U, p, d, q, W, zs, z, a, rfl, hw2, hW, hq.same s12, hst, hf.same s12, ha, hfit, fun r us H3 s3 hr0 hr1 hus => ?_⟩
      have hul : us.length ≤ 900 := by
        have e1 := Paired.length hus
        have e2 := rslL_len hW.ls zs a a.outs.length
        have e3 : us.length ≤ a.outs.length * 15 := by rw [e1]; exact e2
        have := hao.ln
        omega
      have hun : us ≠ [] := fun e => rslL_ne (W := W) (zs := zs) hao.ne (List.length_eq_zero_iff.mp (by rw [← Paired.length hus, e]; rfl))
      have eid : us = us.map fun v => v := by simp
      rw [eid] at hr1
      refine ⟨r, rfl, ⟨_, SqL.of hr1⟩, jfor_it (wk_list (zs := us) (inj := fun v => v)) (fun j ys2 σ H4 => (∃ y3 y4 y5, σ = [some (.ref p), some (.ref q), some (.str z), y3, y4, y5]) ∧ Same H3 H4 ∧ (∀ v ∈ ys2, MvAt W zs U H4 v) ∧ ys2.length ≤ i * 900 + j ∧ (1 ≤ j → ys2 ≠ []))
        ⟨⟨_, _, _, rfl⟩, Same.refl _, fun v hv => (hys v hv).lq (lq_same s3), hyl, fun h => absurd h (by decide)⟩ (fun j ys2 σ H4 _ ⟨_, s4, _⟩ => SqL.of (s4 _ _ hr1)) ?_ ?_⟩
      · rintro j x ys2 σ H4 H4' hj ⟨⟨y3, y4, y5, rfl⟩, s4, hys2, hyl2, hyn2⟩ ⟨rfl, v, hv, rfl⟩
        have hjl : j < (rslL W zs a).length := by rw [← Paired.length hus]; exact hj
        obtain ⟨v', ev, hR⟩ := paired_ix hus (List.getElem?_eq_getElem hjl)
        rw [hv] at ev
        cases ev
        have hix := rslL_ix (List.getElem_mem hjl)
        generalize (rslL W zs a)[j] = rx at hR hix
        obtain ⟨t, pg, pb, rfl, t1, t2, t3⟩ := hR.lq (lq_same (U := U) s4)
        refine ⟨t, _, rfl, SqT.of t1.2, rfl, _, _, rfl, _, _, rfl, _, _, rfl, rfl, ?_⟩
        refine ⟨by omega, _, rfl, _, rfl, _, rfl, _, rfl, by show 4 ≤ sizeLine; decide, fun t4 ht4 => ?_⟩
        have s5 : Same H4' (upd H4' t4 (.tup [.str z, .int (rx.1 : Nat), .ref pg, .ref pb])) := same_new ht4
        have hU4 : U t4 := (((hf.same s12).same s3).same s4) t4 ht4
        refine ⟨⟨_, _, _, rfl⟩, s4.trans s5, fun v hv => ?_, by rw [List.length_append, List.length_singleton]; omega, fun _ => by simp⟩
        rcases List.mem_append.mp hv with h | h
        · exact (hys2 v h).lq (lq_same s5)
        · rw [List.mem_singleton.mp h]
          exact ⟨t4, z, a, rx.1, _, _, rfl, ⟨hU4, upd_same⟩, ha, hfit, hix⟩
      · rintro ys2 σ H4 ⟨⟨y3, y4, y5, rfl⟩, s4, hys2, hyl2, hyn2⟩
        have h1 : 1 ≤ us.length := List.length_pos_iff.mpr hun
        exact ⟨⟨_, _, _, _, rfl⟩, (s2.trans s3).trans s4, hys2, by rw [Nat.add_mul]; omega, fun _ => hyn2 h1⟩
    · rintro ys σ H2 ⟨_, s2, hys, hyl, hyn⟩
      refine k ys H2 (s1.trans s2) hys (by omega) fun e z a ha => ?_
      cases hfb : fitsB W zs a with
      | false => rfl
      | true =>
        have hm := (hps z).mpr ⟨a, ha, hfb⟩
        exact absurd e (hyn (List.length_pos_of_mem hm))
end KK


set_option Elab.async false
set_option linter.all false
set_option maxRecDepth 100000
set_option maxHeartbeats 4000000
namespace KK
open PySem PySem.Spec PyProof.Rows L2
variable {P : Program} {w : World} {K : PySem.W.Frag} {mg : Str → Option Value} {base : Heap}
/-! ### repr of a list with one result -/
def rsD (x : Nat × List Str × List Str) : PyData := .list [.tuple [.int (x.1 : Nat), .tuple (x.2.1.map .str), .tuple (x.2.2.map .str)]]
structure RsSmall (x : Nat × List Str × List Str) : Prop where
  i : x.1 ≤ 100
  l1 : x.2.1.length ≤ 50
  l2 : x.2.2.length ≤ 50
  n1 : ∀ z ∈ x.2.1, NameOk z
  n2 : ∀ z ∈ x.2.2, NameOk z
theorem reads_strs {h : Heap} : ∀ {zs : List Str} {its : List Value}, Vals (zs.map V.str) its → ReadsAll h its (zs.map .str) []
  | [], _, r => by
    cases r
    exact .nil
  | z :: zs, _, r => by
    rw [List.map_cons] at r
    cases r with
    | cons a b =>
      obtain ⟨t, rfl⟩ := a
      exact .cons (as := []) (bs := []) (.str z t) (reads_strs b)
theorem strs_ok : ∀ {zs : List Str}, (∀ z ∈ zs, NameOk z) → PyData.leavesShortAll 8 (zs.map .str) = true ∧ PyData.weightAll (zs.map .str) ≤ 9 * zs.length ∧ PyData.showableAll (zs.map .str) = true ∧ PyData.hasDictAll (zs.map .str) = false ∧ PyData.depthAll (zs.map .str) ≤ 1
  | [], _ => ⟨rfl, Nat.le_refl _, rfl, rfl, by decide⟩
  | z :: zs, h => by
    obtain ⟨a, b, c, d, e⟩ := strs_ok (zs := zs) fun y hy => h y (List.mem_cons_of_mem _ hy)
    have hz := h z List.mem_cons_self
    have h1 : z.cps.toList.all (fun c => decide (c < 16 ^ 8)) = true := List.all_eq_true.mpr fun c hc => by
      have q : ∀ c ∈ letS.cps.toList, decide (c < 16 ^ 8) = true := by decide +kernel
      exact q c (hz.le c hc)
    have h2 : z.cps.size ≤ 8 := hz.hi
    refine ⟨?_, ?_, ?_, ?_, ?_⟩
    · rw [List.map_cons, PyData.leavesShortAll, PyData.leavesShort, h1, a]
      rfl
    · rw [List.map_cons, PyData.weightAll, PyData.weight, List.length_cons]
      omega
    · rw [List.map_cons, PyData.showableAll, PyData.showable, c]
      rfl
    · rw [List.map_cons, PyData.hasDictAll, PyData.hasDict, d]
      rfl
    · rw [List.map_cons, PyData.depthAll, PyData.depth]
      omega
theorem ints_short : ∀ i : Nat, i ≤ 100 → ((PyData.shown (.int (i : Nat))).length ≤ 8) ∧ (decide (((i : Nat) : Int).natAbs.log2 < 1920)) = true ∧ PyData.weight (.int (i : Nat)) ≤ 8 := by
  have q : ∀ i : Fin 101, ((PyData.shown (.int (i.val : Nat))).length ≤ 8) ∧ (decide (((i.val : Nat) : Int).natAbs.log2 < 1920)) = true ∧ PyData.weight (.int (i.val : Nat)) ≤ 8 := by decide +kernel
  exact fun i h => q ⟨i, Nat.lt_succ_of_le h⟩
theorem rsD_ok {x : Nat × List Str × List Str} (h : RsSmall x) : (rsD x).showable = true ∧ (rsD x).hasDict = false ∧ (rsD x).depth ≤ 4 ∧ (rsD x).shown.length ≤ sizeLine := by
  obtain ⟨i, l1, l2⟩ := x
  obtain ⟨hi, h1, h2, n1, n2⟩ := h
  dsimp only at hi h1 h2 n1 n2
  obtain ⟨a1, b1, c1, d1, e1⟩ := strs_ok n1
  obtain ⟨a2, b2, c2, d2, e2⟩ := strs_ok n2
  obtain ⟨i1, i2, i3⟩ := ints_short i hi
  have hls : (rsD (i, l1, l2)).leavesShort 8 = true := by
    simp only [rsD, PyData.leavesShort, PyData.leavesShortAll, a1, a2, decide_eq_true i1, Bool.and_self]
  have hw : (rsD (i, l1, l2)).weight ≤ 2 ^ 20 := by
    have e : (2 : Nat) ^ 20 = 1048576 := by decide
    rw [e]
    have hw2 : (rsD (i, l1, l2)).weight = PyData.weight (.int (i : Nat)) + 1 + (PyData.weightAll (l1.map .str) + 1 + (PyData.weightAll (l2.map .str) + 1 + 0)) + 1 + 0 := by
      simp only [rsD, PyData.weight, PyData.weightAll]
    rw [hw2]
    omega
  refine ⟨?_, ?_, ?_, PyData.shown_fits (B := 8) (by decide) (by decide) hls hw⟩
  · simp only [rsD, PyData.showable, PyData.showableAll, c1, c2, i2, Bool.and_self]
  · simp only [rsD, PyData.hasDict, PyData.hasDictAll, d1, d2, Bool.or_self]
  · simp only [rsD, PyData.depth, PyData.depthAll]
    omega
section
variable {X : Cx}
theorem tup_reads {pins : List (Addr × Obj)} {σ : L2.St} {H : Hp} {s : Shared} {a : Addr} {xs : List V} {ds : List PyData} (I : L2.Inv X pins σ H s) (h : H a = some (.tup xs)) (f : ∀ its, Vals xs its → ReadsAll s.heap its ds []) : Reads s.heap (.ref a) (.tuple ds) [] := by
  obtain ⟨its, rv, ⟨o, e, c, n, d⟩, _⟩ := I.tuple (SqT.of (K := X.K) h)
  exact .tuple e c d (f its rv)
/-- repr([(i, g, b)]) -/
theorem call_reprR (hg : X.A.guards = some []) (hu : X.A.units + 8 < cLine) :
    CallR X (.builtin "repr") (fun xs H Q => ∃ (p : Addr) (v : V) (x : Nat × List Str × List Str) (U : Addr → Prop), xs = [.ref p] ∧ H p = some (.lst [v]) ∧ RsAt U H v x ∧ RsSmall x ∧ Q (.str (rsD x).shown) H) := by
  intro pins s σ H xs us Q I r h
  obtain ⟨p, v, x, U, rfl, hp, ⟨t, pg, pb, rfl, t1, t2, t3⟩, hx, q⟩ := h
  obtain ⟨u, rfl, rx⟩ := vals1 r
  obtain rfl : u = Value.ref p := rx
  obtain ⟨s1, s2, s3, s4⟩ := rsD_ok hx
  obtain ⟨its, n, dd, sl, rv, e⟩ := list_raw I (SqL.of (K := X.K) hp)
  have r1 : Reads s.heap (.ref pg) (.tuple (x.2.1.map .str)) [] := tup_reads I t2.2 fun its rv => reads_strs rv
  have r2 : Reads s.heap (.ref pb) (.tuple (x.2.2.map .str)) [] := tup_reads I t3.2 fun its rv => reads_strs rv
  have r3 : Reads s.heap (.ref t) (.tuple [.int (x.1 : Nat), .tuple (x.2.1.map .str), .tuple (x.2.2.map .str)]) [] := tup_reads I t1.2 fun its rv => by
    cases rv with
    | cons a rv =>
      cases rv with
      | cons b rv =>
        cases rv with
        | cons c rv =>
          cases rv
          obtain ⟨tk, rfl⟩ := a
          cases b
          cases c
          exact .cons (as := []) (bs := []) (.int _ _) (.cons (as := []) (bs := []) r1 (.cons (as := []) (bs := []) r2 .nil))
  have r4 : Reads s.heap (.ref p) (rsD x) [p] := by
    refine .list (as := []) e rfl rfl ?_
    cases rv with
    | cons a rv =>
      cases rv
      cases a
      exact .cons (as := []) (bs := []) r3 .nil
  refine repr_of_reads' r4 s1 (PyData.noDict_hsm s2) hg (by omega) (fun _ _ e => e) (fun h' w' tk hk => ?_) s4
  exact ⟨.str (rsD x).shown, H, I.kept (t' := tk) hk, ⟨w', rfl⟩, q⟩
end
end KK


set_option Elab.async false
set_option linter.all false
set_option maxRecDepth 100000
set_option maxHeartbeats 4000000
namespace KK
open PySem PySem.Spec PyProof.Rows L2
variable {P : Program} {w : World} {K : PySem.W.Frag} {mg : Str → Option Value} {base : Heap}
/-! ### promises of defs that are entered with no guard up (repr's) -/
structure FnG (P : Program) (w : World) (K : PySem.W.Frag) (mg : Str → Option Value) (base : Heap) (k : Nat) (f : Addr) (fd : FuncData) (ps : List Str) (sp : Sp) : Prop where
  len : ∀ vs H Q E, sp vs H Q E → vs.length = ps.length
  run : ∀ (A : Around) (outer : List Env) (s : Shared) (H : Hp) (args : Args) (us : List Value) (vs : List V) (Q : VK) (E : XK), A.guards = some [] → Room k A → Env0 P w K mg base A outer s H → BindsTo s fd args (ps.zip us) → Vals vs us → sp vs H Q E →
    codeAny (model P w) A (.call (.ref f) args) (CR C8.CX0 outer P w H s Q E) s
structure CalG (P : Program) (w : World) (K : PySem.W.Frag) (mg : Str → Option Value) (base : Heap) (k : Nat) (x : Str) (sp : Sp) : Prop where
  ex : ∃ (f : Addr) (fd : FuncData) (ps : List Str), FnG P w K mg base k f fd ps sp ∧ mg x = some (.ref f) ∧ PySem.W.keepIn K (.ref f) = true ∧ Binds K fd ps []
theorem fng_of {P : Program} {w : World} {K : PySem.W.Frag} {mg : Str → Option Value} {base : Heap} {k : Nat} {f : Addr} {x qual : Str} {params : Arguments} {body : List Stmt} {scope : Scope} {dvs : List V} {kws : List (Str × V)} {fd : FuncData} {N ps : List Str} {sp : Sp}
    (F : FunD K x qual params body scope dvs kws f fd) (S : FnScope N ps scope) (len : ∀ vs H Q E, sp vs H Q E → vs.length = ps.length)
    (hbody : ∀ (cdv : Value) (A : Around) (outer : List Env) (s : Shared) (H : Hp) (vs : List V) (Q : VK) (E : XK), A.guards = some [] → Room k (A.deeper (envOfC qual scope s.heap.objs.size f cdv)) → sp vs H Q E →
      ∃ t, PSs (cxOf C8.CX0 P w K mg base N qual scope f cdv A outer s H E).nox body t ∧ t { nx := fun _ G => Q .non G, rt := Q } (start N vs) H) : FnG P w K mg base (k + 1) f fd ps sp := by
  refine ⟨len, fun A outer s H args us vs Q E hgd hr e0 hb r hsp => ?_⟩
  obtain ⟨oc, od, dV, kV, doc, pm, an, cdv, ct, osl, rfl, lk, hcd, _, _⟩ := F.ex
  have live : ∀ b o, base.get? b = some o → s.heap.get? b = some o := fun b o e => (e0.bs b o e).1
  have KX : K.In s.heap := e0.mod.kin.keeps live
  have lim : s.heap.NoLimit := e0.mod.nolimit.keeps live
  refine codeAny_call_function hr.depth (KX _ _ lk) rfl S.co S.gen rfl (PySem.W.codeRec_of KX hcd) (hb _ _ _ _ ?_)
  refine wpAny_newFunctionEnv_cells S.kind (fun ⟨y, v⟩ hy => ?_) fun env he s1 z => ?_
  · exact (S.par y (List.of_mem_zip hy).1).elim .inl fun q => .inr ⟨q, PySem.W.cellsFrom_some _ _ _ (.inl q)⟩
  subst he
  refine ⟨lim.keeps z.toInCall.keep, codeAny_func ?_⟩
  obtain ⟨t, ht, hq⟩ := hbody cdv A outer s H vs Q E hgd (hr.deeper _) hsp
  refine wpAny_mono (ht.nox.run [] s1 (start N vs) H _ (inv_start (CX := C8.CX0) (E := E) S hr.hd e0 (len _ _ _ _ hsp) r z) hq) (fun fl s' hs => ?_) fun e s' hs => hs
  cases fl with
  | ret u =>
    obtain ⟨v, τ, G, J, rv, q⟩ := hs
    exact ⟨v, G, J.os, J.bare, J.base, J.hok, rv, q⟩
  | next =>
    obtain ⟨τ, G, J, q⟩ := hs
    exact ⟨.non, G, J.os, J.bare, J.base, J.hok, rfl, q⟩
  | brk =>
    obtain ⟨_, _, _, q⟩ := hs
    exact q.elim
  | cont =>
    obtain ⟨_, _, _, q⟩ := hs
    exact q.elim
section
variable {X : Cx} {k j : Nat} {x : Str} {sp : Sp} {p pos : Pos} {e : Expr} {es : List Expr} {t : TA}
theorem pe_cG (c : CalG X.prog X.w X.K X.mg X.base k x sp) (hgd : X.A.guards = some []) (hr : Room j X.A) (hk : k ≤ j) (hg : Gl X x) (ha : PA X (e :: es) t)
    (hdb : (x == ("__debug__" : Str)) = false := by decide) (he : starEach (e :: es) X.env = (false, eval e X.env) :: starEach es X.env := by rfl) (hpl : (backTo pos (starEach es X.env)).any (·.1) = false := by rfl) :
    PE X (.Call (.Name x p) (e :: es) [] pos) (tCall sp [] C8.E0 t) := by
  obtain ⟨f, fd, ps, F, hm, kp, b⟩ := c.ex
  refine ⟨fun pins s σ H Q I h => wpAny_Call_Name_kw (ld_glob I hg hm ?_ hdb)⟩
  refine PySem.W.callWith_K (h₀ := X.base) I.ok.mod.kin kp (thn (ha.run pos pins s σ H _ I h) fun us s1 ⟨vs, H1, I1, r, q⟩ => ⟨I1.kIn, ?_⟩) he hpl
  have q' : sp vs H1 Q C8.E0 := by
    have z : sp (vs ++ []) H1 Q C8.E0 := q
    rwa [List.append_nil] at z
  have hl : (us ++ []).length = ps.length := by
    rw [List.append_nil, ← r.length]
    exact F.len _ _ _ _ q'
  have bt := b s1 us I1.kIn hl
  rw [List.append_nil] at bt
  refine wpAny_call (codeAny_mono (F.run X.A X.stack s1 H1 ⟨us, []⟩ us vs Q C8.E0 hgd (hr.mono hk) I1.env0 bt r q') fun y t hy => ?_)
  cases y with
  | error e => exact hy.elim
  | ok fl =>
    cases fl with
    | ret u => exact I1.after hy
    | next => exact hy.elim
    | brk => exact hy.elim
    | cont => exact hy.elim
end
/-! ### _law_same -/
variable {P : Program} {w : World} {K : PySem.W.Frag} {mg : Str → Option Value} {base : Heap}
def spSame : Sp := fun vs H Q _ => ∃ (p q : Addr) (v u : V) (x : Nat × List Str × List Str) (U : Addr → Prop), vs = [.ref p, .ref q] ∧ H p = some (.lst [v]) ∧ H q = some (.lst [u]) ∧ RsAt U H v x ∧ RsAt U H u x ∧ RsSmall x ∧ Q (.bl true) H
theorem sc_sa : FnScope ["_law_found", "_law_due"] ["_law_found", "_law_due"] (defScope (top 51)) := ⟨rfl, rfl, rfl, by decide +kernel, rfl, by decide +kernel, by decide +kernel⟩
theorem ok_same (T : Txt K mg) : CalG P w K mg base 1 "_law_same" spSame := by
  obtain ⟨f, fd, F, hm⟩ := T.lSame
  refine ⟨f, fd, _, fng_of F sc_sa (fun vs H Q E h => ?_) (fun cdv A outer s H vs Q E hgd hr h => ?_), hm, F.kp, F.bindsN fun _ _ _ _ _ _ us hl => match us, hl with | [_, _], _ => rfl⟩
  · obtain ⟨p, q, v, u, x, U, rfl, _⟩ := h
    rfl
  · obtain ⟨p, q, v, u, x, U, rfl, hp, hq, hv, hu, hx, k⟩ := h
    have hu8 : (A.deeper (envOfC "_law_same" (defScope (top 51)) s.heap.objs.size f cdv)).units + 8 < cLine := by
      have := hr.un
      omega
    refine ⟨_, pss_one (ps_ret (pe_cmpR op_eq (pe_callB (call_reprR hgd hu8) (by rfl) (T.blt _ (by decide)) (by decide +kernel) (pa_cons (pv 0) pa_nil)) (pe_callB (call_reprR hgd hu8) (by rfl) (T.blt _ (by decide)) (by decide +kernel) (pa_cons (pv 1) pa_nil)) (nomark _))), ?_⟩
    refine ⟨_, rfl, p, v, x, U, rfl, hp, hv, hx, _, rfl, q, u, x, U, rfl, hq, hu, hx, rfl, ?_⟩
    have e : decide (V.str (rsD x).shown = V.str (rsD x).shown) = true := decide_eq_true rfl
    rw [e]
    exact k
end KK


set_option Elab.async false
set_option linter.all false
set_option maxRecDepth 100000
set_option maxHeartbeats 4000000
namespace KK
open PySem PySem.Spec PyProof.Rows L2
variable {P : Program} {w : World} {K : PySem.W.Frag} {mg : Str → Option Value} {base : Heap}
/-! ### the plain law -/
def TrOk (W : Wd) (tr : List Str) : Prop := W.facts.filter (fun z => decide (z ∈ tr)) = tr
theorem filter_self (l : List Str) (b : Str → Bool) : l.filter (fun z => decide (z ∈ l.filter b)) = l.filter b := List.filter_congr fun z hz => by
  by_cases e : b z = true
  · rw [e]
    exact decide_eq_true (List.mem_filter.mpr ⟨hz, e⟩)
  · have e' : b z = false := Bool.eq_false_iff.mpr e
    rw [e']
    exact decide_eq_false fun h => e (List.mem_filter.mp h).2
theorem trOk_filter (W : Wd) (b : Str → Bool) : TrOk W (W.facts.filter b) := filter_self W.facts b
theorem TrOk.mem {W : Wd} {tr : List Str} (h : TrOk W tr) {z : Str} (hz : z ∈ tr) : z ∈ W.facts := by
  rw [← h] at hz
  exact (List.mem_filter.mp hz).1
theorem TrOk.len {W : Wd} {tr : List Str} (h : TrOk W tr) (hW : ListsOk W) : tr.length ≤ 10 := by
  rw [← h]
  exact Nat.le_trans (List.length_filter_le _ _) hW.lf
theorem mem_stL {W : Wd} {tr : List Str} {num : Str → Int} {z : Str} : z ∈ stL W tr num ↔ z ∈ tr ∨ (z ∈ W.piles ∧ 0 < num z) := by
  unfold stL
  rw [List.mem_append, List.mem_filter]
  simp
theorem stL_pile {W : Wd} (hW : ListsOk W) {tr : List Str} {num : Str → Int} (ht : TrOk W tr) {z : Str} (hz : z ∈ W.piles) : z ∈ stL W tr num ↔ 0 < num z := by
  rw [mem_stL]
  exact ⟨fun h => h.elim (fun q => absurd hz (hW.fp (ht.mem q)).1) (·.2), fun h => .inr ⟨hz, h⟩⟩
theorem stL_fact {W : Wd} (hW : ListsOk W) {tr : List Str} {num : Str → Int} {z : Str} (hz : z ∈ W.facts) : z ∈ stL W tr num ↔ z ∈ tr := by
  rw [mem_stL]
  exact ⟨fun h => h.elim id fun q => absurd q.1 (hW.fp hz).1, .inl⟩
theorem stOk_stL {W : Wd} (hW : ListsOk W) {tr : List Str} {num : Str → Int} (ht : TrOk W tr) : StOk W (stL W tr num) := by
  unfold StOk Wd.seen
  rw [List.filter_append]
  have e1 : W.facts.filter (fun z => decide (z ∈ stL W tr num)) = tr := by
    rw [← ht]
    refine (List.filter_congr fun z hz => ?_).trans rfl
    rw [ht]
    exact decide_eq_decide.mpr (stL_fact hW hz)
  have e2 : W.piles.filter (fun z => decide (z ∈ stL W tr num)) = W.piles.filter fun z => decide (0 < num z) := List.filter_congr fun z hz => decide_eq_decide.mpr (stL_pile hW ht hz)
  rw [e1, e2]
  rfl
/-- what is taken or left -/
theorem filter_sub : ∀ (l : List Str) (b : Str → Bool), l.filter b ∈ subT l
  | [], b => by simp [subT]
  | z :: r, b => by
    have ih := filter_sub r b
    unfold subT
    cases hb : b z with
    | true =>
      rw [List.filter_cons_of_pos hb]
      exact List.mem_cons_of_mem _ (List.mem_append_left _ (List.mem_map.mpr ⟨_, ih, rfl⟩))
    | false =>
      rw [List.filter_cons_of_neg (by rw [hb]; exact Bool.false_ne_true)]
      by_cases e : r.filter b = []
      · rw [e]
        exact List.mem_cons_self
      · exact List.mem_cons_of_mem _ (List.mem_append_right _ (List.mem_filter.mpr ⟨ih, decide_eq_true e⟩))
theorem subT_nd : ∀ {l : List Str}, l.Nodup → (subT l).Nodup
  | [], _ => by simp [subT]
  | z :: r, h => by
    obtain ⟨h1, h2⟩ := List.nodup_cons.mp h
    have ih := subT_nd h2
    unfold subT
    refine List.nodup_cons.mpr ⟨fun q => ?_, List.nodup_append.mpr ⟨?_, ih.sublist List.filter_sublist, fun a ha b hb e => ?_⟩⟩
    · rcases List.mem_append.mp q with q | q
      · obtain ⟨g, _, e⟩ := List.mem_map.mp q
        cases e
      · have := (List.mem_filter.mp q).2
        simp at this
    · exact List.Pairwise.map _ (fun a b n e => n (List.cons.inj e).2) ih
    · obtain ⟨g, _, e2⟩ := List.mem_map.mp ha
      subst e
      rw [← e2] at hb
      exact h1 (subT_mem (List.mem_filter.mp hb).1 z List.mem_cons_self)
theorem filter_one {α : Type} [DecidableEq α] : ∀ {l : List α} {a : α}, l.Nodup → a ∈ l → l.filter (fun x => decide (x = a)) = [a]
  | x :: l, a, nd, h => by
    obtain ⟨h1, h2⟩ := List.nodup_cons.mp nd
    by_cases e : x = a
    · subst e
      rw [List.filter_cons_of_pos (by simp)]
      have : l.filter (fun y => decide (y = x)) = [] := List.filter_eq_nil_iff.mpr fun y hy q => h1 (by rw [← of_decide_eq_true q]; exact hy)
      rw [this]
    · rw [List.filter_cons_of_neg (by simp [e])]
      cases h with
      | head => exact absurd rfl e
      | tail _ h => exact filter_one h2 h
theorem range_filter {β : Type} (h : Nat → List β) (p : β → Bool) (i : Nat) (hp : ∀ j, j ≠ i → ∀ x ∈ h j, p x = false) : ∀ n, ((List.range n).flatMap h).filter p = if i < n then (h i).filter p else []
  | 0 => by simp
  | n + 1 => by
    rw [List.range_succ, List.flatMap_append, List.filter_append, range_filter h p i hp n]
    have e : ([n].flatMap h) = h n := by simp
    rw [e]
    by_cases e1 : i < n
    · rw [if_pos e1, if_pos (by omega)]
      have : (h n).filter p = [] := List.filter_eq_nil_iff.mpr fun x hx q => by rw [hp n (by omega) x hx] at q; cases q
      rw [this, List.append_nil]
    · rw [if_neg e1]
      by_cases e2 : i = n
      · subst e2
        rw [if_pos (by omega), List.nil_append]
      · rw [if_neg (by omega)]
        have : (h n).filter p = [] := List.filter_eq_nil_iff.mpr fun x hx q => by rw [hp n (fun z => e2 z.symm) x hx] at q; cases q
        rw [this]
        rfl
/-- the one result with this index and these piles gone -/
theorem rsl_one {W : Wd} (hW : ListsOk W) {zs : List Str} {a : Act} {i : Nat} {g : List Str} (hi : i < a.outs.length) (hg : g ∈ subT (takes W (a.out i))) :
    (rslL W zs a).filter (fun x => decide (x.1 = i) && decide (x.2.1 = g)) = [(i, g, behindL W zs (a.out i) g)] := by
  unfold rslL
  rw [range_filter _ _ i (fun j hj x hx => ?_), if_pos hi]
  · have nd : (subT (takes W (a.out i))).Nodup := subT_nd (((List.nodup_append.mp hW.cnts).1).sublist List.filter_sublist)
    unfold resAt
    rw [List.filter_map]
    have e : ((fun x : Nat × List Str × List Str => decide (x.1 = i) && decide (x.2.1 = g)) ∘ fun g' => (i, g', behindL W zs (a.out i) g')) = fun g' => decide (g' = g) := by
      funext g'
      simp
    rw [e, filter_one nd hg]
    rfl
  · obtain ⟨g', _, e⟩ := List.mem_map.mp hx
    rw [← e]
    simp [hj]
end KK


set_option Elab.async false
set_option linter.all false
set_option maxRecDepth 100000
set_option maxHeartbeats 4000000
namespace KK
open PySem PySem.Spec PyProof.Rows L2
variable {P : Program} {w : World} {K : PySem.W.Frag} {mg : Str → Option Value} {base : Heap}
/-! ### the plain law: a step -/
theorem pile_chg {W : Wd} {f : Key → Option V} (hW : ListsOk W) (h : ChOk W f) {z : Str} (hz : z ∈ W.piles) : gc f z = .non ∨ gc f z = .str "add" ∨ gc f z = .str "take" ∨ gc f z = .str "empty" := by
  unfold gc
  cases e : f (.inr z) with
  | none => exact .inl rfl
  | some v =>
    obtain ⟨z', e1, _, h1⟩ := h _ v e
    cases e1
    refine .inr ?_
    rcases h1 with q | q | q
    · exact absurd hz (hW.fp q.1).1
    · exact q.2
    · exact absurd q.1 (hW.pr hz)
theorem res_chg {W : Wd} {f : Key → Option V} (hW : ListsOk W) (h : ChOk W f) {z : Str} (hz : z ∈ W.reserves) : gc f z = .non ∨ gc f z = .str "add" ∨ gc f z = .str "take" := by
  unfold gc
  cases e : f (.inr z) with
  | none => exact .inl rfl
  | some v =>
    obtain ⟨z', e1, _, h1⟩ := h _ v e
    cases e1
    refine .inr ?_
    rcases h1 with q | q | q
    · exact absurd hz (hW.fp q.1).2
    · exact absurd hz (hW.pr q.1)
    · exact q.2
theorem cnt_chg {W : Wd} {f : Key → Option V} (hW : ListsOk W) (h : ChOk W f) {z : Str} (hz : z ∈ W.cnts) : gc f z = .non ∨ gc f z = .str "add" ∨ gc f z = .str "take" ∨ (gc f z = .str "empty" ∧ z ∈ W.piles) := by
  rcases List.mem_append.mp hz with q | q
  · rcases pile_chg hW h q with e | e | e | e
    · exact .inl e
    · exact .inr (.inl e)
    · exact .inr (.inr (.inl e))
    · exact .inr (.inr (.inr ⟨e, q⟩))
  · rcases res_chg hW h q with e | e | e
    · exact .inl e
    · exact .inr (.inl e)
    · exact .inr (.inr (.inl e))
theorem stp_non (x y : Int) : stepN .non x y = x := by unfold stepN; rw [if_neg (by decide), if_neg (by decide), if_neg (by decide)]
theorem stp_add (x y : Int) : stepN (.str "add") x y = x + y := by unfold stepN; rw [if_pos rfl]
theorem stp_take (x y : Int) : stepN (.str "take") x y = x - y := by unfold stepN; rw [if_neg (by decide +kernel), if_pos rfl]
theorem stp_empty (x y : Int) : stepN (.str "empty") x y = 0 := by unfold stepN; rw [if_neg (by decide +kernel), if_neg (by decide +kernel), if_pos rfl]
section
variable {W : Wd} {f : Key → Option V} {tr : List Str} {num am : Str → Int} {us : List Str} (hW : ListsOk W) (hf : ChOk W f) (ht : TrOk W tr) (h0 : ∀ z ∈ W.cnts, 0 ≤ num z) (hA : AmtOk W f num us am)
include hW hf h0 hA
theorem numN_nn {z : Str} (hz : z ∈ W.cnts) : 0 ≤ numN f num am z := by
  have q := h0 z hz
  unfold numN
  rcases cnt_chg hW hf hz with e | e | e | ⟨e, _⟩ <;> rw [e]
  · rw [stp_non]
    exact q
  · have p := hA.pos z ((hA.mem z).mpr ⟨hz, .inr e⟩)
    rw [stp_add]
    omega
  · have p := hA.le z ((hA.mem z).mpr ⟨hz, .inl e⟩) e
    rw [stp_take]
    omega
  · rw [stp_empty]
    exact Int.le_refl _
theorem numN_le (hb : ∀ z ∈ us, gc f z = .str "add" → am z ≤ big) {z : Str} (hz : z ∈ W.cnts) : numN f num am z ≤ num z + big := by
  have q := h0 z hz
  have b : (0 : Int) ≤ big := by decide
  unfold numN
  rcases cnt_chg hW hf hz with e | e | e | ⟨e, _⟩ <;> rw [e]
  · rw [stp_non]
    omega
  · have p := hb z ((hA.mem z).mpr ⟨hz, .inr e⟩) e
    rw [stp_add]
    omega
  · have p := hA.pos z ((hA.mem z).mpr ⟨hz, .inl e⟩)
    rw [stp_take]
    omega
  · rw [stp_empty]
    omega
include ht
theorem taken_lt {z : Str} (hz : z ∈ W.cnts) (h : z ∈ takenL W (stL W tr num) f) : numN f num am z < num z := by
  have h2 : takenB (stL W tr num) f z = true := (List.mem_filter.mp h).2
  unfold takenB at h2
  unfold numN
  rcases cnt_chg hW hf hz with e | e | e | ⟨e, hp⟩ <;> rw [e] at h2 ⊢
  · exact absurd h2 (by simp)
  · have n1 : ¬ V.str "add" = V.str "take" := by decide +kernel
    have n2 : ¬ V.str "add" = V.str "empty" := by decide +kernel
    rw [decide_eq_false n1, decide_eq_false n2] at h2
    cases h2
  · have p := hA.pos z ((hA.mem z).mpr ⟨hz, .inl e⟩)
    rw [stp_take]
    omega
  · have n1 : ¬ V.str "empty" = V.str "take" := by decide +kernel
    rw [decide_eq_false n1, decide_eq_true (rfl : V.str "empty" = V.str "empty"), Bool.false_or, Bool.true_and] at h2
    rw [stp_empty]
    exact (stL_pile hW ht hp).mp (of_decide_eq_true h2)
omit ht in
theorem added_gt {z : Str} (hz : z ∈ W.cnts) (h : z ∈ addL W f) : num z < numN f num am z := by
  have e : gc f z = .str "add" := of_decide_eq_true (List.mem_filter.mp h).2
  have p := hA.pos z ((hA.mem z).mpr ⟨hz, .inr e⟩)
  unfold numN
  rw [e, stp_add]
  omega
theorem kept_eq {z : Str} (hz : z ∈ W.cnts) (h : z ∉ takenL W (stL W tr num) f ++ addL W f) : numN f num am z = num z := by
  have h1 : z ∉ takenL W (stL W tr num) f := fun q => h (List.mem_append_left _ q)
  have h2 : z ∉ addL W f := fun q => h (List.mem_append_right _ q)
  have n1 : takenB (stL W tr num) f z = false := Bool.eq_false_iff.mpr fun q => h1 (List.mem_filter.mpr ⟨hz, q⟩)
  unfold takenB at n1
  unfold numN
  rcases cnt_chg hW hf hz with e | e | e | ⟨e, hp⟩
  · rw [e, stp_non]
  · exact absurd (List.mem_filter.mpr ⟨hz, decide_eq_true e⟩) h2
  · rw [e, decide_eq_true (rfl : V.str "take" = V.str "take"), Bool.true_or] at n1
    cases n1
  · have n2 : ¬ V.str "empty" = V.str "take" := by decide +kernel
    rw [e, decide_eq_false n2, decide_eq_true (rfl : V.str "empty" = V.str "empty"), Bool.false_or, Bool.true_and] at n1
    have q := h0 z hz
    have p : ¬ 0 < num z := fun p => of_decide_eq_false n1 ((stL_pile hW ht hp).mpr p)
    rw [e, stp_empty]
    omega
theorem behind_eq : behindL W (stL W tr num) f (goneL W f (numN f num am)) = stL W (trN W tr f) (numN f num am) := by
  unfold behindL Wd.seen stL trN
  rw [List.filter_append]
  have e1 : W.facts.filter (heldB (tr ++ W.piles.filter fun z => decide (0 < num z)) f (goneL W f (numN f num am))) = W.facts.filter (trB tr f) := List.filter_congr fun z hz => by
    have n1 : ¬ V.non = V.str "take" := by decide +kernel
    have n2 : ¬ V.bl true = V.str "take" := by decide +kernel
    have n3 : ¬ V.bl false = V.str "take" := by decide +kernel
    have m1 : ¬ V.bl true = V.non := by decide
    have m2 : ¬ V.bl false = V.non := by decide
    unfold heldB trB
    rcases fact_chg hW hf hz with e | e | e <;> rw [e]
    · rw [if_neg n1, if_pos rfl, if_pos rfl]
      exact decide_eq_decide.mpr (stL_fact hW hz)
    · rw [if_neg n2, if_neg m1, if_neg m1, decide_eq_true (rfl : V.bl true = V.bl true), Bool.true_or]
    · have m3 : ¬ V.bl false = V.bl true := by decide
      have m4 : ¬ V.bl false = V.str "add" := by decide +kernel
      rw [if_neg n3, if_neg m2, if_neg m2, decide_eq_false m3, decide_eq_false m4]
      rfl
  have e2 : W.piles.filter (heldB (tr ++ W.piles.filter fun z => decide (0 < num z)) f (goneL W f (numN f num am))) = W.piles.filter fun z => decide (0 < numN f num am z) := List.filter_congr fun z hz => by
    have hzc : z ∈ W.cnts := List.mem_append_left _ hz
    have nn := numN_nn hW hf h0 hA hzc
    unfold heldB
    rcases pile_chg hW hf hz with e | e | e | e
    · have n1 : ¬ V.non = V.str "take" := by decide +kernel
      have ev : numN f num am z = num z := by unfold numN; rw [e, stp_non]
      rw [e, if_neg n1, if_pos rfl, ev]
      exact decide_eq_decide.mpr (stL_pile hW ht hz)
    · have n1 : ¬ V.str "add" = V.str "take" := by decide +kernel
      have n2 : ¬ V.str "add" = V.non := by decide +kernel
      have p := hA.pos z ((hA.mem z).mpr ⟨hzc, .inr e⟩)
      have q := h0 z hzc
      have ev : numN f num am z = num z + am z := by unfold numN; rw [e, stp_add]
      rw [e, if_neg n1, if_neg n2, decide_eq_true (rfl : V.str "add" = V.str "add"), Bool.or_true, ev]
      exact (decide_eq_true (by omega)).symm
    · rw [e, if_pos rfl]
      have q : z ∈ goneL W f (numN f num am) ↔ numN f num am z = 0 := by
        unfold goneL
        rw [List.mem_filter]
        constructor
        · intro h
          have := h.2
          simp only [Bool.and_eq_true, decide_eq_true_eq] at this
          exact this.2
        · intro h
          exact ⟨hz, by rw [decide_eq_true e, decide_eq_true h]; rfl⟩
      by_cases c : numN f num am z = 0
      · rw [decide_eq_true (q.mpr c), c]
        rfl
      · rw [decide_eq_false fun m => c (q.mp m)]
        exact (decide_eq_true (by omega)).symm
    · have n1 : ¬ V.str "empty" = V.str "take" := by decide +kernel
      have n2 : ¬ V.str "empty" = V.non := by decide +kernel
      have n3 : ¬ V.str "empty" = V.bl true := by decide +kernel
      have n4 : ¬ V.str "empty" = V.str "add" := by decide +kernel
      have ev : numN f num am z = 0 := by unfold numN; rw [e, stp_empty]
      rw [e, if_neg n1, if_neg n2, decide_eq_false n3, decide_eq_false n4, ev]
      rfl
  rw [e1, e2]
omit hW hf h0 hA ht in
theorem gone_sub (num' : Str → Int) : goneL W f num' ∈ subT (takes W f) := by
  have e : goneL W f num' = (takes W f).filter fun z => decide (num' z = 0) := by
    unfold goneL takes
    rw [List.filter_filter]
    exact List.filter_congr fun z _ => Bool.and_comm _ _
  rw [e]
  exact filter_sub _ _
end
end KK


set_option Elab.async false
set_option linter.all false
set_option maxRecDepth 100000
set_option maxHeartbeats 4000000
namespace KK
open PySem PySem.Spec PyProof.Rows L2
variable {P : Program} {w : World} {K : PySem.W.Frag} {mg : Str → Option Value} {base : Heap}
/-! ### the law's invariant -/
theorem NoRes.cong {W W' : Wd} {f : Key → Option V} (h : NoRes W f) (c : W'.reserves = W.reserves) : NoRes W' f := fun z hz => h z (by rw [← c]; exact hz)
theorem AlOk.cong {W W' : Wd} {al : List (Str × Act)} (h : AlOk W al) (a : W'.facts = W.facts) (b : W'.piles = W.piles) (c : W'.reserves = W.reserves) : AlOk W' al :=
  ⟨fun x hx => by
    have q := h.ok x hx
    obtain ⟨f, hf, hn⟩ := q.fr
    exact ⟨q.nm, q.aw.cong a b c, ⟨f, hf, hn.cong c⟩, q.ln⟩, h.nd, h.ln⟩
theorem LwL.cong {W W' : Wd} {U : Addr → Prop} {H : Hp} {p l : Addr} (h : LwL U H p l W) (a : W'.facts = W.facts) (b : W'.piles = W.piles) (c : W'.reserves = W.reserves) : LwL U H p l W' := by
  obtain ⟨f, i, r, h1, h2, h3, h4⟩ := h
  exact ⟨f, i, r, h1, by rw [a]; exact h2, by rw [b]; exact h3, by rw [c]; exact h4⟩
theorem LwA.cong {W W' : Wd} {U : Addr → Prop} {H : Hp} {p : Addr} {al : List (Str × Act)} (h : LwA U H p W al) (a : W'.facts = W.facts) (b : W'.piles = W.piles) (c : W'.reserves = W.reserves) : LwA U H p W' al := by
  obtain ⟨l, ps, h1, h2, h3⟩ := h
  exact ⟨l, ps, h1.cong a b c, h2, h3⟩
def Rg (S L x lg pa : Addr) (b : Addr) : Prop := Ust S L b ∧ b ≠ x ∧ b ≠ lg ∧ b ≠ pa
theorem RunAt.gr {T : Txt K mg} {U Y : Addr → Prop} {H H' : Hp} {p lg pa : Addr} {W : Wd} {tr : List Str} {num : Str → Int} {m : Nat} (h : RunAt T U H p lg pa W tr num m) (g : Gr Y H H') (hU : ∀ b, U b → Y b) (y1 : Y p) (y2 : Y lg) (y3 : Y pa) : RunAt T U H' p lg pa W tr num m := by
  obtain ⟨dx, q, d, t, n, h1, h2, h3, h4, ⟨xs, h5, h5'⟩, ⟨ys, h6, h6'⟩, h7⟩ := h
  have gU := g.sub hU
  exact ⟨dx, q, d, t, n, g.k _ _ y1 h1, h2.lq (gU.sub fun _ h => h.1).lq, gU.lq _ _ h3, h4.lq gU.lq, ⟨xs, g.k _ _ y2 h5, h5'⟩, ⟨ys, g.k _ _ y3 h6, h6'⟩, h7⟩
structure LawI (T : Txt K mg) (S L x lg pa q d pw : Addr) (W : Wd) (al : List (Str × Act)) (tr : List Str) (num : Str → Int) (i m : Nat) (H : Hp) : Prop where
  st : Strm S L H m
  wo : WoX T true (Rg S L x lg pa) H q d W
  lw : LwA (Rg S L x lg pa) H pw W al
  run : RunAt T (Rg S L x lg pa) H x lg pa W tr num i
  tro : TrOk W tr
  nn : ∀ z ∈ W.cnts, 0 ≤ num z ∧ num z ≤ big + i * big
  ux : Ust S L x
  ul : Ust S L lg
  up : Ust S L pa
section
variable {T : Txt K mg} {S L x lg pa q d pw : Addr} {W : Wd} {al : List (Str × Act)} {tr : List Str} {num : Str → Int} {i m : Nat} {H H' : Hp}
theorem LawI.fresh (h : LawI T S L x lg pa q d pw W al tr num i m H) : Fresh (Rg S L x lg pa) H := fun b hb => by
  obtain ⟨dx, q, d, t, n, h1, h2, h3, h4, ⟨xs, h5, h5'⟩, ⟨ys, h6, h6'⟩, h7⟩ := h.run
  refine ⟨h.st.fresh b hb, fun e => ?_, fun e => ?_, fun e => ?_⟩
  · subst e
    rw [h1] at hb
    cases hb
  · subst e
    rw [h5] at hb
    cases hb
  · subst e
    rw [h6] at hb
    cases hb
theorem LawI.gr (h : LawI T S L x lg pa q d pw W al tr num i m H) (g : Gr (Ust S L) H H') {m' : Nat} (s : Strm S L H' m') : LawI T S L x lg pa q d pw W al tr num i m' H' :=
  ⟨s, h.wo.lq (g.sub fun _ h => h.1).lq, h.lw.lq (g.sub fun _ h => h.1).lq, h.run.gr g (fun _ h => h.1) h.ux h.ul h.up, h.tro, h.nn, h.ux, h.ul, h.up⟩
theorem LawI.same (h : LawI T S L x lg pa q d pw W al tr num i m H) (s : Same H H') : LawI T S L x lg pa q d pw W al tr num i m H' := h.gr (gr_same s) (h.st.same s)
end
end KK


set_option Elab.async false
set_option linter.all false
set_option maxRecDepth 100000
set_option maxHeartbeats 4000000
namespace KK
open PySem PySem.Spec PyProof.Rows L2
variable {P : Program} {w : World} {K : PySem.W.Frag} {mg : Str → Option Value} {base : Heap}
/-! ### the law's numbers in a dict -/
theorem dict_num : ∀ (zs : List Str) {num : Str → Int} {kvs : List (Key × V)} {cs : List Str}, (∀ k, valV kvs k = numF cs num k) → ∀ k, valV (mergeK kvs (zs.map fun z => ((Sum.inr z : Key), V.int (num z)))) k = numF (cs ++ zs) num k
  | [], num, kvs, cs, h, k => by
    rw [List.append_nil]
    exact h k
  | z :: zs, num, kvs, cs, h, k => by
    have e : (fun y => if y = z then num z else num y) = num := funext fun y => by
      by_cases c : y = z
      · rw [if_pos c, c]
      · rw [if_neg c]
    have h1 : ∀ k, valV (putK kvs (Sum.inr z) (.int (num z))) k = numF (cs ++ [z]) num k := fun k => by
      have q := numF_put (ds := cs ++ [z]) (z := z) (i := num z) h (fun y => by simp) k
      rwa [e] at q
    have := dict_num zs h1 k
    rw [List.append_assoc] at this
    exact this
theorem dict_num0 {zs : List Str} {num : Str → Int} (k : Key) : valV (mergeK [] (zs.map fun z => ((Sum.inr z : Key), V.int (num z)))) k = numF zs num k := dict_num zs (cs := []) (fun k => by
  cases k with
  | inl i => rfl
  | inr z => exact (numF_out (List.not_mem_nil)).symm) k
theorem dict_numAt {U : Addr → Prop} {H : Hp} {p : Addr} {zs : List Str} {num : Str → Int} (hl : zs.length ≤ 40) (hU : U p) (e : H p = some (.dK (mergeK [] (zs.map fun z => ((Sum.inr z : Key), V.int (num z)))))) : NumAt U H p zs num :=
  ⟨_, ⟨hU, e⟩, dict_num0, by
    have q := length_mergeK (zs.map fun z => ((Sum.inr z : Key), V.int (num z))) []
    rw [List.length_map, List.length_nil] at q
    omega⟩
theorem Strm.gr {Y : Addr → Prop} {S L : Addr} {H H' : Hp} {n : Nat} (h : Strm S L H n) (g : Gr Y H H') (a : Y S) (b : Y L) : Strm S L H' n := by
  obtain ⟨ns, x1, x2, x3, st, r⟩ := h
  exact ⟨ns, x1, x2, x3, ⟨g.k _ _ a st.s, g.k _ _ b st.l⟩, r⟩
theorem RunAt.up {T : Txt K mg} {U : Addr → Prop} {H : Hp} {p lg pa : Addr} {W : Wd} {tr : List Str} {num : Str → Int} {m m' : Nat} (h : RunAt T U H p lg pa W tr num m) (l : m ≤ m') : RunAt T U H p lg pa W tr num m' := by
  obtain ⟨dx, q, d, t, n, h1, h2, h3, h4, ⟨xs, h5, h5'⟩, ⟨ys, h6, h6'⟩, h7⟩ := h
  exact ⟨dx, q, d, t, n, h1, h2, h3, h4, ⟨xs, h5, Nat.le_trans h5' l⟩, ⟨ys, h6, Nat.le_trans h6' l⟩, h7⟩
theorem big_pos : (0 : Int) ≤ big := by decide
theorem big_up {x : Int} {i j : Nat} (h : x ≤ big + i * big) (l : i ≤ j) : x ≤ big + j * big := by
  have e : (i : Int) ≤ j := by exact_mod_cast l
  have := Int.mul_le_mul_of_nonneg_right e big_pos
  omega
theorem big_step {x y : Int} {i : Nat} (h : x ≤ big + i * big) (l : y ≤ x + big) : y ≤ big + ((i + 1 : Nat) : Int) * big := by
  have e : ((i + 1 : Nat) : Int) * big = i * big + big := by
    rw [Int.natCast_add, Int.add_mul]
    simp
  omega
theorem big_cap {x : Int} {i : Nat} (h : x ≤ big + i * big) (l : i ≤ 9) : x ≤ 20 * big := by
  have q := big_up (j := 9) h l
  have e : (((9 : Nat) : Int)) = 9 := rfl
  rw [e] at q
  have := big_pos
  omega
section
variable {T : Txt K mg} {S L x lg pa q d pw : Addr} {W : Wd} {al : List (Str × Act)} {tr : List Str} {num : Str → Int} {i m : Nat} {H H' : Hp}
theorem LawI.later (h : LawI T S L x lg pa q d pw W al tr num i m H) {i' m' : Nat} (l1 : i ≤ i') (l2 : m ≤ m') : LawI T S L x lg pa q d pw W al tr num i' m' H :=
  ⟨h.st.mono l2, h.wo, h.lw, h.run.up l1, h.tro, fun z hz => ⟨(h.nn z hz).1, big_up (h.nn z hz).2 l1⟩, h.ux, h.ul, h.up⟩
theorem LawI.step (h : LawI T S L x lg pa q d pw W al tr num i m H) (g : Gr (fun b => b ≠ x ∧ b ≠ lg ∧ b ≠ pa) H H') {tr' : List Str} {num' : Str → Int} (r : RunAt T (Rg S L x lg pa) H' x lg pa W tr' num' (i + 1)) (t : TrOk W tr')
    (b : ∀ z ∈ W.cnts, 0 ≤ num' z ∧ num' z ≤ num z + big) : LawI T S L x lg pa q d pw W al tr' num' (i + 1) m H' :=
  have gR : Gr (Rg S L x lg pa) H H' := g.sub fun _ h => h.2
  ⟨h.st.gr g ⟨h.ux.1.symm, h.ul.1.symm, h.up.1.symm⟩ ⟨h.ux.2.symm, h.ul.2.symm, h.up.2.symm⟩, h.wo.lq gR.lq, h.lw.lq gR.lq, r, t, fun z hz => ⟨(b z hz).1, big_step (h.nn z hz).2 (b z hz).2⟩, h.ux, h.ul, h.up⟩
end
theorem stL_name {W : Wd} (hW : ListsOk W) {tr : List Str} {num : Str → Int} (ht : TrOk W tr) {z : Str} (h : z ∈ stL W tr num) : NameOk z := (mem_stL.mp h).elim (fun q => hW.nf z (ht.mem q)) fun q => hW.np z q.1
theorem stL_len {W : Wd} (hW : ListsOk W) {tr : List Str} {num : Str → Int} (ht : TrOk W tr) : (stL W tr num).length ≤ 50 := by
  unfold stL
  rw [List.length_append]
  have a := ht.len hW
  have b : (W.piles.filter fun z => decide (0 < num z)).length ≤ _ := List.length_filter_le _ _
  have c := hW.lp
  omega
theorem goneL_name {W : Wd} (hW : ListsOk W) {f : Key → Option V} {num : Str → Int} {z : Str} (h : z ∈ goneL W f num) : NameOk z := hW.np z (List.mem_filter.mp h).1
theorem goneL_len {W : Wd} (hW : ListsOk W) {f : Key → Option V} {num : Str → Int} : (goneL W f num).length ≤ 50 := by
  have b : (goneL W f num).length ≤ _ := List.length_filter_le _ _
  have c := hW.lp
  omega
/-- the one result that is looked for -/
theorem zip_one {α β : Type} {zs : List (α × β)} {p : β → Bool} {b : β} (h : ((zs.map (·.2)).filter p) = [b]) : ∃ a, (a, b) ∈ zs ∧ (zs.filter fun x => p x.2) = [(a, b)] := by
  rw [List.filter_map] at h
  match hz : zs.filter (p ∘ fun x => x.2) with
  | [] => rw [hz] at h; cases h
  | x :: r =>
    rw [hz] at h
    have e1 : x.2 = b := (List.cons.inj h).1
    have e2 : r = [] := List.map_eq_nil_iff.mp (List.cons.inj h).2
    subst e1 e2
    refine ⟨x.1, ?_, hz⟩
    have : x ∈ zs.filter (p ∘ fun x => x.2) := by rw [hz]; exact List.mem_cons_self
    exact (List.mem_filter.mp this).1
theorem rsl_names {W : Wd} (hW : ListsOk W) {zs : List Str} {a : Act} {x : Nat × List Str × List Str} (h : x ∈ rslL W zs a) {z : Str} (hz : z ∈ x.2.1) : NameOk z := by
  obtain ⟨i, _, hx⟩ := List.mem_flatMap.mp h
  obtain ⟨g, hg, e⟩ := List.mem_map.mp hx
  rw [← e] at hz
  exact hW.np z (List.mem_filter.mp (subT_mem hg z hz)).1
end KK


set_option Elab.async false
set_option linter.all false
set_option maxRecDepth 100000
set_option maxHeartbeats 4000000
namespace KK
open PySem PySem.Spec PyProof.Rows L2
variable {P : Program} {w : World} {K : PySem.W.Frag} {mg : Str → Option Value} {base : Heap}
/-! ### the law's last tests: a test that comes out as c, whatever is asked behind it -/
def Tst (t : TT) (σ : L2.St) (H : Hp) (c : Bool) : Prop := ∀ Q : Bool → Hp → Prop, (∀ G, Same H G → Q c G) → t σ H Q
section
variable {t u : TT} {σ : L2.St} {H : Hp} {c : Bool}
theorem Tst.and0 (h1 : Tst t σ H c) (h2 : c = true → ∀ G, Same H G → Tst u σ G false) : Tst (tAnd t u) σ H false := fun Q q => h1 _ fun G sG => by
  cases c with
  | true => exact iteT (h2 rfl G sG Q fun G2 s2 => q G2 (sG.trans s2))
  | false => exact iteF (q G sG)
theorem Tst.skip {r : TS} {D : Ends} (h : Tst t σ H false) (n : ∀ G, Same H G → D.nx σ G) : tIfS t r tNext D σ H := h _ fun G sG => iteF (n G sG)
theorem Tst.neg (h : Tst t σ H c) : Tst (tNot t) σ H (!c) := fun Q q => h _ q
theorem Tst.neg1 (h : Tst t σ H c) (e : c = true) : Tst (tNot t) σ H false := by
  subst e
  exact h.neg
theorem Tst.is {d : Bool} (h : Tst t σ H c) (e : c = d) : Tst t σ H d := e ▸ h
theorem tst_in {i j : Nat} {z : Str} {p : Addr} {zs : List Str} (h1 : σ[i]? = some (some (.str z))) (h2 : σ[j]? = some (some (.ref p))) (hp : SqE K H p zs) : Tst (tTest (tOp (rIn K false) (tVar i) (tVar j))) σ H (decide (z ∈ zs)) := fun Q q =>
  ⟨_, h1, _, h2, p, _, rfl, hp, rfl, strs_flat _, _, rfl, by
    rw [inV_in]
    exact q H (Same.refl H)⟩
theorem get_var {C : Addr} {U : Addr → Prop} {i j : Nat} {z : Str} {p : Addr} {num : Str → Int} {Q : VK} (h1 : σ[i]? = some (some (.ref p))) (h2 : σ[j]? = some (some (.str z))) (hp : StkAt C U H p num) (q : Q (.int (num z)) H) : tGetO C (spStkGet C) (tVar i) (tVar j) σ H Q := by
  obtain ⟨dx, d, g, b1, _⟩ := id hp
  exact ⟨_, h1, _, h2, p, dx, _, rfl, b1.2, U, p, num, z, rfl, hp, q⟩
section
variable {C : Addr} {U : Addr → Prop} {i j l : Nat} {z : Str} {p p2 : Addr} {n1 n2 : Str → Int} (hi : σ[i]? = some (some (.ref p))) (hl : σ[l]? = some (some (.ref p2))) (hj : σ[j]? = some (some (.str z))) (h1 : StkAt C U H p n1) (h2 : StkAt C U H p2 n2)
include hi hl hj h1 h2
theorem tst_lt : Tst (tTest (tOp (rI0 fun i j => V.bl (decide (i < j))) (tGetO C (spStkGet C) (tVar i) (tVar j)) (tGetO C (spStkGet C) (tVar l) (tVar j)))) σ H (decide (n1 z < n2 z)) := fun Q q =>
  get_var hi hj h1 (get_var hl hj h2 ⟨_, _, rfl, rfl, _, rfl, q H (Same.refl H)⟩)
theorem tst_gt : Tst (tTest (tOp (rI0 fun i j => V.bl (decide (j < i))) (tGetO C (spStkGet C) (tVar i) (tVar j)) (tGetO C (spStkGet C) (tVar l) (tVar j)))) σ H (decide (n2 z < n1 z)) := fun Q q =>
  get_var hi hj h1 (get_var hl hj h2 ⟨_, _, rfl, rfl, _, rfl, q H (Same.refl H)⟩)
theorem tst_ne : Tst (tTest (tOp rNe (tGetO C (spStkGet C) (tVar i) (tVar j)) (tGetO C (spStkGet C) (tVar l) (tVar j)))) σ H (!decide (V.int (n1 z) = V.int (n2 z))) := fun Q q =>
  get_var hi hj h1 (get_var hl hj h2 ⟨rfl, _, rfl, q H (Same.refl H)⟩)
end
theorem tst_notin {i j l : Nat} {z : Str} {p p2 : Addr} {zs ys : List Str} (h1 : σ[i]? = some (some (.str z))) (h2 : σ[j]? = some (some (.ref p))) (h3 : σ[l]? = some (some (.ref p2))) (hp : SqT K H p (zs.map V.str)) (hp2 : SqT K H p2 (ys.map V.str)) (hl : zs.length + ys.length ≤ 1000) :
    Tst (tTest (tOp (rIn K true) (tVar i) (tOp (rCatA K) (tVar j) (tVar l)))) σ H (!decide (z ∈ zs ++ ys)) := fun Q q => by
  have fin : ∀ (G : Hp) (t : Addr), Same H G → SqT K G t ((zs ++ ys).map V.str) → rIn K true (.str z) (.ref t) G fun x H' => ∃ k, x = .bl k ∧ Q k H' := fun G t sG ht =>
    ⟨t, _, rfl, .inr ht, rfl, strs_flat _, _, rfl, by
      rw [inV_no]
      exact q G sG⟩
  refine ⟨_, h1, _, h2, _, h3, p, p2, _, _, rfl, rfl, hp, hp2, by rw [List.length_map, List.length_map]; exact Nat.le_trans hl (by decide), fun e => ?_, fun _ e => ?_, fun _ _ t ht => ?_⟩
  · have e' : zs = [] := List.map_eq_nil_iff.mp e
    subst e'
    exact fin H p2 (Same.refl H) hp2
  · have e' : ys = [] := List.map_eq_nil_iff.mp e
    subst e'
    refine fin H p (Same.refl H) ?_
    rw [List.append_nil]
    exact hp
  · refine fin _ t (same_new ht) (SqT.of ?_)
    rw [upd_same, List.map_append]
theorem tst_dict {i j : Nat} {z : Str} {U : Addr → Prop} {p a : Addr} {W : Wd} (h1 : σ[i]? = some (some (.str z))) (h2 : σ[j]? = some (some (.ref p))) (hw : LwL U H p a W) : Tst (tTest (tOp (rIn K false) (tVar i) (tDGet (tVar j) (tC (.str "piles"))))) σ H (decide (z ∈ W.piles)) := fun Q q => by
  obtain ⟨pf, pi, pr, ⟨kvw, w1, w2, w3, _⟩, _, hpi, _⟩ := hw
  exact ⟨_, h1, _, h2, p, _, rfl, dget_rd (.inl w1.2) w3, pi, _, rfl, .inl (SqL.of hpi.2), rfl, strs_flat _, _, rfl, by
    rw [inV_in]
    exact q H (Same.refl H)⟩
theorem tst_ne2 {C : Addr} {U : Addr → Prop} {i j l : Nat} {z : Str} {p t : Addr} {num : Str → Int} {zs : List Str} (h1 : σ[i]? = some (some (.str z))) (h2 : σ[j]? = some (some (.ref t))) (h3 : σ[l]? = some (some (.ref p))) (ht : SqE K H t zs) (hp : StkAt C U H p num) :
    Tst (tTest (tOp rNe (tOp (rIn K false) (tVar i) (tVar j)) (tOp (rI0 fun i j => V.bl (decide (j < i))) (tGetO C (spStkGet C) (tVar l) (tVar i)) (tC (.int 0))))) σ H (!decide (V.bl (decide (z ∈ zs)) = V.bl (decide (0 < num z)))) := fun Q q =>
  ⟨_, h1, _, h2, t, _, rfl, ht, rfl, strs_flat _, get_var h3 h1 hp ⟨_, _, rfl, rfl, rfl, _, rfl, by
    rw [inV_in]
    exact q H (Same.refl H)⟩⟩
end
end KK


set_option Elab.async false
set_option linter.all false
set_option maxRecDepth 100000
set_option maxHeartbeats 4000000
namespace KK
open PySem PySem.Spec PyProof.Rows L2
variable {P : Program} {w : World} {K : PySem.W.Frag} {mg : Str → Option Value} {base : Heap}
/-! ### law -/
def spLaw (K : PySem.W.Frag) : Sp := fun vs H Q _ => ∃ (a : Addr) (ns : List Int), vs = [.ref a] ∧ SqL K H a (ns.map V.int) ∧ ns.length ≤ 63 ∧ ∀ G, Q (.bl true) G
abbrev nLaw : List Str := ["_law_script", "_law_stream", "_law_w", "_law_world_here", "_law_facts", "_law_numbers", "_law_run", "_law_turn", "_law_state", "_law_moves", "_law_name_here", "_law_index", "_law_before", "_law_counter", "_law_now", "_law_amounts_here", "_law_taken", "_law_added", "_law_gone", "_law_after", "_law_following", "_law_some_here", "_law_one"]
theorem sc_law : FnScope nLaw ["_law_script"] (defScope (top 67)) := ⟨rfl, rfl, rfl, by decide +kernel, rfl, by decide +kernel, by decide +kernel⟩
theorem ok_law (T : Txt K mg) : CalG P w K mg base 13 "law" (spLaw K) := by
  have G0 : C8.Cal P w K mg base 1 "_law_draw" spDraw [] := ok_draw T
  have G1 : C8.Cal P w K mg base 8 "_law_wide" (spWorld 890000 1600) [] := ok_wide T
  have G2 : C8.Cal P w K mg base 12 "_law_made" (spMade T) [] := ok_made T
  have G3 : C8.Cal P w K mg base 3 "_law_start" spStart [] := ok_start T
  have G4 : C8.Mak P w K mg base 8 "Run" T.cR (spRunInit K T) [] := ok_runInit T
  have G5 : C8.Mak P w K mg base 4 "Stock" T.cS (spStockInit T.cS) [] := ok_stockInit T
  have G6 : C8.Met P w K mg base 2 T.cR "state_now" (spStateNow T) [] := ok_stateNow T
  have G7 : JMet P w K mg base 11 T.cW "moves" (spMoves T) := ok_moves T
  have G8 : C8.Met P w K mg base 9 T.cW "possible" (spPossible T) [] := ok_possible T
  have G9 : C8.Cal P w K mg base 2 "_law_pick" spPick [] := ok_pick T
  have GA : C8.Met P w K mg base 6 T.cR "stock_now" (spStockNow T) [] := ok_stockNow T
  have GB : Own P w K mg base 1 T.cS "__getitem__" (spStkGet T.cS) := ok_stkGet T
  have GC : C8.Cal P w K mg base 1 "_law_counters" (spLw Wd.cnts) [] := ok_lCounters T
  have GD : C8.Cal P w K mg base 3 "_law_amounts" spAmounts [] := ok_amounts T
  have GE : C8.Cal P w K mg base 1 "_law_named" spNamed [] := ok_named T
  have GF : C8.Met P w K mg base 10 T.cW "shifts" (spShifts T) [] := ok_shifts T
  have GG : C8.Met P w K mg base 10 T.cR "step" (spStep T) [] := ok_step T
  have GH : C8.Met P w K mg base 10 T.cW "results" (spResults T) [] := ok_results T
  have GI : CalG P w K mg base 1 "_law_same" spSame := ok_same T
  obtain ⟨f, fd, F, hm⟩ := T.lLaw
  refine ⟨f, fd, _, fng_of F sc_law (fun vs H Q E h => ?_) (fun cdv A outer s H vs Q E hgd hr h => ?_), hm, F.kp, F.bindsN fun _ _ _ _ _ _ us hl => match us, hl with | [_], _ => rfl⟩
  · obtain ⟨a, ns, rfl, _⟩ := h
    rfl
  · obtain ⟨a, ns, rfl, hsc, hlen, k⟩ := h
    have nd := sc_law.nd
    have hu := hu_of hr
    have hs := sizeLine_eq
    refine ⟨_, (pss_cons (ps_set (i := 1) nd rfl (.inl rfl) (pe_lst (pa_cons (pe_callTy call_list_of (by rfl) (T.blt _ (by decide)) (by decide +kernel) (pa_cons (pv 0) pa_nil)) (pa_cons pe_int (pa_cons pe_int (pa_cons pe_int pa_nil))))))
      (pss_cons (ps_set (i := 2) nd rfl (.inl rfl) (C8.pe_c G1 hr (by decide) (by rfl) (pa_cons (pv 1) (pa_cons pe_int (pa_cons pe_int pa_nil)))))
      (pss_cons (ps_set (i := 3) nd rfl (.inl rfl) (C8.pe_c G2 hr (by decide) (by rfl) (pa_cons (pv 2) pa_nil)))
      (pss_cons (ps_asg (C8.pe_c G3 hr (by decide) (by rfl) (pa_cons (pv 1) (pa_cons (pv 2) pa_nil))) (pg_tup (by rfl) (pgs_cons (pg_name (i := 4) nd rfl (Or.inl rfl)) (pgs_cons (pg_name (i := 5) nd rfl (Or.inl rfl)) pgs_nil))))
      (pss_cons (ps_set (i := 6) nd rfl (.inl rfl) (C8.pe_mk G4 hr (by decide) (by rfl) (pa_cons (pv 3) (pa_cons (pv 4) (pa_cons (C8.pe_mk G5 hr (by decide) (by rfl) (pa_cons (pv 5) pa_nil)) pa_nil)))))
      (pss_cons (ps_for PassesOwn.never (by rfl) (pi_range1 (by rfl) (T.blt _ (by decide)) (pa_cons (C8.pe_c G0 hr (by decide) (by rfl) (pa_cons (pv 1) (pa_cons pe_int pa_nil))) pa_nil)) (pg_name (i := 7) nd rfl (Or.inl rfl))
      (pss_cons (ps_set (i := 8) nd rfl (.inl rfl) (C8.pe_mt0 G6 hr (by decide) (pv 6)))
      (pss_cons (ps_setJ (i := 9) (by rfl) nd rfl rfl (sw_true rfl rfl rfl (by decide +kernel)) (pj_meth G7 (pv 3) hr (by decide) (pa_cons (pv 8) pa_nil)) (hr.mono (by decide)) rfl (by decide +kernel) (by decide +kernel) (by decide +kernel))
      (pss_cons (ps_if (pt_cmpR (op_eqNil (Nat.lt_of_succ_lt hu)) (pv 9) (pe_lst pa_nil) (nomark _)) (pss_one (ps_ret (pe_cmpR (op_eqNil (Nat.lt_of_succ_lt hu)) (C8.pe_mt G8 hr (by decide) (pv 3) (pa_cons (pv 8) pa_nil)) (pe_lst pa_nil) (nomark _)))) pss_nil)
      (pss_cons (ps_asg (pe_slice sl_tup (C8.pe_c G9 hr (by decide) (by rfl) (pa_cons (pv 1) (pa_cons (pv 9) pa_nil))) po_none (po_some pe_int)) (pg_tup (by rfl) (pgs_cons (pg_name (i := 10) nd rfl (Or.inl rfl)) (pgs_cons (pg_name (i := 11) nd rfl (Or.inr rfl)) pgs_nil))))
      (pss_cons (ps_set (i := 12) nd rfl (.inr rfl) (C8.pe_mt0 GA hr (by decide) (pv 6)))
      (pss_cons (ps_set (i := 14) nd rfl (.inl rfl) (pe_callTy (call_dictP (by rfl)) (by rfl) (T.blt _ (by decide)) (by decide +kernel) (pa_cons (pe_lc (own := [("_law_counter", 13)]) (g := gName 13) (by rfl) nd (pi_list (C8.pe_c GC hr (by decide) (by rfl) (pa_cons (pv 2) pa_nil))) (blkOk_by (own := [("_law_counter", 13)]) (N := nLaw) (sc := defScope (top 67)) (by decide +kernel))
        (fun _ _ _ _ _ => (pg_name (i := 13) nd rfl (Or.inl rfl))) (fun _ _ _ _ _ => pts_nil) (fun _ _ _ _ _ => (pe_tup (pa_cons (pv 13) (pa_cons (pe_getO GB hr (by decide) (pv 12) (pv 13)) pa_nil))))) pa_nil)))
      (pss_cons (ps_set (i := 15) nd rfl (.inl rfl) (C8.pe_c GD hr (by decide) (by rfl) (pa_cons (pv 1) (pa_cons (pv 2) (pa_cons (pv 14) (pa_cons (pe_ix ix_list (pe_ix ix_list (C8.pe_c GE hr (by decide) (by rfl) (pa_cons (pv 2) (pa_cons (pv 10) pa_nil))) pe_int (fun _ _ => rfl)) (pv 11) (fun _ _ => rfl)) pa_nil))))))
      (pss_one (ps_if (pt_cmp (pc_notN (pv 15))) (pss_cons (ps_asg (C8.pe_mt GF hr (by decide) (pv 3) (pa_cons (pv 8) (pa_cons (pv 10) (pa_cons (pv 11) pa_nil)))) (pg_tup (by rfl) (pgs_cons (pg_name (i := 16) nd rfl (Or.inl rfl)) (pgs_cons (pg_name (i := 17) nd rfl (Or.inl rfl)) pgs_nil))))
      (pss_cons (ps_set (i := 18) nd rfl (.inr rfl) (C8.pe_mt GG hr (by decide) (pv 6) (pa_cons (pv 10) (pa_cons (pv 11) (pa_cons (pv 15) pa_nil)))))
      (pss_cons (ps_set (i := 19) nd rfl (.inl rfl) (C8.pe_mt0 GA hr (by decide) (pv 6)))
      (pss_cons (ps_set (i := 20) nd rfl (.inl rfl) (C8.pe_mt0 G6 hr (by decide) (pv 6)))
      (pss_cons (ps_setLc (i := 21) (own := [("_law_one", 22)]) (g := gName 22) (by rfl) nd rfl rfl (sw_true rfl rfl rfl (by decide +kernel)) (pi_list (C8.pe_mt GH hr (by decide) (pv 3) (pa_cons (pv 8) (pa_cons (pv 10) pa_nil)))) (blkOk_by (own := [("_law_one", 22)]) (N := nLaw) (sc := defScope (top 67)) (by decide +kernel))
        (fun _ _ _ _ _ => (pg_name (i := 22) nd rfl (Or.inl rfl))) (fun _ _ _ _ _ => (pts_one (PW.pt (pw_and (pt_cmpR op_eq (pe_ix (r := rIxT K) ix_tup (pv 22) pe_int (fun _ _ => rfl)) (pv 11) (nomark _)) (pw_and1 (pt_cmpR (r := rEqD K) (op_eqD hr.units) (pe_ix (r := rIxT K) ix_tup (pv 22) pe_int (fun _ _ => rfl)) (pv 18) (nomark _))))))) (fun _ _ _ _ _ => (pv 22)))
      (pss_cons (ps_if (pt_not (pt_val (pe_cG GI hgd hr (by decide) (by rfl) (pa_cons (pv 21) (pa_cons (pe_lst (pa_cons (pe_tup (pa_cons (pv 11) (pa_cons (pv 18) (pa_cons (pv 20) pa_nil)))) pa_nil)) pa_nil))))) (pss_one (ps_ret pe_bl)) pss_nil)
      (pss_one (ps_for PassesOwn.never (by rfl) (pi_list (C8.pe_c GC hr (by decide) (by rfl) (pa_cons (pv 2) pa_nil))) (pg_name (i := 13) nd rfl (Or.inl rfl))
      (pss_cons (ps_if (PW.pt (pw_and (pt_cmpR op_in_seq (pv 13) (pv 16) (by rfl)) (pw_and1 (pt_not (pt_cmpR op_lt (pe_getO GB hr (by decide) (pv 19) (pv 13)) (pe_getO GB hr (by decide) (pv 12) (pv 13)) (nomark _)))))) (pss_one (ps_ret pe_bl)) pss_nil)
      (pss_cons (ps_if (PW.pt (pw_and (pt_cmpR op_in_seq (pv 13) (pv 17) (by rfl)) (pw_and1 (pt_not (pt_cmpR op_gt (pe_getO GB hr (by decide) (pv 19) (pv 13)) (pe_getO GB hr (by decide) (pv 12) (pv 13)) (nomark _)))))) (pss_one (ps_ret pe_bl)) pss_nil)
      (pss_cons (ps_if (PW.pt (pw_and (pt_cmpR op_notIn_seq (pv 13) (pe_op op_catA (pv 16) (pv 17)) (by rfl)) (pw_and1 (pt_cmpR op_ne (pe_getO GB hr (by decide) (pv 19) (pv 13)) (pe_getO GB hr (by decide) (pv 12) (pv 13)) (nomark _))))) (pss_one (ps_ret pe_bl)) pss_nil)
      (pss_one (ps_if (PW.pt (pw_and (pt_cmpR op_in_seq (pv 13) (pe_dget hu (pv 2) pe_str (fun _ _ => rfl)) (by rfl)) (pw_and1 (pt_cmpR op_ne (pe_cmpR op_in_seq (pv 13) (pv 20) (by rfl)) (pe_cmpR op_gt (pe_getO GB hr (by decide) (pv 19) (pv 13)) pe_int (nomark _)) (nomark _))))) (pss_one (ps_ret pe_bl)) pss_nil))))))))))))) pss_nil))))))))))
      (pss_one (ps_ret pe_bl)))))))), ?_⟩
    refine ⟨_, rfl, a, _, rfl, .inl hsc, fun L hL => ?_⟩
    have s1 : Same H (upd H L (.lst (ns.map V.int))) := same_new hL
    have l1 : (upd H L (.lst (ns.map V.int))) L = some (.lst (ns.map V.int)) := upd_same
    generalize upd H L (.lst (ns.map V.int)) = H1 at s1 l1 ⊢
    refine ⟨by show 4 ≤ sizeLine; decide, fun S hS => ?_⟩
    have s2 : Same H1 (upd H1 S (.lst [.ref L, .int 0, .int 0, .int 0])) := same_new hS
    have l2 : (upd H1 S (.lst [.ref L, .int 0, .int 0, .int 0])) S = some (.lst [.ref L, .int 0, .int 0, .int 0]) := upd_same
    generalize upd H1 S (.lst [.ref L, .int 0, .int 0, .int 0]) = H2 at s2 l2 ⊢
    have hS2 : Strm S L H2 0 := ⟨ns, 0, 0, 0, ⟨l2, s2 _ _ l1⟩, hlen, by decide, by decide, by decide, by decide, by decide⟩
    refine ⟨_, rfl, S, L, 0, 3, 3, rfl, hS2, by decide, rfl, rfl, fun pw W al H3 hW hsz hac hal hLA hS3 g3 => ?_⟩
    refine ⟨_, rfl, Ust S L, pw, W, al, rfl, hLA, hW, hsz, hac, hal, hS3.fresh, fun q d H4 s4 hq0 hwo => ?_⟩
    have hWd := hal.wd hW hsz hac
    obtain ⟨e1, e2, e3, e4⟩ := putAll_facts al W
    have hal' := hal.cong e1 e2 e3
    have hLA' := (hLA.cong e1 e2 e3).lq (lq_same s4)
    have hmem : ∀ z b, (W.putAll al).acts z = some b → (z, b) ∈ al := fun z b h => (putAll_acts al W z b h).elim id fun e => by rw [hac] at e; cases e
    generalize W.putAll al = W' at hWd hal' hLA' hmem hwo
    clear e1 e2 e3 e4 hal hLA hac hsz hW
    have hW := hWd.ls
    have hS4 := hS3.same s4
    obtain ⟨la, lps, hLw, hla, hlal⟩ := id hLA'
    refine ⟨_, rfl, _, rfl, S, L, pw, la, _, W', rfl, hS4, by decide, hLw, hW, fun t qf dn tr0 num H5 hsub hnum ht hqf hdn hS5 g5 => ?_⟩
    refine ⟨t, _, rfl, SqT.of ht.2, rfl, _, _, rfl, _, _, rfl, rfl, ?_⟩
    have hwo5 := hwo.lq g5.lq
    have hLA5 := hLA'.lq g5.lq
    -- the stock
    refine ⟨_, rfl, _, rfl, _, rfl, ?_⟩
    intro x dx nx ndx ne
    obtain ⟨kn, n1, n2, n3⟩ := id hdn
    have keep5 : ∀ {b o}, H5 b = some o → (upd (upd H5 dx (.own x)) x (.ins T.cS dx [])) b = some o := fun {b o} e => by
      rw [upd_ne (ne_of_none e nx), upd_ne (ne_of_none e ndx)]
      exact e
    refine ⟨x, dx, dn, kn, W'.cnts, num, rfl, upd_same, keep5 n1.2, n2, by omega, fun z hz => ⟨hW.cname hz, (hnum z hz).1⟩, fun d2 kt H6 ho hd2 hx2 ht2 hv2 hl2 => ⟨rfl, ?_⟩⟩
    obtain ⟨s6, hst⟩ := stock_made (U := Ust S L) hS5.fresh nx ndx (fun z hz => (hnum z hz).1) ho hd2 hx2 ht2 hv2 (by omega)
    have hS6 := hS5.same s6
    intro x2 dx2 nx2 ndx2 ne2
    have back6 : ∀ {b}, (upd (upd H6 dx2 (.own x2)) x2 (.ins T.cR dx2 [])) b = none → H6 b = none := fun {b} e => by
      by_cases b1 : b = x2
      · subst b1
        exact nx2
      · rw [upd_ne b1] at e
        by_cases b2 : b = dx2
        · subst b2
          exact ndx2
        · rwa [upd_ne b2] at e
    have keep6 : ∀ {b o}, H6 b = some o → (upd (upd H6 dx2 (.own x2)) x2 (.ins T.cR dx2 [])) b = some o := fun {b o} e => by
      rw [upd_ne (ne_of_none e nx2), upd_ne (ne_of_none e ndx2)]
      exact e
    have hwo6 := hwo5.lq (lq_same (U := Ust S L) s6)
    refine ⟨Wo (Ust S L) x2, x2, dx2, q, d, qf, x, W', tr0, _, rfl, upd_same, fun h => h.2 rfl, fresh_made hS6.fresh, hwo6.lq (lq_made nx2 ndx2), hW, SqL.of (keep6 (s6 _ _ hqf.2)), fun z hz => hsub.subset hz, ((List.nodup_append.mp hW.nd).1).sublist hsub, hst.lq (lq_made nx2 ndx2),
      fun q' d' t' n' lg pa kn' H7 ho7 nt7 nn7 nlg7 npa7 lp tlg tpa hx7 hwo7 ht7 hn7 hv7 hl7 hlg7 hpa7 => ⟨rfl, ?_⟩⟩
    have s7 : Same H6 H7 := fun b o e => ho7 b o (ne_of_none e nx2) (keep6 e)
    have lgn := back6 nlg7
    have pan := back6 npa7
    have toR : Lq (Ust S L) H6 (Rg S L x2 lg pa) H7 := fun b o e => ⟨⟨e.1, ne_of_none e.2 nx2, ne_of_none e.2 lgn, ne_of_none e.2 pan⟩, s7 _ _ e.2⟩
    have nx7 : ∀ {b : Addr}, (upd (upd H6 dx2 (.own x2)) x2 (.ins T.cR dx2 [])) b = none → b ≠ x2 := fun {b} e h => by
      rw [h, upd_same] at e
      cases e
    have LI : LawI T S L x2 lg pa q d pw W' al (W'.facts.filter fun z => decide (z ∈ tr0)) (fun z => if z ∈ W'.cnts then num z else 0) 0 (0 + 1600 + 100) H7 := by
      refine ⟨hS6.same s7, hwo6.lq toR, (hLA5.lq (lq_same s6)).lq toR, ⟨dx2, q', d', t', n', hx7, ?_, ⟨⟨hS6.fresh _ (back6 nt7), nx7 nt7, tlg, tpa⟩, ht7⟩, ⟨kn', ⟨⟨hS6.fresh _ (back6 nn7), nx7 nn7, ne_of hn7 hlg7 (by intro z; cases z), ne_of hn7 hpa7 (by intro z; cases z)⟩, hn7⟩, hv7, by omega⟩, ⟨[], hlg7, Nat.le_refl _⟩, ⟨[], hpa7, Nat.le_refl _⟩, lp⟩, trOk_filter _ _, fun z hz => ?_, hS6.fresh _ nx2, hS6.fresh _ lgn, hS6.fresh _ pan⟩
      · exact hwo7.lq fun b o e => ⟨⟨⟨e.1.1.1, e.1.1.2, e.1.2.2.1, e.1.2.2.2⟩, e.1.2.1⟩, e.2⟩
      · have h := hnum z hz
        rw [if_pos hz]
        exact ⟨h.1, by omega⟩
    generalize (W'.facts.filter fun z => decide (z ∈ tr0)) = tr at LI
    generalize (fun z => if z ∈ W'.cnts then num z else 0) = nums at LI
    -- the turns
    refine ⟨_, rfl, S, L, _, 9, rfl, LI.st, by decide, by decide, by decide, fun r H8 hr0 hr1 hS8 g8 => ?_⟩
    have LI8 := LI.gr g8 hS8
    clear LI
    obtain ⟨nt, rfl⟩ := Int.eq_ofNat_of_zero_le hr0
    have hnt : nt < 9 := by omega
    refine ⟨_, rfl, by omega, by omega, ?_⟩
    rw [Int.toNat_natCast]
    refine for_it (wk_range (n := nt)) (fun i σ H9 => i ≤ nt ∧ (∃ y7 y8 y9 y10 y11 y12 y13 y14 y15 y16 y17 y18 y19 y20 y21 y22, σ = [some (.ref a), some (.ref S), some (.ref pw), some (.ref q), some (.ref qf), some (.ref dn), some (.ref x2), y7, y8, y9, y10, y11, y12, y13, y14, y15, y16, y17, y18, y19, y20, y21, y22]) ∧ ∃ tr nums, LawI T S L x2 lg pa q d pw W' al tr nums i (1701 + 300 * i) H9)
      ⟨Nat.zero_le _, ⟨none, none, none, none, none, none, none, none, none, none, none, none, none, none, none, none, rfl⟩, tr, nums, LI8⟩ (fun i σ H9 _ _ => trivial) ?_ ?_
    · rintro i y σ H9 H9' hi ⟨_, ⟨y7, y8, y9, y10, y11, y12, y13, y14, y15, y16, y17, y18, y19, y20, y21, y22, rfl⟩, tr, nums, LI⟩ ⟨rfl, _, _, rfl⟩
      rw [List.length_range] at hi
      obtain ⟨dxr, q1, d1, t1, n1, r1, _⟩ := id LI.run
      have hst := stOk_stL hW (num := nums) LI.tro
      refine ⟨_, rfl, x2, dxr, _, rfl, r1, rfl, _, x2, lg, pa, W', tr, nums, i, rfl, LI.run, hW, LI.tro.len hW, fun ts Ha sa hts0 hts => ?_⟩
      have LIa := LI.same sa
      obtain ⟨dw, pf, pi, pr, kvs, w1, _⟩ := id LIa.wo
      refine ⟨_, rfl, q, dw, _, rfl, w1.2, rfl, _, rfl, _, q, d, ts, W', _, rfl, LIa.wo, hWd, .inr (SqT.of hts), hst, LIa.fresh, fun out Hb sb hout hol hnone D hD => ?_⟩
      have LIb := LIa.same sb
      have sD : Same Hb (upd Hb D (.lst out)) := same_new hD
      have hD1 : (upd Hb D (.lst out)) D = some (.lst out) := upd_same
      generalize upd Hb D (.lst out) = Hc at sD hD1 ⊢
      have LIc := LIb.same sD
      have hUD : Ust S L D := LIb.st.fresh D hD
      have htsc := sD _ _ (sb _ _ hts)
      refine ⟨_, rfl, by show 0 ≤ sizeLine; decide, fun l hl => ?_⟩
      have se : Same Hc (upd Hc l (.lst [])) := same_new hl
      refine ⟨D, l, out, rfl, rfl, SqL.of (se _ _ hD1), SqL.of upd_same, _, rfl, ?_⟩
      have LId := LIc.same se
      have hDd := se _ _ hD1
      have htsd := se _ _ htsc
      generalize upd Hc l (.lst []) = Hd at se LId hDd htsd ⊢
      obtain ⟨dw2, pf2, pi2, pr2, kvs2, w2, _⟩ := id LId.wo
      cases out with
      | nil =>
        refine iteT ⟨_, rfl, q, dw2, _, rfl, w2.2, rfl, _, rfl, _, q, d, ts, W', _, rfl, LId.wo, hWd, .inr (SqT.of htsd), hst, LId.fresh, fun l2 ps He s5 hl0 hl2 hpl hps => ⟨by show 0 ≤ sizeLine; decide, fun l3 hl3 => ⟨l2, l3, _, rfl, rfl, SqL.of (same_new hl3 _ _ hl2), SqL.of upd_same, ?_⟩⟩⟩
        have : ps = [] := by
          cases ps with
          | nil => rfl
          | cons z ps =>
            obtain ⟨b, hb1, hb2⟩ := (hps z).mp List.mem_cons_self
            rw [hnone rfl z b hb1] at hb2
            cases hb2
        subst this
        exact k _
      | cons v0 out =>
        refine iteF ?_
        refine ⟨_, rfl, _, rfl, S, L, D, _, _, rfl, LId.st, by omega, ⟨hUD, hDd⟩, (fun z => nomatch z), by omega, fun v He hv hSe ge => ?_⟩
        have LIe := LId.gr ge hSe
        have htse := ge.k _ _ (LI.st.fresh ts hts0) htsd
        have gbe : Gr (Ust S L) Hb He := ((gr_same sD).trans (gr_same se)).trans ge
        obtain ⟨tm, z, act, ix, mx, my, rfl, m1, m2, m3, m4⟩ := (hout v hv).lq (U' := Rg S L x2 lg pa) (gbe.sub fun _ h => h.1).lq
        refine ⟨2, rfl, tm, _, rfl, SqT.of m1.2, by show ¬ (HT.sIx 4 0 none = 0 ∧ HT.sIx 4 4 (some 2) = 4); decide, fun tp htp => ?_⟩
        have ec : cutV [V.str z, V.int (ix : Nat), mx, my] none (some 2) = [V.str z, V.int (ix : Nat)] := rfl
        rw [ec]
        have sf : Same He (upd He tp (.tup [.str z, .int (ix : Nat)])) := same_new htp
        have tpf : (upd He tp (.tup [.str z, .int (ix : Nat)])) tp = some (.tup [.str z, .int (ix : Nat)]) := upd_same
        generalize upd He tp (.tup [.str z, .int (ix : Nat)]) = Hf at sf tpf ⊢
        refine ⟨tp, _, rfl, SqT.of tpf, rfl, _, _, rfl, _, _, rfl, rfl, ?_⟩
        have LIf := LIe.same sf
        have htsf := sf _ _ htse
        -- the stock as it is, its numbers
        obtain ⟨dxf, qf1, df1, tf1, nf1, rf1, _⟩ := id LIf.run
        refine ⟨_, rfl, x2, dxf, _, rfl, rf1, rfl, _, x2, lg, pa, W', tr, nums, i, rfl, LIf.run, hW, fun z hz => (LIf.nn z hz).1, LIf.fresh, fun sk Hg sg sk0 hsk => ?_⟩
        have LIg := LIf.same sg
        obtain ⟨la2, lps2, hLw2, hla2, hlal2⟩ := id LIg.lw
        refine ⟨_, rfl, _, pw, la2, W', rfl, hLw2, hW, fun cl hcl => ?_⟩
        have sh : Same Hg (upd Hg cl (.lst (W'.cnts.map V.str))) := same_new hcl
        have clh : (upd Hg cl (.lst (W'.cnts.map V.str))) cl = some (.lst (W'.cnts.map V.str)) := upd_same
        generalize upd Hg cl (.lst (W'.cnts.map V.str)) = Hh at sh clh ⊢
        have LIh := LIg.same sh
        refine ⟨cl, rfl, ⟨_, SqL.of clh⟩, fun D2 hD2 => ?_⟩
        have hcl13 := hW.cntsLen
        refine lc_allE (wk_list (zs := W'.cnts) (inj := V.str)) (fun z y G => ∃ p, y = .ref p ∧ p ≠ D2 ∧ G p = some (.tup [.str z, .int (nums z)])) hD2 (by omega) (fun _ => rfl) (fun G sG => SqL.of (sG _ _ clh))
          (fun z y Ga Gb ho ⟨p, e1, e2, e3⟩ => ⟨p, e1, e2, ho _ _ e2 e3⟩) (fun z hz G sG hD2n R hR => ?_) fun Hi ysv si hDi rp => ?_
        · have hskG := hsk.lq (lq_same (U := Rg S L x2 lg pa) (sh.trans sG))
          obtain ⟨dy, dd, gg, g1, _⟩ := id hskG
          refine ⟨_, rfl, _, rfl, _, rfl, sk, dy, _, rfl, g1.2, _, sk, _, z, rfl, hskG, by show 2 ≤ sizeLine; decide, fun tq htq => ?_⟩
          exact hR _ _ (same_new htq) ⟨tq, rfl, fun e => hD2n (by rw [← e]; exact htq), upd_same.trans (by simp only [if_pos hz])⟩
        obtain ⟨prs, eprs, hprs⟩ := paired_refs (F := fun (p : Addr) (kv : Key × V) => p ≠ D2 ∧ Hi p = some (.tup [kV kv.1, kv.2])) (g := fun z : Str => ((Sum.inr z : Key), V.int (nums z))) rp
        rw [eprs] at hDi
        refine ⟨D2, prs, _, rfl, SqL.of hDi, paired_mono hprs fun _ _ h => SqT.of h.2, fun nw hnw => ?_⟩
        have sj : Same Hi (upd Hi nw (.dK (mergeK [] (W'.cnts.map fun z => ((Sum.inr z : Key), V.int (nums z)))))) := same_new hnw
        have LIi := LIh.same si
        have hnum : NumAt (Ust S L) (upd Hi nw (.dK (mergeK [] (W'.cnts.map fun z => ((Sum.inr z : Key), V.int (nums z)))))) nw W'.cnts nums := dict_numAt (by omega) (LIi.st.fresh nw hnw) upd_same
        generalize upd Hi nw (.dK (mergeK [] (W'.cnts.map fun z => ((Sum.inr z : Key), V.int (nums z))))) = Hj at sj hnum ⊢
        have LIj := LIi.same sj
        have sgj : Same Hg Hj := sh.trans (si.trans sj)
        have skj := hsk.lq (lq_same (U := Rg S L x2 lg pa) sgj)
        have tsj := sgj _ _ (sg _ _ htsf)
        -- the changes of this outcome
        refine ⟨_, rfl, _, rfl, _, rfl, _, rfl, _, rfl, Rg S L x2 lg pa, pw, W', al, z, act, rfl, LIj.lw, hal', hmem z act m2, fun qn Hk sk2 hact => ?_⟩
        obtain ⟨vn, lo, qs, a1, _, a3, a4⟩ := hact
        obtain ⟨qo, hqo, hdo⟩ := paired_ix a4 (Act.out_eq m4)
        refine ⟨qn, _, 2, _, rfl, rfl, SqL.of a1.2, atI_nat (j := 2) rfl, _, rfl, lo, _, (ix : Nat), _, rfl, rfl, SqL.of a3.2, atI_nat (by rw [List.getElem?_map, hqo]; rfl), ?_⟩
        have LIk := LIj.same sk2
        obtain ⟨la3, lps3, hLw3, _, _⟩ := id LIk.lw
        have toU : ∀ {G : Hp}, Lq (Rg S L x2 lg pa) G (Ust S L) G := fun {G} b o e => ⟨e.1.1, e.2⟩
        have haw := (hWd.ac z act m2).2
        have hch : ChOk W' (act.out ix) := haw.ch _ (Act.out_mem m4)
        have sgk := sgj.trans sk2
        refine ⟨S, L, pw, la3, nw, qo, _, W', nums, act.out ix, rfl, LIk.st, by omega, hLw3.lq toU, hW, hnum.lq (lq_same sk2), fun y hy => ⟨(LIk.nn y hy).1, big_cap (LIk.nn y hy).2 (by omega)⟩, hdo.lq toU, hch.out, fun Hl hSl gl => ?_, fun am us amt Hl hAm hadd hNl hSl gl => ?_⟩
        · refine ⟨_, rfl, _, rfl, ?_⟩
          refine ifF (b := !decide (V.non = V.non)) (by simp) ?_
          exact ⟨by omega, ⟨_, _, _, _, _, _, _, _, _, _, _, _, _, _, _, _, rfl⟩, tr, nums, (LIk.gr gl hSl).later (Nat.le_succ i) (by omega)⟩
        · refine ⟨_, rfl, _, rfl, ?_⟩
          refine ifT (b := !decide (V.ref am = V.non)) (by simp) ?_
          have LIl := LIk.gr gl hSl
          have tsl := gl.k _ _ (LI.st.fresh ts hts0) (sk2 _ _ tsj)
          have skl := (skj.lq (lq_same (U := Rg S L x2 lg pa) sk2)).lq (gl.sub fun _ h => h.1).lq
          obtain ⟨dw3, pf3, pi3, pr3, kvs3, w3, _⟩ := id LIl.wo
          refine ⟨_, rfl, q, dw3, _, rfl, w3.2, rfl, _, rfl, _, rfl, _, rfl, _, q, d, ts, W', _, z, act, ix, rfl, LIl.wo, hWd, .inr (SqT.of tsl), hst, LIl.fresh, m2, m3, m4, fun t t1 t2 Hm sm _ n1 n2 hmt hm1 hm2 => ?_⟩
          refine ⟨t, _, rfl, SqT.of hmt, rfl, _, _, rfl, _, _, rfl, rfl, ?_⟩
          have LIm := LIl.same sm
          have tsm := sm _ _ tsl
          have skm := skl.lq (lq_same (U := Rg S L x2 lg pa) sm)
          have hNm := hNl.lq (lq_same (U := Ust S L) sm)
          obtain ⟨dxm, qm, dm, tm1, nm1, rm, _⟩ := id LIm.run
          simp only [List.set]
          have hlen9 := LI.tro.len hW
          have h0 : ∀ y ∈ W'.cnts, 0 ≤ nums y := fun y hy => (LI.nn y hy).1
          have hNr : NumAt (Rg S L x2 lg pa) Hm am us amt := by
            obtain ⟨ka, ⟨c0, c1⟩, c2⟩ := hNm
            obtain ⟨_, _, _, _, _, b1, _, _, _, ⟨_, b2, _⟩, ⟨_, b3, _⟩, _⟩ := LIm.run
            exact ⟨ka, ⟨⟨c0, ne_of c1 b1 (by intro e; cases e), ne_of c1 b2 (by intro e; cases e), ne_of c1 b3 (by intro e; cases e)⟩, c1⟩, c2⟩
          refine ⟨_, rfl, x2, dxm, _, rfl, rm, rfl, _, rfl, _, rfl, _, rfl, Rg S L x2 lg pa, (fun b => b ≠ x2 ∧ b ≠ lg ∧ b ≠ pa), x2, lg, pa, am, W', tr, nums, i, z, act, ix, us, amt, rfl, LIm.run, hWd, fun b h => h.2, fun h => h.1 rfl, fun h => h.2.1 rfl, fun h => h.2.2 rfl, LIm.fresh, m2, hst, m3, m4, hNr, hAm, by omega, hlen9,
            fun gt Hn gn rn hgt Ugt => ?_⟩
          have LIn := LIm.step gn rn (trOk_filter _ _) fun y hy => ⟨numN_nn hW hch h0 hAm hy, numN_le hW hch h0 hAm hadd hy⟩
          have tsn := gn.k ts _ (LI.fresh ts hts0).2 tsm
          have t1n := gn.k t1 _ (LIl.fresh t1 n1).2 hm1
          have t2n := gn.k t2 _ (LIl.fresh t2 n2).2 hm2
          have skn := skm.lq (gn.sub (V := Rg S L x2 lg pa) fun _ h => h.2).lq
          obtain ⟨dxn, qn1, dn1, tn1, nn1, rn1, _⟩ := id LIn.run
          refine ⟨_, rfl, x2, dxn, _, rfl, rn1, rfl, _, x2, lg, pa, W', _, _, i + 1, rfl, LIn.run, hW, fun y hy => (LIn.nn y hy).1, LIn.fresh, fun sk3 Ho so sk30 hsk3 => ?_⟩
          have LIo := LIn.same so
          obtain ⟨dxo, qo1, do1, to1, no1, ro1, _⟩ := id LIo.run
          refine ⟨_, rfl, x2, dxo, _, rfl, ro1, rfl, _, x2, lg, pa, W', _, _, i + 1, rfl, LIo.run, hW, LIo.tro.len hW, fun fo Hp sp fo0 hfo => ?_⟩
          have LIp := LIo.same sp
          obtain ⟨dw4, pf4, pi4, pr4, kvs4, w4, _⟩ := id LIp.wo
          refine ⟨_, rfl, q, dw4, _, rfl, w4.2, rfl, _, rfl, _, rfl, _, q, d, ts, W', _, z, act, rfl, LIp.wo, hWd, .inr (SqT.of (sp _ _ (so _ _ tsn))), hst, LIp.fresh, m2, m3, fun rl uv Hq sq rl0 hrl hus => ⟨rl, rfl, ⟨_, SqL.of hrl⟩, fun D3 hD3 => ?_⟩⟩
          simp only [List.set]
          have LIq := LIp.same sq
          have snq : Same Hn Hq := so.trans (sp.trans sq)
          obtain ⟨zs, ez1, ez2, hzs⟩ := paired_zip hus
          rw [← ez1] at hrl
          have zl : zs.length ≤ 900 := by
            have e1 := congrArg List.length ez2
            rw [List.length_map] at e1
            have e2 := rslL_len hW (stL W' tr nums) act act.outs.length
            have e3 : zs.length ≤ act.outs.length * 15 := by rw [e1]; exact e2
            have := haw.ok.ln
            omega
          have gtq := snq _ _ hgt
          refine lc_map (wk_list (zs := zs) (inj := fun x => x.1)) (fun x => x.1) (fun x => decide (x.2.1 = ix) && decide (x.2.2.1 = goneL W' (act.out ix) (numN (act.out ix) nums amt))) hD3 (by omega) (fun _ => rfl) (fun G sG => SqL.of (sG _ _ hrl))
            (fun x hx G sG R hR => ?_) (fun x _ _ G sG R hR => ⟨_, rfl, hR G (Same.refl G)⟩) fun Hr sr hD3r => ?_
          · have hxm : x.2 ∈ rslL W' (stL W' tr nums) act := by rw [← ez2]; exact List.mem_map.mpr ⟨x, hx, rfl⟩
            obtain ⟨tq, pg, pb, ex, b1, b2, b3⟩ := (hzs x hx).lq (lq_same sG)
            refine ⟨_, rfl, tq, _, 0, _, ex, rfl, SqT.of b1.2, atI_nat (j := 0) rfl, _, rfl, rfl, _, rfl, ?_⟩
            have q0 := hR G (Same.refl G)
            by_cases e : x.2.1 = ix
            · refine ifT (b := decide (V.int ((x.2.1 : Nat) : Int) = V.int ((ix : Nat) : Int))) (decide_eq_true (by rw [e])) ?_
              refine ⟨_, rfl, tq, _, 1, _, ex, rfl, SqT.of b1.2, atI_nat (j := 1) rfl, _, rfl, .tuple (x.2.2.1.map PyData.str), .tuple ((goneL W' (act.out ix) (numN (act.out ix) nums amt)).map PyData.str), .tup (SqT.of b2.2) (dp_strs _), .tup (SqT.of (sG _ _ gtq)) (dp_strs _), shaped_strs fun y hy => rsl_names hW hxm hy, shaped_strs fun y hy => goneL_name hW hy, _, rfl, ?_⟩
              rw [eqv_strs]
              rw [decide_eq_true e, Bool.true_and] at q0
              exact q0
            · refine ifF (b := decide (V.int ((x.2.1 : Nat) : Int) = V.int ((ix : Nat) : Int))) (decide_eq_false fun h => e (by have := V.int.inj h; omega)) ?_
              rw [decide_eq_false e, Bool.false_and] at q0
              exact q0
          · have one := rsl_one (zs := stL W' tr nums) hW m4 (gone_sub (W := W') (f := act.out ix) (numN (act.out ix) nums amt))
            rw [← ez2] at one
            obtain ⟨a0, ha0, e0⟩ := zip_one one
            have hD3s : Hr D3 = some (.lst [a0]) := hD3r.trans (congrArg (fun l => some (HO.lst (List.map (fun x : V × Nat × List Str × List Str => x.1) l))) e0)
            have hrs := (hzs _ ha0).lq (lq_same sr)
            have sqr : Same Hq Hr := sr
            have LIr := LIq.same sqr
            have snr := snq.trans sqr
            have fof := sq _ _ hfo
            refine ⟨_, rfl, _, rfl, _, rfl, _, rfl, by show 3 ≤ sizeLine; decide, fun tz htz => ?_⟩
            have s1 : Same Hr (upd Hr tz (.tup [.int (ix : Nat), .ref gt, .ref fo])) := same_new htz
            have htz1 : (upd Hr tz (.tup [.int (ix : Nat), .ref gt, .ref fo])) tz = some (.tup [.int (ix : Nat), .ref gt, .ref fo]) := upd_same
            generalize upd Hr tz (.tup [.int (ix : Nat), .ref gt, .ref fo]) = Hs at s1 htz1 ⊢
            refine ⟨by show 1 ≤ sizeLine; decide, fun lz hlz => ?_⟩
            have s2 : Same Hs (upd Hs lz (.lst [.ref tz])) := same_new hlz
            have hlz1 : (upd Hs lz (.lst [.ref tz])) lz = some (.lst [.ref tz]) := upd_same
            generalize upd Hs lz (.lst [.ref tz]) = Ht at s2 hlz1 ⊢
            have s12 := s1.trans s2
            have LIt := LIr.same s12
            have snt := snr.trans s12
            have bq := behind_eq hW hch LI.tro h0 hAm
            refine ⟨D3, lz, a0, .ref tz, _, fun _ => True, rfl, s12 _ _ hD3s, hlz1, hrs.lq fun b o e => ⟨trivial, s12 _ _ e.2⟩, ⟨tz, gt, fo, rfl, ⟨trivial, s2 _ _ htz1⟩, ⟨trivial, snt _ _ hgt⟩, ⟨trivial, by
              rw [bq]
              exact s12 _ _ (sqr _ _ fof)⟩⟩, ⟨by have := haw.ok.ln; show ix ≤ 100; omega, goneL_len hW, by
              rw [bq]
              exact stL_len hW (trOk_filter _ _), fun y hy => goneL_name hW hy, by
              rw [bq]
              exact fun y hy => stL_name hW (trOk_filter _ _) hy⟩, _, rfl, ?_⟩
            refine ifF (b := !true) rfl ?_
            -- the checks
            simp only [List.set]
            obtain ⟨la5, lps5, hLw5, _, _⟩ := id LIt.lw
            refine ⟨_, rfl, Rg S L x2 lg pa, pw, la5, W', rfl, hLw5, hW, fun cq hcq => ⟨cq, rfl, ⟨_, SqL.of upd_same⟩, ?_⟩⟩
            have s3 : Same Ht (upd Ht cq (.lst (W'.cnts.map V.str))) := same_new hcq
            have hcq1 : (upd Ht cq (.lst (W'.cnts.map V.str))) cq = some (.lst (W'.cnts.map V.str)) := upd_same
            generalize upd Ht cq (.lst (W'.cnts.map V.str)) = Hu at s3 hcq1 ⊢
            have LIu := LIt.same s3
            have snu := snt.trans s3
            have t1u := snu _ _ t1n
            have t2u := snu _ _ t2n
            have fou : Hu fo = some (.tup ((stL W' (trN W' tr (act.out ix)) (numN (act.out ix) nums amt)).map V.str)) := s3 _ _ (s12 _ _ (sqr _ _ fof))
            have sku := skn.lq (lq_same (U := Rg S L x2 lg pa) snu)
            have sk3u := hsk3.lq (lq_same (U := Rg S L x2 lg pa) (sp.trans (sq.trans (sqr.trans (s12.trans s3)))))
            refine for_it (wk_list (zs := W'.cnts) (inj := V.str)) (fun j σ G => (∃ y7 y13 y22, σ = [some (V.ref a), some (V.ref S), some (V.ref pw), some (V.ref q), some (V.ref qf), some (V.ref dn), some (V.ref x2), y7, some (V.ref ts), some (V.ref D), some (V.str z), some (V.int (ix : Nat)), some (V.ref sk), y13, some (V.ref nw), some (V.ref am), some (V.ref t1), some (V.ref t2), some (V.ref gt), some (V.ref sk3), some (V.ref fo), some (V.ref D3), y22]) ∧ Same Hu G)
              ⟨⟨_, _, _, rfl⟩, Same.refl _⟩ (fun j σ G _ ⟨_, s9⟩ => SqL.of (s9 _ _ hcq1)) ?_ ?_
            · rintro j y σ G9 G9' hj ⟨⟨y7, y13, y22, rfl⟩, s9⟩ ⟨rfl, zc, hz, rfl⟩
              have hzc : zc ∈ W'.cnts := List.mem_of_getElem? hz
              refine Tst.skip (Tst.and0 (tst_in rfl rfl (.inr (SqT.of (s9 _ _ t1u)))) fun c1 G sG => Tst.neg1 (tst_lt rfl rfl rfl (sk3u.lq (lq_same (U := Rg S L x2 lg pa) (s9.trans sG))) (sku.lq (lq_same (U := Rg S L x2 lg pa) (s9.trans sG)))) (decide_eq_true (by
                rw [if_pos hzc, if_pos hzc]
                exact taken_lt hW hch LI.tro h0 hAm hzc (of_decide_eq_true c1)))) fun G1 sg1 => ?_
              have s91 := s9.trans sg1
              refine Tst.skip (Tst.and0 (tst_in rfl rfl (.inr (SqT.of (s91 _ _ t2u)))) fun c1 G sG => Tst.neg1 (tst_gt rfl rfl rfl (sk3u.lq (lq_same (U := Rg S L x2 lg pa) (s91.trans sG))) (sku.lq (lq_same (U := Rg S L x2 lg pa) (s91.trans sG)))) (decide_eq_true (by
                rw [if_pos hzc, if_pos hzc]
                exact added_gt hW hch h0 hAm hzc (of_decide_eq_true c1)))) fun G2 sg2 => ?_
              have s92 := s91.trans sg2
              refine Tst.skip (Tst.and0 (tst_notin rfl rfl rfl (SqT.of (s92 _ _ t1u)) (SqT.of (s92 _ _ t2u)) (by
                have e1 : (takenL W' (stL W' tr nums) (act.out ix)).length ≤ _ := List.length_filter_le _ _
                have e2 : (addL W' (act.out ix)).length ≤ _ := List.length_filter_le _ _
                omega)) fun c1 G sG => Tst.is (tst_ne rfl rfl rfl (sk3u.lq (lq_same (U := Rg S L x2 lg pa) (s92.trans sG))) (sku.lq (lq_same (U := Rg S L x2 lg pa) (s92.trans sG)))) (by
                rw [if_pos hzc, if_pos hzc, kept_eq hW hch LI.tro h0 hAm hzc (fun m => by rw [decide_eq_true m] at c1; cases c1)]
                simp)) fun G3 sg3 => ?_
              have s93 := s92.trans sg3
              refine Tst.skip (Tst.and0 (tst_dict rfl rfl (hLw5.lq (lq_same (U := Rg S L x2 lg pa) (s3.trans s93)))) fun c1 G sG => Tst.is (tst_ne2 rfl rfl rfl (.inr (SqT.of ((s93.trans sG) _ _ fou))) (sk3u.lq (lq_same (U := Rg S L x2 lg pa) (s93.trans sG)))) (by
                have q8 : zc ∈ stL W' (trN W' tr (act.out ix)) (numN (act.out ix) nums amt) ↔ 0 < numN (act.out ix) nums amt zc := stL_pile hW (trOk_filter _ _) (of_decide_eq_true c1)
                have q9 : decide (zc ∈ stL W' (trN W' tr (act.out ix)) (numN (act.out ix) nums amt)) = decide (0 < numN (act.out ix) nums amt zc) := decide_eq_decide.mpr q8
                rw [if_pos hzc, q9]
                simp)) fun G4 sg4 => ?_
              exact ⟨⟨_, _, _, rfl⟩, s93.trans sg4⟩
            · rintro σ G9 ⟨⟨y7, y13, y22, rfl⟩, s9⟩
              exact ⟨by omega, ⟨_, _, _, _, _, _, _, _, _, _, _, _, _, _, _, _, rfl⟩, _, _, (LIu.same s9).later (Nat.le_refl _) (by omega)⟩
    · rintro σ H9 ⟨_, ⟨y7, y8, y9, y10, y11, y12, y13, y14, y15, y16, y17, y18, y19, y20, y21, y22, rfl⟩, tr, nums, LI⟩
      exact k H9
end KK


set_option Elab.async false
set_option linter.all false
set_option maxRecDepth 100000
set_option maxHeartbeats 4000000
namespace KK
open PySem PySem.Spec PyProof.Rows L2
variable {P : Program} {w : World} {K : PySem.W.Frag} {mg : Str → Option Value} {base : Heap}
/-! ### the law's call, entered with no guard up -/
def lob (vs : List Value) : Obj := { cls := .type "list", data := .seq vs.toArray }
section
variable {mb : Str → Option Value} {k : Nat} {fa a : Addr} {x : Str} {sp : Sp} {s : Shared} {vs : List Value} {ns : List Int}
theorem law_at (H : Hp) (C : CalG P w K mg (hidT s.heap H) k x sp) (hx : mg x = some (.ref fa)) (hK : K.In s.heap) (hm : s.heap.Ns mainGlobals mg) (hB : s.heap.Ns builtinsNs mb) (hBB : ∀ y : Str, y ≠ "__name__" → mb y = bootBuiltins y)
    (hL : s.heap.NoLimit) (g0 : s.gens = #[]) (ho : s.heap.get? a = some (lob vs)) (hr : Room k callerA) (hg : callerA.guards = some [])
    (h1 : ∀ b u, H b = some u → b = a ∧ u = .frz (lob vs) (.lst (ns.map V.int)) ∧ K.lookup a = none) (hok : HOk P w H s.heap)
    (hsp : sp [.ref a] H (fun v _ => v = .bl true) fun _ _ _ => False) :
    codeAny (model P w) callerA (.call (.ref fa) ⟨[.ref a], []⟩) (fun r t => r = .ok (.ret (.bool true)) ∧ OldK s.heap t.heap ∧ t.os = s.os ∧ AllBare t.gens) s := by
  have fr : ∀ {b : Addr} {o : Obj}, s.heap.get? b = some o → o ≠ lob vs → H b = none := fun {b o} e n => by
    cases q : H b with
    | none => rfl
    | some u =>
      obtain ⟨rfl, _⟩ := h1 b u q
      rw [ho] at e
      exact absurd (Option.some.inj e).symm n
  have toN : ∀ {b : Addr} {m : Str → Option Value}, s.heap.Ns b m → (hidT s.heap H).Ns b m := fun {b m} ⟨o, es, ep, e, d, r⟩ =>
    ⟨o, es, ep, hidT_get e (fr e fun q => by
      rw [q] at d
      cases d), d, r⟩
  have toK : K.In (hidT s.heap H) := fun b o e => hidT_get (hK b o e) (by
    cases q : H b with
    | none => rfl
    | some u =>
      obtain ⟨rfl, _, e3⟩ := h1 b u q
      rw [e3] at e
      cases e)
  have M : Mod K mg (hidT s.heap H) := ⟨toK, toN hm, ⟨mb, toN hB, hBB⟩, hL.imp fun _ h => ⟨toN h.1, h.2⟩⟩
  have E : Env0 P w K mg (hidT s.heap H) callerA [] s H := ⟨rfl, M, fun _ _ e => of_hidT e, Nat.le_of_eq (hidT_size _ _), trivial, fun _ hb => (nomatch hb), hok, .of_eq g0⟩
  obtain ⟨f, fd, ps, F, hf, _, hb⟩ := C.ex
  obtain rfl : f = fa := by
    rw [hx] at hf
    cases hf
    rfl
  have hl : ps.length = 1 := (F.len _ _ _ _ hsp).symm
  have bt := hb s [.ref a] hK (by rw [hl]; rfl)
  rw [List.append_nil] at bt
  refine codeAny_mono (F.run callerA [] s H ⟨[.ref a], []⟩ [.ref a] [.ref a] _ _ hg hr E bt (.cons rfl .nil) hsp) fun r t h => ?_
  cases r with
  | error e => exact False.elim h
  | ok fl =>
    cases fl with
    | ret u =>
      obtain ⟨v, G, os, bare, un, ok2, rv, q⟩ := h
      obtain rfl : v = .bl true := q
      obtain rfl : u = Value.bool true := rv
      refine ⟨rfl, OldK.of_keep fun b o e => ?_, os, bare⟩
      cases q : H b with
      | none => exact un.keep b o e q (fun z => (nomatch (show b ∈ ([] : List Addr) from z))) (by simp)
      | some u =>
        obtain ⟨rfl, rfl, _⟩ := h1 b u q
        have e1 := (hok b _ q).1
        have e2 := (ok2 b _ (un.frzs b _ _ q)).1
        rw [e] at e1
        cases e1
        exact e2
    | next => exact False.elim h
    | brk => exact False.elim h
    | cont => exact False.elim h
theorem law_enter (C : ∀ base, CalG P w K mg base k x sp) (hx : mg x = some (.ref fa)) (hK : K.In s.heap) (hm : s.heap.Ns mainGlobals mg) (hB : s.heap.Ns builtinsNs mb) (hBB : ∀ y : Str, y ≠ "__name__" → mb y = bootBuiltins y)
    (hL : s.heap.NoLimit) (g0 : s.gens = #[]) (ho : s.heap.get? a = some (lob vs)) (hi : IntsAre vs ns) (hz : ns.length ≤ sizeLine) (hr : Room k callerA) (hg : callerA.guards = some [])
    (hsp : ∀ H : Hp, SqL K H a (ns.map V.int) → sp [.ref a] H (fun v _ => v = .bl true) fun _ _ _ => False) :
    codeAny (model P w) callerA (.call (.ref fa) ⟨[.ref a], []⟩) (fun r t => r = .ok (.ret (.bool true)) ∧ OldK s.heap t.heap ∧ t.os = s.os ∧ AllBare t.gens) s := by
  have rv := vals_ints hi
  have hlen := hi.length
  cases hk : K.lookup a with
  | some o =>
    have e := hK a o hk
    rw [ho] at e
    obtain rfl : lob vs = o := Option.some.inj e
    refine law_at (ns := ns) (fun _ => none) (C _) hx hK hm hB hBB hL g0 ho hr hg (fun b u q => nomatch (show (none : Option HO) = some u from q)) (fun b u q => nomatch (show (none : Option HO) = some u from q)) (hsp _ (.inr ⟨_, vs.toArray, _, hk, rfl, rfl, rfl, ?_, ?_⟩))
    · rw [List.size_toArray, hlen]
      exact hz
    · simpa using rv
  | none =>
    have eH : (fun b => if b = a then some (HO.frz (lob vs) (.lst (ns.map V.int))) else none) a = some (HO.frz (lob vs) (.lst (ns.map V.int))) := if_pos rfl
    refine law_at (ns := ns) (fun b => if b = a then some (HO.frz (lob vs) (.lst (ns.map V.int))) else none) (C _) hx hK hm hB hBB hL g0 ho hr hg (fun b u q => ?_) (fun b u q => ?_) (hsp _ (.inl (.inr ⟨lob vs, eH⟩)))
    · by_cases e : b = a
      · have q' := (if_pos e).symm.trans q
        exact ⟨e, (Option.some.inj q').symm, hk⟩
      · have q' := (if_neg e).symm.trans q
        cases q'
    · by_cases e : b = a
      · have q' := (if_pos e).symm.trans q
        cases q'
        subst e
        exact ⟨ho, by rw [List.length_map]; exact hz, vs, _, rv, ho⟩
      · have q' := (if_neg e).symm.trans q
        cases q'
end
theorem walk_g {l : PySem.W.OpenLaw} {n k : Nat} {q : Program} {loose : List Str} {XP : (Str → Option Value) → Heap → Prop} {YP : World → Heap → Prop} {d : DefRec}
    (hn : l.most = some n) (hz : n ≤ sizeLine) (hdf : d.params.defaults = []) (hr : Room k callerA) (hg : callerA.guards = some [])
    (F : ∀ (w : World) (mg : Str → Option Value) (h : Heap), YP w h → h.Ns mainGlobals mg → ∃ (K : PySem.W.Frag) (sp : Sp), K.In h ∧ (∀ base, CalG l.prog w K mg base k d.name sp) ∧
      ∀ (H : Hp) (a : Addr) (ns : List Int), ns.length ≤ n → SqL K H a (ns.map V.int) → sp [.ref a] H (fun v _ => v = .bl true) fun _ _ _ => False) :
    PySem.W.WalkO q loose XP YP l.row.toRowW d [] (fun f vs => PySem.call f vs) := by
  refine Att.attach_call hn hdf fun w s0 s mg mb fa o pm cd doc a vs ns G Y ho hd hcd hmg hobj hints hlen g0 => ?_
  obtain ⟨K, sp, hK, C, hsp⟩ := F w mg s.heap Y G.T.g
  exact law_enter C hmg hK G.T.g G.T.b G.T.builtins G.T.nolimit g0 hobj hints (Nat.le_trans hlen hz) hr hg fun H hS => hsp H a ns hlen hS
end KK


set_option Elab.async false
set_option linter.all false
set_option maxRecDepth 100000
set_option maxHeartbeats 4000000
namespace KK
open PySem PySem.Spec PyProof.Rows L2
variable {P : Program} {w : World} {K : PySem.W.Frag} {mg : Str → Option Value} {base : Heap}
theorem map3 {α β γ δ : Type} {o : Option α} {f : α → β} {g : α → γ} {h : α → δ} {b : β} {c : γ} {d : δ} (h1 : o.map f = some b) (h2 : o.map g = some c) (h3 : o.map h = some d) : o.map (fun s => (f s, g s, h s)) = some (b, c, d) := by
  cases o with
  | none => cases h1
  | some a =>
    cases h1
    cases h2
    cases h3
    rfl
theorem run_eq (w : World) : HandSHeadRun.RunEq theRow theView hkK obT 9000 names w := fun os => map3 (run_looks w os) (run_seen w os) (run_facts w os)
abbrev theDef : DefRec := HandSHeadRun.topDef theRow.prog 67
theorem def_name : theDef.name = ("law" : Str) := by kernel_rfl
theorem law_walk : PySem.W.WalkO theView names (PySem.W.XL theView []) hkK.says theRow.toRowW theDef [] (fun f vs => PySem.call f vs) := by
  refine walk_g (l := PySem.Challenge.rw_noneorsome_k26_whole_steps_are_results) (n := 63) (k := 13) rfl (by decide) (by kernel_rfl) ⟨rfl, by decide, by decide⟩ rfl fun w mg h Y G => ?_
  obtain ⟨K, KX, c⟩ := Y
  have T : Txt K mg := txt_of KX G c
  refine ⟨K, spLaw K, KX, fun base => ?_, fun H a ns hl hS => ⟨a, ns, rfl, hS, hl, fun _ => rfl⟩⟩
  rw [def_name]
  exact ok_law T
end KK


set_option Elab.async false
set_option linter.all false
set_option maxRecDepth 100000
set_option maxHeartbeats 4000000
set_option maxHeartbeats 0
open PySem PySem.W PySem.Calls PyProof.Rows
theorem PySem.Challenge.cw_noneorsome_k26_whole_steps_are_results_holds : PySem.Challenge.rw_noneorsome_k26_whole_steps_are_results.Holds := by
  w_on; o_law
  refine HandSHeadRun.head_any (r := KK.theRow) (q := KK.theView) (H := KK.hkK) (ob := KK.obT) (M := 9000) (loose := KK.names) (d := KK.theDef) (kwd := []) KK.obT_eq
    (by kernel_rfl) (fun s => by kernel_rfl) KK.run_eq (by kernel_rfl) (by kernel_rfl) (by kernel_rfl) (by rfl) (by first | assumption | decide +kernel) (by decide +kernel) ⟨rfl, rfl, rfl, rfl, rfl, by decide +kernel⟩ ?hw KK.law_walk
  case hw => w_witness2


