import PyProof.Rows.All
import Wide.All
import OpenK.AllK
import Wide.FinOn
import HandS.ForMost
import HandS.Steps
import HandS.IsInst
import HandS.Wide
import HandS.Flow
import HandS.ClsMeth
import HandS.TryOnly
import HandS.WordsExc
import HandS.ExcIs
import HandS.Defaults
import HandS.Gcd
import HandS.FStr
import HandS.ExcCtx
import HandS.ExcField
import HandS.HotCalls
import HandS.Walk
import KE.KExcSuper
import KE.RegKSuper
import KE.RegKIsAll
import PySem.Challenge.RW_toldridges_k19_balance_or_weights
set_option Elab.async false
set_option linter.all false
set_option maxRecDepth 100000
set_option maxHeartbeats 4000000
/-! TrBase: the world G (what never changes), the owned objects M, the heap H; typed values. -/
namespace Tr
open PySem PySem.Spec PyProof.Rows L2

/-! ### worlds -/
def Sub (G H : Hp) : Prop := ∀ a o, G a = some o → H a = some o
theorem Sub.refl (H : Hp) : Sub H H := fun _ _ h => h
theorem Sub.trans {G H I : Hp} (a : Sub G H) (b : Sub H I) : Sub G I := fun x o h => b x o (a x o h)
theorem Sub.new {H : Hp} {p : Addr} {o : HO} (h : H p = none) : Sub H (upd H p o) := fun a u e => by
  rw [upd_ne (ne_of_none e h)]
  exact e
theorem Sub.seq {K : PySem.W.Frag} {G H : Hp} {a : Addr} {xs : List V} (e : Sub G H) (h : SqL K G a xs) : SqL K H a xs := by
  rcases h with (h | ⟨o, h⟩) | h
  · exact .inl (.inl (e _ _ h))
  · exact .inl (.inr ⟨o, e _ _ h⟩)
  · exact .inr h
abbrev Mu := List (Addr × HO)
/-- G never changes, M is owned, H is the heap -/
structure At (G : Hp) (M : Mu) (H : Hp) : Prop where
  sub : Sub G H
  own : ∀ q ∈ M, H q.1 = some q.2 ∧ G q.1 = none
  nd : (M.map (·.1)).Nodup
section
variable {G H : Hp} {M : Mu} {p q : Addr} {o u : HO}
theorem At.hd (A : At G ((p, o) :: M) H) : H p = some o := (A.own (p, o) (List.mem_cons_self)).1
theorem At.gn (A : At G ((p, o) :: M) H) : G p = none := (A.own (p, o) (List.mem_cons_self)).2
theorem At.tl (A : At G ((p, o) :: M) H) : At G M H := ⟨A.sub, fun q h => A.own q (List.mem_cons_of_mem _ h), (List.nodup_cons.mp A.nd).2⟩
theorem At.nm (A : At G ((p, o) :: M) H) : ∀ q ∈ M, q.1 ≠ p := fun q h e => (List.nodup_cons.mp A.nd).1 (by
  have h1 := List.mem_map_of_mem (f := fun q : Addr × HO => q.1) h
  rw [show q.1 = p from e] at h1
  exact h1)
theorem At.fresh (A : At G M H) (h : H p = none) : G p = none := by
  cases e : G p with
  | none => rfl
  | some x => rw [A.sub p x e] at h; cases h
theorem At.new (A : At G M H) (h : H p = none) : At G ((p, o) :: M) (upd H p o) := by
  refine ⟨A.sub.trans (Sub.new h), fun q hq => ?_, ?_⟩
  · rcases List.mem_cons.mp hq with rfl | hq
    · exact ⟨upd_same, A.fresh h⟩
    · obtain ⟨h1, h2⟩ := A.own q hq
      exact ⟨by rw [upd_ne (ne_of_none h1 h)]; exact h1, h2⟩
  · rw [List.map_cons, List.nodup_cons]
    refine ⟨fun hm => ?_, A.nd⟩
    obtain ⟨q, hq, e⟩ := List.mem_map.mp hm
    have h1 := (A.own q hq).1
    rw [e, h] at h1; cases h1
theorem At.put (A : At G ((p, o) :: M) H) : At G ((p, u) :: M) (upd H p u) := by
  refine ⟨fun a x e => ?_, fun q hq => ?_, A.nd⟩
  · have n : a ≠ p := fun z => by rw [z, A.gn] at e; cases e
    rw [upd_ne n]; exact A.sub a x e
  · rcases List.mem_cons.mp hq with rfl | hq
    · exact ⟨upd_same, A.gn⟩
    · obtain ⟨h1, h2⟩ := A.own q (List.mem_cons_of_mem _ hq)
      exact ⟨by rw [upd_ne (A.nm q hq)]; exact h1, h2⟩
/-- an owned object is given to the world -/
theorem At.frz (A : At G ((p, o) :: M) H) : At (upd G p o) M H := by
  refine ⟨fun a x e => ?_, fun q hq => ?_, (List.nodup_cons.mp A.nd).2⟩
  · by_cases z : a = p
    · subst z; rw [upd_same] at e; cases e; exact A.hd
    · rw [upd_ne z] at e; exact A.sub a x e
  · obtain ⟨h1, h2⟩ := A.own q (List.mem_cons_of_mem _ hq)
    exact ⟨h1, by rw [upd_ne (A.nm q hq)]; exact h2⟩
theorem At.frzS (A : At G ((p, o) :: M) H) : Sub G (upd G p o) := Sub.new A.gn
/-- a new object goes into the world at once -/
theorem At.newG (A : At G M H) (h : H p = none) : At (upd G p o) M (upd H p o) := (A.new (o := o) h).frz
theorem At.newS (A : At G M H) (h : H p = none) : Sub G (upd G p o) := Sub.new (A.fresh h)
theorem At.swap {a b : Addr × HO} (A : At G (a :: b :: M) H) : At G (b :: a :: M) H := by
  refine ⟨A.sub, fun q hq => A.own q ?_, ?_⟩
  · rcases List.mem_cons.mp hq with h | hq
    · exact h ▸ List.mem_cons_of_mem _ List.mem_cons_self
    · rcases List.mem_cons.mp hq with h | hq
      · exact h ▸ List.mem_cons_self
      · exact List.mem_cons_of_mem _ (List.mem_cons_of_mem _ hq)
  · have := A.nd
    simp only [List.map_cons, List.nodup_cons, List.mem_cons, not_or] at this ⊢
    exact ⟨⟨fun e => this.1.1 e.symm, this.2.1⟩, this.1.2, this.2.2⟩
theorem At.rot {a b c : Addr × HO} (A : At G (a :: b :: c :: M) H) : At G (c :: a :: b :: M) H := by
  refine ⟨A.sub, fun q hq => A.own q ?_, ?_⟩
  · simp only [List.mem_cons] at hq ⊢
    rcases hq with h | h | h | h
    · exact .inr (.inr (.inl h))
    · exact .inl h
    · exact .inr (.inl h)
    · exact .inr (.inr (.inr h))
  · have := A.nd
    simp only [List.map_cons, List.nodup_cons, List.mem_cons, not_or] at this ⊢
    exact ⟨⟨fun e => this.1.2.1 e.symm, fun e => this.2.1.1 e.symm, this.2.2.1⟩, ⟨this.1.1, this.1.2.2⟩, this.2.1.2, this.2.2.2⟩
/-- the world alone -/
theorem At.nil (A : At G M H) : At G [] H := ⟨A.sub, fun q h => (nomatch h), List.nodup_nil⟩
theorem At.self (H : Hp) : At H [] H := ⟨Sub.refl H, fun q h => (nomatch h), List.nodup_nil⟩
end

/-! ### typed values -/
class Enc (α : Type) where
  den : Hp → V → α → Prop
  mono : ∀ {G H : Hp} {v : V} {x : α}, Sub G H → den G v x → den H v x
open Enc (den)
instance : Enc Int := ⟨fun _ v x => v = .int x, fun _ h => h⟩
instance : Enc Bool := ⟨fun _ v x => v = .bl x, fun _ h => h⟩
instance : Enc Str := ⟨fun _ v x => v = .str x, fun _ h => h⟩
instance : Enc Unit := ⟨fun _ v _ => v = .non, fun _ h => h⟩
end Tr
set_option Elab.async false
set_option linter.all false
set_option maxRecDepth 100000
set_option maxHeartbeats 4000000
/-! TrOps: operators, comparisons and unary operators that an own class defines, as rules of the hand layer. -/
namespace Tr
open PySem PySem.Spec PyProof.Rows L2
section
variable {X : Cx} {CX : CXT} {k : Nat} {C f : Addr} {fd : FuncData} {ps : List Str} {sp : Sp} {E : XK}

theorem inst_of {pins : List (Addr × Obj)} {σ : L2.St} {H : Hp} {s : Shared} {a C dx : Addr} {fs : List (Str × V)} (I : Inv X pins σ H s) (e : H a = some (.ins C dx fs)) : ∃ ox od, PySem.W.InstAt s.heap a ox C od := by
  obtain ⟨mA, O, _⟩ := ins_get I.hok e
  obtain ⟨od, J, _⟩ := O.look
  exact ⟨_, _, J⟩
theorem back_of {pins : List (Addr × Obj)} {σ : L2.St} {Q : VK} {r : Value} {s' : Shared} (h : EP X pins σ Q r s') : PySem.W.CmpBack (EP X pins σ Q) r s' := by
  obtain ⟨v, H', I', rv, q'⟩ := h
  cases r with
  | notImplemented =>
    exfalso
    cases v <;> first | (obtain ⟨_, e⟩ := rv; cases e) | cases rv
  | _ => exact ⟨v, H', I', rv, q'⟩
/-- a, b instances of one class -/
def rOwn (C : Addr) (sp : Sp) (E : XK) : R2 := fun x y H Q => ∃ a dx fs b dy gs, x = .ref a ∧ y = .ref b ∧ H a = some (.ins C dx fs) ∧ H b = some (.ins C dy gs) ∧ sp [x, y] H Q E
theorem op_own {op : Operator} (F : FnOk X.prog X.w X.K X.mg X.base CX k f fd ps sp) (hr : Room k X.A) (hb : Binds X.K fd ps []) (hx : Passes CX X E) (hc : PySem.W.selfFirst X.K C = true) (m : Meth X.K C (PySem.dunder op.info.2) f) :
    OpR X (binaryOp op) (rOwn C sp E) := by
  intro pins s σ H x y v u Q I rx ry h
  obtain ⟨a, dx, fs, b, dy, gs, rfl, rfl, ha, hb', q⟩ := h
  cases (show v = Value.ref a from rx)
  cases (show u = Value.ref b from ry)
  obtain ⟨ox, od, J⟩ := inst_of I ha
  obtain ⟨ox2, od2, J2⟩ := inst_of I hb'
  obtain ⟨mm, Fm⟩ := I.fr
  refine PySem.W.binop_K Fm I.mod.kin J J2.type hc m.at_ m.fn ?_
  exact thn (run_fn (us := [.ref a, .ref b]) (vs := [.ref a, .ref b]) F hr hb .nil hx I (.cons rfl (.cons rfl .nil)) q) fun r s' hq => back_of hq
/-- what of the text an operator of an own class with an int on the other side must have -/
structure OwnT (K : PySem.W.Frag) (C : Addr) (nm : String) : Prop where
  sf : PySem.W.selfFirst K C = true
  ru : ∃ rc, PySem.W.findIn K (.ref C) (PySem.dunderR nm) = some rc ∧ (rc = none ∨ ∃ g : Addr, rc = some (.ref g))
  i1 : ∃ fo, PySem.W.findIn K (.type "int") (PySem.dunder nm) = some fo
  i2 : ∃ ro, PySem.W.findIn K (.type "int") (PySem.dunderR nm) = some ro
  su : PySem.W.subIn K (.type "int") (.ref C) = some false
def rOwnI (C : Addr) (sp : Sp) (E : XK) : R2 := fun x y H Q => ∃ a dx fs j, x = .ref a ∧ y = .int j ∧ H a = some (.ins C dx fs) ∧ sp [x, y] H Q E
theorem op_ownI {op : Operator} (F : FnOk X.prog X.w X.K X.mg X.base CX k f fd ps sp) (hr : Room k X.A) (hb : Binds X.K fd ps []) (hx : Passes CX X E) (t : OwnT X.K C op.info.2) (m : Meth X.K C (PySem.dunder op.info.2) f) :
    OpR X (binaryOp op) (rOwnI C sp E) := by
  intro pins s σ H x y v u Q I rx ry h
  obtain ⟨a, dx, fs, j, rfl, rfl, ha, q⟩ := h
  cases (show v = Value.ref a from rx)
  obtain ⟨tk, rfl⟩ := (show ∃ t, u = Value.int j t from ry)
  obtain ⟨ox, od, J⟩ := inst_of I ha
  obtain ⟨mm, Fm⟩ := I.fr
  obtain ⟨rc, r1, r2⟩ := t.ru
  obtain ⟨fo, f1⟩ := t.i1
  obtain ⟨ro, o1⟩ := t.i2
  refine PySem.W.ksp_binT (T := "int") Fm I.mod.kin J rfl t.sf m.at_ m.fn r1 r2 f1 o1 t.su ?_
  exact thn (run_fn (us := [.ref a, .int j tk]) (vs := [.ref a, .int j]) F hr hb .nil hx I (.cons rfl (.cons ⟨tk, rfl⟩ .nil)) q) fun r s' hq => back_of hq
/-- -a, ~a -/
def rOwnU (C : Addr) (sp : Sp) (E : XK) : V → Hp → VK → Prop := fun x H Q => ∃ a dx fs, x = .ref a ∧ H a = some (.ins C dx fs) ∧ sp [x] H Q E
theorem un_ownNeg (F : FnOk X.prog X.w X.K X.mg X.base CX k f fd ps sp) (hr : Room k X.A) (hb : Binds X.K fd ps []) (hx : Passes CX X E) (m : Meth X.K C "__neg__" f) : UnR X (unaryOp .USub) (rOwnU C sp E) := by
  intro pins s σ H x v Q I rx h
  obtain ⟨a, dx, fs, rfl, ha, q⟩ := h
  cases (show v = Value.ref a from rx)
  obtain ⟨ox, od, J⟩ := inst_of I ha
  obtain ⟨mm, Fm⟩ := I.fr
  refine PySem.W.ksp_neg Fm I.mod.kin J m.at_ m.fn ?_
  exact run_fn (us := [.ref a]) (vs := [.ref a]) F hr hb .nil hx I (.cons rfl .nil) q
theorem un_ownInv (F : FnOk X.prog X.w X.K X.mg X.base CX k f fd ps sp) (hr : Room k X.A) (hb : Binds X.K fd ps []) (hx : Passes CX X E) (m : Meth X.K C "__invert__" f) : UnR X (unaryOp .Invert) (rOwnU C sp E) := by
  intro pins s σ H x v Q I rx h
  obtain ⟨a, dx, fs, rfl, ha, q⟩ := h
  cases (show v = Value.ref a from rx)
  obtain ⟨ox, od, J⟩ := inst_of I ha
  obtain ⟨mm, Fm⟩ := I.fr
  refine PySem.W.ksp_inv Fm I.mod.kin J m.at_ m.fn ?_
  exact run_fn (us := [.ref a]) (vs := [.ref a]) F hr hb .nil hx I (.cons rfl .nil) q
/-- a == b, a < b .. of two instances of one class -/
theorem op_cmpOwn {op : CmpOp} (hop : ∀ v u : Value, compareOp op v u = richCompare op v u) (F : FnOk X.prog X.w X.K X.mg X.base CX k f fd ps sp) (hr : Room k X.A) (hb : Binds X.K fd ps []) (hx : Passes CX X E)
    (hn : PySem.W.notFirst X.K C (.ref C) = true) (m : Meth X.K C (cmpInfo op).2.1 f) :
    OpR X (compareOp op) (rOwn C sp E) := by
  intro pins s σ H x y v u Q I rx ry h
  obtain ⟨a, dx, fs, b, dy, gs, rfl, rfl, ha, hb', q⟩ := h
  cases (show v = Value.ref a from rx)
  cases (show u = Value.ref b from ry)
  obtain ⟨ox, od, J⟩ := inst_of I ha
  obtain ⟨ox2, od2, J2⟩ := inst_of I hb'
  obtain ⟨mm, Fm⟩ := I.fr
  rw [hop]
  refine PySem.W.cmp_K hr.units0 Fm I.mod.kin J J2.type hn m.at_ m.fn ?_
  exact thn (run_fn (us := [.ref a, .ref b]) (vs := [.ref a, .ref b]) F hr hb .nil hx I (.cons rfl (.cons rfl .nil)) q) fun r s' hq => back_of hq
theorem op_cmpOwnI {op : CmpOp} (hop : ∀ v u : Value, compareOp op v u = richCompare op v u) (F : FnOk X.prog X.w X.K X.mg X.base CX k f fd ps sp) (hr : Room k X.A) (hb : Binds X.K fd ps []) (hx : Passes CX X E)
    (hn : PySem.W.notFirst X.K C (.type "int") = true) (m : Meth X.K C (cmpInfo op).2.1 f) :
    OpR X (compareOp op) (rOwnI C sp E) := by
  intro pins s σ H x y v u Q I rx ry h
  obtain ⟨a, dx, fs, j, rfl, rfl, ha, q⟩ := h
  cases (show v = Value.ref a from rx)
  obtain ⟨tk, rfl⟩ := (show ∃ t, u = Value.int j t from ry)
  obtain ⟨ox, od, J⟩ := inst_of I ha
  obtain ⟨mm, Fm⟩ := I.fr
  rw [hop]
  refine PySem.W.cmp_K (tb := .type "int") hr.units0 Fm I.mod.kin J (PySem.W.Looks.of_pure rfl) hn m.at_ m.fn ?_
  exact thn (run_fn (us := [.ref a, .int j tk]) (vs := [.ref a, .int j]) F hr hb .nil hx I (.cons rfl (.cons ⟨tk, rfl⟩ .nil)) q) fun r s' hq => back_of hq
theorem hop_eq (v u : Value) : compareOp .Eq v u = richCompare .Eq v u := rfl
theorem hop_lt (v u : Value) : compareOp .Lt v u = richCompare .Lt v u := rfl
theorem hop_le (v u : Value) : compareOp .LtE v u = richCompare .LtE v u := rfl
end
end Tr
set_option Elab.async false
set_option linter.all false
set_option maxRecDepth 100000
set_option maxHeartbeats 4000000
/-! TrOpsR: an int on the left, an instance of an own class on the right: the class's reflected method. -/
namespace Tr
open PySem PySem.Spec PyProof.Rows L2
theorem int_add_inst (i : Int) (t : Tok) (x C dx : Addr) :
    Meets (Builtin.«int.__add__» ⟨[.int i t, .ref x], []⟩) (fun _ R s => s.heap.get? x = some (PySem.W.instObj C dx) ∧ R (.ok (.ret Value.notImplemented)) s) :=
  .of_wp fun prog w A R s h => by obtain ⟨hp, g, d, tk, os⟩ := s; obtain ⟨hl, h⟩ := h; wp_walk; exact ⟨_, rfl, h⟩
theorem int_sub_inst (i : Int) (t : Tok) (x C dx : Addr) :
    Meets (Builtin.«int.__sub__» ⟨[.int i t, .ref x], []⟩) (fun _ R s => s.heap.get? x = some (PySem.W.instObj C dx) ∧ R (.ok (.ret Value.notImplemented)) s) :=
  .of_wp fun prog w A R s h => by obtain ⟨hp, g, d, tk, os⟩ := s; obtain ⟨hl, h⟩ := h; wp_walk; exact ⟨_, rfl, h⟩
theorem int_mul_inst (i : Int) (t : Tok) (x C dx : Addr) :
    Meets (Builtin.«int.__mul__» ⟨[.int i t, .ref x], []⟩) (fun _ R s => s.heap.get? x = some (PySem.W.instObj C dx) ∧ R (.ok (.ret Value.notImplemented)) s) :=
  .of_wp fun prog w A R s h => by obtain ⟨hp, g, d, tk, os⟩ := s; obtain ⟨hl, h⟩ := h; wp_walk; exact ⟨_, rfl, h⟩
section
variable {prog : Program} {w : World} {A : Around} {E : Value → Shared → Prop} {s : Shared} {K : PySem.W.Frag} {x C L f f0 : Addr} {h₀ : Heap} {m : Str → Option Value} {ox : Obj} {od : Option Obj}
open PySem.W in
theorem bin_refl {op : Operator} {i : Int} {t : Tok} {Q : Value → Shared → Prop} (F : Fr h₀ L s.heap m) (X₀ : K.In h₀) (I : PySem.W.InstAt s.heap x ox C od) (hc : PySem.W.selfFirst K C = true)
    (h0 : PySem.W.findIn K (.ref C) (PySem.dunder op.info.2) = some (some (.ref f0)))
    (hs : PySem.W.findIn K (.ref C) (PySem.dunderR op.info.2) = some (some (.ref f))) (hf : PySem.W.isFn K (.ref f) = true)
    {fo ro : Option Value} (h1 : PySem.W.findIn K (.type "int") (PySem.dunder op.info.2) = some fo) (h2 : PySem.W.findIn K (.type "int") (PySem.dunderR op.info.2) = some ro)
    (hlf : ((fo.isSome && !isSeqSlot fo) || (ro.isSome && !isSeqSlot ro)) = true)
    (hsub : PySem.W.subIn K (.ref C) (.type "int") = some false)
    (hd : ∀ {Q' : Option Value → Shared → Prop}, Q' none s → wpAny (model prog w) A (tryMethod (.int i t) (PySem.dunder op.info.2) (.ref x)) Q' E s)
    (h : wpAny (model prog w) A (call (.ref f) [.ref x, .int i t]) (PySem.W.CmpBack Q) E s) : wpAny (model prog w) A (binaryOp op (.int i t) (.ref x)) Q E s := by
  have X := X₀.keeps F.keep
  obtain ⟨cd, rest, hcd, hm⟩ := PySem.W.ksp_first hc
  rcases hi : op.info with ⟨sym, nm'⟩
  rw [hi] at hs h0 h1 h2 hd
  dsimp only at hs h0 h1 h2 hd
  have one := PySem.W.ksp_try X I hs hf h
  have decl := @hd
  clear hd h
  have L1 : PySem.W.Looks (model prog w) s.heap (typeOf (.int i t)) (.type "int") := PySem.W.Looks.of_pure rfl
  have L2 : PySem.W.Looks (model prog w) s.heap (typeOf (.ref x)) (.ref C) := I.type
  have L3 : PySem.W.Looks (model prog w) s.heap (fillsNumberSlot (.type "int") nm') true := hlf ▸ PySem.W.ksp_fillsT X h1 h2
  have L4 : PySem.W.Looks (model prog w) s.heap (fillsNumberSlot (.ref C) nm') true := PySem.W.fills_K X hcd hm h0
  have L5 : PySem.W.Looks (model prog w) s.heap (isSubtype (.ref C) (.type "int")) false := PySem.W.looks_subIn X hsub
  have hne : (Value.type "int" == Value.ref C) = false := Bool.eq_false_iff.mpr fun q => by cases beq_iff_eq.mp q
  simp only [binaryOp, hi]
  refine wpAny_holding (wpAny_bind ?_)
  unfold binaryOp1
  refine wpAny_bind (L1.here (wpAny_bind (L2.here (wpAny_bind (L3.here ?_)))))
  simp only [hne, Bool.false_eq_true, if_false]
  refine wpAny_bind (L4.here ?_)
  simp only [Bool.and_self, if_true]
  refine wpAny_bind (L5.here ?_)
  have hpy : numberSlotInPython (.type "int") nm' = pure false := rfl
  simp only [Bool.false_eq_true, if_false, pure_bind, Bool.not_false, Bool.and_self, if_true, hpy]
  refine wpAny_bind (decl ?_)
  dsimp only
  refine wpAny_bind (wpAny_mono one (fun r s' hr' => ?_) fun _ _ e => e)
  obtain ⟨v, rfl, hq⟩ := hr'
  dsimp only
  exact wpAny_bind (wpAny_rule (wpAny_pure (wpAny_pure hq)))
end
end Tr
namespace Tr
open PySem PySem.Spec PyProof.Rows L2
/-- what of the text a reflected operator must have -/
structure OwnR (K : PySem.W.Frag) (C : Addr) (nm : String) : Prop where
  sf : PySem.W.selfFirst K C = true
  fw : ∃ f0 : Addr, PySem.W.findIn K (.ref C) (PySem.dunder nm) = some (some (.ref f0))
  ii : ∃ fo ro, PySem.W.findIn K (.type "int") (PySem.dunder nm) = some fo ∧ PySem.W.findIn K (.type "int") (PySem.dunderR nm) = some ro ∧ ((fo.isSome && !isSeqSlot fo) || (ro.isSome && !isSeqSlot ro)) = true
  su : PySem.W.subIn K (.ref C) (.type "int") = some false
section
variable {X : Cx} {CX : CXT} {k : Nat} {C f : Addr} {fd : FuncData} {ps : List Str} {sp : Sp} {E : XK}
def rOwnR (C : Addr) (sp : Sp) (E : XK) : R2 := fun x y H Q => ∃ i b dx fs, x = .int i ∧ y = .ref b ∧ H b = some (.ins C dx fs) ∧ sp [y, x] H Q E
theorem op_ownR {op : Operator} (F : FnOk X.prog X.w X.K X.mg X.base CX k f fd ps sp) (hr : Room k X.A) (hb : Binds X.K fd ps []) (hx : Passes CX X E) (t : OwnR X.K C op.info.2) (m : Meth X.K C (PySem.dunderR op.info.2) f)
    (hd : ∀ (i : Int) (tk : Tok) (x C dx : Addr) (s : Shared) (Q' : Option Value → Shared → Prop), s.heap.get? x = some (PySem.W.instObj C dx) → Q' none s → wpAny (model X.prog X.w) X.A (tryMethod (.int i tk) (PySem.dunder op.info.2) (.ref x)) Q' X.xe s) :
    OpR X (binaryOp op) (rOwnR C sp E) := by
  intro pins s σ H x y v u Q I rx ry h
  obtain ⟨i, b, dx, fs, rfl, rfl, ha, q⟩ := h
  obtain ⟨tk, rfl⟩ := (show ∃ t, v = Value.int i t from rx)
  cases (show u = Value.ref b from ry)
  obtain ⟨ox, od, J⟩ := inst_of I ha
  obtain ⟨mA, O, _⟩ := ins_get I.hok ha
  obtain ⟨mm, Fm⟩ := I.fr
  obtain ⟨f0, w0⟩ := t.fw
  obtain ⟨fo, ro, h1, h2, h3⟩ := t.ii
  refine bin_refl Fm I.mod.kin J t.sf w0 m.at_ m.fn h1 h2 h3 t.su (fun {Q'} z => hd i tk b C dx s Q' O.1 z) ?_
  exact thn (run_fn (us := [.ref b, .int i tk]) (vs := [.ref b, .int i]) F hr hb .nil hx I (.cons rfl (.cons ⟨tk, rfl⟩ .nil)) q) fun r s' hq => back_of hq
theorem decl_mul (i : Int) (tk : Tok) (x C dx : Addr) (s : Shared) (Q' : Option Value → Shared → Prop) (h : s.heap.get? x = some (PySem.W.instObj C dx)) (q : Q' none s) : wpAny (model X.prog X.w) X.A (tryMethod (.int i tk) (PySem.dunder (Operator.Mult).info.2) (.ref x)) Q' X.xe s :=
  by
  refine wpAny_tryMethod_declines (T := "int") (name := dunder "mul") (id := "int.__mul__") (typeIs_int s i tk) PySem.F.slot_int_mul ?_
  exact call_meets (T := "int") (name := dunder "mul") (B := Builtin.«int.__mul__») PySem.F.slot_int_mul (typeIs_int s i tk) PySem.F.entry_int_mul (PySem.F.args_int_mul_2 _ _) (int_mul_inst i tk x C dx) ⟨h, rfl, q⟩
theorem decl_add (i : Int) (tk : Tok) (x C dx : Addr) (s : Shared) (Q' : Option Value → Shared → Prop) (h : s.heap.get? x = some (PySem.W.instObj C dx)) (q : Q' none s) : wpAny (model X.prog X.w) X.A (tryMethod (.int i tk) (PySem.dunder (Operator.Add).info.2) (.ref x)) Q' X.xe s :=
  by
  refine wpAny_tryMethod_declines (T := "int") (name := dunder "add") (id := "int.__add__") (typeIs_int s i tk) PySem.F.slot_int_add ?_
  exact call_meets (T := "int") (name := dunder "add") (B := Builtin.«int.__add__») PySem.F.slot_int_add (typeIs_int s i tk) PySem.F.entry_int_add (PySem.F.args_int_add_2 _ _) (int_add_inst i tk x C dx) ⟨h, rfl, q⟩
theorem decl_sub (i : Int) (tk : Tok) (x C dx : Addr) (s : Shared) (Q' : Option Value → Shared → Prop) (h : s.heap.get? x = some (PySem.W.instObj C dx)) (q : Q' none s) : wpAny (model X.prog X.w) X.A (tryMethod (.int i tk) (PySem.dunder (Operator.Sub).info.2) (.ref x)) Q' X.xe s :=
  by
  refine wpAny_tryMethod_declines (T := "int") (name := dunder "sub") (id := "int.__sub__") (typeIs_int s i tk) PySem.F.slot_int_sub ?_
  exact call_meets (T := "int") (name := dunder "sub") (B := Builtin.«int.__sub__») PySem.F.slot_int_sub (typeIs_int s i tk) PySem.F.entry_int_sub (PySem.F.args_int_sub_2 _ _) (int_sub_inst i tk x C dx) ⟨h, rfl, q⟩
end
end Tr
set_option Elab.async false
set_option linter.all false
set_option maxRecDepth 100000
set_option maxHeartbeats 4000000
/-! TrLaw: what the laws' own helpers need: the pool. -/
namespace Tr
open PySem PySem.Spec PyProof.Rows L2
/-- the numbers of a pool: few, and each below 4096 -/
structure PoolOk (ms : List Int) : Prop where
  len : ms.length ≤ 10000
  rng : ∀ n ∈ ms, 0 ≤ n ∧ n < 4096
theorem PoolOk.tail {ms : List Int} (h : PoolOk ms) : PoolOk ms.tail := by
  refine ⟨?_, fun n hn => h.rng n (List.mem_of_mem_tail hn)⟩
  have := h.len
  rw [List.length_tail]; omega
/-- the value that take gives -/
def tkv (ms : List Int) (m : Int) : Int := match ms with
  | [] => 0
  | n :: _ => n.fmod m
theorem tkv_rng {ms : List Int} {m : Int} (hm : 0 < m) : 0 ≤ tkv ms m ∧ tkv ms m < m := by
  cases ms with
  | nil => exact ⟨Int.le_refl 0, hm⟩
  | cons n r =>
    show 0 ≤ n.fmod m ∧ n.fmod m < m
    rw [Int.fmod_eq_emod_of_nonneg _ (by omega)]
    exact ⟨Int.emod_nonneg _ (by omega), Int.emod_lt_of_pos _ hm⟩
abbrev pool (ms : List Int) : HO := .lst (ms.map V.int)
/-- all but p stays -/
def Chg (p : Addr) (H H' : Hp) : Prop := ∀ a x, a ≠ p → H a = some x → H' a = some x
theorem Chg.trans {p : Addr} {G H I : Hp} (a : Chg p G H) (b : Chg p H I) : Chg p G I := fun x o n h => b x o n (a x o n h)
theorem Chg.of {p : Addr} {H I : Hp} (a : Sub H I) : Chg p H I := fun x o _ h => a x o h
theorem Chg.put {p : Addr} {H : Hp} {o : HO} : Chg p H (upd H p o) := fun x u n h => by rw [upd_ne n]; exact h
theorem Chg.new {p q : Addr} {H : Hp} {o : HO} (h : H q = none) : Chg p H (upd H q o) := Chg.of (Sub.new h)
section
variable {G H H' : Hp} {M : Mu} {p q : Addr} {o u : HO}
theorem At.chg (A : At G ((p, o) :: M) H) (c : Chg p H H') (h : H' p = some u) : At G ((p, u) :: M) H' := by
  refine ⟨fun a x e => ?_, fun q hq => ?_, A.nd⟩
  · have n : a ≠ p := fun z => by rw [z, A.gn] at e; cases e
    exact c a x n (A.sub a x e)
  · rcases List.mem_cons.mp hq with rfl | hq
    · exact ⟨h, A.gn⟩
    · obtain ⟨h1, h2⟩ := A.own q (List.mem_cons_of_mem _ hq)
      exact ⟨c _ _ (A.nm q hq) h1, h2⟩
theorem At.ext (A : At G M H) (c : Sub H H') : At G M H' := ⟨A.sub.trans c, fun q hq => ⟨c _ _ (A.own q hq).1, (A.own q hq).2⟩, A.nd⟩
theorem At.more (A : At G M H) (c : Sub H H') (n : H p = none) (h : H' p = some o) : At G ((p, o) :: M) H' := by
  refine ⟨A.sub.trans c, fun q hq => ?_, ?_⟩
  · rcases List.mem_cons.mp hq with rfl | hq
    · exact ⟨h, A.fresh n⟩
    · exact ⟨c _ _ (A.own q hq).1, (A.own q hq).2⟩
  · rw [List.map_cons, List.nodup_cons]
    refine ⟨fun hm => ?_, A.nd⟩
    obtain ⟨q, hq, e⟩ := List.mem_map.mp hm
    have h1 := (A.own q hq).1
    rw [e, n] at h1; cases h1
theorem At.h1 {a : Addr × HO} (A : At G (a :: (p, o) :: M) H) : H p = some o := A.tl.hd
theorem At.h2 {a b : Addr × HO} (A : At G (a :: b :: (p, o) :: M) H) : H p = some o := A.tl.tl.hd
theorem At.h3 {a b c : Addr × HO} (A : At G (a :: b :: c :: (p, o) :: M) H) : H p = some o := A.tl.tl.tl.hd
end
theorem cxK {CX : CXT} {P : Program} {w : World} {K : PySem.W.Frag} {mg : Str → Option Value} {base : Heap} {N : List Str} {qual : Str} {scope : Scope} {f : Addr} {cd : Value} {A : Around} {outer : List Env} {s : Shared} {H : Hp} {E : XK} :
    (cxOf CX P w K mg base N qual scope f cd A outer s H E).nox.K = K := rfl
theorem cxK2 {CX : CXT} {P : Program} {w : World} {K : PySem.W.Frag} {mg : Str → Option Value} {base : Heap} {N : List Str} {qual : Str} {scope : Scope} {f : Addr} {cd : Value} {A : Around} {outer : List Env} {s : Shared} {H : Hp} {E : XK} :
    (cxOf CX P w K mg base N qual scope f cd A outer s H E).K = K := rfl
/-! a name is stored: the slots written out again -/
section
variable {v : V} {σ : L2.St} {H : Hp} {nx : L2.St → Hp → Prop}
theorem gs0 {a0 : Option V} (h : nx (some v :: σ) H) : gName 0 v (a0 :: σ) H nx := h
theorem gs1 {a0 a1 : Option V} (h : nx (a0 :: some v :: σ) H) : gName 1 v (a0 :: a1 :: σ) H nx := h
theorem gs2 {a0 a1 a2 : Option V} (h : nx (a0 :: a1 :: some v :: σ) H) : gName 2 v (a0 :: a1 :: a2 :: σ) H nx := h
theorem gs3 {a0 a1 a2 a3 : Option V} (h : nx (a0 :: a1 :: a2 :: some v :: σ) H) : gName 3 v (a0 :: a1 :: a2 :: a3 :: σ) H nx := h
theorem gs4 {a0 a1 a2 a3 a4 : Option V} (h : nx (a0 :: a1 :: a2 :: a3 :: some v :: σ) H) : gName 4 v (a0 :: a1 :: a2 :: a3 :: a4 :: σ) H nx := h
theorem gs5 {a0 a1 a2 a3 a4 a5 : Option V} (h : nx (a0 :: a1 :: a2 :: a3 :: a4 :: some v :: σ) H) : gName 5 v (a0 :: a1 :: a2 :: a3 :: a4 :: a5 :: σ) H nx := h
theorem gs6 {a0 a1 a2 a3 a4 a5 a6 : Option V} (h : nx (a0 :: a1 :: a2 :: a3 :: a4 :: a5 :: some v :: σ) H) : gName 6 v (a0 :: a1 :: a2 :: a3 :: a4 :: a5 :: a6 :: σ) H nx := h
theorem gs7 {a0 a1 a2 a3 a4 a5 a6 a7 : Option V} (h : nx (a0 :: a1 :: a2 :: a3 :: a4 :: a5 :: a6 :: some v :: σ) H) : gName 7 v (a0 :: a1 :: a2 :: a3 :: a4 :: a5 :: a6 :: a7 :: σ) H nx := h
theorem gs8 {a0 a1 a2 a3 a4 a5 a6 a7 a8 : Option V} (h : nx (a0 :: a1 :: a2 :: a3 :: a4 :: a5 :: a6 :: a7 :: some v :: σ) H) : gName 8 v (a0 :: a1 :: a2 :: a3 :: a4 :: a5 :: a6 :: a7 :: a8 :: σ) H nx := h
theorem gs9 {a0 a1 a2 a3 a4 a5 a6 a7 a8 a9 : Option V} (h : nx (a0 :: a1 :: a2 :: a3 :: a4 :: a5 :: a6 :: a7 :: a8 :: some v :: σ) H) : gName 9 v (a0 :: a1 :: a2 :: a3 :: a4 :: a5 :: a6 :: a7 :: a8 :: a9 :: σ) H nx := h
theorem gs10 {a0 a1 a2 a3 a4 a5 a6 a7 a8 a9 a10 : Option V} (h : nx (a0 :: a1 :: a2 :: a3 :: a4 :: a5 :: a6 :: a7 :: a8 :: a9 :: some v :: σ) H) : gName 10 v (a0 :: a1 :: a2 :: a3 :: a4 :: a5 :: a6 :: a7 :: a8 :: a9 :: a10 :: σ) H nx := h
theorem gs11 {a0 a1 a2 a3 a4 a5 a6 a7 a8 a9 a10 a11 : Option V} (h : nx (a0 :: a1 :: a2 :: a3 :: a4 :: a5 :: a6 :: a7 :: a8 :: a9 :: a10 :: some v :: σ) H) : gName 11 v (a0 :: a1 :: a2 :: a3 :: a4 :: a5 :: a6 :: a7 :: a8 :: a9 :: a10 :: a11 :: σ) H nx := h
theorem gs12 {a0 a1 a2 a3 a4 a5 a6 a7 a8 a9 a10 a11 a12 : Option V} (h : nx (a0 :: a1 :: a2 :: a3 :: a4 :: a5 :: a6 :: a7 :: a8 :: a9 :: a10 :: a11 :: some v :: σ) H) : gName 12 v (a0 :: a1 :: a2 :: a3 :: a4 :: a5 :: a6 :: a7 :: a8 :: a9 :: a10 :: a11 :: a12 :: σ) H nx := h
theorem gs13 {a0 a1 a2 a3 a4 a5 a6 a7 a8 a9 a10 a11 a12 a13 : Option V} (h : nx (a0 :: a1 :: a2 :: a3 :: a4 :: a5 :: a6 :: a7 :: a8 :: a9 :: a10 :: a11 :: a12 :: some v :: σ) H) : gName 13 v (a0 :: a1 :: a2 :: a3 :: a4 :: a5 :: a6 :: a7 :: a8 :: a9 :: a10 :: a11 :: a12 :: a13 :: σ) H nx := h
theorem gs14 {a0 a1 a2 a3 a4 a5 a6 a7 a8 a9 a10 a11 a12 a13 a14 : Option V} (h : nx (a0 :: a1 :: a2 :: a3 :: a4 :: a5 :: a6 :: a7 :: a8 :: a9 :: a10 :: a11 :: a12 :: a13 :: some v :: σ) H) : gName 14 v (a0 :: a1 :: a2 :: a3 :: a4 :: a5 :: a6 :: a7 :: a8 :: a9 :: a10 :: a11 :: a12 :: a13 :: a14 :: σ) H nx := h
theorem gs15 {a0 a1 a2 a3 a4 a5 a6 a7 a8 a9 a10 a11 a12 a13 a14 a15 : Option V} (h : nx (a0 :: a1 :: a2 :: a3 :: a4 :: a5 :: a6 :: a7 :: a8 :: a9 :: a10 :: a11 :: a12 :: a13 :: a14 :: some v :: σ) H) : gName 15 v (a0 :: a1 :: a2 :: a3 :: a4 :: a5 :: a6 :: a7 :: a8 :: a9 :: a10 :: a11 :: a12 :: a13 :: a14 :: a15 :: σ) H nx := h
theorem gs16 {a0 a1 a2 a3 a4 a5 a6 a7 a8 a9 a10 a11 a12 a13 a14 a15 a16 : Option V} (h : nx (a0 :: a1 :: a2 :: a3 :: a4 :: a5 :: a6 :: a7 :: a8 :: a9 :: a10 :: a11 :: a12 :: a13 :: a14 :: a15 :: some v :: σ) H) : gName 16 v (a0 :: a1 :: a2 :: a3 :: a4 :: a5 :: a6 :: a7 :: a8 :: a9 :: a10 :: a11 :: a12 :: a13 :: a14 :: a15 :: a16 :: σ) H nx := h
theorem gs17 {a0 a1 a2 a3 a4 a5 a6 a7 a8 a9 a10 a11 a12 a13 a14 a15 a16 a17 : Option V} (h : nx (a0 :: a1 :: a2 :: a3 :: a4 :: a5 :: a6 :: a7 :: a8 :: a9 :: a10 :: a11 :: a12 :: a13 :: a14 :: a15 :: a16 :: some v :: σ) H) : gName 17 v (a0 :: a1 :: a2 :: a3 :: a4 :: a5 :: a6 :: a7 :: a8 :: a9 :: a10 :: a11 :: a12 :: a13 :: a14 :: a15 :: a16 :: a17 :: σ) H nx := h
theorem gs18 {a0 a1 a2 a3 a4 a5 a6 a7 a8 a9 a10 a11 a12 a13 a14 a15 a16 a17 a18 : Option V} (h : nx (a0 :: a1 :: a2 :: a3 :: a4 :: a5 :: a6 :: a7 :: a8 :: a9 :: a10 :: a11 :: a12 :: a13 :: a14 :: a15 :: a16 :: a17 :: some v :: σ) H) : gName 18 v (a0 :: a1 :: a2 :: a3 :: a4 :: a5 :: a6 :: a7 :: a8 :: a9 :: a10 :: a11 :: a12 :: a13 :: a14 :: a15 :: a16 :: a17 :: a18 :: σ) H nx := h
theorem gs19 {a0 a1 a2 a3 a4 a5 a6 a7 a8 a9 a10 a11 a12 a13 a14 a15 a16 a17 a18 a19 : Option V} (h : nx (a0 :: a1 :: a2 :: a3 :: a4 :: a5 :: a6 :: a7 :: a8 :: a9 :: a10 :: a11 :: a12 :: a13 :: a14 :: a15 :: a16 :: a17 :: a18 :: some v :: σ) H) : gName 19 v (a0 :: a1 :: a2 :: a3 :: a4 :: a5 :: a6 :: a7 :: a8 :: a9 :: a10 :: a11 :: a12 :: a13 :: a14 :: a15 :: a16 :: a17 :: a18 :: a19 :: σ) H nx := h
theorem gs20 {a0 a1 a2 a3 a4 a5 a6 a7 a8 a9 a10 a11 a12 a13 a14 a15 a16 a17 a18 a19 a20 : Option V} (h : nx (a0 :: a1 :: a2 :: a3 :: a4 :: a5 :: a6 :: a7 :: a8 :: a9 :: a10 :: a11 :: a12 :: a13 :: a14 :: a15 :: a16 :: a17 :: a18 :: a19 :: some v :: σ) H) : gName 20 v (a0 :: a1 :: a2 :: a3 :: a4 :: a5 :: a6 :: a7 :: a8 :: a9 :: a10 :: a11 :: a12 :: a13 :: a14 :: a15 :: a16 :: a17 :: a18 :: a19 :: a20 :: σ) H nx := h
theorem gs21 {a0 a1 a2 a3 a4 a5 a6 a7 a8 a9 a10 a11 a12 a13 a14 a15 a16 a17 a18 a19 a20 a21 : Option V} (h : nx (a0 :: a1 :: a2 :: a3 :: a4 :: a5 :: a6 :: a7 :: a8 :: a9 :: a10 :: a11 :: a12 :: a13 :: a14 :: a15 :: a16 :: a17 :: a18 :: a19 :: a20 :: some v :: σ) H) : gName 21 v (a0 :: a1 :: a2 :: a3 :: a4 :: a5 :: a6 :: a7 :: a8 :: a9 :: a10 :: a11 :: a12 :: a13 :: a14 :: a15 :: a16 :: a17 :: a18 :: a19 :: a20 :: a21 :: σ) H nx := h
theorem gs22 {a0 a1 a2 a3 a4 a5 a6 a7 a8 a9 a10 a11 a12 a13 a14 a15 a16 a17 a18 a19 a20 a21 a22 : Option V} (h : nx (a0 :: a1 :: a2 :: a3 :: a4 :: a5 :: a6 :: a7 :: a8 :: a9 :: a10 :: a11 :: a12 :: a13 :: a14 :: a15 :: a16 :: a17 :: a18 :: a19 :: a20 :: a21 :: some v :: σ) H) : gName 22 v (a0 :: a1 :: a2 :: a3 :: a4 :: a5 :: a6 :: a7 :: a8 :: a9 :: a10 :: a11 :: a12 :: a13 :: a14 :: a15 :: a16 :: a17 :: a18 :: a19 :: a20 :: a21 :: a22 :: σ) H nx := h
theorem gs23 {a0 a1 a2 a3 a4 a5 a6 a7 a8 a9 a10 a11 a12 a13 a14 a15 a16 a17 a18 a19 a20 a21 a22 a23 : Option V} (h : nx (a0 :: a1 :: a2 :: a3 :: a4 :: a5 :: a6 :: a7 :: a8 :: a9 :: a10 :: a11 :: a12 :: a13 :: a14 :: a15 :: a16 :: a17 :: a18 :: a19 :: a20 :: a21 :: a22 :: some v :: σ) H) : gName 23 v (a0 :: a1 :: a2 :: a3 :: a4 :: a5 :: a6 :: a7 :: a8 :: a9 :: a10 :: a11 :: a12 :: a13 :: a14 :: a15 :: a16 :: a17 :: a18 :: a19 :: a20 :: a21 :: a22 :: a23 :: σ) H nx := h
theorem gs24 {a0 a1 a2 a3 a4 a5 a6 a7 a8 a9 a10 a11 a12 a13 a14 a15 a16 a17 a18 a19 a20 a21 a22 a23 a24 : Option V} (h : nx (a0 :: a1 :: a2 :: a3 :: a4 :: a5 :: a6 :: a7 :: a8 :: a9 :: a10 :: a11 :: a12 :: a13 :: a14 :: a15 :: a16 :: a17 :: a18 :: a19 :: a20 :: a21 :: a22 :: a23 :: some v :: σ) H) : gName 24 v (a0 :: a1 :: a2 :: a3 :: a4 :: a5 :: a6 :: a7 :: a8 :: a9 :: a10 :: a11 :: a12 :: a13 :: a14 :: a15 :: a16 :: a17 :: a18 :: a19 :: a20 :: a21 :: a22 :: a23 :: a24 :: σ) H nx := h
theorem gs25 {a0 a1 a2 a3 a4 a5 a6 a7 a8 a9 a10 a11 a12 a13 a14 a15 a16 a17 a18 a19 a20 a21 a22 a23 a24 a25 : Option V} (h : nx (a0 :: a1 :: a2 :: a3 :: a4 :: a5 :: a6 :: a7 :: a8 :: a9 :: a10 :: a11 :: a12 :: a13 :: a14 :: a15 :: a16 :: a17 :: a18 :: a19 :: a20 :: a21 :: a22 :: a23 :: a24 :: some v :: σ) H) : gName 25 v (a0 :: a1 :: a2 :: a3 :: a4 :: a5 :: a6 :: a7 :: a8 :: a9 :: a10 :: a11 :: a12 :: a13 :: a14 :: a15 :: a16 :: a17 :: a18 :: a19 :: a20 :: a21 :: a22 :: a23 :: a24 :: a25 :: σ) H nx := h
theorem gs26 {a0 a1 a2 a3 a4 a5 a6 a7 a8 a9 a10 a11 a12 a13 a14 a15 a16 a17 a18 a19 a20 a21 a22 a23 a24 a25 a26 : Option V} (h : nx (a0 :: a1 :: a2 :: a3 :: a4 :: a5 :: a6 :: a7 :: a8 :: a9 :: a10 :: a11 :: a12 :: a13 :: a14 :: a15 :: a16 :: a17 :: a18 :: a19 :: a20 :: a21 :: a22 :: a23 :: a24 :: a25 :: some v :: σ) H) : gName 26 v (a0 :: a1 :: a2 :: a3 :: a4 :: a5 :: a6 :: a7 :: a8 :: a9 :: a10 :: a11 :: a12 :: a13 :: a14 :: a15 :: a16 :: a17 :: a18 :: a19 :: a20 :: a21 :: a22 :: a23 :: a24 :: a25 :: a26 :: σ) H nx := h
theorem gs27 {a0 a1 a2 a3 a4 a5 a6 a7 a8 a9 a10 a11 a12 a13 a14 a15 a16 a17 a18 a19 a20 a21 a22 a23 a24 a25 a26 a27 : Option V} (h : nx (a0 :: a1 :: a2 :: a3 :: a4 :: a5 :: a6 :: a7 :: a8 :: a9 :: a10 :: a11 :: a12 :: a13 :: a14 :: a15 :: a16 :: a17 :: a18 :: a19 :: a20 :: a21 :: a22 :: a23 :: a24 :: a25 :: a26 :: some v :: σ) H) : gName 27 v (a0 :: a1 :: a2 :: a3 :: a4 :: a5 :: a6 :: a7 :: a8 :: a9 :: a10 :: a11 :: a12 :: a13 :: a14 :: a15 :: a16 :: a17 :: a18 :: a19 :: a20 :: a21 :: a22 :: a23 :: a24 :: a25 :: a26 :: a27 :: σ) H nx := h
theorem gs28 {a0 a1 a2 a3 a4 a5 a6 a7 a8 a9 a10 a11 a12 a13 a14 a15 a16 a17 a18 a19 a20 a21 a22 a23 a24 a25 a26 a27 a28 : Option V} (h : nx (a0 :: a1 :: a2 :: a3 :: a4 :: a5 :: a6 :: a7 :: a8 :: a9 :: a10 :: a11 :: a12 :: a13 :: a14 :: a15 :: a16 :: a17 :: a18 :: a19 :: a20 :: a21 :: a22 :: a23 :: a24 :: a25 :: a26 :: a27 :: some v :: σ) H) : gName 28 v (a0 :: a1 :: a2 :: a3 :: a4 :: a5 :: a6 :: a7 :: a8 :: a9 :: a10 :: a11 :: a12 :: a13 :: a14 :: a15 :: a16 :: a17 :: a18 :: a19 :: a20 :: a21 :: a22 :: a23 :: a24 :: a25 :: a26 :: a27 :: a28 :: σ) H nx := h
theorem gs29 {a0 a1 a2 a3 a4 a5 a6 a7 a8 a9 a10 a11 a12 a13 a14 a15 a16 a17 a18 a19 a20 a21 a22 a23 a24 a25 a26 a27 a28 a29 : Option V} (h : nx (a0 :: a1 :: a2 :: a3 :: a4 :: a5 :: a6 :: a7 :: a8 :: a9 :: a10 :: a11 :: a12 :: a13 :: a14 :: a15 :: a16 :: a17 :: a18 :: a19 :: a20 :: a21 :: a22 :: a23 :: a24 :: a25 :: a26 :: a27 :: a28 :: some v :: σ) H) : gName 29 v (a0 :: a1 :: a2 :: a3 :: a4 :: a5 :: a6 :: a7 :: a8 :: a9 :: a10 :: a11 :: a12 :: a13 :: a14 :: a15 :: a16 :: a17 :: a18 :: a19 :: a20 :: a21 :: a22 :: a23 :: a24 :: a25 :: a26 :: a27 :: a28 :: a29 :: σ) H nx := h
end
/-- an instance that __init__ has just filled -/
theorem made {H : Hp} {r dr : Addr} {o1 o2 : HO} (h1 : H r = none) (h2 : H dr = none) : Sub H (upd (upd (upd H dr (.own r)) r o1) r o2) := fun a x e => by
  rw [upd_ne (ne_of_none e h1), upd_ne (ne_of_none e h1), upd_ne (ne_of_none e h2)]
  exact e
theorem lookup2 {f g : Str} {u v : V} (h : (g == f) = false) : ([(f, u), (g, v)] : List (Str × V)).lookup g = some v := by
  show (match g == f with | true => some u | false => ([(g, v)] : List (Str × V)).lookup g) = _
  rw [h]
  show (match g == g with | true => some v | false => ([] : List (Str × V)).lookup g) = _
  rw [show (g == g) = true from beq_self_eq_true g]
theorem lookup1 {f : Str} {u : V} {r : List (Str × V)} : ((f, u) :: r : List (Str × V)).lookup f = some u := by
  show (match f == f with | true => some u | false => r.lookup f) = _
  rw [show (f == f) = true from beq_self_eq_true f]
theorem putF2 {f g : Str} {u v : V} (h : ¬ f = g) : putF g v (putF f u []) = [(f, u), (g, v)] := by
  unfold putF
  simp [putF, h]
theorem kit_self {K : PySem.W.Frag} {C : Addr} : PySem.W.kitOne K (.ref C) (.ref C) = some true := by
  unfold PySem.W.kitOne
  simp
/-- a test that is true -/
theorem dq {p : Prop} [Decidable p] {Q : Bool → Prop} (h : p) (k : Q true) : Q (decide p) := by
  rw [decide_eq_true h]
  exact k
theorem dqn {p : Prop} [Decidable p] {Q : Bool → Prop} (h : ¬ p) (k : Q false) : Q (decide p) := by
  rw [decide_eq_false h]
  exact k
theorem iteNT {c A B : Prop} [Decidable c] (hc : ¬ c) (h : A) : if (!decide c) = true then A else B := by
  rw [decide_eq_false hc]
  exact iteT h
theorem iteY {c A B : Prop} [Decidable c] (hc : c) (h : A) : if decide c = true then A else B := by
  rw [decide_eq_true hc]
  exact iteT h
theorem iteN {c A B : Prop} [Decidable c] (hc : ¬ c) (h : B) : if decide c = true then A else B := by
  rw [decide_eq_false hc]
  exact iteF h
theorem neI {a b : Int} (h : a ≠ b) : ¬ (V.int a = V.int b) := fun e => h (by injection e)
end Tr
set_option Elab.async false
set_option linter.all false
set_option maxRecDepth 100000
set_option maxHeartbeats 4000000
/-! TrStat: C.m(..) of a static method. -/
namespace Tr
open PySem PySem.Spec PyProof.Rows L2
/-- C.m is a static method: its record at p, its def at g -/
structure CStat (K : PySem.W.Frag) (C : Addr) (m : Str) (g : Addr) : Prop where
  rd : PySem.W.readsIn K C (.type "type") = true
  ga : PySem.W.specialIn K (.ref C) "__getattribute__" = some (some (.builtin "type.__getattribute__"))
  at_ : ∃ p, PySem.W.findCls K (.ref C) (.type "type") m = some (.get (.builtin "staticmethod.__get__") (.ref p) .none (.ref C)) ∧ ∃ rest, PySem.W.recIn K p "staticmethod" = some (.ref g :: rest)
  kp : PySem.W.keepIn K (.ref g) = true
def tStat (C : Addr) (sp : Sp) (E : XK) (ta : TE) (t : TA) : TE := fun σ H Q => ta σ H fun x H1 => x = .ref C ∧ t σ H1 fun vs H2 => sp vs H2 Q E
section
variable {X : Cx} {CX : CXT} {k : Nat} {C g : Addr} {fd : FuncData} {ps : List Str} {sp : Sp} {E : XK} {o e : Expr} {es : List Expr} {m : Str} {pos apos : Pos} {ta : TE} {t : TA} {pl : Sem Bool}
theorem getmethst_ok {pins : List (Addr × Obj)} {σ : L2.St} {H : Hp} {s : Shared} {A : Around} {E : Value → Shared → Prop} {Q : Value × List Value → Shared → Prop} (I : Inv X pins σ H s) (c : CStat X.K C m g)
    (h : ∀ s', Inv X pins σ H s' → Q (.ref g, []) s') : wpAny (model X.prog X.w) A (getMethod (.ref C) m pl) Q E s := by
  obtain ⟨p, hat, rest, hp⟩ := c.at_
  refine PySem.W.method_cls I.kIn c.ga ?_
  refine PySem.W.cls_bind I.kIn c.rd hat ?_
  exact wpAny_call (PySem.W.sm_get (s := { s with toks := s.toks + 1 }) I.kIn hp (PySem.W.handed_on rfl (h _ (I.tok _))))
theorem pe_stat (he : PE X o ta) (c : CStat X.K C m g) (F : FnOk X.prog X.w X.K X.mg X.base CX k g fd ps sp) (hr : Room k X.A) (hb : Binds X.K fd ps []) (hx : Passes CX X E) (ha : PA X (e :: es) t)
    (hst : starEach (e :: es) X.env = (false, eval e X.env) :: starEach es X.env := by rfl) (hpl : (backTo pos (starEach es X.env)).any (·.1) = false := by rfl)
    (ht : eval (.Call (.Attribute o m apos) (e :: es) [] pos) X.env = (do
      let ov ← eval o X.env
      standAt apos.atName
      let (f, first) ← holding [ov] (getMethod ov m pl)
      callWith pos f first (backTo pos (starEach (e :: es) X.env)) (backToKw pos (keywordEach [] X.env))) := by rfl) :
    PE X (.Call (.Attribute o m apos) (e :: es) [] pos) (tStat C sp E ta t) := by
  refine ⟨fun pins s σ H Q I h => ?_⟩
  refine PySem.W.methodCall_KW (pl := pl) (thn (he.run pins s σ H _ I h) fun u s1 ⟨x, H1, I1, rx, ex, q⟩ => ?_) ht
  subst ex
  obtain rfl : u = Value.ref C := rx
  refine getmethst_ok I1 c fun s2 I2 => ?_
  refine PySem.W.callWith_K (first := []) (h₀ := X.base) I.ok.mod.kin c.kp (thn (ha.run pos pins s2 σ H1 _ I2 q) fun us s3 ⟨vs, H2, I3, r, q2⟩ => ⟨I3.kIn, ?_⟩) hst hpl
  exact run_fn (us := us) (vs := vs) F hr hb .nil hx I3 r (by rw [List.append_nil]; exact q2)
end
/-- one name stored under a test: one way -/
theorem ifset {tc : TT} {te : TE} {i : Nat} {v : V} {D : Ends} {σ σ' : L2.St} {H : Hp} (b : Bool) (hc : ∀ Q : Bool → Hp → Prop, Q b H → tc σ H Q) (hv : b = true → ∀ Q : VK, Q v H → te σ H Q) (e1 : b = true → σ.set i (some v) = σ') (e2 : b = false → σ = σ') (h : D.nx σ' H) :
    tIfS tc (tAsg te (gName i)) tNext D σ H := by
  refine hc _ ?_
  cases b with
  | true =>
    refine iteT (hv rfl _ ?_)
    show D.nx (σ.set i (some v)) H
    rw [e1 rfl]; exact h
  | false =>
    refine iteF ?_
    show D.nx σ H
    rw [e2 rfl]; exact h
/-- .. where the name has a value: the value chosen -/
theorem ifsetI {tc : TT} {te : TE} {i : Nat} {v u : V} {D : Ends} {σ : L2.St} {H : Hp} (b : Bool) (hc : ∀ Q : Bool → Hp → Prop, Q b H → tc σ H Q) (hv : ∀ Q : VK, Q v H → te σ H Q) (hu : σ[i]? = some (some u)) (h : gName i (if b = true then v else u) σ H D.nx) :
    tIfS tc (tAsg te (gName i)) tNext D σ H := by
  refine hc _ ?_
  cases b with
  | true => exact iteT (hv _ h)
  | false =>
    refine iteF ?_
    show D.nx σ H
    have e : σ.set i (some u) = σ := by
      apply List.ext_getElem?
      intro j
      rw [List.getElem?_set]
      split
      · rename_i e; subst e
        split
        · exact hu.symm
        · rename_i h'; rw [List.getElem?_eq_none (by omega)] at hu; cases hu
      · rfl
    have h' : D.nx (σ.set i (some u)) H := h
    rw [e] at h'
    exact h'
theorem At.laid {G H : Hp} {M : Mu} {p : Addr} {o : HO} (A : At G M H) (h : H p = none) : ∃ G', At G' M (upd H p o) ∧ Sub G G' ∧ G' p = some o := ⟨_, A.newG h, A.newS h, upd_same⟩
theorem asgC {v : V} {D : Ends} {σ : L2.St} {H : Hp} {rest : TS} {i : Nat} (h : gName i v σ H (rest D)) : tSeq (tAsg (tC v) (gName i)) rest D σ H := h
theorem ifsetS {tc : TT} {te : TE} {i : Nat} {v u : V} {D : Ends} {σ : L2.St} {H : Hp} {rest : TS} (b : Bool) (hc : ∀ Q : Bool → Hp → Prop, Q b H → tc σ H Q) (hv : ∀ Q : VK, Q v H → te σ H Q) (hu : σ[i]? = some (some u)) (h : gName i (if b = true then v else u) σ H (rest D)) :
    tSeq (tIfS tc (tAsg te (gName i)) tNext) rest D σ H := ifsetI (D := { D with nx := rest D }) b hc hv hu h
end Tr
set_option Elab.async false
set_option linter.all false
set_option maxRecDepth 100000
set_option maxHeartbeats 4000000
/-! TrExc: X() of an own exception class raised; instances made and methods called within a try; // of great numbers of either sign. -/
namespace Tr
open PySem PySem.Spec PyProof.Rows L2
section
variable {X : Cx}
/-- X(), X an own exception class without own __init__ -/
theorem pmk_own0 {C : Addr} {bmB : List Value} {B newId initId : String} {x : Str} {p pos : Pos} (F : ExcBaseFacts B newId initId bmB) (q : PySem.W.excIn X.K C bmB newId = true) (gC : X.mg x = some (.ref C))
    (kC : PySem.W.keepIn X.K (.ref C) = true) (r : Raises X (.ref C)) (hg : Gl X x) (hdb : (x == ("__debug__" : Str)) = false := by decide) :
    PMk X (.Call (.Name x p) [] [] pos) (fun σ H Q => Q (.ref C) none H) := by
  intro pins s σ H Q I h
  refine wpAny_Call_Name_kw (ld_glob I hg gC ?_ hdb)
  refine PySem.W.callWith_K0 I.kIn kC ?_
  show wpAny _ _ (call (.ref C) []) _ _ _
  obtain ⟨bm, N, nm, qn, bs, hdct, sn, sub, ab, col, dd, k0, k1, k2, k3, k5, mN, hC, hN, hni, T⟩ := exc_obj I.kIn q
  refine wpAny_call_exc_subT F T hC hN hni (fun h' e hm => ?_) (Nat.zero_le _)
  exact mk_of I hm r h (I.hok.gone hm.new)
end
/-- // by any divisor but 0, below 2 ^ 9000 in size -/
def CDivS (_ j : Int) : Prop := j ≠ 0 ∧ j.natAbs.log2 < 9000
theorem op_fdivS {X : Cx} : OpR X (binaryOp .FloorDiv) (rI CDivS fun i j => .int (i.fdiv j)) := opI fun i j _ _ _ _ _ hc q => floordiv_int hc.1 q (.inl (PyProof.noPylong_of_log2 hc.2))
theorem wide_divS {i j : Int} {b : Nat} (h : j ≠ 0) (hb : j.natAbs < 2 ^ b) (h0 : 0 < b) (h9 : b ≤ 9000) : CDivS i j := ⟨h, Nat.lt_of_lt_of_le (PySem.Flt.log2_lt_of h0 hb) h9⟩
section
variable {X : Cx} {CX : CXT} {k : Nat} {f C : Addr} {fd : FuncData} {ps : List Str} {sp : Sp} {E : L2.St → XK} {dvs : List V} {ds : List Value} {x m : Str} {p pos apos : Pos} {e o : Expr} {es : List Expr} {ta : TE} {t : TA}
theorem run_makeS {pins : List (Addr × Obj)} {σ : L2.St} {H : Hp} {s : Shared} {Q : VK} {us : List Value} {vs : List V} (M : Mk X.K C f) (F : FnOk X.prog X.w X.K X.mg X.base CX k f fd ps sp) (hr : Room (k + 1) X.A) (hb : Binds X.K fd ps ds) (hd : Vals dvs ds)
    (hx : PassesAt CX X σ (E σ)) (I : Inv X pins σ H s) (r : Vals vs us)
    (h : ∀ x dx, H x = none → H dx = none → dx ≠ x → sp (.ref x :: (vs ++ dvs)) (upd (upd H dx (.own x)) x (.ins C dx [])) (fun v H2 => v = .non ∧ Q (.ref x) H2) (E σ)) :
    wpAny (model X.prog X.w) X.A (call (.ref C) us) (EP X pins σ Q) X.xe s := by
  have hq := h (s.heap.objs.size + 1) s.heap.objs.size (I.hok.fresh (Nat.le_succ _)) (I.hok.fresh (Nat.le_refl _)) (Nat.ne_of_lt (Nat.lt_succ_self _))
  have I2 := Inv.made (C := C) I
  have r2 : Vals (V.ref (s.heap.objs.size + 1) :: (vs ++ dvs)) (Value.ref (s.heap.objs.size + 1) :: (us ++ ds)) := .cons rfl (r.append hd)
  have hl : (Value.ref (s.heap.objs.size + 1) :: us ++ ds).length = ps.length := by
    have e := r2.length
    rw [F.len _ _ _ _ hq] at e
    exact e.symm
  refine wpAny_call (make_map (f := f) I.kIn M.makes M.init (beq_iff_eq.mp M.fn) (codeAny_mono (F.run _ X.stack _ _ ⟨Value.ref (s.heap.objs.size + 1) :: us, []⟩ (Value.ref (s.heap.objs.size + 1) :: (us ++ ds)) _ _ (E σ) (hr.make C us [])
    (I2.env0.make C us []) (hb _ (Value.ref (s.heap.objs.size + 1) :: us) I2.kIn hl) r2 hq) fun r s' hq' => ?_))
  cases r with
  | error e => exact hx pins _ _ e s' I2 hq'
  | ok fl =>
    cases fl with
    | ret u =>
      obtain ⟨v, H', I3, rv, ev, q3⟩ := I2.after hq'
      subst ev
      exact ⟨rv, ⟨V.ref (s.heap.objs.size + 1), H', I3, rfl, q3⟩⟩
    | next => exact False.elim hq'
    | brk => exact False.elim hq'
    | cont => exact False.elim hq'
def tMakeS (C : Addr) (sp : Sp) (dvs : List V) (E : L2.St → XK) (t : TA) : TE := fun σ H Q => t σ H fun vs H1 => ∀ x dx, H1 x = none → H1 dx = none → dx ≠ x →
  sp (.ref x :: (vs ++ dvs)) (upd (upd H1 dx (.own x)) x (.ins C dx [])) (fun v H2 => v = .non ∧ Q (.ref x) H2) (E σ)
/-- C(..) within a try -/
theorem pe_makeS (M : Mk X.K C f) (F : FnOk X.prog X.w X.K X.mg X.base CX k f fd ps sp) (hr : Room (k + 1) X.A) (hg : Gl X x) (hm : X.mg x = some (.ref C)) (hb : Binds X.K fd ps ds) (hd : Vals dvs ds) (hx : ∀ σ, PassesAt CX X σ (E σ))
    (ha : PA X (e :: es) t) (hdb : (x == ("__debug__" : Str)) = false := by decide) (he : starEach (e :: es) X.env = (false, eval e X.env) :: starEach es X.env := by rfl) (hpl : (backTo pos (starEach es X.env)).any (·.1) = false := by rfl) :
    PE X (.Call (.Name x p) (e :: es) [] pos) (tMakeS C sp dvs E t) := by
  refine ⟨fun pins s σ H Q I h => ?_⟩
  refine wpAny_Call_Name_kw (ld_glob I hg hm ?_ hdb)
  refine PySem.W.callWith_K (h₀ := X.base) I.ok.mod.kin M.kp (thn (ha.run pos pins s σ H _ I h) fun us s1 ⟨vs, H1, I1, r, q⟩ => ⟨I1.kIn, ?_⟩) he hpl
  exact run_makeS M F hr hb hd (hx σ) I1 r q
def tMethS (C : Addr) (m : Str) (sp : Sp) (E : L2.St → XK) (ta : TE) (t : TA) : TE := fun σ H Q => ta σ H fun x H1 => ∃ a dx fs, x = .ref a ∧ H1 a = some (.ins C dx fs) ∧ fs.lookup m = none ∧
  t σ H1 fun vs H2 => sp (x :: vs) H2 Q (E σ)
/-- o.m(e, ..) within a try -/
theorem pe_methT {pl : Sem Bool} (he : PE X o ta) (c : Cls X.K C) (hm : Meth X.K C m f) (F : FnOk X.prog X.w X.K X.mg X.base CX k f fd ps sp) (hr : Room k X.A) (hb : Binds X.K fd ps []) (hx : ∀ σ, PassesAt CX X σ (E σ)) (ha : PA X (e :: es) t)
    (hst : starEach (e :: es) X.env = (false, eval e X.env) :: starEach es X.env := by rfl) (hpl : (backTo pos (starEach es X.env)).any (·.1) = false := by rfl)
    (ht : eval (.Call (.Attribute o m apos) (e :: es) [] pos) X.env = (do
      let ov ← eval o X.env
      standAt apos.atName
      let (f, first) ← holding [ov] (getMethod ov m pl)
      callWith pos f first (backTo pos (starEach (e :: es) X.env)) (backToKw pos (keywordEach [] X.env))) := by rfl) :
    PE X (.Call (.Attribute o m apos) (e :: es) [] pos) (tMethS C m sp E ta t) := by
  refine ⟨fun pins s σ H Q I h => ?_⟩
  refine PySem.W.methodCall_KW (pl := pl) (thn (he.run pins s σ H _ I h) fun u s1 ⟨x, H1, I1, rx, a, dx, fs, ex, ea, l, q⟩ => ?_) ht
  subst ex
  obtain rfl : u = Value.ref a := rx
  refine getmeth_ok I1 ea c hm l ?_
  refine PySem.W.callWith_K (first := [.ref a]) (h₀ := X.base) I.ok.mod.kin hm.kp (thn (ha.run pos pins s1 σ H1 _ I1 q) fun us s2 ⟨vs, H2, I2, r, q2⟩ => ⟨I2.kIn, ?_⟩) hst hpl
  exact run_fnS (us := .ref a :: us) (vs := .ref a :: vs) F hr hb (hx σ) I2 (.cons rfl r) q2
end
/-- what is asked ahead of a block's rule -/
def tWhen (p : Prop) (t : TS) : TS := fun D σ H => p ∧ t D σ H
theorem pss_when {X : Cx} {p : Prop} {sts : List Stmt} {t : TS} (h : p → PSs X sts t) : PSs X sts (tWhen p t) := ⟨fun pins s σ H D I hq => (h hq.1).run pins s σ H D I hq.2⟩
section
variable {X : Cx} {x n : Str} {c : Value} {D : Addr} {i : Nat} {body suite : List Stmt} {b₀ : Stmt} {np pos pos' : Pos} {tb : WX → TS} {ts : Addr → TS} {Wout : WX}
/-- try .. except X as n, of exceptions of the class D without a dict of their own -/
theorem ps_try_asN (hs : X.stack = X.env :: X.outer) (hf : X.env.frame = some X.env.locals) (hN : X.N.Nodup) (hi : X.N[i]? = some n) (hln : X.env.kindOf n = some .local) (hc : Names X x c) (tk : Takes X Wout)
    (hb : ∀ (W : WX) (pn : List (Addr × Obj)) (xe : Value → Shared → Prop), Takes (X.tr pn xe) W → PassesOwn (model X.prog X.w) X.A X.env xe → PSs (X.tr pn xe) body (tb W))
    (hsu : ∀ (a : Addr) (oe : Obj) (pn : List (Addr × Obj)), Zc (.ref D) none oe → (∃ vs, oe.data = .fields vs) → PSs (X.suite a ((a, oe) :: pn)) (b₀ :: suite) (ts a)) :
    PS X (.Try body [.ExceptHandler (some (.Name x np)) (some n) (b₀ :: suite) pos'] [] [] pos) (fun D' σ H => tb (wAs X.K c i (fun a cls d => tWhen (cls = .ref D ∧ d = none) (ts a)) Wout D') D' σ H) :=
  ps_try_as hs hf hN hi hln hc tk hb fun a oe cls d pn hz hf => pss_when fun e => by
    obtain ⟨rfl, rfl⟩ := e
    exact hsu a oe pn hz hf
end
theorem excC_of {K : PySem.W.Frag} {D : Addr} (hg : PySem.W.findIn K (.ref D) "__getattribute__" = some (some (.builtin "BaseException.__getattribute__"))) (hk : PySem.W.findIn K (.ref D) "__getattr__" = some none) (hs : PySem.W.subIn K (.ref D) (.type "BaseException") = some true)
    (hd : PySem.W.hasDictIn K D = true) (ha : PySem.W.findIn K (.ref D) "__class__" = some (some (.builtin "object.__class__"))) (hn : PySem.W.specialIn K (.builtin "object.__class__") "__get__" = some (some (.builtin "getset_descriptor.__get__")))
    (ht : PySem.W.takesIn K (.builtin "object.__class__") = some true) (hm : PySem.W.mroIn K D (.type "object") = some true) : ExcC K D := ⟨hg, hk, hs, hd, ha, hn, ht, hm⟩
theorem binds_z {K : PySem.W.Frag} {fd : FuncData} {ps : List Str} (h : ∃ ds, Vals [] ds ∧ Binds K fd ps ds) : Binds K fd ps [] := by
  obtain ⟨ds, hv, hb⟩ := h
  cases hv
  exact hb
section
variable {X : Cx} {CX : CXT} {k : Nat} {f C : Addr} {fd : FuncData} {ps : List Str} {sp : Sp} {E : XK}
/-- the callee runs one unit deeper -/
theorem run_fnIn {pins : List (Addr × Obj)} {σ : L2.St} {H : Hp} {s : Shared} {Q : VK} {us : List Value} {vs : List V} (F : FnOk X.prog X.w X.K X.mg X.base CX k f fd ps sp) (hr : Room (k + 1) X.A) (hb : Binds X.K fd ps []) (hx : Passes CX X E)
    (I : Inv X pins σ H s) (r : Vals vs us) (h : sp vs H Q E) : wpAny (model X.prog X.w) X.A.in1 (call (.ref f) us) (EP X pins σ Q) X.xe s := by
  have hl : (us ++ []).length = ps.length := by rw [List.append_nil, ← r.length]; exact F.len _ _ _ _ h
  have b := hb s us I.kIn hl
  rw [List.append_nil] at b
  refine wpAny_call (codeAny_mono (F.run X.A.in1 X.stack s H ⟨us, []⟩ us vs Q E hr.in1 I.env0.in1 b r h) fun r s' hq => ?_)
  cases r with
  | error e => exact hx pins σ H s e s' I hq
  | ok fl =>
    cases fl with
    | ret u => exact I.after hq
    | next => exact False.elim hq
    | brk => exact False.elim hq
    | cont => exact False.elim hq
/-- abs(x), x of a class with an own __abs__ -/
theorem call_absOwn (F : FnOk X.prog X.w X.K X.mg X.base CX k f fd ps sp) (hr : Room (k + 1) X.A) (hb : Binds X.K fd ps []) (hx : Passes CX X E) (m : Meth X.K C "__abs__" f) :
    CallR X (.builtin "abs") (fun xs H Q => ∃ a dx fs, xs = [.ref a] ∧ H a = some (.ins C dx fs) ∧ sp [.ref a] H Q E) := by
  intro pins s σ H xs us Q I r h
  obtain ⟨a, dx, fs, rfl, ha, q⟩ := h
  obtain rfl := Vals.ref1 r
  obtain ⟨ox, od, J⟩ := inst_of I ha
  refine Calls.call_function_entry kind_abs plain_abs entry_abs (args_abs _) ?_
  unfold Builtin.«abs»
  refine wpAny_bind (m := oneArg "abs" _) (wpAny_pure ?_)
  refine wpAny_bind (m := callSpecial? (.ref a) (Str.ofString "__abs__")) (PySem.W.special_fn I.kIn J m.at_ (beq_iff_eq.mp m.fn) (wpAny_mono (run_fnIn (us := [.ref a]) (vs := [.ref a]) F hr hb hx I (.cons rfl .nil) q) (fun v s' hv => ?_) fun _ _ e => e))
  exact wpAny_pure ⟨_, rfl, hv⟩
end
end Tr
set_option Elab.async false
set_option linter.all false
set_option maxRecDepth 100000
set_option maxHeartbeats 4000000
/-! TrRatio: ratios in lowest terms, and Euclid's steps: plain mathematics. -/
namespace Tr
/-- the divisor, with the bottom's sign -/
def sd (t b : Int) : Int := if b < 0 then -((Int.gcd t b : Nat) : Int) else ((Int.gcd t b : Nat) : Int)
def nT (t b : Int) : Int := t.fdiv (sd t b)
def nB (t b : Int) : Int := b.fdiv (sd t b)
theorem gcd_pos {t b : Int} (h : b ≠ 0) : 0 < Int.gcd t b := Int.gcd_pos_of_ne_zero_right t h
theorem sd_ne {t b : Int} (h : b ≠ 0) : sd t b ≠ 0 := by
  have := gcd_pos (t := t) h
  unfold sd
  split <;> omega
theorem sd_abs (t b : Int) : (sd t b).natAbs = Int.gcd t b := by
  unfold sd
  split <;> omega
theorem sd_dt (t b : Int) : sd t b ∣ t := by
  rw [← Int.natAbs_dvd_natAbs, sd_abs]
  exact Nat.gcd_dvd_left _ _
theorem sd_db (t b : Int) : sd t b ∣ b := by
  rw [← Int.natAbs_dvd_natAbs, sd_abs]
  exact Nat.gcd_dvd_right _ _
theorem fdiv_ex {a d : Int} (h : d ∣ a) : a.fdiv d * d = a := by
  rw [Int.fdiv_eq_ediv_of_dvd h]
  exact Int.ediv_mul_cancel h
theorem nT_mul (t b : Int) : nT t b * sd t b = t := fdiv_ex (sd_dt t b)
theorem nB_mul (t b : Int) : nB t b * sd t b = b := fdiv_ex (sd_db t b)
theorem pos_left {a g : Int} (h : 0 < a * g) (hg : 0 < g) : 0 < a := by
  by_cases c : a ≤ 0
  · have := Int.mul_le_mul_of_nonneg_right c (Int.le_of_lt hg)
    omega
  · omega
theorem nB_pos {t b : Int} (h : b ≠ 0) : 1 ≤ nB t b := by
  have e := nB_mul t b
  have g := gcd_pos (t := t) h
  unfold sd at e
  split at e
  · rename_i hb
    have e2 : nB t b * ((Int.gcd t b : Nat) : Int) = -b := by rw [Int.mul_neg] at e; omega
    have : 0 < nB t b * ((Int.gcd t b : Nat) : Int) := by omega
    have := pos_left this (by omega)
    omega
  · have : 0 < nB t b * ((Int.gcd t b : Nat) : Int) := by omega
    have := pos_left this (by omega)
    omega
theorem val_eq {t b : Int} (h : b ≠ 0) : nT t b * b = t * nB t b := by
  have e1 := nT_mul t b
  have e2 := nB_mul t b
  have : nT t b * (nB t b * sd t b) = (nT t b * sd t b) * nB t b := by rw [Int.mul_comm (nB t b), Int.mul_assoc]
  rw [e1, e2] at this
  exact this
theorem nT_le {t b : Int} (h : b ≠ 0) : (nT t b).natAbs ≤ t.natAbs := by
  have e := congrArg Int.natAbs (nT_mul t b)
  rw [Int.natAbs_mul, sd_abs] at e
  rw [← e]
  exact Nat.le_mul_of_pos_right _ (gcd_pos h)
theorem nB_le {t b : Int} (h : b ≠ 0) : (nB t b).natAbs ≤ b.natAbs := by
  have e := congrArg Int.natAbs (nB_mul t b)
  rw [Int.natAbs_mul, sd_abs] at e
  rw [← e]
  exact Nat.le_mul_of_pos_right _ (gcd_pos h)
theorem n_cop {t b : Int} (h : b ≠ 0) : Nat.gcd (nT t b).natAbs (nB t b).natAbs = 1 := by
  have e1 := congrArg Int.natAbs (nT_mul t b)
  have e2 := congrArg Int.natAbs (nB_mul t b)
  rw [Int.natAbs_mul, sd_abs] at e1 e2
  have e3 : Nat.gcd ((nT t b).natAbs * Int.gcd t b) ((nB t b).natAbs * Int.gcd t b) = Int.gcd t b := by rw [e1, e2]; rfl
  rw [Nat.gcd_mul_right] at e3
  have g := gcd_pos (t := t) h
  exact Nat.eq_of_mul_eq_mul_right g (by rw [e3, Nat.one_mul])
/-- a ratio of the value T / B in lowest terms -/
structure LowT (t b T B : Int) : Prop where
  pos : 1 ≤ b
  cop : Nat.gcd t.natAbs b.natAbs = 1
  val : t * B = T * b
theorem low_n {t b T B : Int} (h : b ≠ 0) (e : t * B = T * b) : LowT (nT t b) (nB t b) T B := by
  refine ⟨nB_pos h, n_cop h, ?_⟩
  have e1 := nT_mul t b
  have e2 := nB_mul t b
  have hs := sd_ne (t := t) h
  apply Int.eq_of_mul_eq_mul_right hs
  rw [Int.mul_assoc, Int.mul_comm B, ← Int.mul_assoc, e1, Int.mul_assoc, e2, e]
theorem LowT.cast {t b N D N' D' : Int} (L : LowT t b N D) (hD : D ≠ 0) (e : N * D' = N' * D) : LowT t b N' D' := by
  refine ⟨L.pos, L.cop, ?_⟩
  apply Int.eq_of_mul_eq_mul_right hD
  have h := L.val
  calc t * D' * D = t * D * D' := by rw [Int.mul_assoc, Int.mul_comm D', ← Int.mul_assoc]
    _ = N * b * D' := by rw [h]
    _ = N * D' * b := by rw [Int.mul_assoc, Int.mul_comm b, ← Int.mul_assoc]
    _ = N' * D * b := by rw [e]
    _ = N' * b * D := by rw [Int.mul_assoc, Int.mul_comm D, ← Int.mul_assoc]
theorem LowT.le {t b N D : Int} (L : LowT t b N D) (hD : D ≠ 0) : t.natAbs ≤ N.natAbs ∧ b.natAbs ≤ D.natAbs := by
  have e := congrArg Int.natAbs L.val
  rw [Int.natAbs_mul, Int.natAbs_mul] at e
  have hd : 0 < D.natAbs := by omega
  have h1 : b.natAbs ∣ D.natAbs := by
    have : b.natAbs ∣ t.natAbs * D.natAbs := ⟨N.natAbs, by rw [e, Nat.mul_comm]⟩
    exact (show Nat.Coprime b.natAbs t.natAbs from by rw [Nat.coprime_comm]; exact L.cop).dvd_of_dvd_mul_left this
  have h2 := Nat.le_of_dvd hd h1
  refine ⟨?_, h2⟩
  have h3 : t.natAbs * D.natAbs ≤ N.natAbs * D.natAbs := by rw [e]; exact Nat.mul_le_mul_left _ h2
  exact Nat.le_of_mul_le_mul_right h3 hd
/-- sizes of a ratio's parts -/
structure B5 (t b : Int) : Prop where
  bt : t.natAbs < 2 ^ 500
  bb : b.natAbs < 2 ^ 500
  ps : 1 ≤ b
theorem B5.ne {t b : Int} (h : B5 t b) : b ≠ 0 := by have := h.ps; omega
theorem pr5 {a b : Int} (ha : a.natAbs < 2 ^ 500) (hb : b.natAbs < 2 ^ 500) : (a * b).natAbs < 2 ^ 1000 := by
  rw [Int.natAbs_mul, show (1000 : Nat) = 500 + 500 from rfl, Nat.pow_add]
  exact Nat.mul_lt_mul'' ha hb
theorem dbl {n : Nat} : (2 : Nat) ^ (n + 1) = 2 * 2 ^ n := by rw [Nat.pow_succ, Nat.mul_comm]
theorem sm5 {a b : Int} (ha : a.natAbs < 2 ^ 1000) (hb : b.natAbs < 2 ^ 1000) : (a + b).natAbs < 2 ^ 1001 := by
  rw [show (1001 : Nat) = 1000 + 1 from rfl, dbl]
  generalize (2 : Nat) ^ 1000 = z at *
  omega
theorem u10 {a : Int} (h : a.natAbs < 2 ^ 1000) : a.natAbs < 2 ^ 2000 := Nat.lt_trans h (Nat.pow_lt_pow_right (by decide) (by decide))
theorem u11 {a : Int} (h : a.natAbs < 2 ^ 1001) : a.natAbs < 2 ^ 2000 := Nat.lt_trans h (Nat.pow_lt_pow_right (by decide) (by decide))
theorem u50 {a : Int} (h : a.natAbs < 2 ^ 500) : a.natAbs < 2 ^ 2000 := Nat.lt_trans h (Nat.pow_lt_pow_right (by decide) (by decide))
/-! ### Euclid's steps -/
structure Euc (g i a b : Nat) : Prop where
  gc : Nat.gcd a b = g
  z : i = 0 → a < 2 ^ 2000 ∧ b < 2 ^ 2000
  s : ∀ j, i = j + 1 → b < a ∧ a * b * 2 ^ j < 2 ^ 4000
theorem Euc.start {a b : Nat} (ha : a < 2 ^ 2000) (hb : b < 2 ^ 2000) : Euc (Nat.gcd a b) 0 a b := ⟨rfl, fun _ => ⟨ha, hb⟩, fun j e => by omega⟩
theorem Euc.step {g i a b : Nat} (h : Euc g i a b) (hb : b ≠ 0) : Euc g (i + 1) b (a % b) := by
  have hr : a % b < b := Nat.mod_lt _ (by omega)
  refine ⟨?_, fun e => by omega, fun j e => ?_⟩
  · rw [← h.gc, Nat.gcd_comm a b, Nat.gcd_rec b a, Nat.gcd_comm]
  · have ej : j = i := by omega
    subst ej
    refine ⟨hr, ?_⟩
    cases j with
    | zero =>
      obtain ⟨_, h2⟩ := h.z rfl
      rw [Nat.pow_zero, Nat.mul_one]
      have e4 : (2 : Nat) ^ 4000 = 2 ^ 2000 * 2 ^ 2000 := by rw [← Nat.pow_add]
      rw [e4]
      exact Nat.mul_lt_mul'' h2 (Nat.lt_trans hr h2)
    | succ j =>
      obtain ⟨h1, h2⟩ := h.s j rfl
      have hd := Nat.div_add_mod a b
      have hq : 1 ≤ a / b := Nat.div_pos (Nat.le_of_lt h1) (by omega)
      have hq2 : b * 1 ≤ b * (a / b) := Nat.mul_le_mul_left b hq
      have h3 : 2 * (a % b) ≤ a := by omega
      refine Nat.lt_of_le_of_lt ?_ h2
      rw [Nat.pow_succ]
      have h4 : b * (2 * (a % b)) ≤ b * a := Nat.mul_le_mul_left b h3
      calc b * (a % b) * (2 ^ j * 2) = b * (2 * (a % b)) * 2 ^ j := by
            rw [Nat.mul_comm (2 ^ j) 2, ← Nat.mul_assoc, Nat.mul_assoc b, Nat.mul_comm (a % b) 2]
        _ ≤ b * a * 2 ^ j := Nat.mul_le_mul_right _ h4
        _ = a * b * 2 ^ j := by rw [Nat.mul_comm b a]
theorem Euc.fin {g a b : Nat} (h : Euc g 9000 a b) : b = 0 := by
  obtain ⟨h1, h2⟩ := h.s 8999 rfl
  cases b with
  | zero => rfl
  | succ b =>
    exfalso
    have h3 : 1 ≤ a * (b + 1) := Nat.mul_pos (by omega) (by omega)
    have h4 : 1 * 2 ^ 8999 ≤ a * (b + 1) * 2 ^ 8999 := Nat.mul_le_mul_right _ h3
    have h5 : (2 : Nat) ^ 4000 < 2 ^ 8999 := Nat.pow_lt_pow_right (by decide) (by decide)
    generalize (2 : Nat) ^ 8999 = u at *
    generalize (2 : Nat) ^ 4000 = v at *
    omega
theorem fmod_nat (a b : Nat) : ((a : Nat) : Int).fmod (b : Int) = ((a % b : Nat) : Int) := by
  rw [Int.fmod_eq_emod_of_nonneg _ (by omega)]
  rfl
theorem abs_nat (a : Int) : (if a < 0 then -a else a) = ((a.natAbs : Nat) : Int) := by split <;> omega
end Tr
set_option Elab.async false
set_option linter.all false
set_option maxRecDepth 100000
set_option maxHeartbeats 4000000
/-! TrCmp: a > b, a >= b of two instances of a class that defines only < and <=; an own operator within a try. -/
namespace Tr
open PySem PySem.Spec PyProof.Rows L2
theorem gt_bind (self : Value) : bindSpecial (.builtin "object.__gt__") self = pure (.builtin "object.__gt__", [self]) :=
  (Slot.of (T := "object") (name := "__gt__") (owner := "object") (n := "__gt__") (by rw [typeLookup_type, builtinLookup_eq_fast]; kernel_rfl) (by decide +kernel) (by decide +kernel) (by decide +kernel)
    (.inl (by decide +kernel)) (by rw [isSubtype_type]; kernel_rfl)).bind self
theorem ge_bind (self : Value) : bindSpecial (.builtin "object.__ge__") self = pure (.builtin "object.__ge__", [self]) :=
  (Slot.of (T := "object") (name := "__ge__") (owner := "object") (n := "__ge__") (by rw [typeLookup_type, builtinLookup_eq_fast]; kernel_rfl) (by decide +kernel) (by decide +kernel) (by decide +kernel)
    (.inl (by decide +kernel)) (by rw [isSubtype_type]; kernel_rfl)).bind self
theorem entry_gt : entryFor table "object.__gt__" = some Builtin.«object.__gt__» := entryFor_of_tree (by kernel_rfl)
theorem entry_ge : entryFor table "object.__ge__" = some Builtin.«object.__ge__» := entryFor_of_tree (by kernel_rfl)
theorem gt_args (a b : Value) : argsOk "object.__gt__" ⟨[a, b], []⟩ := by unfold argsOk; kernel_rfl
theorem ge_args (a b : Value) : argsOk "object.__ge__" ⟨[a, b], []⟩ := by unfold argsOk; kernel_rfl
theorem gt_run (a b : Value) : Builtin.«object.__gt__» ⟨[a, b], []⟩ = pure (.done (.ret .notImplemented)) := by kernel_rfl
theorem ge_run (a b : Value) : Builtin.«object.__ge__» ⟨[a, b], []⟩ = pure (.done (.ret .notImplemented)) := by kernel_rfl
/-- a slot of object that declines -/
structure Declines (nm : Str) (id : String) : Prop where
  bnd : ∀ self, bindSpecial (.builtin id) self = pure (.builtin id, [self])
  run : ∃ (B : Builtin) (n : String), entryFor table id = some B ∧ plainId id = true ∧ builtinKind id = some .slot ∧ splitId id = some ("object", n) ∧ (∀ a b : Value, argsOk id ⟨[a, b], []⟩) ∧ ∀ a b : Value, B ⟨[a, b], []⟩ = pure (.done (.ret .notImplemented))
theorem dec_gt : Declines "__gt__" "object.__gt__" := ⟨gt_bind, _, "__gt__", entry_gt, by decide +kernel, by decide +kernel, by decide +kernel, gt_args, gt_run⟩
theorem dec_ge : Declines "__ge__" "object.__ge__" := ⟨ge_bind, _, "__ge__", entry_ge, by decide +kernel, by decide +kernel, by decide +kernel, ge_args, ge_run⟩
section
open PySem.W
variable {prog : Program} {w : World} {A : Around} {E : Value → Shared → Prop} {s : Shared} {K : Frag} {x y C L f : Addr} {h₀ : Heap} {m : Str → Option Value} {ox oy : Obj} {od oe : Option Obj} {name : Str} {b : Value} {id : String}
theorem try_declines {Q : Option Value → Shared → Prop} (D : Declines name id) (X : K.In s.heap) (I : InstAt s.heap x ox C od) (hs : findIn K (.ref C) name = some (some (.builtin id))) (ho : mroIn K C (.type "object") = some true)
    (h : Q none s) : wpAny (model prog w) A (tryCompare (.ref x) name b) Q E s := by
  obtain ⟨B, n, e1, e2, e3, e4, e5, e6⟩ := D.run
  have hi : Looks (model prog w) s.heap (isInstance (.ref x) (.type "object")) true := I.type.andThen (looks_mroIn X ho)
  have hc : ∀ {A : Around} {E : Value → Shared → Prop}, wpAny (model prog w) A (call (.builtin id) [.ref x, b]) (fun v s' => v = .notImplemented ∧ s' = s) E s := fun {A} {E} => by
    refine wpAny_call (codeAny_call_builtin e2 e1 (check_slot e3 e4 hi (e5 _ _) ?_))
    rw [e6]
    exact wpAny_pure ⟨rfl, rfl⟩
  have bn : Looks (model prog w) s.heap (bindSpecial (.builtin id) (.ref x)) (.builtin id, [.ref x]) := Looks.of_pure (D.bnd _)
  unfold tryCompare
  refine wpAny_bind ?_
  simp only [callSpecialIfBound?, bindSpecialIfBound?]
  refine wpAny_holding (wpAny_bind (wpAny_bind (wpAny_bind (I.type.here ((looks_findIn X hs).here ?_)))))
  refine wpAny_bind (wpAny_askSetting (wpAny_ite ?_))
  have fin : wpAny (model prog w) A (call (.builtin id) ([.ref x] ++ [b]) >>= fun v => pure (some v)) (fun r s1 => wpAny (model prog w) A (match r with | some .notImplemented | none => pure none | some v => pure (some v)) Q E s1) E s :=
    wpAny_bind (wpAny_mono hc (fun v s' h' => by obtain ⟨rfl, rfl⟩ := h'; exact wpAny_pure (wpAny_pure h)) fun _ _ h' => h')
  split
  · exact wpAny_bind (bn.here (wpAny_pure (by exact fin)))
  · exact wpAny_tryCatch (wpAny_bind (bn.here (wpAny_pure (by exact fin))))
theorem cmp_refl {op : CmpOp} {Q : Value → Shared → Prop} (hu : A.units < cLine) (F : Fr h₀ L s.heap m) (X₀ : K.In h₀) (I : InstAt s.heap x ox C od) (J : InstAt s.heap y oy C oe)
    (h1 : oneThing? op (.ref x) (.ref y) = none) (D : Declines (cmpInfo op).2.1 id) (hs : findIn K (.ref C) (cmpInfo op).2.1 = some (some (.builtin id))) (ho : mroIn K C (.type "object") = some true)
    (hs2 : findIn K (.ref C) (cmpInfo op).2.2 = some (some (.ref f))) (hf : isFn K (.ref f) = true)
    (h : wpAny (model prog w) A (call (.ref f) [.ref y, .ref x]) (PySem.W.CmpBack Q) E s) : wpAny (model prog w) A (richCompare op (.ref x) (.ref y)) Q E s := by
  have X := X₀.keeps F.keep
  have one : wpAny (model prog w) A (tryCompare (.ref y) (cmpInfo op).2.2 (.ref x)) (fun r s' => ∃ v, r = some v ∧ Q v s') E s := by
    unfold tryCompare
    refine wpAny_bind (ifBound_K X J hs2 hf (wpAny_mono h (fun v s' hv => ?_) fun _ _ e => e))
    cases v <;> first | exact hv.elim | exact wpAny_pure ⟨_, rfl, hv⟩
  unfold richCompare
  simp only [oneThing_ref]
  refine wpAny_holding (wpAny_bind (wpAny_cRoomFor hu ?_))
  refine wpAny_bind (I.type.here (wpAny_bind (J.type.here ?_)))
  have e0 : (Value.ref C != Value.ref C) = false := by simp
  simp only [e0, Bool.false_eq_true, if_false]
  refine wpAny_bind (wpAny_pure ?_)
  simp only [Bool.false_eq_true, if_false, Bool.not_false, if_true]
  refine wpAny_bind (try_declines D X I hs ho ?_)
  dsimp only
  refine wpAny_bind (wpAny_mono one (fun r s' z => ?_) fun _ _ e => e)
  obtain ⟨v, rfl, hq⟩ := z
  exact wpAny_pure hq
end
section
variable {X : Cx} {CX : CXT} {k : Nat} {C f : Addr} {fd : FuncData} {ps : List Str} {sp : Sp} {E : XK} {id : String}
/-- b's method gets a -/
def rOwnX (C : Addr) (sp : Sp) (E : XK) : R2 := fun x y H Q => ∃ a dx fs b dy gs, x = .ref a ∧ y = .ref b ∧ H a = some (.ins C dx fs) ∧ H b = some (.ins C dy gs) ∧ sp [y, x] H Q E
theorem op_cmpX {op : CmpOp} (hop : ∀ v u : Value, compareOp op v u = richCompare op v u) (h1 : ∀ a b : Addr, oneThing? op (.ref a) (.ref b) = none) (F : FnOk X.prog X.w X.K X.mg X.base CX k f fd ps sp) (hr : Room k X.A) (hb : Binds X.K fd ps []) (hx : Passes CX X E)
    (D : Declines (cmpInfo op).2.1 id) (hs : PySem.W.findIn X.K (.ref C) (cmpInfo op).2.1 = some (some (.builtin id))) (ho : PySem.W.mroIn X.K C (.type "object") = some true) (m : Meth X.K C (cmpInfo op).2.2 f) :
    OpR X (compareOp op) (rOwnX C sp E) := by
  intro pins s σ H x y v u Q I rx ry h
  obtain ⟨a, dx, fs, b, dy, gs, rfl, rfl, ha, hb', q⟩ := h
  cases (show v = Value.ref a from rx)
  cases (show u = Value.ref b from ry)
  obtain ⟨ox, od, J⟩ := inst_of I ha
  obtain ⟨ox2, od2, J2⟩ := inst_of I hb'
  obtain ⟨mm, Fm⟩ := I.fr
  rw [hop]
  refine cmp_refl hr.units0 Fm I.mod.kin J J2 (h1 a b) D hs ho m.at_ m.fn ?_
  exact thn (run_fn (us := [.ref b, .ref a]) (vs := [.ref b, .ref a]) F hr hb .nil hx I (.cons rfl (.cons rfl .nil)) q) fun r s' hq => back_of hq
theorem hop_gt (v u : Value) : compareOp .Gt v u = richCompare .Gt v u := rfl
theorem hop_ge (v u : Value) : compareOp .GtE v u = richCompare .GtE v u := rfl
theorem one_ref {op : CmpOp} (a b : Addr) : oneThing? op (.ref a) (.ref b) = none := oneThing_ref ..
end
/-! ### an own operator within a try -/
section
variable {X : Cx} {CX : CXT} {k : Nat} {C f : Addr} {fd : FuncData} {ps : List Str} {sp : Sp} {E : L2.St → XK} {a b : Expr} {pos : Pos} {ta tb : TE}
/-- a op b, a an instance, b an instance of the class or an int -/
def tOwnS (C : Addr) (sp : Sp) (E : L2.St → XK) (ta tb : TE) : TE := fun σ H Q => ta σ H fun x H1 => tb σ H1 fun y H2 => ∃ a dx fs, x = .ref a ∧ H2 a = some (.ins C dx fs) ∧ ((∃ b dy gs, y = .ref b ∧ H2 b = some (.ins C dy gs)) ∨ ∃ j, y = .int j) ∧ sp [x, y] H2 Q (E σ)
theorem pe_opS {op : Operator} (F : FnOk X.prog X.w X.K X.mg X.base CX k f fd ps sp) (hr : Room k X.A) (hb : Binds X.K fd ps []) (hx : ∀ σ, PassesAt CX X σ (E σ)) (t : OwnT X.K C op.info.2) (m : Meth X.K C (PySem.dunder op.info.2) f)
    (ha : PE X a ta) (hb2 : PE X b tb) : PE X (.BinOp a op b pos) (tOwnS C sp E ta tb) := by
  refine ⟨fun pins s σ H Q I h => ?_⟩
  refine wpAny_BinOp (binT ha hb2 I h fun v u s2 x y H2 I2 rx ry q => ?_)
  obtain ⟨p, dx, fs, rfl, hp, hy, q⟩ := q
  cases (show v = Value.ref p from rx)
  obtain ⟨ox, od, J⟩ := inst_of I2 hp
  obtain ⟨mm, Fm⟩ := I2.fr
  rcases hy with ⟨b, dy, gs, rfl, hb'⟩ | ⟨j, rfl⟩
  · cases (show u = Value.ref b from ry)
    obtain ⟨ox2, od2, J2⟩ := inst_of I2 hb'
    refine PySem.W.binop_K Fm I2.mod.kin J J2.type t.sf m.at_ m.fn ?_
    exact thn (run_fnS (us := [.ref p, .ref b]) (vs := [.ref p, .ref b]) F hr hb (hx σ) I2 (.cons rfl (.cons rfl .nil)) q) fun r s' hq => back_of hq
  · obtain ⟨tk, rfl⟩ := (show ∃ t, u = Value.int j t from ry)
    obtain ⟨rc, r1, r2⟩ := t.ru
    obtain ⟨fo, f1⟩ := t.i1
    obtain ⟨ro, o1⟩ := t.i2
    refine PySem.W.ksp_binT (T := "int") Fm I2.mod.kin J rfl t.sf m.at_ m.fn r1 r2 f1 o1 t.su ?_
    exact thn (run_fnS (us := [.ref p, .int j tk]) (vs := [.ref p, .int j]) F hr hb (hx σ) I2 (.cons rfl (.cons ⟨tk, rfl⟩ .nil)) q) fun r s' hq => back_of hq
end
end Tr
namespace Tr
open PySem L2
/-- a block's rest read once, behind a statement of many ways -/
theorem joinS {t rest : TS} {D : Ends} {σ : L2.St} {H : Hp} (W : L2.St → Hp → Prop) (h2 : ∀ σ' H', W σ' H' → rest D σ' H') (h1 : ∀ D2 : Ends, (∀ σ' H', W σ' H' → D2.nx σ' H') → t D2 σ H) : tSeq t rest D σ H := h1 { D with nx := rest D } h2
theorem joinI {tc : TT} {ta tb rest : TS} {D : Ends} {σ : L2.St} {H : Hp} (W : L2.St → Hp → Prop) (h2 : ∀ σ' H', W σ' H' → rest D σ' H') (h1 : ∀ D2 : Ends, (∀ σ' H', W σ' H' → D2.nx σ' H') → tIfS tc ta tb D2 σ H) : tSeq (tIfS tc ta tb) rest D σ H := h1 { D with nx := rest D } h2
/-! ### comparison of ratios, and floors -/
theorem scale_lt {x y X Y m n : Int} (hm : 0 < m) (hn : 0 < n) (e1 : x * m = X * n) (e2 : y * m = Y * n) : (x < y ↔ X < Y) := by
  constructor
  · intro h
    have := Int.mul_lt_mul_of_pos_right h hm
    rw [e1, e2] at this
    exact Int.lt_of_mul_lt_mul_right this (Int.le_of_lt hn)
  · intro h
    have := Int.mul_lt_mul_of_pos_right h hn
    rw [← e1, ← e2] at this
    exact Int.lt_of_mul_lt_mul_right this (Int.le_of_lt hm)
theorem scale_le {x y X Y m n : Int} (hm : 0 < m) (hn : 0 < n) (e1 : x * m = X * n) (e2 : y * m = Y * n) : (x ≤ y ↔ X ≤ Y) := by
  have := scale_lt hm hn e2 e1
  omega
theorem scale_eq {x y X Y m n : Int} (hm : 0 < m) (hn : 0 < n) (e1 : x * m = X * n) (e2 : y * m = Y * n) : (x = y ↔ X = Y) := by
  have h1 := scale_lt hm hn e2 e1
  have h2 := scale_lt hm hn e1 e2
  omega
section
variable {a b c d p q r s k : Int}
theorem LowT.mul (La : LowT a b p q) : a * q = p * b := La.val
theorem cmpE (La : LowT a b p q) (Lb : LowT c d r s) (hq : 1 ≤ q) (hs : 1 ≤ s) : (a * d) * (q * s) = (p * s) * (b * d) ∧ (c * b) * (q * s) = (r * q) * (b * d) := by
  have h := La.val
  have g := Lb.val
  constructor <;> grind
theorem cmp_lt (La : LowT a b p q) (Lb : LowT c d r s) (hq : 1 ≤ q) (hs : 1 ≤ s) : decide (a * d < c * b) = decide (p * s < r * q) := by
  obtain ⟨e1, e2⟩ := cmpE La Lb hq hs
  exact decide_eq_decide.mpr (scale_lt (Int.mul_pos (by omega) (by omega)) (Int.mul_pos La.pos Lb.pos) e1 e2)
theorem cmp_le (La : LowT a b p q) (Lb : LowT c d r s) (hq : 1 ≤ q) (hs : 1 ≤ s) : decide (a * d ≤ c * b) = decide (p * s ≤ r * q) := by
  obtain ⟨e1, e2⟩ := cmpE La Lb hq hs
  exact decide_eq_decide.mpr (scale_le (Int.mul_pos (by omega) (by omega)) (Int.mul_pos La.pos Lb.pos) e1 e2)
theorem dvdN {a b c d : Int} (h : Nat.gcd a.natAbs b.natAbs = 1) (e : a * d = c * b) : b.natAbs ∣ d.natAbs := by
  have e' := congrArg Int.natAbs e
  rw [Int.natAbs_mul, Int.natAbs_mul] at e'
  have : b.natAbs ∣ a.natAbs * d.natAbs := ⟨c.natAbs, by rw [e', Nat.mul_comm]⟩
  exact (show Nat.Coprime b.natAbs a.natAbs from by rw [Nat.coprime_comm]; exact h).dvd_of_dvd_mul_left this
theorem low_uni (hb : 1 ≤ b) (hd : 1 ≤ d) (h1 : Nat.gcd a.natAbs b.natAbs = 1) (h2 : Nat.gcd c.natAbs d.natAbs = 1) (e : a * d = c * b) : a = c ∧ b = d := by
  have x := Nat.le_of_dvd (by omega) (dvdN h1 e)
  have y := Nat.le_of_dvd (by omega) (dvdN h2 e.symm)
  have z : b = d := by omega
  subst z
  exact ⟨Int.eq_of_mul_eq_mul_right (by omega) e, rfl⟩
theorem cmp_eq (La : LowT a b p q) (Lb : LowT c d r s) (hq : 1 ≤ q) (hs : 1 ≤ s) : (decide (a = c) && decide (b = d)) = decide (V.int (p * s) = V.int (r * q)) := by
  obtain ⟨e1, e2⟩ := cmpE La Lb hq hs
  have z := scale_eq (Int.mul_pos (by omega) (by omega)) (Int.mul_pos La.pos Lb.pos) e1 e2
  by_cases h : p * s = r * q
  · obtain ⟨u, v⟩ := low_uni La.pos Lb.pos La.cop Lb.cop (z.mpr h)
    rw [decide_eq_true u, decide_eq_true v, h, decide_eq_true rfl]; rfl
  · rw [decide_eq_false (neI h)]
    by_cases u : a = c
    · by_cases v : b = d
      · exact absurd (z.mp (by rw [u, v])) h
      · rw [decide_eq_false v, Bool.and_false]
    · rw [decide_eq_false u, Bool.false_and]
theorem lowI (k : Int) : LowT k 1 k 1 := ⟨by decide, Nat.gcd_one_right _, rfl⟩
theorem cmp_ltI (La : LowT a b p q) (hq : 1 ≤ q) : decide (a * 1 < k * b) = decide (p < k * q) := by
  have := cmp_lt La (lowI k) hq (by decide)
  rw [Int.mul_one p] at this
  exact this
theorem cmp_leI (La : LowT a b p q) (hq : 1 ≤ q) : decide (a * 1 ≤ k * b) = decide (p ≤ k * q) := by
  have := cmp_le La (lowI k) hq (by decide)
  rw [Int.mul_one p] at this
  exact this
theorem cmp_eqI (La : LowT a b p q) (hq : 1 ≤ q) : (decide (b = 1) && decide (a = k)) = decide (V.int p = V.int (k * q)) := by
  have := cmp_eq La (lowI k) hq (by decide)
  rw [Int.mul_one p] at this
  rw [Bool.and_comm]
  exact this
theorem floorB {t b T B : Int} (hb : 1 ≤ b) (hB : 0 < B) (e : t * B = T * b) : t.fdiv b * B ≤ T ∧ T < (t.fdiv b + 1) * B := by
  rw [Int.fdiv_eq_ediv_of_nonneg _ (by omega)]
  have h1 := Int.mul_ediv_add_emod t b
  have h2 := Int.emod_nonneg t (show b ≠ 0 by omega)
  have h3 := Int.emod_lt_of_pos t (show 0 < b by omega)
  generalize t / b = u at *
  generalize t % b = v at *
  have e2 : T * b = u * B * b + v * B := by rw [← e, ← h1]; grind
  constructor
  · refine Int.le_of_mul_le_mul_right (a := b) ?_ (by omega)
    rw [e2]
    have := Int.mul_nonneg h2 (Int.le_of_lt hB)
    omega
  · refine Int.lt_of_mul_lt_mul_right (a := b) ?_ (by omega)
    rw [e2]
    have := Int.mul_lt_mul_of_pos_right h3 hB
    have e3 : (u + 1) * B * b = u * B * b + b * B := by grind
    omega
theorem fdiv_abs {t b : Int} (hb : 1 ≤ b) : (t.fdiv b).natAbs ≤ t.natAbs := by
  rw [Int.fdiv_eq_ediv_of_nonneg _ (by omega)]
  exact Int.natAbs_ediv_le_natAbs t b
end
end Tr
set_option linter.all false
/-! TrWedge: an alternating multilinear integer form (a determinant), built as repeated wedge products. -/
namespace Wd
abbrev Vec := Nat → Int
/-- f 0 + .. + f (m - 1) -/
def sm : Nat → (Nat → Int) → Int
  | 0, _ => 0
  | m + 1, f => sm m f + f m
theorem sm_congr {m : Nat} {f g : Nat → Int} (h : ∀ i, i < m → f i = g i) : sm m f = sm m g := by
  induction m with
  | zero => rfl
  | succ m ih => rw [sm, sm, ih (fun i hi => h i (by omega)), h m (by omega)]
theorem sm_zero (m : Nat) : sm m (fun _ => 0) = 0 := by
  induction m with
  | zero => rfl
  | succ m ih => rw [sm, ih]; rfl
theorem sm_add (m : Nat) (f g : Nat → Int) : sm m (fun i => f i + g i) = sm m f + sm m g := by
  induction m with
  | zero => rfl
  | succ m ih => rw [sm, sm, sm, ih]; omega
theorem sm_mul (m : Nat) (c : Int) (f : Nat → Int) : sm m (fun i => c * f i) = c * sm m f := by
  induction m with
  | zero => rw [sm, sm, Int.mul_zero]
  | succ m ih => rw [sm, sm, ih, Int.mul_add]
theorem sm_neg (m : Nat) (f : Nat → Int) : sm m (fun i => - f i) = - sm m f := by
  induction m with
  | zero => rfl
  | succ m ih => rw [sm, sm, ih]; omega
theorem sm_swap (m n : Nat) (f : Nat → Nat → Int) : sm m (fun i => sm n (fun j => f i j)) = sm n (fun j => sm m (fun i => f i j)) := by
  induction m with
  | zero => rw [sm]; exact (sm_zero n).symm
  | succ m ih =>
    rw [sm, ih, ← sm_add]
    rfl
theorem sm_one {m : Nat} {f : Nat → Int} (i : Nat) (hi : i < m) (h : ∀ j, j < m → j ≠ i → f j = 0) : sm m f = f i := by
  induction m with
  | zero => omega
  | succ m ih =>
    rw [sm]
    by_cases e : i = m
    · subst e
      rw [sm_congr (g := fun _ => 0) (fun j hj => h j (by omega) (by omega)), sm_zero]; omega
    · rw [ih (by omega) (fun j hj => h j (by omega)), h m (by omega) (fun z => e z.symm)]; omega
abbrev Mask := Nat → Bool
def sg (S : Mask) : Nat → Int
  | 0 => 1
  | i + 1 => if S i then - sg S i else sg S i
def rm (S : Mask) (i : Nat) : Mask := fun j => if j = i then false else S j
theorem rm_comm (S : Mask) (i j : Nat) : rm (rm S i) j = rm (rm S j) i := by
  funext k
  unfold rm
  by_cases a : k = i <;> by_cases b : k = j <;> simp [a, b]
theorem rm_ne {S : Mask} {i j : Nat} (h : j ≠ i) : rm S i j = S j := by unfold rm; rw [if_neg h]
theorem rm_self (S : Mask) (i : Nat) : rm S i i = false := by unfold rm; rw [if_pos rfl]
theorem sg_rm (S : Mask) (i : Nat) (h : S i = true) (j : Nat) : sg (rm S i) j = if i < j then - sg S j else sg S j := by
  induction j with
  | zero => rfl
  | succ j ih =>
    rw [sg, sg, ih]
    by_cases e : j = i
    · subst e
      rw [rm_self, h]
      simp
    · rw [rm_ne e]
      by_cases l : i < j
      · rw [if_pos l, if_pos (show i < j + 1 by omega)]
        cases S j <;> simp
      · rw [if_neg l, if_neg (show ¬ i < j + 1 by omega)]
theorem sg_anti {S : Mask} {i j : Nat} (hi : S i = true) (hj : S j = true) (h : i ≠ j) : sg S i * sg (rm S i) j = - (sg S j * sg (rm S j) i) := by
  rw [sg_rm S i hi, sg_rm S j hj]
  by_cases l : i < j
  · rw [if_pos l, if_neg (by omega), Int.mul_neg, Int.mul_comm]
  · rw [if_neg l, if_pos (by omega), Int.mul_neg, Int.neg_neg, Int.mul_comm]
/-- the wedge of the vectors at the places k - 1, .., 0, its part at S -/
def W (m : Nat) (B : Nat → Vec) : Nat → Mask → Int
  | 0, _ => 1
  | k + 1, S => sm m fun i => if S i then sg S i * B k i * W m B k (rm S i) else 0
def up (B : Nat → Vec) (i : Nat) (v : Vec) : Nat → Vec := fun j => if j = i then v else B j
theorem up_same (B : Nat → Vec) (i : Nat) (v : Vec) : up B i v i = v := by unfold up; rw [if_pos rfl]
theorem up_ne {B : Nat → Vec} {i j : Nat} {v : Vec} (h : j ≠ i) : up B i v j = B j := by unfold up; rw [if_neg h]
theorem up_comm {B : Nat → Vec} {i j : Nat} {u v : Vec} (h : i ≠ j) : up (up B i u) j v = up (up B j v) i u := by
  funext k
  unfold up
  by_cases a : k = i <;> by_cases b : k = j <;> simp_all
theorem up_up (B : Nat → Vec) (i : Nat) (u v : Vec) : up (up B i u) i v = up B i v := by
  funext k
  unfold up
  by_cases a : k = i <;> simp [a]
theorem up_id (B : Nat → Vec) (i : Nat) : up B i (B i) = B := by
  funext k
  unfold up
  by_cases a : k = i <;> simp [a]
theorem W_congr {m : Nat} {B C : Nat → Vec} : ∀ {k : Nat} {S : Mask}, (∀ j, j < k → B j = C j) → W m B k S = W m C k S
  | 0, _, _ => rfl
  | k + 1, S, h => by
    rw [W, W]
    refine sm_congr fun i _ => ?_
    rw [h k (by omega), W_congr (k := k) (fun j hj => h j (by omega))]
/-- linear in each place -/
theorem W_lin {m : Nat} {B : Nat → Vec} {i : Nat} {a b : Int} {u v : Vec} : ∀ {k : Nat} {S : Mask}, i < k → W m (up B i (fun x => a * u x + b * v x)) k S = a * W m (up B i u) k S + b * W m (up B i v) k S
  | 0, _, h => by omega
  | k + 1, S, h => by
    rw [W, W, W, ← sm_mul, ← sm_mul, ← sm_add]
    refine sm_congr fun j _ => ?_
    cases S j with
    | false => simp
    | true =>
      simp only [if_true]
      by_cases e : i = k
      · subst e
        rw [up_same, up_same, up_same]
        rw [W_congr (k := i) (B := up B i fun x => a * u x + b * v x) (C := B) (fun j hj => up_ne (by omega)), W_congr (k := i) (B := up B i u) (C := B) (fun j hj => up_ne (by omega)), W_congr (k := i) (B := up B i v) (C := B) (fun j hj => up_ne (by omega))]
        grind
      · rw [up_ne (show k ≠ i by omega), up_ne (show k ≠ i by omega), up_ne (show k ≠ i by omega), W_lin (k := k) (by omega)]
        grind
/-- the two upper places turned -/
theorem W_top {m : Nat} {B : Nat → Vec} {u v : Vec} {k : Nat} {S : Mask} : W m (up (up B (k + 1) u) k v) (k + 2) S = - W m (up (up B (k + 1) v) k u) (k + 2) S := by
  have key : ∀ u v : Vec, W m (up (up B (k + 1) u) k v) (k + 2) S = sm m fun i => sm m fun j => if S i && S j && decide (i ≠ j) then (sg S i * sg (rm S i) j) * (u i * v j * W m B k (rm (rm S i) j)) else 0 := by
    intro u v
    rw [W]
    refine sm_congr fun i _ => ?_
    cases hi : S i with
    | false => simp [sm_zero]
    | true =>
      simp only [if_true, Bool.true_and]
      rw [W, ← sm_mul]
      refine sm_congr fun j _ => ?_
      rw [up_ne (show k + 1 ≠ k by omega), up_same, up_same]
      rw [W_congr (k := k) (B := up (up B (k + 1) u) k v) (C := B) (fun j hj => by rw [up_ne (by omega), up_ne (by omega)])]
      by_cases e : i = j
      · subst e
        rw [rm_self]; simp
      · rw [rm_ne (fun z => e z.symm)]
        cases S j with
        | false => simp
        | true =>
          simp only [if_true, Bool.true_and]
          rw [if_pos (decide_eq_true e)]
          grind
  rw [key u v, key v u, sm_swap, ← sm_neg]
  refine sm_congr fun i _ => ?_
  rw [← sm_neg]
  refine sm_congr fun j _ => ?_
  by_cases e : i = j
  · subst e; simp
  · cases hi : S i with
    | false => simp
    | true =>
      cases hj : S j with
      | false => simp
      | true =>
        have e2 : ¬ j = i := fun z => e z.symm
        have d1 : (true && true && decide (j ≠ i)) = true := by simp [e2]
        have d2 : (true && true && decide (i ≠ j)) = true := by simp [e]
        rw [if_pos d1, if_pos d2, sg_anti hi hj e, rm_comm S i j]
        grind
/-- two equal places: 0; and so two turned places change the sign -/
theorem W_tr {m k : Nat} {S : Mask} (alt : ∀ (B : Nat → Vec) (i j : Nat), i < k → j < k → i ≠ j → B i = B j → W m B k S = 0) (B : Nat → Vec) (i j : Nat) (u v : Vec) (hi : i < k) (hj : j < k) (h : i ≠ j) :
    W m (up (up B i u) j v) k S = - W m (up (up B i v) j u) k S := by
  have eq0 : ∀ x : Vec, W m (up (up B i x) j x) k S = 0 := fun x => alt _ i j hi hj h (by rw [up_ne h, up_same, up_same])
  have e := eq0 (fun x => 1 * u x + 1 * v x)
  rw [W_lin hj, up_comm h, up_comm h, W_lin hi, W_lin hi, ← up_comm h, ← up_comm h, ← up_comm h, ← up_comm h, eq0, eq0] at e
  omega
theorem W_alt {m : Nat} : ∀ {k : Nat} {S : Mask} (B : Nat → Vec) (i j : Nat), i < j → j < k → B i = B j → W m B k S = 0
  | 0, _, _, _, _, _, h, _ => by omega
  | k + 1, S, B, i, j, hij, hj, e => by
    have ih : ∀ {S : Mask} (B : Nat → Vec) (i j : Nat), i < k → j < k → i ≠ j → B i = B j → W m B k S = 0 := fun {S} B i j hi hj h e => by
      by_cases l : i < j
      · exact W_alt (k := k) B i j l hj e
      · exact W_alt (k := k) B j i (by omega) hi e.symm
    by_cases hk : j = k
    · subst hk
      by_cases hn : i + 1 = j
      · subst hn
        have t := W_top (m := m) (B := B) (u := B i) (v := B i) (k := i) (S := S)
        have e1 : up (up B (i + 1) (B i)) i (B i) = B := by
          rw [up_comm (by omega), up_id, e, up_id]
        rw [e1] at t
        have t2 : W m B (i + 1 + 1) S = - W m B (i + 1 + 1) S := t
        clear t
        omega
      · -- the place i turned with the place below j
        have z : ∀ S' : Mask, W m B j S' = - W m (up (up B i (B (j - 1))) (j - 1) (B i)) j S' := fun S' => by
          have t := W_tr (m := m) (k := j) (S := S') (fun B i j hi hj h e => ih B i j hi hj h e) B i (j - 1) (B i) (B (j - 1)) (by omega) (by omega) (by omega)
          have e1 : up (up B i (B i)) (j - 1) (B (j - 1)) = B := by rw [up_id, up_id]
          rw [e1] at t
          exact t
        have e2 : W m B (j + 1) S = - W m (up (up B i (B (j - 1))) (j - 1) (B i)) (j + 1) S := by
          rw [W, W, ← sm_neg]
          refine sm_congr fun x _ => ?_
          rw [up_ne (show j ≠ j - 1 by omega), up_ne (show j ≠ i by omega), z]
          cases S x <;> grind
        rw [e2]
        obtain ⟨l, rfl⟩ : ∃ l, j = l + 1 := ⟨j - 1, by omega⟩
        have t := W_top (m := m) (B := up (up B i (B l)) l (B i)) (u := B i) (v := B i) (k := l) (S := S)
        have e3 : up (up (up (up B i (B l)) l (B i)) (l + 1) (B i)) l (B i) = up (up B i (B l)) l (B i) := by
          rw [up_comm (show l + 1 ≠ l by omega), up_up]
          funext y
          by_cases a : y = l + 1
          · subst a; rw [up_same, up_ne (by omega), up_ne (by omega), e]
          · rw [up_ne a]
        rw [e3] at t
        have t2 : W m (up (up B i (B l)) l (B i)) (l + 1 + 1) S = - W m (up (up B i (B l)) l (B i)) (l + 1 + 1) S := t
        show - W m (up (up B i (B l)) l (B i)) (l + 1 + 1) S = 0
        clear t
        omega
    · rw [W, sm_congr (g := fun _ => 0), sm_zero]
      intro x _
      rw [ih B i j (by omega) (by omega) (by omega) e]
      cases S x <;> simp
end Wd
set_option linter.all false
/-! TrTab: the integer table of a basis, and its pivots: exactness and size. -/
namespace Wd
/-- only the parts below m are read -/
theorem W_ext {m : Nat} {B C : Nat → Vec} : ∀ {k : Nat} {S : Mask}, (∀ j, j < k → ∀ x, x < m → B j x = C j x) → W m B k S = W m C k S
  | 0, _, _ => rfl
  | k + 1, S, h => by
    rw [W, W]
    refine sm_congr fun i hi => ?_
    rw [h k (by omega) i hi, W_ext (k := k) (fun j hj => h j (by omega))]
theorem W_scale {m k i : Nat} {B : Nat → Vec} {S : Mask} {a : Int} {u : Vec} (h : i < k) : W m (up B i (fun x => a * u x)) k S = a * W m (up B i u) k S := by
  have e := W_lin (m := m) (B := B) (a := a) (b := 0) (u := u) (v := u) (S := S) h
  rw [Int.zero_mul, Int.add_zero] at e
  rw [← e]
  refine W_ext fun j _ x _ => ?_
  unfold up
  split
  · dsimp only; rw [Int.zero_mul, Int.add_zero]
  · rfl
theorem W_sum {m k i : Nat} {B : Nat → Vec} {S : Mask} {t : Nat → Int} {V : Nat → Vec} (h : i < k) : ∀ n, W m (up B i (fun x => sm n fun l => t l * V l x)) k S = sm n fun l => t l * W m (up B i (V l)) k S
  | 0 => by
    have e := W_scale (m := m) (B := B) (S := S) (a := 0) (u := B i) h
    rw [Int.zero_mul] at e
    rw [sm, ← e]
    refine W_ext fun j _ x _ => ?_
    unfold up
    split
    · dsimp only; rw [sm, Int.zero_mul]
    · rfl
  | n + 1 => by
    have e := W_lin (m := m) (B := B) (a := 1) (b := t n) (u := fun x => sm n fun l => t l * V l x) (v := V n) (S := S) h
    rw [W_sum h n, Int.one_mul] at e
    rw [sm, ← e]
    refine W_ext fun j _ x _ => ?_
    unfold up
    split
    · dsimp only; rw [sm, Int.one_mul]
    · rfl
def full : Mask := fun _ => true
def un (k : Nat) : Vec := fun x => if x = k then 1 else 0
theorem sg_low {S : Mask} : ∀ {k : Nat}, sg S k = 1 ∨ sg S k = -1
  | 0 => .inl rfl
  | k + 1 => by
    rw [sg]
    rcases sg_low (S := S) (k := k) with e | e <;> rw [e] <;> cases S k <;> simp
theorem W_un {m : Nat} : ∀ {k : Nat} {S : Mask}, k ≤ m → (∀ j, j < k → S j = true) → W m un k S = 1 ∨ W m un k S = -1
  | 0, _, _, _ => .inl rfl
  | k + 1, S, hk, hS => by
    rw [W, sm_one k (by omega) (fun j _ hj => by unfold un; rw [if_neg hj]; simp), hS k (by omega), if_pos rfl]
    have h := W_un (m := m) (k := k) (S := rm S k) (by omega) (fun j hj => by rw [rm_ne (by omega)]; exact hS j (by omega))
    have e : un k k = 1 := by unfold un; rw [if_pos rfl]
    rw [e, Int.mul_one]
    rcases sg_low (S := S) (k := k) with a | a <;> rcases h with b | b <;> rw [a, b] <;> simp
/-- the determinant of the vectors at the places below m -/
def D (m : Nat) (B : Nat → Vec) : Int := W m un m full * W m B m full
theorem D_un (m : Nat) : D m un = 1 := by
  unfold D
  rcases W_un (m := m) (k := m) (S := full) (Nat.le_refl _) (fun _ _ => rfl) with e | e <;> rw [e] <;> rfl
theorem D_alt {m : Nat} {B : Nat → Vec} {i j : Nat} (hi : i < m) (hj : j < m) (h : i ≠ j) (e : B i = B j) : D m B = 0 := by
  unfold D
  by_cases l : i < j
  · rw [W_alt B i j l hj e, Int.mul_zero]
  · rw [W_alt B j i (by omega) hi e.symm, Int.mul_zero]
theorem D_tr {m : Nat} {B : Nat → Vec} {i j : Nat} {u v : Vec} (hi : i < m) (hj : j < m) (h : i ≠ j) : D m (up (up B i u) j v) = - D m (up (up B i v) j u) := by
  unfold D
  rw [W_tr (fun B i j hi hj h e => ?_) B i j u v hi hj h, Int.mul_neg]
  by_cases l : i < j
  · exact W_alt B i j l hj e
  · exact W_alt B j i (by omega) hi e.symm
/-- what is a combination in the parts below m is one under D -/
theorem D_comb {m i n : Nat} {B : Nat → Vec} {s : Int} {v : Vec} {t : Nat → Int} {V : Nat → Vec} (hi : i < m) (h : ∀ x, x < m → s * v x = sm n fun l => t l * V l x) : s * D m (up B i v) = sm n fun l => t l * D m (up B i (V l)) := by
  unfold D
  have e1 : s * W m (up B i v) m full = sm n fun l => t l * W m (up B i (V l)) m full := by
    rw [← W_scale hi, ← W_sum hi]
    refine W_ext fun j _ x hx => ?_
    unfold up
    split
    · exact h x hx
    · rfl
  rw [show s * (W m un m full * W m (up B i v) m full) = W m un m full * (s * W m (up B i v) m full) by grind, e1, ← sm_mul]
  exact sm_congr fun l _ => by grind
/-- the table of the basis b: T i j, times its scale s -/
structure Tab (m : Nat) (A : Nat → Vec) (b : Nat → Nat) (s : Int) (T : Nat → Nat → Int) : Prop where
  ns : s ≠ 0
  sc : s = D m (fun i => A (b i))
  en : ∀ i j, i < m → T i j = D m (up (fun i => A (b i)) i (A j))
  rel : ∀ j x, x < m → s * A j x = sm m fun i => T i j * A (b i) x
def upN (b : Nat → Nat) (r c : Nat) : Nat → Nat := fun i => if i = r then c else b i
theorem upN_vec (A : Nat → Vec) (b : Nat → Nat) (r c : Nat) : (fun i => A (upN b r c i)) = up (fun i => A (b i)) r (A c) := by
  funext i
  unfold upN up
  split <;> rfl
section
variable {m : Nat} {A : Nat → Vec} {b : Nat → Nat} {s : Int} {T : Nat → Nat → Int} {r c : Nat}
/-- the new entries -/
def nxt (m : Nat) (A : Nat → Vec) (b : Nat → Nat) (r c : Nat) (i j : Nat) : Int := D m (up (up (fun i => A (b i)) r (A c)) i (A j))
theorem nxt_row (t : Tab m A b s T) (hr : r < m) (j : Nat) : nxt m A b r c r j = T r j := by
  unfold nxt
  rw [up_up, ← t.en r j hr]
theorem nxt_eq (t : Tab m A b s T) (hr : r < m) {i : Nat} (hi : i < m) (h : i ≠ r) (j : Nat) : s * nxt m A b r c i j = T r c * T i j - T i c * T r j := by
  unfold nxt
  rw [up_comm (Ne.symm h), D_comb (n := m) (t := fun l => T l c) (V := fun l => A (b l)) hr (fun x hx => t.rel c x hx)]
  have two : ∀ f : Nat → Int, (∀ l, l < m → l ≠ r → l ≠ i → f l = 0) → sm m f = f r + f i := fun f hf => by
    have e : sm m f = sm m fun l => (if l = r then f l else 0) + (if l = i then f l else 0) := sm_congr fun l hl => by
      by_cases a : l = r
      · rw [if_pos a, if_neg (by omega)]; omega
      · by_cases a2 : l = i
        · rw [if_neg a, if_pos a2]; omega
        · rw [if_neg a, if_neg a2, hf l hl a a2]; rfl
    rw [e, sm_add, sm_one r hr (fun l _ hl => if_neg hl), sm_one i hi (fun l _ hl => if_neg hl), if_pos rfl, if_pos rfl]
  rw [two _ (fun l hl h1 h2 => ?_)]
  · have e1 : up (up (fun i => A (b i)) i (A j)) r (A (b r)) = up (fun i => A (b i)) i (A j) := by
      rw [up_comm h, up_id (fun i => A (b i)) r]
    have e2 : D m (up (up (fun i => A (b i)) i (A j)) r (A (b i))) = - T r j := by
      rw [D_tr hi hr h, up_id (fun i => A (b i)) i, ← t.en r j hr]
    rw [e1, e2, ← t.en i j hi]
    grind
  · rw [D_alt (i := l) (j := r) hl hr h1 (by rw [up_same, up_ne h1, up_ne h2]), Int.mul_zero]
theorem Tab.pivot (t : Tab m A b s T) (hr : r < m) (hc : T r c ≠ 0) : Tab m A (upN b r c) (T r c) (nxt m A b r c) := by
  refine ⟨hc, ?_, fun i j hi => ?_, fun j x hx => ?_⟩
  · rw [upN_vec]; exact t.en r c hr
  · rw [upN_vec]; rfl
  · apply Int.eq_of_mul_eq_mul_left t.ns
    rw [← sm_mul]
    have e : ∀ i, i < m → s * (nxt m A b r c i j * A (upN b r c i) x) = (T r c * (T i j * A (b i) x) + (- T r j) * (T i c * A (b i) x)) + (if i = r then T r j * (s * A c x) else 0) := fun i hi => by
      by_cases a : i = r
      · subst a
        rw [nxt_row t hr, if_pos rfl]
        have : upN b i c i = c := by unfold upN; rw [if_pos rfl]
        rw [this]
        grind
      · have : upN b r c i = b i := by unfold upN; rw [if_neg a]
        rw [this, if_neg a, ← Int.mul_assoc, nxt_eq t hr hi a]
        grind
    rw [sm_congr e, sm_add, sm_add, sm_mul, sm_mul, ← t.rel j x hx, ← t.rel c x hx, sm_one r hr (fun l _ hl => if_neg hl), if_pos rfl]
    grind
/-- the table by hand: // is exact -/
theorem pivot_div (t : Tab m A b s T) (hr : r < m) {i : Nat} (hi : i < m) (h : i ≠ r) (j : Nat) : (T r c * T i j - T i c * T r j).fdiv s = nxt m A b r c i j := by
  rw [← nxt_eq t hr hi h, Int.mul_comm, Int.mul_fdiv_cancel _ t.ns]
end
end Wd
set_option linter.all false
/-! TrBland: the reduced costs of a table; Bland's rule never cycles. -/
namespace Wd
theorem sm_nonneg {m : Nat} {f : Nat → Int} (h : ∀ i, i < m → 0 ≤ f i) : 0 ≤ sm m f := by
  induction m with
  | zero => exact Int.le_refl _
  | succ m ih =>
    rw [sm]
    have := ih fun i hi => h i (by omega)
    have := h m (by omega)
    omega
theorem sm_pos {m : Nat} {f : Nat → Int} (h : 0 < sm m f) : ∃ i, i < m ∧ 0 < f i := by
  induction m with
  | zero => rw [sm] at h; omega
  | succ m ih =>
    rw [sm] at h
    by_cases a : 0 < f m
    · exact ⟨m, by omega, a⟩
    · obtain ⟨i, hi, x⟩ := ih (by omega)
      exact ⟨i, by omega, x⟩
/-- the reduced cost of column j, times the scale -/
def rc (m : Nat) (w : Nat → Int) (b : Nat → Nat) (s : Int) (T : Nat → Nat → Int) (j : Nat) : Int := s * w j - sm m fun i => w (b i) * T i j
section
variable {m : Nat} {A : Nat → Vec} {w : Nat → Int} {b b1 : Nat → Nat} {s s1 : Int} {T T1 : Nat → Nat → Int} {r c : Nat}
theorem rc_pivot (t : Tab m A b s T) (hr : r < m) (j : Nat) : s * rc m w (upN b r c) (T r c) (nxt m A b r c) j = T r c * rc m w b s T j - rc m w b s T c * T r j := by
  unfold rc
  rw [Int.mul_sub, ← sm_mul]
  have e : ∀ i, i < m → s * (w (upN b r c i) * nxt m A b r c i j) = (T r c * (w (b i) * T i j) + (- T r j) * (w (b i) * T i c)) + (if i = r then s * w c * T r j else 0) := fun i hi => by
    by_cases a : i = r
    · subst a
      rw [nxt_row t hr, if_pos rfl]
      have : upN b i c i = c := by unfold upN; rw [if_pos rfl]
      rw [this]
      grind
    · have : upN b r c i = b i := by unfold upN; rw [if_neg a]
      rw [this, if_neg a]
      have := nxt_eq t hr hi a (c := c) j
      grind
  rw [sm_congr e, sm_add, sm_add, sm_mul, sm_mul, sm_one r hr (fun l _ hl => if_neg hl), if_pos rfl]
  grind
/-- a column in the basis -/
theorem Tab.basic (t : Tab m A b s T) {i k : Nat} (hi : i < m) (hk : k < m) : T k (b i) = if k = i then s else 0 := by
  rw [t.en k (b i) hk]
  by_cases e : k = i
  · subst e; rw [if_pos rfl, t.sc, up_id (fun i => A (b i)) k]
  · rw [if_neg e]
    exact D_alt (i := k) (j := i) hk hi e (by rw [up_same, up_ne (Ne.symm e)])
theorem Tab.inj (t : Tab m A b s T) {i k : Nat} (hi : i < m) (hk : k < m) (e : b i = b k) : i = k := by
  have h1 := t.basic hi hk
  have h2 := t.basic hk hk
  rw [e] at h1
  rw [if_pos rfl] at h2
  by_cases a : k = i
  · exact a.symm
  · rw [if_neg a, h2] at h1; exact absurd h1 t.ns
theorem rc_basic (t : Tab m A b s T) {i : Nat} (hi : i < m) : rc m w b s T (b i) = 0 := by
  unfold rc
  rw [sm_one i hi (fun k hk h => by rw [t.basic hi hk, if_neg h, Int.mul_zero]), t.basic hi hi, if_pos rfl, Int.mul_comm]
  omega
/-- the costs of one basis along the direction of another one -/
theorem rc_along (t : Tab m A b s T) (t1 : Tab m A b1 s1 T1) (j : Nat) : s * rc m w b1 s1 T1 j - sm m (fun i => T i j * rc m w b1 s1 T1 (b i)) = s1 * rc m w b s T j := by
  have h : ∀ k, k < m → s * T1 k j = sm m fun i => T i j * T1 k (b i) := fun k hk => by
    rw [t1.en k j hk, D_comb (n := m) (t := fun i => T i j) (V := fun i => A (b i)) hk (fun x hx => t.rel j x hx)]
    exact sm_congr fun i _ => by rw [t1.en k (b i) hk]
  have e1 : s * sm m (fun k => w (b1 k) * T1 k j) = sm m fun i => T i j * sm m fun k => w (b1 k) * T1 k (b i) := by
    rw [← sm_mul]
    have : sm m (fun k => s * (w (b1 k) * T1 k j)) = sm m fun k => sm m fun i => T i j * (w (b1 k) * T1 k (b i)) := sm_congr fun k hk => by
      rw [show s * (w (b1 k) * T1 k j) = w (b1 k) * (s * T1 k j) by grind, h k hk, ← sm_mul]
      exact sm_congr fun i _ => by grind
    rw [this, sm_swap]
    exact sm_congr fun i _ => by rw [sm_mul]
  have e2 : sm m (fun i => T i j * rc m w b1 s1 T1 (b i)) = s1 * sm m (fun i => w (b i) * T i j) - s * sm m (fun k => w (b1 k) * T1 k j) := by
    rw [e1, ← sm_mul, show ∀ x y : Int, x - y = x + (-1) * y from fun x y => by omega, ← sm_mul, ← sm_add]
    exact sm_congr fun i _ => by unfold rc; grind
  rw [e2]
  unfold rc
  grind
end
/-- a run without an end under Bland's rule; g: the right side -/
structure Run (m n : Nat) (A : Nat → Vec) (w : Nat → Int) (g : Nat) (b : Nat → Nat → Nat) (s : Nat → Int) (T : Nat → Nat → Nat → Int) (r c : Nat → Nat) : Prop where
  tab : ∀ k, Tab m A (b k) (s k) (T k)
  sp : ∀ k, 0 < s k
  hr : ∀ k, r k < m
  hc : ∀ k, c k < n
  neg : ∀ k, rc m w (b k) (s k) (T k) (c k) < 0
  low : ∀ k j, j < c k → 0 ≤ rc m w (b k) (s k) (T k) j
  pos : ∀ k, 0 < T k (r k) (c k)
  rhs : ∀ k i, i < m → 0 ≤ T k i g
  tie : ∀ k i, i < m → 0 < T k i (c k) → T k (r k) g = 0 → T k i g = 0 → b k (r k) ≤ b k i
  nb : ∀ k, b (k + 1) = upN (b k) (r k) (c k)
  ns : ∀ k, s (k + 1) = T k (r k) (c k)
  nT : ∀ k i j, i < m → T (k + 1) i j = nxt m A (b k) (r k) (c k) i j
theorem tab_det {m : Nat} {A : Nat → Vec} {b b' : Nat → Nat} {s s' : Int} {T T' : Nat → Nat → Int} (t : Tab m A b s T) (t' : Tab m A b' s' T') (h : ∀ i, i < m → b i = b' i) : s = s' ∧ ∀ i j, i < m → T i j = T' i j := by
  have e : ∀ B B' : Nat → Vec, (∀ i, i < m → B i = B' i) → D m B = D m B' := fun B B' h => by
    unfold D
    rw [W_congr h]
  refine ⟨?_, fun i j hi => ?_⟩
  · rw [t.sc, t'.sc]; exact e _ _ fun i hi => by rw [h i hi]
  · rw [t.en i j hi, t'.en i j hi]
    refine e _ _ fun k hk => ?_
    unfold up
    split
    · rfl
    · show A (b k) = A (b' k)
      rw [h k hk]
theorem pigeon : ∀ (K : Nat) (f : Nat → Nat), (∀ n, f n < K) → ∃ p q, p < q ∧ f p = f q
  | 0, f, h => absurd (h 0) (by omega)
  | K + 1, f, h => by
    by_cases a : ∃ x, f x = K
    · obtain ⟨x, hx⟩ := a
      by_cases a2 : ∃ y, x < y ∧ f y = K
      · obtain ⟨y, h1, h2⟩ := a2
        exact ⟨x, y, h1, by rw [hx, h2]⟩
      · obtain ⟨p, q, h1, h2⟩ := pigeon K (fun n => f (n + x + 1)) (fun n => by
          have := h (n + x + 1)
          have : f (n + x + 1) ≠ K := fun z => a2 ⟨n + x + 1, by omega, z⟩
          omega)
        exact ⟨p + x + 1, q + x + 1, by omega, h2⟩
    · exact pigeon K f fun n => by
        have := h n
        have : f n ≠ K := fun z => a ⟨n, z⟩
        omega
section
variable {m n g : Nat} {A : Nat → Vec} {w : Nat → Int} {b : Nat → Nat → Nat} {s : Nat → Int} {T : Nat → Nat → Nat → Int} {r c : Nat → Nat}
theorem Run.step (R : Run m n A w g b s T r c) (k j : Nat) : s k * rc m w (b (k + 1)) (s (k + 1)) (T (k + 1)) j = s (k + 1) * rc m w (b k) (s k) (T k) j - rc m w (b k) (s k) (T k) (c k) * T k (r k) j := by
  have e := rc_pivot (w := w) (c := c k) (R.tab k) (R.hr k) j
  rw [← R.nb k, ← R.ns k] at e
  rw [← e]
  unfold rc
  rw [sm_congr fun i hi => by rw [R.nT k i j hi]]
theorem Run.chain (R : Run m n A w g b s T r c) (p : Nat) : ∀ d, s (p + d) * rc m w (b p) (s p) (T p) g ≤ s p * rc m w (b (p + d)) (s (p + d)) (T (p + d)) g
  | 0 => Int.le_refl _
  | d + 1 => by
    have ih := Run.chain R p d
    have st := R.step (p + d) g
    have h1 := Int.mul_le_mul_of_nonneg_left ih (Int.le_of_lt (R.sp (p + d + 1)))
    have h2 : 0 ≤ (- rc m w (b (p + d)) (s (p + d)) (T (p + d)) (c (p + d))) * T (p + d) (r (p + d)) g := Int.mul_nonneg (by have := R.neg (p + d); omega) (R.rhs _ _ (R.hr _))
    have h3 := Int.mul_nonneg (Int.le_of_lt (R.sp p)) h2
    have hs := R.sp (p + d)
    show s (p + d + 1) * _ ≤ s p * rc m w (b (p + d + 1)) (s (p + d + 1)) (T (p + d + 1)) g
    generalize rc m w (b (p + d + 1)) (s (p + d + 1)) (T (p + d + 1)) g = z at *
    generalize rc m w (b (p + d)) (s (p + d)) (T (p + d)) g = y at *
    generalize rc m w (b (p + d)) (s (p + d)) (T (p + d)) (c (p + d)) = v at *
    generalize rc m w (b p) (s p) (T p) g = x at *
    refine Int.le_of_mul_le_mul_left (a := s (p + d)) ?_ hs
    have e : s (p + d) * (s p * z) = s (p + d + 1) * (s p * y) + s p * (-v * T (p + d) (r (p + d)) g) := by grind
    have e2 : s (p + d) * (s (p + d + 1) * x) = s (p + d + 1) * (s (p + d) * x) := by grind
    rw [e, e2]
    omega
theorem Run.degen (R : Run m n A w g b s T r c) {p q k : Nat} (h1 : p ≤ k) (h2 : k < q) (hb : ∀ i, i < m → b p i = b q i) : T k (r k) g = 0 := by
  obtain ⟨d, rfl⟩ : ∃ d, k = p + d := ⟨k - p, by omega⟩
  obtain ⟨e, rfl⟩ : ∃ e, q = p + d + 1 + e := ⟨q - (p + d + 1), by omega⟩
  obtain ⟨es, eT⟩ := tab_det (R.tab p) (R.tab _) hb
  have ec : rc m w (b p) (s p) (T p) g = rc m w (b (p + d + 1 + e)) (s (p + d + 1 + e)) (T (p + d + 1 + e)) g := by
    unfold rc
    rw [es, sm_congr fun i hi => by rw [eT i g hi, hb i hi]]
  have a1 := R.chain p d
  have a2 := R.chain (p + d + 1) e
  rw [← ec, ← es] at a2
  have st := R.step (p + d) g
  have hs := R.sp (p + d)
  have hs1 := R.sp (p + d + 1)
  have hp := R.sp p
  have hn := R.neg (p + d)
  have hr := R.rhs (p + d) _ (R.hr (p + d))
  generalize rc m w (b (p + d + 1)) (s (p + d + 1)) (T (p + d + 1)) g = z at *
  generalize rc m w (b (p + d)) (s (p + d)) (T (p + d)) g = y at *
  generalize rc m w (b (p + d)) (s (p + d)) (T (p + d)) (c (p + d)) = v at *
  generalize rc m w (b p) (s p) (T p) g = x at *
  generalize T (p + d) (r (p + d)) g = u at *
  by_cases hu : u = 0
  · exact hu
  · exfalso
    have h3 := Int.mul_le_mul_of_nonneg_left a1 (Int.le_of_lt hs1)
    have h4 := Int.mul_le_mul_of_nonneg_left a2 (Int.le_of_lt hs)
    have h5 : 0 < s p * (-v * u) := Int.mul_pos hp (Int.mul_pos (by omega) (by omega))
    have e1 : s (p + d) * (s p * z) = s (p + d + 1) * (s p * y) + s p * (-v * u) := by grind
    have e2 : s (p + d) * (s (p + d + 1) * x) = s (p + d + 1) * (s (p + d) * x) := by grind
    omega
theorem Run.zero (R : Run m n A w g b s T r c) {p q : Nat} (hb : ∀ i, i < m → b p i = b q i) {i : Nat} (hi : i < m) : ∀ d, p + d ≤ q → (T (p + d) i g = 0 ↔ T p i g = 0)
  | 0, _ => Iff.rfl
  | d + 1, h => by
    rw [← Run.zero R hb hi d (by omega)]
    have hd := R.degen (k := p + d) (by omega) (by omega) hb
    have e := R.nT (p + d) i g hi
    show T (p + d + 1) i g = 0 ↔ _
    by_cases a : i = r (p + d)
    · rw [e, a, nxt_row (R.tab (p + d)) (R.hr _)]
    · have e2 := nxt_eq (R.tab (p + d)) (R.hr _) hi a (c := c (p + d)) g
      rw [← e, hd, Int.mul_zero, Int.sub_zero] at e2
      have hs := R.sp (p + d)
      have hp := R.pos (p + d)
      constructor
      · intro z
        rw [z, Int.mul_zero] at e2
        exact (Int.mul_eq_zero.mp e2.symm).resolve_left (by omega)
      · intro z
        rw [z, Int.mul_zero] at e2
        exact (Int.mul_eq_zero.mp e2).resolve_left (by omega)
def inB (m : Nat) (b : Nat → Nat) (j : Nat) : Prop := ∃ i, i < m ∧ b i = j
theorem Run.enter (R : Run m n A w g b s T r c) {a j : Nat} : ∀ d, ¬ inB m (b a) j → inB m (b (a + d)) j → ∃ k, a ≤ k ∧ k < a + d ∧ c k = j
  | 0, h, h2 => absurd h2 h
  | d + 1, h, h2 => by
    by_cases z : inB m (b (a + d)) j
    · obtain ⟨k, x, y, e⟩ := Run.enter R d h z
      exact ⟨k, x, by omega, e⟩
    · obtain ⟨i, hi, e⟩ := h2
      have e2 : upN (b (a + d)) (r (a + d)) (c (a + d)) i = j := by rw [← R.nb]; exact e
      unfold upN at e2
      split at e2
      · exact ⟨a + d, by omega, by omega, e2⟩
      · exact absurd ⟨i, hi, e2⟩ z
theorem Run.leave (R : Run m n A w g b s T r c) {a j : Nat} : ∀ d, inB m (b a) j → ¬ inB m (b (a + d)) j → ∃ k, a ≤ k ∧ k < a + d ∧ b k (r k) = j
  | 0, h, h2 => absurd h h2
  | d + 1, h, h2 => by
    by_cases z : inB m (b (a + d)) j
    · obtain ⟨i, hi, e⟩ := z
      refine ⟨a + d, by omega, by omega, ?_⟩
      by_cases q : i = r (a + d)
      · rw [← q]; exact e
      · exfalso
        refine h2 ⟨i, hi, ?_⟩
        show b (a + d + 1) i = j
        rw [R.nb]
        unfold upN
        rw [if_neg q]; exact e
    · obtain ⟨k, x, y, e⟩ := Run.leave R d h z
      exact ⟨k, x, by omega, e⟩
theorem Run.place (R : Run m n A w g b s T r c) {a i : Nat} : ∀ d, b a i ≠ b (a + d) i → ∃ k, a ≤ k ∧ k < a + d ∧ r k = i
  | 0, h => absurd rfl h
  | d + 1, h => by
    by_cases z : b a i = b (a + d) i
    · refine ⟨a + d, by omega, by omega, ?_⟩
      by_cases q : i = r (a + d)
      · exact q.symm
      · exfalso
        apply h
        show b a i = b (a + d + 1) i
        rw [R.nb]
        unfold upN
        rw [if_neg q]; exact z
    · obtain ⟨k, x, y, e⟩ := Run.place R d z
      exact ⟨k, x, by omega, e⟩
theorem amax (f : Nat → Nat) (p : Nat) : ∀ d, ∃ k, p ≤ k ∧ k ≤ p + d ∧ ∀ l, p ≤ l → l ≤ p + d → f l ≤ f k
  | 0 => ⟨p, by omega, by omega, fun l h1 h2 => by rw [show l = p by omega]; exact Nat.le_refl _⟩
  | d + 1 => by
    obtain ⟨k, h1, h2, h3⟩ := amax f p d
    by_cases a : f (p + (d + 1)) ≤ f k
    · refine ⟨k, h1, by omega, fun l x y => ?_⟩
      by_cases e : l = p + (d + 1)
      · rw [e]; exact a
      · exact h3 l x (by omega)
    · refine ⟨p + (d + 1), by omega, by omega, fun l x y => ?_⟩
      by_cases e : l = p + (d + 1)
      · rw [e]; exact Nat.le_refl _
      · have := h3 l x (by omega)
        omega
/-- no basis comes twice -/
theorem Run.once (R : Run m n A w g b s T r c) {p q : Nat} (hpq : p < q) (hb : ∀ i, i < m → b p i = b q i) : False := by
  obtain ⟨k1, l1, l2, mx⟩ := amax c p (q - p - 1)
  have hin : ∀ j, inB m (b p) j ↔ inB m (b q) j := fun j => by
    constructor
    · rintro ⟨i, hi, e⟩; exact ⟨i, hi, by rw [← hb i hi]; exact e⟩
    · rintro ⟨i, hi, e⟩; exact ⟨i, hi, by rw [hb i hi]; exact e⟩
  have nb1 : ¬ inB m (b k1) (c k1) := by
    rintro ⟨i, hi, e⟩
    have z := rc_basic (w := w) (R.tab k1) hi
    have := R.neg k1
    rw [e] at z
    omega
  -- where t leaves
  have ⟨k2, u1, u2, u3⟩ : ∃ k, p ≤ k ∧ k < q ∧ b k (r k) = c k1 := by
    by_cases z : inB m (b p) (c k1)
    · obtain ⟨d, rfl⟩ : ∃ d, k1 = p + d := ⟨k1 - p, by omega⟩
      obtain ⟨k, x, y, e⟩ := R.leave d z nb1
      exact ⟨k, x, by omega, e⟩
    · have z1 : inB m (b (k1 + 1)) (c k1) := ⟨r k1, R.hr k1, by rw [R.nb]; unfold upN; rw [if_pos rfl]⟩
      obtain ⟨d, rfl⟩ : ∃ d, q = k1 + 1 + d := ⟨q - (k1 + 1), by omega⟩
      obtain ⟨k, x, y, e⟩ := R.leave d z1 (fun y => z ((hin _).mpr y))
      exact ⟨k, by omega, y, e⟩
  have place0 : ∀ k i, p ≤ k → k < q → r k = i → T k2 i g = 0 := fun k i x y e => by
    have hd := R.degen x y hb
    rw [e] at hd
    have hi : i < m := e ▸ R.hr k
    obtain ⟨d, rfl⟩ : ∃ d, k = p + d := ⟨k - p, by omega⟩
    obtain ⟨d2, rfl⟩ : ∃ d, k2 = p + d := ⟨k2 - p, by omega⟩
    exact (R.zero hb hi d2 (by omega)).mpr ((R.zero hb hi d (by omega)).mp hd)
  have nb2 : ¬ inB m (b k2) (c k2) := by
    rintro ⟨i, hi, e⟩
    have z := rc_basic (w := w) (R.tab k2) hi
    have := R.neg k2
    rw [e] at z
    omega
  have cne : c k2 ≠ c k1 := fun e => nb2 ⟨r k2, R.hr k2, by rw [u3, e]⟩
  have clt : c k2 < c k1 := by
    have := mx k2 u1 (by omega)
    omega
  have h0 := R.low k1 (c k2) clt
  have al := rc_along (w := w) (R.tab k2) (R.tab k1) (c k2)
  have ng : s k1 * rc m w (b k2) (s k2) (T k2) (c k2) < 0 := by
    have h1 := Int.mul_pos (R.sp k1) (show 0 < - rc m w (b k2) (s k2) (T k2) (c k2) by have := R.neg k2; omega)
    rw [Int.mul_neg] at h1
    omega
  have h1 := Int.mul_nonneg (Int.le_of_lt (R.sp k2)) h0
  obtain ⟨i, hi, hpos⟩ := sm_pos (m := m) (f := fun i => T k2 i (c k2) * rc m w (b k1) (s k1) (T k1) (b k2 i)) (by omega)
  have nbj : ¬ inB m (b k1) (b k2 i) := by
    rintro ⟨l, hl, e⟩
    have z := rc_basic (w := w) (R.tab k1) hl
    rw [e] at z
    try dsimp only at hpos
    rw [z, Int.mul_zero] at hpos
    omega
  have inj2 : inB m (b k2) (b k2 i) := ⟨i, hi, rfl⟩
  -- the place i was pivoted
  have zi : T k2 i g = 0 := by
    have hne : b k1 i ≠ b k2 i := fun e => nbj ⟨i, hi, e⟩
    by_cases o : k1 ≤ k2
    · obtain ⟨d, rfl⟩ : ∃ d, k2 = k1 + d := ⟨k2 - k1, by omega⟩
      obtain ⟨k, x, y, e⟩ := R.place d hne
      exact place0 k i (by omega) (by omega) e
    · obtain ⟨d, rfl⟩ : ∃ d, k1 = k2 + d := ⟨k1 - k2, by omega⟩
      obtain ⟨k, x, y, e⟩ := R.place d (Ne.symm hne)
      exact place0 k i (by omega) (by omega) e
  -- its column enters
  have ⟨k3, v1, v2, v3⟩ : ∃ k, p ≤ k ∧ k < q ∧ c k = b k2 i := by
    by_cases z : inB m (b q) (b k2 i)
    · obtain ⟨d, hd⟩ : ∃ d, q = k1 + d := ⟨q - k1, by omega⟩
      rw [hd] at z
      obtain ⟨k, x, y, e⟩ := R.enter d nbj z
      exact ⟨k, by omega, by omega, e⟩
    · obtain ⟨d, hd⟩ : ∃ d, k2 = p + d := ⟨k2 - p, by omega⟩
      have inj3 := inj2
      rw [show inB m (b k2) (b k2 i) = inB m (b (p + d)) (b k2 i) by rw [← hd]] at inj3
      obtain ⟨k, x, y, e⟩ := R.enter d (fun y => z ((hin _).mp y)) inj3
      exact ⟨k, x, by omega, e⟩
  have jle : b k2 i ≤ c k1 := by
    rw [← v3]
    exact mx k3 v1 (by omega)
  try dsimp only at hpos
  by_cases jt : b k2 i = c k1
  · have ei : i = r k2 := (R.tab k2).inj hi (R.hr k2) (by rw [jt, u3])
    have hp := R.pos k2
    rw [← ei] at hp
    rw [jt] at hpos
    have h2 := Int.mul_pos hp (show 0 < - rc m w (b k1) (s k1) (T k1) (c k1) by have := R.neg k1; omega)
    rw [Int.mul_neg] at h2
    omega
  · have h2 := R.low k1 (b k2 i) (by omega)
    have h3 : 0 < T k2 i (c k2) := by
      by_cases x : 0 < T k2 i (c k2)
      · exact x
      · exfalso
        have h4 := Int.mul_nonneg (show 0 ≤ - T k2 i (c k2) by omega) h2
        rw [Int.neg_mul] at h4
        omega
    have := R.tie k2 i hi h3 (R.degen u1 u2 hb) zi
    rw [u3] at this
    omega
end
/-- a basis as a number -/
def code (N : Nat) (b : Nat → Nat) : Nat → Nat
  | 0 => 0
  | m + 1 => code N b m * N + b m
theorem code_lt {N : Nat} {b : Nat → Nat} : ∀ {m : Nat}, (∀ i, i < m → b i < N) → code N b m < N ^ m
  | 0, _ => by rw [code]; exact Nat.one_pos
  | m + 1, h => by
    rw [code, Nat.pow_succ]
    have h1 := code_lt (m := m) (fun i hi => h i (by omega))
    have h2 := h m (by omega)
    have h3 : (code N b m + 1) * N ≤ N ^ m * N := Nat.mul_le_mul_right N h1
    rw [Nat.add_mul] at h3
    omega
theorem code_inj {N : Nat} {b b' : Nat → Nat} : ∀ {m : Nat}, (∀ i, i < m → b i < N) → (∀ i, i < m → b' i < N) → code N b m = code N b' m → ∀ i, i < m → b i = b' i
  | 0, _, _, _, i, hi => by omega
  | m + 1, h, h', e, i, hi => by
    rw [code, code] at e
    have h1 := h m (by omega)
    have h2 := h' m (by omega)
    have e1 : code N b m = code N b' m := by
      have := congrArg (· / N) e
      try dsimp only at this
      rw [Nat.mul_comm, Nat.mul_add_div (by omega), Nat.div_eq_of_lt h1, Nat.mul_comm, Nat.mul_add_div (by omega), Nat.div_eq_of_lt h2] at this
      exact this
    by_cases a : i = m
    · subst a; rw [e1] at e; omega
    · exact code_inj (m := m) (fun i hi => h i (by omega)) (fun i hi => h' i (by omega)) e1 i (by omega)
/-- no run is without an end -/
theorem Run.ends {m n g N : Nat} {A : Nat → Vec} {w : Nat → Int} {b : Nat → Nat → Nat} {s : Nat → Int} {T : Nat → Nat → Nat → Int} {r c : Nat → Nat} (R : Run m n A w g b s T r c) (h : ∀ k i, i < m → b k i < N) : False := by
  obtain ⟨p, q, hpq, e⟩ := pigeon (N ^ m) (fun k => code N (b k) m) fun k => code_lt (h k)
  exact R.once hpq (code_inj (h p) (h q) e)
end Wd
set_option linter.all false
/-! TrSimp: sizes of the table, its first state, and the two ends of the task. -/
namespace Wd
theorem sm_abs {m K : Nat} {f : Nat → Int} (h : ∀ i, i < m → (f i).natAbs ≤ K) : (sm m f).natAbs ≤ m * K := by
  induction m with
  | zero => rw [sm]; omega
  | succ m ih =>
    rw [sm, Nat.add_mul]
    have h1 := ih fun i hi => h i (by omega)
    have h2 := h m (by omega)
    omega
theorem W_abs {m c : Nat} {B : Nat → Vec} : ∀ {k : Nat} {S : Mask}, (∀ j, j < k → ∀ x, x < m → (B j x).natAbs ≤ c) → (W m B k S).natAbs ≤ (m * c) ^ k
  | 0, _, _ => by rw [W]; exact Nat.le_refl _
  | k + 1, S, h => by
    rw [W, Nat.pow_succ, Nat.mul_comm, Nat.mul_assoc]
    refine sm_abs fun i hi => ?_
    cases S i with
    | false => simp
    | true =>
      rw [if_pos rfl, Int.natAbs_mul, Int.natAbs_mul]
      have e : (sg S i).natAbs = 1 := by rcases sg_low (S := S) (k := i) with e | e <;> rw [e] <;> rfl
      rw [e, Nat.one_mul]
      exact Nat.mul_le_mul (h k (by omega) i hi) (W_abs (k := k) fun j hj => h j (by omega))
theorem D_abs {m c : Nat} {B : Nat → Vec} (h : ∀ j, j < m → ∀ x, x < m → (B j x).natAbs ≤ c) : (D m B).natAbs ≤ (m * c) ^ m := by
  unfold D
  have e : (W m un m full).natAbs = 1 := by rcases W_un (m := m) (k := m) (S := full) (Nat.le_refl _) (fun _ _ => rfl) with e | e <;> rw [e] <;> rfl
  rw [Int.natAbs_mul, e, Nat.one_mul]
  exact W_abs h
theorem D_congr {m : Nat} {B C : Nat → Vec} (h : ∀ j, j < m → ∀ x, x < m → B j x = C j x) : D m B = D m C := by
  unfold D
  rw [W_ext h]
section
variable {m n : Nat} {A : Nat → Vec} {w : Nat → Int} {b : Nat → Nat} {s : Int} {T : Nat → Nat → Int}
/-- the units stand behind the first n columns -/
def Units (m n : Nat) (A : Nat → Vec) : Prop := ∀ k, k < m → ∀ x, x < m → A (n + k) x = un k x
theorem sm_un {m : Nat} (f : Nat → Int) (x : Nat) (hx : x < m) : sm m (fun i => f i * un i x) = f x := by
  rw [sm_one x hx (fun j _ hj => by unfold un; rw [if_neg (Ne.symm hj), Int.mul_zero])]
  unfold un
  rw [if_pos rfl, Int.mul_one]
theorem Tab.first (hu : Units m n A) : Tab m A (fun i => n + i) 1 (fun i j => A j i) := by
  have hB : ∀ j, j < m → ∀ x, x < m → (fun i => A (n + i)) j x = un j x := fun j hj x hx => hu j hj x hx
  have rel : ∀ j x, x < m → 1 * A j x = sm m fun i => A j i * A (n + i) x := fun j x hx => by
    rw [Int.one_mul, sm_congr (g := fun i => A j i * un i x) fun i hi => by rw [hu i hi x hx], sm_un (fun i => A j i) x hx]
  refine ⟨by decide, ?_, fun i j hi => ?_, rel⟩
  · rw [D_congr hB]; exact (D_un m).symm
  · have e := D_comb (B := fun i => A (n + i)) (n := m) (t := fun l => A j l) (V := fun l => A (n + l)) hi (fun x hx => rel j x hx)
    rw [Int.one_mul] at e
    rw [e, sm_one i hi (fun l hl h => ?_)]
    · rw [up_id (fun i => A (n + i)) i, D_congr hB, D_un, Int.mul_one]
    · rw [D_alt (i := i) (j := l) hi hl (Ne.symm h) (by rw [up_same, up_ne h]), Int.mul_zero]
/-- the entries by those in the units' columns -/
theorem Tab.by_units (t : Tab m A b s T) (hu : Units m n A) {i : Nat} (hi : i < m) (j : Nat) : T i j = sm m fun k => A j k * T i (n + k) := by
  have e := D_comb (B := fun i => A (b i)) (s := 1) (v := A j) (n := m) (t := fun k => A j k) (V := fun k => A (n + k)) hi (fun x hx => by
    rw [Int.one_mul, sm_congr (g := fun i => A j i * un i x) fun i hi => by rw [hu i hi x hx], sm_un (fun i => A j i) x hx])
  rw [Int.one_mul, ← t.en i j hi] at e
  rw [e]
  exact sm_congr fun k _ => by rw [← t.en i (n + k) hi]
/-- the weights of the rows: what the costs tell in the units' columns -/
def wt (m : Nat) (w : Nat → Int) (b : Nat → Nat) (T : Nat → Nat → Int) (n k : Nat) : Int := sm m fun i => w (b i) * T i (n + k)
theorem rc_wt (t : Tab m A b s T) (hu : Units m n A) {j : Nat} (hw : w j = 0) : sm m (fun k => wt m w b T n k * A j k) = - rc m w b s T j := by
  unfold rc wt
  rw [hw, Int.mul_zero]
  have e : sm m (fun i => w (b i) * T i j) = sm m fun i => sm m fun k => w (b i) * T i (n + k) * A j k := sm_congr fun i hi => by
    rw [t.by_units hu hi j, ← sm_mul]
    exact sm_congr fun k _ => by grind
  rw [e, sm_swap]
  have e2 : sm m (fun k => (sm m fun i => w (b i) * T i (n + k)) * A j k) = sm m fun k => sm m fun i => w (b i) * T i (n + k) * A j k := sm_congr fun k _ => by
    rw [Int.mul_comm, ← sm_mul]
    exact sm_congr fun i _ => by grind
  rw [e2]
  omega
theorem rc_unit {k : Nat} (hw : w (n + k) = 1) : s - rc m w b s T (n + k) = wt m w b T n k := by
  unfold rc wt
  rw [hw, Int.mul_one]
  omega
theorem Tab.size {c : Nat} (t : Tab m A b s T) {i j : Nat} (hi : i < m) (hA : ∀ i, i < m → ∀ x, x < m → (A (b i) x).natAbs ≤ c) (hj : ∀ x, x < m → (A j x).natAbs ≤ c) : (T i j).natAbs ≤ (m * c) ^ m := by
  rw [t.en i j hi]
  refine D_abs fun k hk x hx => ?_
  unfold up
  split
  · exact hj x hx
  · exact hA k hk x hx
theorem Tab.size_s {c : Nat} (t : Tab m A b s T) (hA : ∀ i, i < m → ∀ x, x < m → (A (b i) x).natAbs ≤ c) : s.natAbs ≤ (m * c) ^ m := by
  rw [t.sc]
  exact D_abs hA
end
end Wd
set_option linter.all false
/-! TrLoop: the states of the pivoting, its steps, and its end. -/
namespace Wd
structure TS where
  b : Nat → Nat
  s : Int
  T : Nat → Nat → Int
section
variable (m n g : Nat) (A : Nat → Vec) (w : Nat → Int)
def rcS (t : TS) (j : Nat) : Int := rc m w t.b t.s t.T j
/-- a state of the task -/
structure Good (t : TS) : Prop where
  tab : Tab m A t.b t.s t.T
  sp : 0 < t.s
  rhs : ∀ i, i < m → 0 ≤ t.T i g
  bd : ∀ i, i < m → t.b i < n + m
/-- the first column with a negative cost -/
structure EnOk (t : TS) (c : Nat) : Prop where
  lt : c < n
  neg : rcS m w t c < 0
  low : ∀ j, j < c → 0 ≤ rcS m w t j
/-- the row that leaves for the column c -/
structure LvOk (t : TS) (c r : Nat) : Prop where
  lt : r < m
  pos : 0 < t.T r c
  min : ∀ i, i < m → 0 < t.T i c → t.T r g * t.T i c < t.T i g * t.T r c ∨ (t.T r g * t.T i c = t.T i g * t.T r c ∧ t.b r ≤ t.b i)
def pv (t : TS) (r c : Nat) : TS := ⟨upN t.b r c, t.T r c, nxt m A t.b r c⟩
end
section
variable {m n g : Nat} {A : Nat → Vec} {w : Nat → Int} {t : TS} {r r' c c' : Nat}
theorem EnOk.uni (h : EnOk m n w t c) (h' : EnOk m n w t c') : c = c' := by
  have h1 := h.neg
  have h2 := h'.neg
  by_cases a : c < c'
  · have := h'.low c a; omega
  · by_cases b : c' < c
    · have := h.low c' b; omega
    · omega
theorem LvOk.uni (G : Good m n g A t) (h : LvOk m g t c r) (h' : LvOk m g t c r') : r = r' := by
  have h1 := h.min r' h'.lt h'.pos
  have h2 := h'.min r h.lt h.pos
  exact G.tab.inj h.lt h'.lt (by omega)
theorem Good.step (G : Good m n g A t) (hc : c < n) (h : LvOk m g t c r) : Good m n g A (pv m A t r c) := by
  refine ⟨G.tab.pivot h.lt (by have := h.pos; omega), h.pos, fun i hi => ?_, fun i hi => ?_⟩
  · show 0 ≤ nxt m A t.b r c i g
    by_cases a : i = r
    · rw [a, nxt_row G.tab h.lt]; exact G.rhs r h.lt
    · have e := nxt_eq G.tab h.lt hi a (c := c) g
      have hr := G.rhs r h.lt
      have hi2 := G.rhs i hi
      have hp := h.pos
      have hs := G.sp
      have : 0 ≤ t.s * nxt m A t.b r c i g := by
        rw [e]
        by_cases z : 0 < t.T i c
        · have := h.min i hi z
          rw [Int.mul_comm (t.T r c), Int.mul_comm (t.T i c)]
          omega
        · have h1 := Int.mul_nonneg (Int.le_of_lt hp) hi2
          have h2 := Int.mul_nonneg (show 0 ≤ - t.T i c by omega) hr
          rw [Int.neg_mul] at h2
          omega
      exact Int.le_of_mul_le_mul_left (a := t.s) (by rw [Int.mul_zero]; exact this) hs
  · show upN t.b r c i < n + m
    unfold upN
    split
    · omega
    · exact G.bd i hi
/-- a column that may enter has a positive entry -/
theorem Good.row (G : Good m n g A t) (hw : ∀ j, 0 ≤ w j) (hc : EnOk m n w t c) (w0 : w c = 0) : ∃ i, i < m ∧ 0 < t.T i c := by
  have h := hc.neg
  unfold rcS rc at h
  rw [w0, Int.mul_zero] at h
  obtain ⟨i, hi, p⟩ := sm_pos (m := m) (f := fun i => w (t.b i) * t.T i c) (by omega)
  refine ⟨i, hi, ?_⟩
  by_cases z : 0 < t.T i c
  · exact z
  · have h2 := Int.mul_nonneg (hw (t.b i)) (show 0 ≤ - t.T i c by omega)
    rw [Int.mul_neg] at h2
    try dsimp only at p
    omega
open Classical in
noncomputable def nextS (m n g : Nat) (A : Nat → Vec) (w : Nat → Int) (t : TS) : TS :=
  if h : ∃ q : Nat × Nat, EnOk m n w t q.2 ∧ LvOk m g t q.2 q.1 then pv m A t h.choose.1 h.choose.2 else t
theorem nextS_eq (G : Good m n g A t) (hc : EnOk m n w t c) (hr : LvOk m g t c r) : nextS m n g A w t = pv m A t r c := by
  unfold nextS
  have h : ∃ q : Nat × Nat, EnOk m n w t q.2 ∧ LvOk m g t q.2 q.1 := ⟨(r, c), hc, hr⟩
  rw [dif_pos h]
  have z := h.choose_spec
  have e := z.1.uni hc
  have z2 := z.2
  rw [e] at z2 ⊢
  rw [z2.uni G hr]
def iter (f : TS → TS) : Nat → TS → TS
  | 0, t => t
  | k + 1, t => f (iter f k t)
/-- the steps come to an end -/
theorem fuel (G : Good m n g A t) (hlv : ∀ t c, Good m n g A t → EnOk m n w t c → ∃ r, LvOk m g t c r) : ∃ k, ¬ ∃ c, EnOk m n w (iter (nextS m n g A w) k t) c := by
  refine Classical.byContradiction fun no => ?_
  have all : ∀ k, ∃ c, EnOk m n w (iter (nextS m n g A w) k t) c := fun k => Classical.byContradiction fun z => no ⟨k, z⟩
  have gd : ∀ k, Good m n g A (iter (nextS m n g A w) k t) := fun k => by
    induction k with
    | zero => exact G
    | succ k ih =>
      obtain ⟨c, hc⟩ := all k
      obtain ⟨r, hr⟩ := hlv _ _ ih hc
      rw [iter, nextS_eq ih hc hr]
      exact ih.step hc.lt hr
  have both : ∀ k, ∃ q : Nat × Nat, EnOk m n w (iter (nextS m n g A w) k t) q.2 ∧ LvOk m g (iter (nextS m n g A w) k t) q.2 q.1 := fun k => by
    obtain ⟨c, hc⟩ := all k
    obtain ⟨r, hr⟩ := hlv _ _ (gd k) hc
    exact ⟨(r, c), hc, hr⟩
  have ⟨q, hq⟩ : ∃ q : Nat → Nat × Nat, ∀ k, EnOk m n w (iter (nextS m n g A w) k t) (q k).2 ∧ LvOk m g (iter (nextS m n g A w) k t) (q k).2 (q k).1 := ⟨fun k => (both k).choose, fun k => (both k).choose_spec⟩
  have nx : ∀ k, iter (nextS m n g A w) (k + 1) t = pv m A (iter (nextS m n g A w) k t) (q k).1 (q k).2 := fun k => by
    rw [iter]
    exact nextS_eq (gd k) (hq k).1 (hq k).2
  generalize iter (nextS m n g A w) = z at *
  have R : Run m n A w g (fun k => (z k t).b) (fun k => (z k t).s) (fun k => (z k t).T) (fun k => (q k).1) (fun k => (q k).2) := {
    tab := fun k => (gd k).tab
    sp := fun k => (gd k).sp
    hr := fun k => (hq k).2.lt
    hc := fun k => (hq k).1.lt
    neg := fun k => (hq k).1.neg
    low := fun k j hj => (hq k).1.low j hj
    pos := fun k => (hq k).2.pos
    rhs := fun k i hi => (gd k).rhs i hi
    tie := fun k i hi h1 h2 h3 => by
      have := (hq k).2.min i hi h1
      try dsimp only at h2 h3
      rw [h2, h3, Int.zero_mul, Int.zero_mul] at this
      show (z k t).b (q k).1 ≤ (z k t).b i
      omega
    nb := fun k => by show (z (k + 1) t).b = _; rw [nx]; rfl
    ns := fun k => by show (z (k + 1) t).s = _; rw [nx]; rfl
    nT := fun k i j hi => by show (z (k + 1) t).T i j = _; rw [nx]; rfl }
  exact R.ends (N := n + m) fun k i hi => (gd k).bd i hi
end
end Wd
set_option linter.all false
/-! TrEnds: the leaving row found row by row; the two answers of the task. -/
namespace Wd
section
variable {m n g : Nat} {A : Nat → Vec} {w : Nat → Int} {t : TS} {c r k : Nat}
/-- the leaving row among the first k -/
structure LvK (k g : Nat) (t : TS) (c r : Nat) : Prop where
  lt : r < k
  pos : 0 < t.T r c
  min : ∀ i, i < k → 0 < t.T i c → t.T r g * t.T i c < t.T i g * t.T r c ∨ (t.T r g * t.T i c = t.T i g * t.T r c ∧ t.b r ≤ t.b i)
theorem LvK.all (h : LvK m g t c r) : LvOk m g t c r := ⟨h.lt, h.pos, h.min⟩
/-- row one against row other -/
def Tighter (g : Nat) (t : TS) (c one other : Nat) : Prop := t.T one g * t.T other c < t.T other g * t.T one c ∨ (t.T one g * t.T other c = t.T other g * t.T one c ∧ t.b one < t.b other)
theorem LvK.skip (h : LvK k g t c r) (z : ¬ 0 < t.T k c) : LvK (k + 1) g t c r := ⟨by have := h.lt; omega, h.pos, fun i hi p => by
  by_cases e : i = k
  · subst e; exact absurd p z
  · exact h.min i (by omega) p⟩
theorem LvK.keep (h : LvK k g t c r) (z : ¬ Tighter g t c k r) : LvK (k + 1) g t c r := ⟨by have := h.lt; omega, h.pos, fun i hi p => by
  by_cases e : i = k
  · subst e
    unfold Tighter at z
    omega
  · exact h.min i (by omega) p⟩
theorem LvK.take (h : LvK k g t c r) (p : 0 < t.T k c) (z : Tighter g t c k r) : LvK (k + 1) g t c k := ⟨by omega, p, fun i hi q => by
  by_cases e : i = k
  · subst e; exact .inr ⟨rfl, Nat.le_refl _⟩
  · have m1 := h.min i (by omega) q
    have hr := h.pos
    unfold Tighter at z
    have e1 : t.T k g * t.T i c * t.T r c = t.T k g * t.T r c * t.T i c := by grind
    have e2 : t.T i g * t.T k c * t.T r c = t.T i g * t.T r c * t.T k c := by grind
    have e3 : t.T r g * t.T k c * t.T i c = t.T r g * t.T i c * t.T k c := by grind
    have lt : t.T k g * t.T i c * t.T r c < t.T i g * t.T k c * t.T r c → t.T k g * t.T i c < t.T i g * t.T k c := fun x => Int.lt_of_mul_lt_mul_right x (Int.le_of_lt hr)
    have eq : t.T k g * t.T i c * t.T r c = t.T i g * t.T k c * t.T r c → t.T k g * t.T i c = t.T i g * t.T k c := fun x => Int.eq_of_mul_eq_mul_right (by omega) x
    rcases z with z | ⟨z, z'⟩
    · have a := Int.mul_lt_mul_of_pos_right z q
      rcases m1 with y | ⟨y, y'⟩
      · have b := Int.mul_lt_mul_of_pos_right y p
        exact .inl (lt (by omega))
      · have b := congrArg (· * t.T k c) y
        try dsimp only at b
        exact .inl (lt (by omega))
    · have a := congrArg (· * t.T i c) z
      try dsimp only at a
      rcases m1 with y | ⟨y, y'⟩
      · have b := Int.mul_lt_mul_of_pos_right y p
        exact .inl (lt (by omega))
      · have b := congrArg (· * t.T k c) y
        try dsimp only at b
        exact .inr ⟨eq (by omega), by omega⟩⟩
theorem LvK.first (h : ∀ i, i < k → ¬ 0 < t.T i c) (p : 0 < t.T k c) : LvK (k + 1) g t c k := ⟨by omega, p, fun i hi q => by
  by_cases e : i = k
  · subst e; exact .inr ⟨rfl, Nat.le_refl _⟩
  · exact absurd q (h i (by omega))⟩
theorem lvK_ex (g : Nat) (t : TS) (c : Nat) : ∀ k, (∀ i, i < k → ¬ 0 < t.T i c) ∨ ∃ r, LvK k g t c r
  | 0 => .inl fun i hi => by omega
  | k + 1 => by
    rcases lvK_ex g t c k with h | ⟨r, h⟩
    · by_cases p : 0 < t.T k c
      · exact .inr ⟨k, .first h p⟩
      · refine .inl fun i hi => ?_
        by_cases e : i = k
        · subst e; exact p
        · exact h i (by omega)
    · by_cases p : 0 < t.T k c
      · by_cases z : Tighter g t c k r
        · exact .inr ⟨k, h.take p z⟩
        · exact .inr ⟨r, h.keep z⟩
      · exact .inr ⟨r, h.skip p⟩
theorem lv_ex (hw : ∀ j, 0 ≤ w j) (w0 : ∀ j, j < n → w j = 0) (t : TS) (c : Nat) (G : Good m n g A t) (hc : EnOk m n w t c) : ∃ r, LvOk m g t c r := by
  rcases lvK_ex g t c m with h | ⟨r, h⟩
  · obtain ⟨i, hi, p⟩ := G.row hw hc (w0 c hc.lt)
    exact absurd p (h i hi)
  · exact ⟨r, h.all⟩
theorem fuel_of (hw : ∀ j, 0 ≤ w j) (w0 : ∀ j, j < n → w j = 0) (G : Good m n g A t) : ∃ k, ¬ ∃ c, EnOk m n w (iter (nextS m n g A w) k t) c := fuel G (lv_ex hw w0)
/-! ### the answers -/
theorem done_low (h : ¬ ∃ c, EnOk m n w t c) {j : Nat} (hj : j < n) : 0 ≤ rcS m w t j := by
  refine Classical.byContradiction fun z => h ?_
  -- the least such column
  have : ∀ d j, j ≤ d → j < n → rcS m w t j < 0 → ∃ c, EnOk m n w t c := fun d => by
    induction d with
    | zero => intro j h1 h2 h3; exact ⟨j, h2, h3, fun i hi => by omega⟩
    | succ d ih =>
      intro j h1 h2 h3
      by_cases a : ∃ i, i < j ∧ rcS m w t i < 0
      · obtain ⟨i, x, y⟩ := a
        exact ih i (by omega) (by omega) y
      · refine ⟨j, h2, h3, fun i hi => ?_⟩
        by_cases y : 0 ≤ rcS m w t i
        · exact y
        · exact absurd ⟨i, hi, by omega⟩ a
  exact this j j (Nat.le_refl _) hj (by omega)
/-- weights that bar -/
theorem barred (G : Good m n g A t) (hu : Units m n A) (w0 : ∀ j, j < n → w j = 0) (wg : w g = 0) (w1 : ∀ k, k < m → w (n + k) = 1) (h : ¬ ∃ c, EnOk m n w t c) (neg : rcS m w t g < 0) :
    (∀ j, j < n → sm m (fun k => (t.s - rcS m w t (n + k)) * A j k) ≤ 0) ∧ 0 < sm m (fun k => (t.s - rcS m w t (n + k)) * A g k) := by
  have e : ∀ j, w j = 0 → sm m (fun k => (t.s - rcS m w t (n + k)) * A j k) = - rcS m w t j := fun j hj => by
    have := rc_wt G.tab hu hj
    unfold rcS
    rw [← this]
    exact sm_congr fun k hk => by rw [rc_unit (w1 k hk)]
  refine ⟨fun j hj => ?_, ?_⟩
  · rw [e j (w0 j hj)]
    have := done_low h hj
    omega
  · rw [e g wg]; omega
/-- multiples that reach the goal -/
def mult (m g : Nat) (t : TS) (j : Nat) : Int := sm m fun i => if t.b i = j then t.T i g else 0
theorem sm_nonneg_zero {m : Nat} {f : Nat → Int} (h : ∀ i, i < m → 0 ≤ f i) (e : sm m f ≤ 0) : ∀ i, i < m → f i = 0 := by
  induction m with
  | zero => intro i hi; omega
  | succ m ih =>
    rw [sm] at e
    have h1 := sm_nonneg fun i (hi : i < m) => h i (by omega)
    have h2 := h m (by omega)
    intro i hi
    by_cases a : i = m
    · subst a; omega
    · exact ih (fun i hi => h i (by omega)) (by omega) i (by omega)
theorem combined (G : Good m n g A t) (hw : ∀ j, 0 ≤ w j) (wg : w g = 0) (w1 : ∀ k, k < m → w (n + k) = 1) (nn : 0 ≤ rcS m w t g) :
    (∀ j, 0 ≤ mult m g t j) ∧ ∀ x, x < m → sm n (fun j => mult m g t j * A j x) = t.s * A g x := by
  have z : ∀ i, i < m → w (t.b i) * t.T i g = 0 := by
    refine sm_nonneg_zero (fun i hi => Int.mul_nonneg (hw _) (G.rhs i hi)) ?_
    unfold rcS rc at nn
    rw [wg, Int.mul_zero] at nn
    omega
  have zb : ∀ i, i < m → ¬ t.b i < n → t.T i g = 0 := fun i hi h => by
    have h1 := z i hi
    have h2 := G.bd i hi
    have h3 := w1 (t.b i - n) (by omega)
    rw [show n + (t.b i - n) = t.b i by omega] at h3
    rw [h3, Int.one_mul] at h1
    exact h1
  refine ⟨fun j => sm_nonneg fun i hi => ?_, fun x hx => ?_⟩
  · split
    · exact G.rhs i hi
    · exact Int.le_refl _
  · rw [G.tab.rel g x hx]
    have e : sm n (fun j => mult m g t j * A j x) = sm n fun j => sm m fun i => (if t.b i = j then t.T i g else 0) * A j x := sm_congr fun j _ => by
      unfold mult
      rw [Int.mul_comm, ← sm_mul]
      exact sm_congr fun i _ => Int.mul_comm _ _
    rw [e, sm_swap]
    refine sm_congr fun i hi => ?_
    by_cases a : t.b i < n
    · rw [sm_one (t.b i) a (fun j _ hj => by rw [if_neg (Ne.symm hj), Int.zero_mul]), if_pos rfl]
    · rw [zb i hi a, Int.zero_mul]
      rw [sm_congr (g := fun _ => 0) (fun j _ => by split <;> exact Int.zero_mul _), sm_zero]
/-- the entry of a basis column -/
theorem mult_basic (G : Good m n g A t) {i : Nat} (hi : i < m) : mult m g t (t.b i) = t.T i g := by
  unfold mult
  rw [sm_one i hi (fun k hk h => if_neg fun e => h (G.tab.inj hk hi e)), if_pos rfl]
theorem mult_other {j : Nat} (h : ∀ i, i < m → t.b i ≠ j) : mult m g t j = 0 := by
  unfold mult
  rw [sm_congr (g := fun _ => 0) (fun i hi => if_neg (h i hi)), sm_zero]
end
end Wd
set_option Elab.async false
set_option linter.all false
set_option maxRecDepth 100000
set_option maxHeartbeats 4000000
/-! MrA: mirrors. The world G (frozen), the owned objects M, what stands in the slots; the mirror's monad; the judgements over the hand layer's transformers. -/
namespace Mr
open PySem PySem.Spec PyProof.Rows L2

/-! ### worlds -/
def Sub (G H : Hp) : Prop := ∀ a o, G a = some o → H a = some o
theorem Sub.refl (H : Hp) : Sub H H := fun _ _ h => h
theorem Sub.trans {G H I : Hp} (a : Sub G H) (b : Sub H I) : Sub G I := fun x o h => b x o (a x o h)
theorem Sub.new {H : Hp} {p : Addr} {o : HO} (h : H p = none) : Sub H (upd H p o) := fun a u e => by
  rw [upd_ne (ne_of_none e h)]
  exact e
/-- what a value stands for -/
structure Dn where
  P : Hp → V → Prop
  mono : ∀ {G H : Hp} {v : V}, Sub G H → P G v → P H v
/-- what an owned object holds -/
structure Cn where
  P : Hp → HO → Prop
  mono : ∀ {G H : Hp} {o : HO}, Sub G H → P G o → P H o
abbrev Mm := List (Addr × Cn)
abbrev Adr := Nat → Addr
structure At (G : Hp) (M : Mm) (H : Hp) : Prop where
  sub : Sub G H
  own : ∀ q ∈ M, (∃ o, H q.1 = some o ∧ q.2.P G o) ∧ G q.1 = none
  nd : (M.map (·.1)).Nodup
section
variable {G H H' : Hp} {M M' : Mm} {p q : Addr} {o u : HO} {c c' : Cn}
theorem At.hd (A : At G ((p, c) :: M) H) : ∃ o, H p = some o ∧ c.P G o := (A.own (p, c) List.mem_cons_self).1
theorem At.gn (A : At G ((p, c) :: M) H) : G p = none := (A.own (p, c) List.mem_cons_self).2
theorem At.tl {a : Addr × Cn} (A : At G (a :: M) H) : At G M H := ⟨A.sub, fun q h => A.own q (List.mem_cons_of_mem _ h), (List.nodup_cons.mp A.nd).2⟩
theorem At.nm (A : At G ((p, c) :: M) H) : ∀ q ∈ M, q.1 ≠ p := fun q h e => (List.nodup_cons.mp A.nd).1 (by
  have h1 := List.mem_map_of_mem (f := fun q : Addr × Cn => q.1) h
  rw [show q.1 = p from e] at h1
  exact h1)
theorem At.fresh (A : At G M H) (h : H p = none) : G p = none := by
  cases e : G p with
  | none => rfl
  | some x => rw [A.sub p x e] at h; cases h
theorem At.up {G' : Hp} (A : At G M H) (h : H p = none) : ∀ q ∈ M, q.1 ≠ p := fun q hq e => by
  obtain ⟨⟨o, e1, _⟩, _⟩ := A.own q hq
  rw [e, h] at e1; cases e1
theorem At.new (A : At G M H) (h : H p = none) (hc : c.P G o) : At G ((p, c) :: M) (upd H p o) := by
  refine ⟨A.sub.trans (Sub.new h), fun q hq => ?_, ?_⟩
  · rcases List.mem_cons.mp hq with rfl | hq
    · exact ⟨⟨o, upd_same, hc⟩, A.fresh h⟩
    · obtain ⟨⟨x, h1, h3⟩, h2⟩ := A.own q hq
      exact ⟨⟨x, by rw [upd_ne (ne_of_none h1 h)]; exact h1, h3⟩, h2⟩
  · rw [List.map_cons, List.nodup_cons]
    refine ⟨fun hm => ?_, A.nd⟩
    obtain ⟨q, hq, e⟩ := List.mem_map.mp hm
    exact A.up (G' := G) h q hq e
theorem At.put (A : At G ((p, c) :: M) H) (hc : c'.P G u) : At G ((p, c') :: M) (upd H p u) := by
  refine ⟨fun a x e => ?_, fun q hq => ?_, A.nd⟩
  · have n : a ≠ p := fun z => by rw [z, A.gn] at e; cases e
    rw [upd_ne n]; exact A.sub a x e
  · rcases List.mem_cons.mp hq with rfl | hq
    · exact ⟨⟨u, upd_same, hc⟩, A.gn⟩
    · obtain ⟨⟨x, h1, h3⟩, h2⟩ := A.own q (List.mem_cons_of_mem _ hq)
      exact ⟨⟨x, by rw [upd_ne (A.nm q hq)]; exact h1, h3⟩, h2⟩
/-- an owned object is given to the world -/
theorem At.frz (A : At G ((p, c) :: M) H) (h : H p = some o) : At (upd G p o) M H := by
  refine ⟨fun a x e => ?_, fun q hq => ?_, (List.nodup_cons.mp A.nd).2⟩
  · by_cases z : a = p
    · subst z; rw [upd_same] at e; cases e; exact h
    · rw [upd_ne z] at e; exact A.sub a x e
  · obtain ⟨⟨x, h1, h3⟩, h2⟩ := A.own q (List.mem_cons_of_mem _ hq)
    exact ⟨⟨x, h1, q.2.mono (Sub.new A.gn) h3⟩, by rw [upd_ne (A.nm q hq)]; exact h2⟩
theorem At.frzS (A : At G ((p, c) :: M) H) : Sub G (upd G p o) := Sub.new A.gn
theorem At.newG (A : At G M H) (h : H p = none) : At (upd G p o) M (upd H p o) := by
  have A2 := A.new (o := o) (c := ⟨fun _ u => u = o, fun _ h => h⟩) h rfl
  exact A2.frz upd_same
theorem At.newS (A : At G M H) (h : H p = none) : Sub G (upd G p o) := Sub.new (A.fresh h)
theorem At.perm (A : At G M H) (h : M.Perm M') : At G M' H := ⟨A.sub, fun q hq => A.own q (h.mem_iff.mpr hq), (h.map _).nodup_iff.mp A.nd⟩
theorem At.sbl (A : At G M H) (h : M'.Sublist M) : At G M' H := ⟨A.sub, fun q hq => A.own q (h.subset hq), A.nd.sublist (h.map _)⟩
theorem At.weak (A : At G ((p, c) :: M) H) (h : ∀ G o, c.P G o → c'.P G o) : At G ((p, c') :: M) H :=
  ⟨A.sub, fun q hq => by
    rcases List.mem_cons.mp hq with rfl | hq
    · obtain ⟨o, h1, h2⟩ := A.hd; exact ⟨⟨o, h1, h _ _ h2⟩, A.gn⟩
    · exact A.own q (List.mem_cons_of_mem _ hq), A.nd⟩
theorem At.ext (A : At G M H) (s : Sub H H') : At G M H' := ⟨A.sub.trans s, fun q hq => by
  obtain ⟨⟨x, h1, h3⟩, h2⟩ := A.own q hq
  exact ⟨⟨x, s _ _ h1, h3⟩, h2⟩, A.nd⟩
/-- the object at p has changed, all others stayed -/
theorem At.chg (A : At G ((p, c) :: M) H) (s : ∀ a x, a ≠ p → H a = some x → H' a = some x) (h : H' p = some u) (hc : c'.P G u) : At G ((p, c') :: M) H' := by
  refine ⟨fun a x e => ?_, fun q hq => ?_, A.nd⟩
  · have n : a ≠ p := fun z => by rw [z, A.gn] at e; cases e
    exact s a x n (A.sub a x e)
  · rcases List.mem_cons.mp hq with rfl | hq
    · exact ⟨⟨u, h, hc⟩, A.gn⟩
    · obtain ⟨⟨x, h1, h3⟩, h2⟩ := A.own q (List.mem_cons_of_mem _ hq)
      exact ⟨⟨x, s _ _ (A.nm q hq) h1, h3⟩, h2⟩
/-- a new owned object in a heap that has grown -/
theorem At.more (A : At G M H) (s : Sub H H') (n : H p = none) (h : H' p = some o) (hc : c.P G o) : At G ((p, c) :: M) H' := by
  refine ⟨A.sub.trans s, fun q hq => ?_, ?_⟩
  · rcases List.mem_cons.mp hq with rfl | hq
    · exact ⟨⟨o, h, hc⟩, A.fresh n⟩
    · exact (A.ext s).own q hq
  · rw [List.map_cons, List.nodup_cons]
    refine ⟨fun hm => ?_, A.nd⟩
    obtain ⟨q, hq, e⟩ := List.mem_map.mp hm
    exact A.up (G' := G) n q hq e
theorem At.mono {G' : Hp} (A : At G M H) (s : Sub G G') (s' : Sub G' H) (hn : ∀ q ∈ M, G' q.1 = none) : At G' M H := ⟨s', fun q hq => by
  obtain ⟨⟨x, h1, h3⟩, _⟩ := A.own q hq
  exact ⟨⟨x, h1, q.2.mono s h3⟩, hn q hq⟩, A.nd⟩
theorem At.self (H : Hp) : At H [] H := ⟨Sub.refl H, fun q h => (nomatch h), List.nodup_nil⟩
end
/-- the k-th to the front -/
theorem front {M : Mm} {a : Addr × Cn} : ∀ (k : Nat), M[k]? = some a → M.Perm (a :: M.eraseIdx k) := by
  induction M with
  | nil => intro k h; cases h
  | cons b r ih =>
    intro k h
    cases k with
    | zero => cases h; exact List.Perm.refl _
    | succ k => exact ((ih k h).cons b).trans (List.Perm.swap a b _)

/-! ### typed values -/
class Enc (α : Type) where
  dn : α → Dn
abbrev dn {α : Type} [Enc α] (x : α) : Dn := Enc.dn x
def dI (i : Int) : Dn := ⟨fun _ v => v = .int i, fun _ h => h⟩
def dB (b : Bool) : Dn := ⟨fun _ v => v = .bl b, fun _ h => h⟩
def dS (s : Str) : Dn := ⟨fun _ v => v = .str s, fun _ h => h⟩
def dN : Dn := ⟨fun _ v => v = .non, fun _ h => h⟩
/-- the object at p itself -/
def dR (p : Addr) : Dn := ⟨fun _ v => v = .ref p, fun _ h => h⟩
/-- the values of a list's items -/
def Dens : List Dn → Hp → List V → Prop
  | [], _, vs => vs = []
  | D :: Ds, G, vs => ∃ v r, vs = v :: r ∧ D.P G v ∧ Dens Ds G r
theorem Dens.mono {G H : Hp} (s : Sub G H) : ∀ {Ds : List Dn} {vs : List V}, Dens Ds G vs → Dens Ds H vs
  | [], _, h => h
  | D :: Ds, _, ⟨v, r, e, h1, h2⟩ => ⟨v, r, e, D.mono s h1, Dens.mono s h2⟩
theorem Dens.length {G : Hp} : ∀ {Ds : List Dn} {vs : List V}, Dens Ds G vs → vs.length = Ds.length
  | [], _, h => by rw [show _ = [] from h]; rfl
  | D :: Ds, _, ⟨v, r, e, h1, h2⟩ => by rw [e, List.length_cons, List.length_cons, Dens.length h2]
theorem Dens.get {G : Hp} : ∀ {Ds : List Dn} {vs : List V} {i : Nat} {D : Dn}, Dens Ds G vs → Ds[i]? = some D → ∃ v, vs[i]? = some v ∧ D.P G v
  | [], _, i, D, h, e => by cases e
  | D :: Ds, _, 0, _, ⟨v, r, e, h1, h2⟩, q => by cases q; subst e; exact ⟨v, rfl, h1⟩
  | D :: Ds, _, i + 1, _, ⟨v, r, e, h1, h2⟩, q => by
    subst e
    obtain ⟨w, a, b⟩ := Dens.get (i := i) h2 (by simpa using q)
    exact ⟨w, by simpa using a, b⟩
theorem Dens.append {G : Hp} : ∀ {Ds Es : List Dn} {vs ws : List V}, Dens Ds G vs → Dens Es G ws → Dens (Ds ++ Es) G (vs ++ ws)
  | [], _, _, _, h, k => by rw [show _ = [] from h]; exact k
  | D :: Ds, _, _, _, ⟨v, r, e, h1, h2⟩, k => ⟨v, r ++ _, by rw [e]; rfl, h1, Dens.append h2 k⟩
theorem Dens.one {G : Hp} {D : Dn} {v : V} (h : D.P G v) : Dens [D] G [v] := ⟨v, [], rfl, h, rfl⟩
theorem Dens.set {G : Hp} {D : Dn} {v : V} (h : D.P G v) : ∀ {Ds : List Dn} {vs : List V} (i : Nat), Dens Ds G vs → Dens (Ds.set i D) G (vs.set i v)
  | [], _, i, k => by rw [show _ = [] from k]; exact rfl
  | E :: Ds, _, 0, ⟨w, r, e, h1, h2⟩ => by subst e; exact ⟨v, r, rfl, h, h2⟩
  | E :: Ds, _, i + 1, ⟨w, r, e, h1, h2⟩ => by subst e; exact ⟨w, r.set i v, rfl, h1, Dens.set h i h2⟩
theorem Dens.take {G : Hp} : ∀ {Ds : List Dn} {vs : List V} (n : Nat), Dens Ds G vs → Dens (Ds.take n) G (vs.take n)
  | _, _, 0, _ => rfl
  | [], _, n + 1, k => by rw [show _ = [] from k]; exact rfl
  | E :: Ds, _, n + 1, ⟨w, r, e, h1, h2⟩ => by subst e; exact ⟨w, r.take n, rfl, h1, Dens.take n h2⟩
theorem Dens.drop {G : Hp} : ∀ {Ds : List Dn} {vs : List V} (n : Nat), Dens Ds G vs → Dens (Ds.drop n) G (vs.drop n)
  | _, _, 0, k => k
  | [], _, n + 1, k => by rw [show _ = [] from k]; exact rfl
  | E :: Ds, _, n + 1, ⟨w, r, e, h1, h2⟩ => by subst e; exact Dens.drop n h2
theorem Dens.dropLast {G : Hp} {Ds : List Dn} {vs : List V} (h : Dens Ds G vs) : Dens Ds.dropLast G vs.dropLast := by
  rw [List.dropLast_eq_take, List.dropLast_eq_take, h.length]; exact h.take _
theorem Dens.eraseIdx {G : Hp} : ∀ {Ds : List Dn} {vs : List V} (i : Nat), Dens Ds G vs → Dens (Ds.eraseIdx i) G (vs.eraseIdx i)
  | [], _, i, k => by rw [show _ = [] from k]; exact rfl
  | E :: Ds, _, 0, ⟨w, r, e, h1, h2⟩ => by subst e; exact h2
  | E :: Ds, _, i + 1, ⟨w, r, e, h1, h2⟩ => by subst e; exact ⟨w, r.eraseIdx i, rfl, h1, Dens.eraseIdx i h2⟩
/-- a list, frozen -/
def dL {α : Type} [Enc α] (xs : List α) : Dn := ⟨fun G v => ∃ p vs, v = .ref p ∧ G p = some (.lst vs) ∧ Dens (xs.map dn) G vs, fun s ⟨p, vs, e, h, d⟩ => ⟨p, vs, e, s _ _ h, d.mono s⟩⟩
/-- a tuple of known parts, frozen -/
def dT (Ds : List Dn) : Dn := ⟨fun G v => ∃ p vs, v = .ref p ∧ G p = some (.tup vs) ∧ Dens Ds G vs, fun s ⟨p, vs, e, h, d⟩ => ⟨p, vs, e, s _ _ h, d.mono s⟩⟩
/-- a tuple of equal kinds -/
structure Tp (α : Type) where
  l : List α
  deriving DecidableEq
/-- a list, owned -/
def cL {α : Type} [Enc α] (xs : List α) : Cn := ⟨fun G o => ∃ vs, o = .lst vs ∧ Dens (xs.map dn) G vs, fun s ⟨vs, e, d⟩ => ⟨vs, e, d.mono s⟩⟩
/-- .. these very values -/
def cX {α : Type} [Enc α] (vs : List V) (xs : List α) : Cn := ⟨fun G o => o = .lst vs ∧ Dens (xs.map dn) G vs, fun s ⟨e, d⟩ => ⟨e, d.mono s⟩⟩
instance : Enc Int := ⟨dI⟩
instance : Enc Bool := ⟨dB⟩
instance : Enc Str := ⟨dS⟩
instance : Enc Unit := ⟨fun _ => dN⟩
instance {α : Type} [Enc α] : Enc (List α) := ⟨dL⟩
instance {α β : Type} [Enc α] [Enc β] : Enc (α × β) := ⟨fun x => dT [dn x.1, dn x.2]⟩
instance {α : Type} [Enc α] : Enc (Tp α) := ⟨fun x => dT (x.l.map dn)⟩

/-! ### the mirror's monad -/
inductive XA where
  | non | int (i : Int) | str (s : Str) | pair (p q : Int) | ints (l : List Int)
structure Exc where
  cls : Nat
  arg : XA
inductive R (α : Type) where
  | ok (a : α)
  | exc (x : Exc)
  | bad
def R.wp {α : Type} (m : R α) (Q : α → Prop) (E : Exc → Prop) : Prop := match m with
  | .ok a => Q a
  | .exc x => E x
  | .bad => False
def R.bind {α β : Type} (m : R α) (k : α → R β) : R β := match m with
  | .ok a => k a
  | .exc x => .exc x
  | .bad => .bad
def R.nx {α : Type} (m : R α) : R α := match m with
  | .ok a => .ok a
  | _ => .bad
open Classical in
noncomputable def chk {α : Type} (c : Prop) (m : R α) : R α := if c then m else .bad
theorem wp_ok {α : Type} {a : α} {Q : α → Prop} {E : Exc → Prop} : (R.ok a).wp Q E = Q a := rfl
theorem wp_exc {α : Type} {x : Exc} {Q : α → Prop} {E : Exc → Prop} : (R.exc x : R α).wp Q E = E x := rfl
theorem wp_bad {α : Type} {Q : α → Prop} {E : Exc → Prop} : (R.bad : R α).wp Q E = False := rfl
theorem wp_bind {α β : Type} {m : R α} {k : α → R β} {Q : β → Prop} {E : Exc → Prop} : (m.bind k).wp Q E = m.wp (fun a => (k a).wp Q E) E := by cases m <;> rfl
theorem wp_nx {α : Type} {m : R α} {Q : α → Prop} {E : Exc → Prop} : m.nx.wp Q E = m.wp Q (fun _ => False) := by cases m <;> rfl
theorem wp_chk {α : Type} {c : Prop} {m : R α} {Q : α → Prop} {E : Exc → Prop} : (chk c m).wp Q E = (c ∧ m.wp Q E) := by
  unfold chk
  by_cases h : c
  · rw [if_pos h]; exact propext ⟨fun k => ⟨h, k⟩, fun k => k.2⟩
  · rw [if_neg h]; exact propext ⟨fun k => k.elim, fun k => (h k.1).elim⟩
theorem R.wp.mono {α : Type} {m : R α} {Q Q' : α → Prop} {E E' : Exc → Prop} (h : m.wp Q E) (hQ : ∀ a, Q a → Q' a) (hE : ∀ x, E x → E' x) : m.wp Q' E' := by
  cases m with
  | ok a => exact hQ a h
  | exc x => exact hE x h
  | bad => exact h
/-- where one goes behind a statement -/
inductive Out (γ δ β : Type) where
  | nx (g : γ) | rt (b : β) | bk (d : δ) | ct (d : δ)
/-- m, then k where m goes on -/
def goO {γ γ' δ β : Type} (k : γ → R (Out γ' δ β)) : Out γ δ β → R (Out γ' δ β)
  | .nx g => k g
  | .rt b => .ok (.rt b)
  | .bk d => .ok (.bk d)
  | .ct d => .ok (.ct d)
def seqO {γ γ' δ β : Type} (m : R (Out γ δ β)) (k : γ → R (Out γ' δ β)) : R (Out γ' δ β) := m.bind (goO k)
/-- a turn's end: on to r, or out -/
def turnO {γ δ β : Type} (r : γ → R (Out γ δ β)) : Out γ γ β → R (Out γ δ β)
  | .nx g => r g
  | .ct g => r g
  | .bk g => .ok (.nx g)
  | .rt b => .ok (.rt b)
def forR {α γ δ β : Type} (f : α → γ → R (Out γ γ β)) : List α → γ → R (Out γ δ β)
  | [], g => .ok (.nx g)
  | x :: xs, g => (f x g).bind (turnO (forR f xs))
noncomputable def whileR {γ δ β : Type} (c : γ → Prop) (b : γ → Bool) (f : γ → R (Out γ γ β)) : Nat → γ → R (Out γ δ β)
  | 0, _ => .bad
  | n + 1, g => chk (c g) (if b g = true then (f g).bind (turnO (whileR c b f n)) else .ok (.nx g))
/-- a comprehension: the tests and the element of each item -/
noncomputable def compR {α β γ : Type} (f : α → γ → R (Option β × γ)) : List α → γ → List β → R (List β × γ)
  | [], g, acc => .ok (acc, g)
  | x :: xs, g, acc => (f x g).bind fun r => compR f xs r.2 (match r.1 with | some y => acc ++ [y] | none => acc)

/-! ### what stands in the slots -/
abbrev Gm := List (Nat × Dn)
structure EnvOk (n : Nat) (G : Hp) (σ : L2.St) (Γ : Gm) : Prop where
  len : σ.length = n
  at_ : ∀ i D, Γ.lookup i = some D → ∃ v, σ[i]? = some (some v) ∧ D.P G v
theorem EnvOk.mono {n : Nat} {G G' : Hp} {σ : L2.St} {Γ : Gm} (h : EnvOk n G σ Γ) (s : Sub G G') : EnvOk n G' σ Γ := ⟨h.len, fun i D e => by
  obtain ⟨v, h1, h2⟩ := h.at_ i D e
  exact ⟨v, h1, D.mono s h2⟩⟩
theorem lookup_hit {i : Nat} {D : Dn} {Γ : Gm} : ((i, D) :: Γ).lookup i = some D := by
  show (match i == i with | true => some D | false => Γ.lookup i) = _
  rw [show (i == i) = true from beq_self_eq_true i]
theorem lookup_miss {i j : Nat} {D : Dn} {Γ : Gm} (h : j ≠ i) : ((i, D) :: Γ).lookup j = Γ.lookup j := by
  show (match j == i with | true => some D | false => Γ.lookup j) = _
  rw [show (j == i) = false from beq_eq_false_iff_ne.mpr h]
theorem EnvOk.set {n : Nat} {G : Hp} {σ : L2.St} {Γ : Gm} {i : Nat} {v : V} {D : Dn} (h : EnvOk n G σ Γ) (hi : i < n) (d : D.P G v) : EnvOk n G (σ.set i (some v)) ((i, D) :: Γ) := by
  refine ⟨by rw [List.length_set]; exact h.len, fun j E e => ?_⟩
  by_cases z : j = i
  · subst z
    rw [lookup_hit] at e; cases e
    exact ⟨v, by rw [List.getElem?_set_self (by rw [h.len]; exact hi)], d⟩
  · rw [lookup_miss z] at e
    obtain ⟨w, h1, h2⟩ := h.at_ j E e
    exact ⟨w, by rw [List.getElem?_set_ne (fun q => z q.symm)]; exact h1, h2⟩
def Sb : Gm → Gm → Prop
  | [], _ => True
  | (i, D) :: r, Γ => Γ.lookup i = some D ∧ Sb r Γ
theorem Sb.at_ : ∀ {Γ' Γ : Gm}, Sb Γ' Γ → ∀ i D, Γ'.lookup i = some D → Γ.lookup i = some D
  | [], _, _, _, _, e => by cases e
  | (j, E) :: r, Γ, ⟨h, k⟩, i, D, e => by
    by_cases z : i = j
    · subst z; rw [lookup_hit] at e; cases e; exact h
    · rw [lookup_miss z] at e; exact k.at_ i D e
theorem EnvOk.sb {n : Nat} {G : Hp} {σ : L2.St} {Γ Γ' : Gm} (h : EnvOk n G σ Γ) (s : Sb Γ' Γ) : EnvOk n G σ Γ' := ⟨h.len, fun i D e => h.at_ i D (s.at_ i D e)⟩

/-! ### judgements over transformers -/
/-- the wish for exceptions -/
structure Zn where
  P : Hp → Exc → Prop
  mono : ∀ {G H : Hp} {x : Exc}, Sub G H → P G x → P H x
def z0 : Zn := ⟨fun _ _ => False, fun _ h => h⟩
section
variable (n : Nat) (Z : Zn) (Γ : Gm) (M : Mm)
/-- an expression of a known value, the heap as it was -/
structure EV (te : TE) (c : Prop) (D : Dn) : Prop where
  run : ∀ {G H : Hp} {σ : L2.St} {Q : VK}, c → At G M H → EnvOk n G σ Γ → (∀ v, D.P G v → Q v H) → te σ H Q
/-- a test -/
structure TV (tt : TT) (c : Prop) (b : Bool) : Prop where
  run : ∀ {G H : Hp} {σ : L2.St} {Q : Bool → Hp → Prop}, c → At G M H → EnvOk n G σ Γ → Q b H → tt σ H Q
/-- arguments -/
structure AV (ta : TA) (c : Prop) (Ds : List Dn) : Prop where
  run : ∀ {G H : Hp} {σ : L2.St} {Q : List V → Hp → Prop}, c → At G M H → EnvOk n G σ Γ → (∀ vs, Dens Ds G vs → Q vs H) → ta σ H Q
/-- an expression whose list may be read -/
structure LV {α : Type} [Enc α] (te : TE) (c : Prop) (xs : List α) : Prop where
  run : ∀ {G H : Hp} {σ : L2.St} {Q : VK}, c → At G M H → EnvOk n G σ Γ → (∀ p vs, H p = some (.lst vs) → Dens (xs.map dn) G vs → Q (.ref p) H) → te σ H Q
/-- an expression by its mirror -/
structure EM (te : TE) {β : Type} (m : R β) (D : β → Adr → Dn) (Mf : β → Adr → Mm) : Prop where
  run : ∀ {G H : Hp} {σ : L2.St} {Q : VK}, At G M H → EnvOk n G σ Γ →
  m.wp (fun b => ∀ ps G' H' v, Sub G G' → At G' (Mf b ps) H' → (D b ps).P G' v → Q v H') (Z.P G) → te σ H Q
structure TM (tt : TT) {β : Type} (m : R β) (b : β → Bool) (Mf : β → Adr → Mm) : Prop where
  run : ∀ {G H : Hp} {σ : L2.St} {Q : Bool → Hp → Prop}, At G M H → EnvOk n G σ Γ →
  m.wp (fun r => ∀ ps G' H', Sub G G' → At G' (Mf r ps) H' → Q (b r) H') (Z.P G) → tt σ H Q
structure AM (ta : TA) {β : Type} (m : R β) (Ds : β → Adr → List Dn) (Mf : β → Adr → Mm) : Prop where
  run : ∀ {G H : Hp} {σ : L2.St} {Q : List V → Hp → Prop}, At G M H → EnvOk n G σ Γ →
  m.wp (fun b => ∀ ps G' H' vs, Sub G G' → At G' (Mf b ps) H' → Dens (Ds b ps) G' vs → Q vs H') (Z.P G) → ta σ H Q
end
/-- what a statement leaves -/
structure Ex (γ δ β : Type) where
  Γn : γ → Adr → Gm
  Mn : γ → Adr → Mm
  Γl : δ → Adr → Gm
  Ml : δ → Adr → Mm
  Dr : β → Adr → Dn
  Mr : β → Adr → Mm
def Fits {γ δ β : Type} (n : Nat) (W : Ex γ δ β) (G : Hp) (D : Ends) : Out γ δ β → Prop
  | .nx g => ∀ ps G' H' σ', Sub G G' → At G' (W.Mn g ps) H' → EnvOk n G' σ' (W.Γn g ps) → D.nx σ' H'
  | .rt b => ∀ ps G' H' v, Sub G G' → At G' (W.Mr b ps) H' → (W.Dr b ps).P G' v → D.rt v H'
  | .bk g => ∀ ps G' H' σ', Sub G G' → At G' (W.Ml g ps) H' → EnvOk n G' σ' (W.Γl g ps) → D.bk σ' H'
  | .ct g => ∀ ps G' H' σ', Sub G G' → At G' (W.Ml g ps) H' → EnvOk n G' σ' (W.Γl g ps) → D.ct σ' H'
structure SM {γ δ β : Type} (n : Nat) (Z : Zn) (Γ : Gm) (M : Mm) (ts : TS) (m : R (Out γ δ β)) (W : Ex γ δ β) : Prop where
  run : ∀ {G H : Hp} {σ : L2.St} {D : Ends}, At G M H → EnvOk n G σ Γ → m.wp (Fits n W G D) (Z.P G) → ts D σ H
theorem Fits.mono {γ δ β : Type} {n : Nat} {W : Ex γ δ β} {G G' : Hp} {D : Ends} (s : Sub G G') {o : Out γ δ β} (h : Fits n W G D o) : Fits n W G' D o := by
  cases o with
  | nx g => exact fun ps G2 H2 σ2 s2 => h ps G2 H2 σ2 (s.trans s2)
  | rt b => exact fun ps G2 H2 v s2 => h ps G2 H2 v (s.trans s2)
  | bk g => exact fun ps G2 H2 σ2 s2 => h ps G2 H2 σ2 (s.trans s2)
  | ct g => exact fun ps G2 H2 σ2 s2 => h ps G2 H2 σ2 (s.trans s2)
/-- what a def promises: from its arguments a (their addresses qs) by its mirror f -/
def SpG (XD : Exc → Value → Option Addr → Hp → Hp → Prop) {α β : Type} (Din : α → Adr → List Dn) (Min : α → Adr → Mm) (f : α → R β) (D : α → Adr → β → Adr → Dn) (Mo : α → Adr → β → Adr → Mm) : Sp := fun vs H Q E =>
  ∃ (G : Hp) (M : Mm) (a : α) (qs : Adr), At G (Min a qs ++ M) H ∧ Dens (Din a qs) G vs ∧
    (f a).wp (fun r => ∀ ps G' H' v, Sub G G' → At G' (Mo a qs r ps ++ M) H' → (D a qs r ps).P G' v → Q v H') (fun x => ∀ G' H' c d, Sub G G' → At G' (Min a qs ++ M) H' → XD x c d G' H' → E c d H')
end Mr
set_option Elab.async false
set_option linter.all false
set_option maxRecDepth 100000
set_option maxHeartbeats 4000000
/-! MrB: expressions. -/
namespace Mr
open PySem PySem.Spec PyProof.Rows L2
/-! ### places in a list -/
def inR {α : Type} (xs : List α) (i : Int) : Prop := -(xs.length : Int) ≤ i ∧ i < xs.length
def pl {α : Type} (xs : List α) (i : Int) : Nat := if 0 ≤ i then i.toNat else (i + xs.length).toNat
def getI {α : Type} [Inhabited α] (xs : List α) (i : Int) : α := xs.getD (pl xs i) default
def setI {α : Type} (xs : List α) (i : Int) (y : α) : List α := xs.set (pl xs i) y
theorem pl_lt {α : Type} {xs : List α} {i : Int} (h : inR xs i) : pl xs i < xs.length := by
  unfold inR at h; unfold pl; split <;> omega
theorem ixN_of {n : Nat} {i : Int} (h1 : -(n : Int) ≤ i) (h2 : i < n) : ixN n i = some (if 0 ≤ i then i.toNat else (i + n).toNat) := by
  unfold ixN
  split
  · first | rfl | rw [if_pos h2]
  · first | rfl | rw [if_pos h1]
theorem get_len {α : Type} {xs : List α} {i : Nat} (h : i < xs.length) : ∃ x, xs[i]? = some x := ⟨_, List.getElem?_eq_getElem h⟩
theorem dens_at {α : Type} [Enc α] [Inhabited α] {xs : List α} {G : Hp} {vs : List V} (h : Dens (xs.map dn) G vs) {j : Nat} (hj : j < xs.length) : ∃ v, vs[j]? = some v ∧ (dn (xs.getD j default)).P G v := by
  refine h.get (i := j) ?_
  rw [List.getElem?_map, List.getElem?_eq_getElem hj]
  simp [List.getD, List.getElem?_eq_getElem hj]
theorem atI_dens {α : Type} [Enc α] [Inhabited α] {xs : List α} {G : Hp} {vs : List V} (h : Dens (xs.map dn) G vs) {i : Int} (hi : inR xs i) : ∃ v, atI vs i = some v ∧ (dn (getI xs i)).P G v := by
  have hl : vs.length = xs.length := by rw [h.length, List.length_map]
  obtain ⟨v, h1, h2⟩ := dens_at h (pl_lt hi)
  refine ⟨v, ?_, h2⟩
  unfold atI
  rw [hl, ixN_of hi.1 hi.2]
  exact h1
section
variable {n : Nat} {Z : Zn} {Γ : Gm} {M : Mm} {K : PySem.W.Frag} {ta tb : TE} {ca cb : Prop}
theorem ev_var {i : Nat} {D : Dn} (h : Γ.lookup i = some D) : EV n Γ M (tVar i) True D := .mk fun _ A E q => by
  obtain ⟨v, h1, h2⟩ := E.at_ i D h
  exact ⟨v, h1, q v h2⟩
theorem ev_int {k : Int} : EV n Γ M (tC (.int k)) True (dI k) := .mk fun _ _ _ q => q _ rfl
theorem ev_bl {k : Bool} : EV n Γ M (tC (.bl k)) True (dB k) := .mk fun _ _ _ q => q _ rfl
theorem ev_str {k : Str} : EV n Γ M (tC (.str k)) True (dS k) := .mk fun _ _ _ q => q _ rfl
theorem ev_non : EV n Γ M (tC .non) True dN := .mk fun _ _ _ q => q _ rfl
theorem ev_imp {te : TE} {c c' : Prop} {D : Dn} (h : EV n Γ M te c D) (k : c' → c) : EV n Γ M te c' D := .mk fun hc A E q => h.run (k hc) A E q
theorem tv_imp {te : TT} {c c' : Prop} {b : Bool} (h : TV n Γ M te c b) (k : c' → c) : TV n Γ M te c' b := .mk fun hc A E q => h.run (k hc) A E q
section
variable {x y : Int}
theorem ev_op {f : Int → Int → Int} (ha : EV n Γ M ta ca (dI x)) (hb : EV n Γ M tb cb (dI y)) : EV n Γ M (tOp (rI0 fun i j => .int (f i j)) ta tb) (ca ∧ cb) (dI (f x y)) :=
  .mk fun hc A E q => ha.run hc.1 A E fun v hv => hb.run hc.2 A E fun w hw => ⟨x, y, hv, hw, q _ rfl⟩
theorem ev_opC {C : Int → Int → Prop} {f : Int → Int → Int} (ha : EV n Γ M ta ca (dI x)) (hb : EV n Γ M tb cb (dI y)) : EV n Γ M (tOp (rI C fun i j => .int (f i j)) ta tb) (ca ∧ cb ∧ C x y) (dI (f x y)) :=
  .mk fun hc A E q => ha.run hc.1 A E fun v hv => hb.run hc.2.1 A E fun w hw => ⟨x, y, hv, hw, hc.2.2, q _ rfl⟩
theorem ev_cmp {f : Int → Int → Bool} (ha : EV n Γ M ta ca (dI x)) (hb : EV n Γ M tb cb (dI y)) : EV n Γ M (tOp (rI0 fun i j => .bl (f i j)) ta tb) (ca ∧ cb) (dB (f x y)) :=
  .mk fun hc A E q => ha.run hc.1 A E fun v hv => hb.run hc.2 A E fun w hw => ⟨x, y, hv, hw, q _ rfl⟩
theorem ev_un {f : Int → Int} (ha : EV n Γ M ta ca (dI x)) : EV n Γ M (tUn (rU fun i => .int (f i)) ta) ca (dI (f x)) :=
  .mk fun hc A E q => ha.run hc A E fun v hv => ⟨x, hv, q _ rfl⟩
theorem dec_i : decide (V.int x = V.int y) = decide (x = y) := decide_eq_decide.mpr ⟨fun h => by injection h, fun h => by rw [h]⟩
theorem ev_eqI (ha : EV n Γ M ta ca (dI x)) (hb : EV n Γ M tb cb (dI y)) : EV n Γ M (tOp rEq ta tb) (ca ∧ cb) (dB (decide (x = y))) :=
  .mk fun hc A E q => ha.run hc.1 A E fun v hv => hb.run hc.2 A E fun w hw => by
    subst hv hw
    refine ⟨rfl, q _ ?_⟩
    show V.bl _ = V.bl _
    rw [dec_i]
theorem ev_neI (ha : EV n Γ M ta ca (dI x)) (hb : EV n Γ M tb cb (dI y)) : EV n Γ M (tOp rNe ta tb) (ca ∧ cb) (dB (!decide (x = y))) :=
  .mk fun hc A E q => ha.run hc.1 A E fun v hv => hb.run hc.2 A E fun w hw => by
    subst hv hw
    refine ⟨rfl, q _ ?_⟩
    show V.bl _ = V.bl _
    rw [dec_i]
end
section
variable {x y : Str}
theorem dec_s : decide (V.str x = V.str y) = decide (x = y) := decide_eq_decide.mpr ⟨fun h => by injection h, fun h => by rw [h]⟩
theorem ev_eqS (ha : EV n Γ M ta ca (dS x)) (hb : EV n Γ M tb cb (dS y)) : EV n Γ M (tOp rEq ta tb) (ca ∧ cb) (dB (decide (x = y))) :=
  .mk fun hc A E q => ha.run hc.1 A E fun v hv => hb.run hc.2 A E fun w hw => by
    subst hv hw
    refine ⟨rfl, q _ ?_⟩
    show V.bl _ = V.bl _
    rw [dec_s]
theorem ev_neS (ha : EV n Γ M ta ca (dS x)) (hb : EV n Γ M tb cb (dS y)) : EV n Γ M (tOp rNe ta tb) (ca ∧ cb) (dB (!decide (x = y))) :=
  .mk fun hc A E q => ha.run hc.1 A E fun v hv => hb.run hc.2 A E fun w hw => by
    subst hv hw
    refine ⟨rfl, q _ ?_⟩
    show V.bl _ = V.bl _
    rw [dec_s]
end
/-! ### tests -/
theorem tv_test {b : Bool} (h : EV n Γ M ta ca (dB b)) : TV n Γ M (tTest ta) ca b := .mk fun hc A E q => h.run hc A E fun v hv => ⟨b, hv, q⟩
theorem tv_b {b : Bool} (h : EV n Γ M ta ca (dB b)) : TV n Γ M (tB ta) ca b := .mk fun hc A E q => h.run hc A E fun v hv => ⟨b, hv, q⟩
theorem tv_yes : TV n Γ M tYes True true := .mk fun _ _ _ q => q
theorem tv_not {t : TT} {b : Bool} (h : TV n Γ M t ca b) : TV n Γ M (tNot t) ca (!b) := .mk fun hc A E q => h.run hc A E q
theorem tv_and {t u : TT} {a b : Bool} (h : TV n Γ M t ca a) (k : TV n Γ M u cb b) : TV n Γ M (tAnd t u) (ca ∧ (a = true → cb)) (a && b) := .mk fun hc A E q => h.run hc.1 A E (by
  cases a with
  | true => exact iteT (k.run (hc.2 rfl) A E q)
  | false => exact iteF q)
theorem tv_or {t u : TT} {a b : Bool} (h : TV n Γ M t ca a) (k : TV n Γ M u cb b) : TV n Γ M (tOr t u) (ca ∧ (a = false → cb)) (a || b) := .mk fun hc A E q => h.run hc.1 A E (by
  cases a with
  | false => exact iteF (k.run (hc.2 rfl) A E q)
  | true => exact iteT q)
theorem ev_and {a b : Bool} (h : EV n Γ M ta ca (dB a)) (k : EV n Γ M tb cb (dB b)) : EV n Γ M (tAndV ta tb) (ca ∧ (a = true → cb)) (dB (a && b)) := .mk fun hc A E q => h.run hc.1 A E fun v hv => ⟨a, hv, by
  cases a with
  | true => exact iteT (k.run (hc.2 rfl) A E q)
  | false => exact iteF (q _ rfl)⟩
theorem ev_or {a b : Bool} (h : EV n Γ M ta ca (dB a)) (k : EV n Γ M tb cb (dB b)) : EV n Γ M (tOrV ta tb) (ca ∧ (a = false → cb)) (dB (a || b)) := .mk fun hc A E q => h.run hc.1 A E fun v hv => ⟨a, hv, by
  cases a with
  | false => exact iteF (k.run (hc.2 rfl) A E q)
  | true => exact iteT (q _ rfl)⟩
theorem ev_not {a : Bool} (h : EV n Γ M ta ca (dB a)) : EV n Γ M (tNotV ta) ca (dB (!a)) := .mk fun hc A E q => h.run hc A E fun v hv => ⟨a, hv, q _ rfl⟩
theorem ev_if {α : Type} [Enc α] {x y : α} {ct : Prop} {t : TT} {b : Bool} (h : TV n Γ M t ct b) (ha : EV n Γ M ta ca (dn x)) (hb : EV n Γ M tb cb (dn y)) : EV n Γ M (tIf t ta tb) (ct ∧ (b = true → ca) ∧ (b = false → cb)) (dn (if b = true then x else y)) :=
  .mk fun hc A E q => h.run hc.1 A E (by
    cases b with
    | true => exact iteT (ha.run (hc.2.1 rfl) A E q)
    | false => exact iteF (hb.run (hc.2.2 rfl) A E q))
/-! ### arguments -/
theorem av_nil : AV n Γ M tNil True [] := .mk fun _ _ _ q => q _ rfl
theorem av_cons {t : TA} {D : Dn} {Ds : List Dn} (h : EV n Γ M ta ca D) (k : AV n Γ M t cb Ds) : AV n Γ M (tCons ta t) (ca ∧ cb) (D :: Ds) :=
  .mk fun hc A E q => h.run hc.1 A E fun v hv => k.run hc.2 A E fun vs hvs => q _ ⟨v, vs, rfl, hv, hvs⟩
/-! ### lists read -/
section
variable {α : Type} [Enc α] {xs : List α} {tl : TE} {cl : Prop}
theorem lv_dn (h : EV n Γ M tl cl (dL xs)) : LV n Γ M tl cl xs := .mk fun hc A E q => h.run hc A E fun v hv => by
  obtain ⟨p, vs, rfl, hp, d⟩ := hv
  exact q p vs (A.sub _ _ hp) d
theorem lv_own {p : Addr} (k : Nat) (h : EV n Γ M tl cl (dR p)) (hm : M[k]? = some (p, cL xs)) : LV n Γ M tl cl xs := .mk fun hc A E q => h.run hc A E fun v hv => by
  cases (show v = .ref p from hv)
  obtain ⟨⟨o, h1, vs, rfl, d⟩, _⟩ := A.own _ (List.mem_of_getElem? hm)
  exact q p vs h1 d
theorem lv_ownX {p : Addr} {ws : List V} (k : Nat) (h : EV n Γ M tl cl (dR p)) (hm : M[k]? = some (p, cX ws xs)) : LV n Γ M tl cl xs := .mk fun hc A E q => h.run hc A E fun v hv => by
  cases (show v = .ref p from hv)
  obtain ⟨⟨o, h1, rfl, d⟩, _⟩ := A.own _ (List.mem_of_getElem? hm)
  exact q p ws h1 d
theorem ev_ixL [Inhabited α] {i : Int} {ti : TE} {ci : Prop} (h : LV n Γ M tl cl xs) (k : EV n Γ M ti ci (dI i)) : EV n Γ M (tOp (rIxL K) tl ti) (cl ∧ ci ∧ inR xs i) (dn (getI xs i)) :=
  .mk fun hc A E q => h.run hc.1 A E fun p vs hp d => k.run hc.2.1 A E fun w hw => by
    obtain ⟨v, h1, h2⟩ := atI_dens d hc.2.2
    exact ⟨p, vs, i, v, rfl, hw, SqL.of hp, h1, q v h2⟩
theorem ev_len (h : LV n Γ M tl cl xs) : EV n Γ M (tCB (fun ws H Q => ∃ p ys, ws = [.ref p] ∧ (SqL K H p ys ∨ SqT K H p ys) ∧ Q (.int ys.length) H) (tCons tl tNil)) cl (dI xs.length) :=
  .mk fun hc A E q => h.run hc A E fun p vs hp d => ⟨p, vs, rfl, .inl (SqL.of hp), q _ (by show V.int _ = V.int _; rw [d.length, List.length_map])⟩
end
theorem ev_ixT {Ds : List Dn} {D : Dn} {i : Int} {tl ti : TE} {cl ci : Prop} (h : EV n Γ M tl cl (dT Ds)) (k : EV n Γ M ti ci (dI i)) (hi : atI Ds i = some D) : EV n Γ M (tOp (rIxT K) tl ti) (cl ∧ ci) D :=
  .mk fun hc A E q => h.run hc.1 A E fun v hv => k.run hc.2 A E fun w hw => by
    obtain ⟨p, vs, rfl, hp, d⟩ := hv
    obtain ⟨j, e1, e2⟩ : ∃ j, ixN Ds.length i = some j ∧ Ds[j]? = some D := by
      unfold atI at hi
      cases e : ixN Ds.length i with
      | none => rw [e] at hi; cases hi
      | some j => rw [e] at hi; exact ⟨j, rfl, hi⟩
    obtain ⟨v, h1, h2⟩ := d.get e2
    refine ⟨p, vs, i, v, rfl, hw, SqT.of (A.sub _ _ hp), ?_, q v h2⟩
    unfold atI
    rw [d.length, e1]
    exact h1
theorem ev_lenT {Ds : List Dn} {tl : TE} {cl : Prop} (h : EV n Γ M tl cl (dT Ds)) : EV n Γ M (tCB (fun ws H Q => ∃ p ys, ws = [.ref p] ∧ (SqL K H p ys ∨ SqT K H p ys) ∧ Q (.int ys.length) H) (tCons tl tNil)) cl (dI Ds.length) :=
  .mk fun hc A E q => h.run hc A E fun v hv => by
    obtain ⟨p, vs, rfl, hp, d⟩ := hv
    exact ⟨p, vs, rfl, .inr (SqT.of (A.sub _ _ hp)), q _ (by show V.int _ = V.int _; rw [d.length])⟩
/-! ### calls of built-ins -/
theorem ev_gcd {x y : Int} {t : TA} (h : AV n Γ M t ca [dI x, dI y]) : EV n Γ M (tCB rGcd t) ca (dI ((Nat.gcd x.natAbs y.natAbs : Nat) : Int)) := .mk fun hc A E q => h.run hc A E fun vs hv => by
  obtain ⟨v, r, rfl, rfl, w, r2, rfl, rfl, rfl⟩ := hv
  exact ⟨x, y, rfl, q _ rfl⟩
theorem ev_max2 {x y : Int} {t : TA} (h : AV n Γ M t ca [dI x, dI y]) : EV n Γ M (tCB (fun xs H Q => ∃ i j, xs = [.int i, .int j] ∧ Q (.int (if j > i then j else i)) H) t) ca (dI (max x y)) := .mk fun hc A E q => h.run hc A E fun vs hv => by
  obtain ⟨v, r, rfl, rfl, w, r2, rfl, rfl, rfl⟩ := hv
  refine ⟨x, y, rfl, q _ ?_⟩
  show V.int _ = V.int _
  congr 1
  split <;> omega
theorem ev_abs {x : Int} {t : TA} (h : AV n Γ M t ca [dI x]) : EV n Γ M (tCB (fun xs H Q => ∃ i, xs = [.int i] ∧ Q (.int (if i < 0 then -i else i)) H) t) ca (dI (x.natAbs : Int)) := .mk fun hc A E q => h.run hc A E fun vs hv => by
  obtain ⟨v, r, rfl, rfl, rfl⟩ := hv
  refine ⟨x, rfl, q _ ?_⟩
  show V.int _ = V.int _
  congr 1
  split <;> omega
theorem ev_int_i {x : Int} {t : TA} (h : AV n Γ M t ca [dI x]) : EV n Γ M (tCB (fun xs H Q => (∃ i, xs = [.int i] ∧ Q (.int i) H) ∨ ∃ k, xs = [.bl k] ∧ Q (.int (if k then 1 else 0)) H) t) ca (dI x) := .mk fun hc A E q => h.run hc A E fun vs hv => by
  obtain ⟨v, r, rfl, rfl, rfl⟩ := hv
  exact .inl ⟨x, rfl, q _ rfl⟩
theorem ev_int_b {x : Bool} {t : TA} (h : AV n Γ M t ca [dB x]) : EV n Γ M (tCB (fun xs H Q => (∃ i, xs = [.int i] ∧ Q (.int i) H) ∨ ∃ k, xs = [.bl k] ∧ Q (.int (if k then 1 else 0)) H) t) ca (dI (if x = true then 1 else 0)) := .mk fun hc A E q => h.run hc A E fun vs hv => by
  obtain ⟨v, r, rfl, rfl, rfl⟩ := hv
  exact .inr ⟨x, rfl, q _ rfl⟩
theorem dens_ints {G : Hp} : ∀ {ns : List Int} {vs : List V}, Dens (ns.map dn) G vs → vs = ns.map V.int
  | [], _, h => h
  | i :: r, _, ⟨v, s, e, h1, h2⟩ => by rw [e, show v = .int i from h1, dens_ints h2]; rfl
theorem dens_of_ints {G : Hp} : ∀ (ns : List Int), Dens (ns.map dn) G (ns.map V.int)
  | [] => rfl
  | i :: r => ⟨_, _, rfl, rfl, dens_of_ints r⟩
theorem ev_sum {ns : List Int} {tl : TE} {cl : Prop} (h : LV n Γ M tl cl ns) : EV n Γ M (tCB (rSum K) (tCons tl tNil)) cl (dI ns.sum) := .mk fun hc A E q => h.run hc A E fun p vs hp d => by
  rw [dens_ints d] at hp
  exact ⟨p, ns, rfl, SqL.of hp, q _ rfl⟩
end
/-! ### deep comparison -/
class DE (α : Type) [Enc α] where
  pd : α → PyData
  ok : α → Prop
  dep : Nat
  dp : ∀ (K : PySem.W.Frag) {G H : Hp} {v : V} {x : α}, Sub G H → (Enc.dn x).P G v → Dp K H v (pd x)
  lay : ∀ x, ok x → (pd x).canLay0 = true
  deps : ∀ x, (pd x).depth ≤ dep
  eqv : ∀ x y, PyData.eqv (pd x) (pd y) = true ↔ x = y
theorem dp_ref {K : PySem.W.Frag} {G H : Hp} {v : V} : True := trivial
instance : DE Int := ⟨PyData.int, fun _ => True, 1, fun K G H v x s h => by cases (show v = .int x from h); exact .int x, fun _ _ => rfl, fun x => by simp [PyData.depth], fun x y => by
  show (x == y) = true ↔ _
  exact beq_iff_eq⟩
instance : DE Bool := ⟨PyData.bool, fun _ => True, 1, fun K G H v x s h => by cases (show v = .bl x from h); exact .bl x, fun _ _ => rfl, fun x => by simp [PyData.depth], fun x y => by
  show (x == y) = true ↔ _
  exact beq_iff_eq⟩
instance : DE Str := ⟨PyData.str, fun x => PyData.canLay0 (.str x) = true, 1, fun K G H v x s h => by cases (show v = .str x from h); exact .str x, fun _ h => h, fun x => by simp [PyData.depth], fun x y => by
  show (x == y) = true ↔ _
  exact beq_iff_eq⟩
section
variable {α β : Type} [Enc α] [DE α] [Enc β] [DE β]
theorem dpAll {K : PySem.W.Frag} {G H : Hp} (s : Sub G H) : ∀ {xs : List α} {vs : List V}, Dens (xs.map dn) G vs → DpAll K H vs (xs.map DE.pd)
  | [], _, h => by rw [show _ = [] from h]; exact .nil
  | x :: r, _, ⟨v, w, e, h1, h2⟩ => by rw [e]; exact .cons (DE.dp K s h1) (dpAll s h2)
theorem layAll : ∀ {xs : List α}, (∀ x ∈ xs, DE.ok x) → PyData.canLayAll0 (xs.map DE.pd) = true
  | [], _ => rfl
  | x :: r, h => by
    show (PyData.canLay0 (DE.pd x) && PyData.canLayAll0 (r.map DE.pd)) = true
    rw [DE.lay x (h x List.mem_cons_self), layAll fun y hy => h y (List.mem_cons_of_mem _ hy)]; rfl
theorem eqvAll : ∀ {xs ys : List α}, PyData.eqvAll (xs.map DE.pd) (ys.map DE.pd) = true ↔ xs = ys
  | [], [] => by simp [PyData.eqvAll]
  | [], y :: ys => by simp [PyData.eqvAll]
  | x :: xs, [] => by simp [PyData.eqvAll]
  | x :: xs, y :: ys => by
    show (PyData.eqv (DE.pd x) (DE.pd y) && PyData.eqvAll (xs.map DE.pd) (ys.map DE.pd)) = true ↔ _
    rw [Bool.and_eq_true, DE.eqv, eqvAll, List.cons.injEq]
end
end Mr
set_option Elab.async false
set_option linter.all false
set_option maxRecDepth 100000
set_option maxHeartbeats 4000000
/-! MrC: expressions with new objects, with calls; what loops walk; comprehensions. -/
namespace Mr
open PySem PySem.Spec PyProof.Rows L2
section
variable {α β : Type} [Enc α] [DE α] [Enc β] [DE β]
theorem depAll : ∀ (xs : List α), PyData.depthAll (xs.map DE.pd) ≤ DE.dep α
  | [] => Nat.zero_le _
  | x :: r => by
    show max (PyData.depth (DE.pd x)) (PyData.depthAll (r.map DE.pd)) ≤ _
    exact Nat.max_le.mpr ⟨DE.deps x, depAll r⟩
instance : DE (List α) := ⟨fun xs => .list (xs.map DE.pd), fun xs => ∀ x ∈ xs, DE.ok x, DE.dep α + 1, fun K G H v x s h => by
    obtain ⟨p, vs, rfl, hp, d⟩ := h
    exact .lst (SqL.of (s _ _ hp)) (dpAll s d), fun xs h => layAll h, fun xs => Nat.succ_le_succ (depAll xs), fun xs ys => by
    show PyData.eqvAll (xs.map DE.pd) (ys.map DE.pd) = true ↔ xs = ys
    exact eqvAll⟩
instance : DE (Tp α) := ⟨fun xs => .tuple (xs.l.map DE.pd), fun xs => ∀ x ∈ xs.l, DE.ok x, DE.dep α + 1, fun K G H v x s h => by
    obtain ⟨p, vs, rfl, hp, d⟩ := h
    exact .tup (SqT.of (s _ _ hp)) (dpAll s d), fun xs h => layAll h, fun xs => Nat.succ_le_succ (depAll xs.l), fun xs ys => by
    show PyData.eqvAll (xs.l.map DE.pd) (ys.l.map DE.pd) = true ↔ xs = ys
    rw [eqvAll]
    cases xs; cases ys; simp⟩
instance : DE (α × β) := ⟨fun x => .tuple [DE.pd x.1, DE.pd x.2], fun x => DE.ok x.1 ∧ DE.ok x.2, max (DE.dep α) (DE.dep β) + 1, fun K G H v x s h => by
    obtain ⟨p, vs, rfl, hp, v1, r1, rfl, h1, v2, r2, rfl, h2, rfl⟩ := h
    exact .tup (SqT.of (s _ _ hp)) (.cons (DE.dp K s h1) (.cons (DE.dp K s h2) .nil)), fun x h => by
    show (PyData.canLay0 (DE.pd x.1) && (PyData.canLay0 (DE.pd x.2) && true)) = true
    rw [DE.lay _ h.1, DE.lay _ h.2]; rfl, fun x => by
    show max (PyData.depth (DE.pd x.1)) (max (PyData.depth (DE.pd x.2)) 0) + 1 ≤ _
    have h1 := DE.deps x.1
    have h2 := DE.deps x.2
    omega, fun x y => by
    show (PyData.eqv (DE.pd x.1) (DE.pd y.1) && (PyData.eqv (DE.pd x.2) (DE.pd y.2) && true)) = true ↔ x = y
    rw [Bool.and_true, Bool.and_eq_true, DE.eqv, DE.eqv]
    cases x; cases y; simp⟩
end
section
variable {n : Nat} {Z : Zn} {Γ : Gm} {M : Mm} {K : PySem.W.Frag}
section
variable {α : Type} [Enc α] [DE α] {x y : α} {ta tb : TE} {ca cb : Prop}
theorem shp {x : α} (h : DE.ok x) (hd : DE.dep α ≤ 64 := by decide) : SeqAt.shaped (DE.pd x) = true := by
  unfold SeqAt.shaped
  rw [DE.lay x h, decide_eq_true (Nat.le_trans (DE.deps x) hd)]; rfl
open Classical in
theorem ev_eqD (hd : DE.dep α ≤ 64) (ha : EV n Γ M ta ca (dn x)) (hb : EV n Γ M tb cb (dn y)) : EV n Γ M (tOp (rEqD K) ta tb) (ca ∧ cb ∧ DE.ok x ∧ DE.ok y) (dB (decide (x = y))) :=
  .mk fun hc A E q => ha.run hc.1 A E fun v hv => hb.run hc.2.1 A E fun w hw => by
    refine ⟨_, _, DE.dp K A.sub hv, DE.dp K A.sub hw, shp hc.2.2.1 hd, shp hc.2.2.2 hd, q _ ?_⟩
    show V.bl _ = V.bl _
    congr 1
    exact Bool.eq_iff_iff.mpr ((DE.eqv x y).trans (decide_eq_true_iff).symm)
open Classical in
theorem ev_neD (hd : DE.dep α ≤ 64) (ha : EV n Γ M ta ca (dn x)) (hb : EV n Γ M tb cb (dn y)) : EV n Γ M (tOp (rNeD K) ta tb) (ca ∧ cb ∧ DE.ok x ∧ DE.ok y) (dB (!decide (x = y))) :=
  .mk fun hc A E q => ha.run hc.1 A E fun v hv => hb.run hc.2.1 A E fun w hw => by
    refine ⟨_, _, DE.dp K A.sub hv, DE.dp K A.sub hw, shp hc.2.2.1 hd, shp hc.2.2.2 hd, q _ ?_⟩
    show V.bl _ = V.bl _
    congr 2
    exact Bool.eq_iff_iff.mpr ((DE.eqv x y).trans (decide_eq_true_iff).symm)
end
/-! ### from values to mirrors -/
abbrev EMc (n : Nat) (Z : Zn) (Γ : Gm) (M : Mm) (te : TE) {β : Type} (m : R β) (D : β → Dn) (Mf : β → Mm) : Prop := EM n Z Γ M te m (fun b _ => D b) (fun b _ => Mf b)
abbrev AMc (n : Nat) (Z : Zn) (Γ : Gm) (M : Mm) (ta : TA) {β : Type} (m : R β) (Ds : β → List Dn) (Mf : β → Mm) : Prop := AM n Z Γ M ta m (fun b _ => Ds b) (fun b _ => Mf b)
theorem em_ev {te : TE} {c : Prop} {β : Type} {D : β → Dn} {x : β} (h : EV n Γ M te c (D x)) : EMc n Z Γ M te (chk c (.ok x)) D (fun _ => M) := .mk fun {G H σ Q} A E w => by
  rw [wp_chk] at w
  exact h.run w.1 A E fun v hv => w.2 (fun _ => 0) G H v (Sub.refl _) A hv
theorem am_av {ta : TA} {c : Prop} {β : Type} {Ds : β → List Dn} {x : β} (h : AV n Γ M ta c (Ds x)) : AMc n Z Γ M ta (chk c (.ok x)) Ds (fun _ => M) := .mk fun {G H σ Q} A E w => by
  rw [wp_chk] at w
  exact h.run w.1 A E fun v hv => w.2 (fun _ => 0) G H v (Sub.refl _) A hv
theorem tm_tv {tt : TT} {c : Prop} {bb : Bool} (h : TV n Γ M tt c bb) : TM n Z Γ M tt (chk c (.ok bb)) id (fun _ _ => M) := .mk fun {G H σ Q} A E w => by
  rw [wp_chk] at w
  exact h.run w.1 A E (w.2 (fun _ => 0) G H (Sub.refl _) A)
/-- what is owned, in another order or less of it -/
def MLe (M' M : Mm) : Prop := ∀ {G H : Hp}, At G M H → At G M' H
theorem MLe.rfl {M : Mm} : MLe M M := fun A => A
theorem MLe.trans {M1 M2 M3 : Mm} (h : MLe M1 M2) (k : MLe M2 M3) : MLe M1 M3 := fun A => h (k A)
theorem MLe.front {M : Mm} {a : Addr × Cn} (k : Nat) (h : M[k]? = some a) : MLe (a :: M.eraseIdx k) M := fun A => A.perm (Mr.front k h)
theorem MLe.back {M : Mm} {a : Addr × Cn} (k : Nat) (h : M[k]? = some a) : MLe M (a :: M.eraseIdx k) := fun A => A.perm (Mr.front k h).symm
theorem MLe.drop {a : Addr × Cn} {M : Mm} : MLe M (a :: M) := fun A => A.tl
theorem MLe.dropN {M : Mm} (k : Nat) : MLe (M.drop k) M := fun A => A.sbl (List.drop_sublist k M)
theorem MLe.sbl {M M' : Mm} (h : M'.Sublist M) : MLe M' M := fun A => A.sbl h
theorem MLe.weak {p : Addr} {c c' : Cn} {M : Mm} (h : ∀ G o, c.P G o → c'.P G o) : MLe ((p, c') :: M) ((p, c) :: M) := fun A => A.weak h
theorem cX_cL {α : Type} [Enc α] {vs : List V} {xs : List α} (G : Hp) (o : HO) (h : (cX vs xs).P G o) : (cL xs).P G o := ⟨vs, h⟩
theorem em_in {te : TE} {β : Type} {m : R β} {D : β → Adr → Dn} {Mf : β → Adr → Mm} {M2 : Mm} (h : MLe M2 M) (k : EM n Z Γ M2 te m D Mf) : EM n Z Γ M te m D Mf := .mk fun A E w => k.run (h A) E w
theorem em_out {te : TE} {β : Type} {m : R β} {D : β → Adr → Dn} {Mf Mf' : β → Adr → Mm} (h : ∀ b ps, MLe (Mf' b ps) (Mf b ps)) (k : EM n Z Γ M te m D Mf) : EM n Z Γ M te m D Mf' := .mk fun {G H σ Q} A E w => k.run A E (w.mono (fun b q ps G' H' v s A' d => q ps G' H' v s (h b ps A') d) fun _ x => x)
/-- a new list, frozen at once -/
theorem em_frz {te : TE} {β α : Type} [Enc α] {m : R β} {f : β → List α} {Mf : β → Mm} (k : EM n Z Γ M te m (fun _ ps => dR (ps 0)) (fun b ps => (ps 0, cL (f b)) :: Mf b)) : EMc n Z Γ M te m (fun b => dL (f b)) Mf := .mk fun {G H σ Q} A E w => k.run A E (w.mono (fun b q ps G' H' v s A' d => by
  cases (show v = .ref (ps 0) from d)
  obtain ⟨o, h1, vs, rfl, d'⟩ := A'.hd
  exact q ps (upd G' (ps 0) (.lst vs)) H' (.ref (ps 0)) (s.trans A'.frzS) (A'.frz h1) ⟨ps 0, vs, rfl, upd_same, d'.mono A'.frzS⟩) fun _ x => x)
theorem em_bindE {te : TE} {β : Type} {m m' : R β} {D : β → Adr → Dn} {Mf : β → Adr → Mm} (e : m' = m) (k : EM n Z Γ M te m D Mf) : EM n Z Γ M te m' D Mf := e ▸ k
/-! ### operators of mirrors -/
section
variable {ta tb : TE} {β1 β2 β : Type} {m1 : R β1} {m2 : β1 → R β2} {D1 : β1 → Dn} {D2 : β1 → β2 → Dn} {M1 : β1 → Mm} {M2 : β1 → β2 → Mm} {g : β1 → β2 → β} {D : β → Adr → Dn} {Mf : β → Adr → Mm}
/-- two operands, then what r asks -/
theorem em_bin {r : R2} {C : β1 → β2 → Prop} (ha : EMc n Z Γ M ta m1 D1 M1) (hb : ∀ a, EMc n Z Γ (M1 a) tb (m2 a) (D2 a) (M2 a))
    (hr : ∀ a b G H v w Q, C a b → (D1 a).P G v → (D2 a b).P G w → At G (M2 a b) H → (∀ ps G' H' z, Sub G G' → At G' (Mf (g a b) ps) H' → (D (g a b) ps).P G' z → Q z H') → r v w H Q) :
    EM n Z Γ M (tOp r ta tb) (m1.bind fun a => (m2 a).bind fun b => chk (C a b) (.ok (g a b))) D Mf := .mk fun {G H σ Q} A E w => by
  rw [wp_bind] at w
  refine ha.run A E (w.mono (fun a q ps G1 H1 v s1 A1 d1 => ?_) fun _ x => x)
  rw [wp_bind] at q
  refine (hb a).run A1 (E.mono s1) (q.mono (fun b q2 ps2 G2 H2 u s2 A2 d2 => ?_) fun x hx => Z.mono s1 hx)
  rw [wp_chk] at q2
  exact hr a b G2 H2 v u Q q2.1 ((D1 a).mono s2 d1) d2 A2 fun ps' G3 H3 z s3 A3 d3 => q2.2 ps' G3 H3 z ((s1.trans s2).trans s3) A3 d3
theorem em_op {f : Int → Int → Int} {va : β1 → Int} {vb : β1 → β2 → Int} {vr : β → Int} {Mg : β → Mm} (ha : EMc n Z Γ M ta m1 (fun a => dI (va a)) M1) (hb : ∀ a, EMc n Z Γ (M1 a) tb (m2 a) (fun b => dI (vb a b)) (M2 a))
    (hv : ∀ a b, vr (g a b) = f (va a) (vb a b)) (hM : ∀ a b, Mg (g a b) = M2 a b) :
    EMc n Z Γ M (tOp (rI0 fun i j => .int (f i j)) ta tb) (m1.bind fun a => (m2 a).bind fun b => chk True (.ok (g a b))) (fun r => dI (vr r)) Mg :=
  em_bin (C := fun _ _ => True) ha hb fun a b G H v w Q _ d1 d2 A q => ⟨_, _, d1, d2, q (fun _ => 0) G H _ (Sub.refl _) (by rw [hM]; exact A) (by show _ = V.int _; rw [hv])⟩
theorem em_opC {C : Int → Int → Prop} {f : Int → Int → Int} {va : β1 → Int} {vb : β1 → β2 → Int} {vr : β → Int} {Mg : β → Mm} (ha : EMc n Z Γ M ta m1 (fun a => dI (va a)) M1) (hb : ∀ a, EMc n Z Γ (M1 a) tb (m2 a) (fun b => dI (vb a b)) (M2 a))
    (hv : ∀ a b, vr (g a b) = f (va a) (vb a b)) (hM : ∀ a b, Mg (g a b) = M2 a b) :
    EMc n Z Γ M (tOp (rI C fun i j => .int (f i j)) ta tb) (m1.bind fun a => (m2 a).bind fun b => chk (C (va a) (vb a b)) (.ok (g a b))) (fun r => dI (vr r)) Mg :=
  em_bin (C := fun a b => C (va a) (vb a b)) ha hb fun a b G H v w Q c d1 d2 A q => ⟨_, _, d1, d2, c, q (fun _ => 0) G H _ (Sub.refl _) (by rw [hM]; exact A) (by show _ = V.int _; rw [hv])⟩
theorem em_cmp {f : Int → Int → Bool} {va : β1 → Int} {vb : β1 → β2 → Int} {vr : β → Bool} {Mg : β → Mm} (ha : EMc n Z Γ M ta m1 (fun a => dI (va a)) M1) (hb : ∀ a, EMc n Z Γ (M1 a) tb (m2 a) (fun b => dI (vb a b)) (M2 a))
    (hv : ∀ a b, vr (g a b) = f (va a) (vb a b)) (hM : ∀ a b, Mg (g a b) = M2 a b) :
    EMc n Z Γ M (tOp (rI0 fun i j => .bl (f i j)) ta tb) (m1.bind fun a => (m2 a).bind fun b => chk True (.ok (g a b))) (fun r => dB (vr r)) Mg :=
  em_bin (C := fun _ _ => True) ha hb fun a b G H v w Q _ d1 d2 A q => ⟨_, _, d1, d2, q (fun _ => 0) G H _ (Sub.refl _) (by rw [hM]; exact A) (by show _ = V.bl _; rw [hv])⟩
theorem em_eqI {va : β1 → Int} {vb : β1 → β2 → Int} {vr : β → Bool} {Mg : β → Mm} (ha : EMc n Z Γ M ta m1 (fun a => dI (va a)) M1) (hb : ∀ a, EMc n Z Γ (M1 a) tb (m2 a) (fun b => dI (vb a b)) (M2 a))
    (hv : ∀ a b, vr (g a b) = decide (va a = vb a b)) (hM : ∀ a b, Mg (g a b) = M2 a b) :
    EMc n Z Γ M (tOp rEq ta tb) (m1.bind fun a => (m2 a).bind fun b => chk True (.ok (g a b))) (fun r => dB (vr r)) Mg :=
  em_bin (C := fun _ _ => True) ha hb fun a b G H v w Q _ d1 d2 A q => by
    cases (show v = .int (va a) from d1)
    cases (show w = .int (vb a b) from d2)
    exact ⟨rfl, q (fun _ => 0) G H _ (Sub.refl _) (by rw [hM]; exact A) (by show _ = V.bl _; rw [hv, dec_i])⟩
open Classical in
theorem em_eqD {α : Type} [Enc α] [DE α] (hd : DE.dep α ≤ 64) {va : β1 → α} {vb : β1 → β2 → α} {vr : β → Bool} {Mg : β → Mm} (ha : EMc n Z Γ M ta m1 (fun a => dn (va a)) M1) (hb : ∀ a, EMc n Z Γ (M1 a) tb (m2 a) (fun b => dn (vb a b)) (M2 a))
    (hv : ∀ a b, vr (g a b) = decide (va a = vb a b)) (hM : ∀ a b, Mg (g a b) = M2 a b) :
    EMc n Z Γ M (tOp (rEqD K) ta tb) (m1.bind fun a => (m2 a).bind fun b => chk (DE.ok (va a) ∧ DE.ok (vb a b)) (.ok (g a b))) (fun r => dB (vr r)) Mg :=
  em_bin (C := fun a b => DE.ok (va a) ∧ DE.ok (vb a b)) ha hb fun a b G H v w Q c d1 d2 A q => by
    refine ⟨_, _, DE.dp K A.sub d1, DE.dp K A.sub d2, shp c.1 hd, shp c.2 hd, q (fun _ => 0) G H _ (Sub.refl _) (by rw [hM]; exact A) ?_⟩
    show V.bl _ = V.bl _
    rw [hv]; congr 1
    exact Bool.eq_iff_iff.mpr ((DE.eqv _ _).trans (decide_eq_true_iff).symm)
/-- xs[i] with effects -/
theorem em_ixL {α : Type} [Enc α] [Inhabited α] {va : β1 → List α} {vb : β1 → β2 → Int} {vr : β → α} {Mg : β → Mm} (ha : EMc n Z Γ M ta m1 (fun a => dL (va a)) M1) (hb : ∀ a, EMc n Z Γ (M1 a) tb (m2 a) (fun b => dI (vb a b)) (M2 a))
    (hv : ∀ a b, vr (g a b) = getI (va a) (vb a b)) (hM : ∀ a b, Mg (g a b) = M2 a b) :
    EMc n Z Γ M (tOp (rIxL K) ta tb) (m1.bind fun a => (m2 a).bind fun b => chk (inR (va a) (vb a b)) (.ok (g a b))) (fun r => dn (vr r)) Mg :=
  em_bin (C := fun a b => inR (va a) (vb a b)) ha hb fun a b G H v w Q c d1 d2 A q => by
    obtain ⟨p, vs, rfl, hp, d⟩ := d1
    obtain ⟨z, h1, h2⟩ := atI_dens d c
    exact ⟨p, vs, _, z, rfl, d2, SqL.of (A.sub _ _ hp), h1, q (fun _ => 0) G H _ (Sub.refl _) (by rw [hM]; exact A) (by show (dn (vr (g a b))).P G z; rw [hv]; exact h2)⟩
/-- xs + ys -/
theorem em_cat {α : Type} [Enc α] {va : β1 → List α} {vb : β1 → β2 → List α} {vr : β → List α} {Mg : β → Mm} (ha : EMc n Z Γ M ta m1 (fun a => dL (va a)) M1) (hb : ∀ a, EMc n Z Γ (M1 a) tb (m2 a) (fun b => dL (vb a b)) (M2 a))
    (hv : ∀ a b, vr (g a b) = va a ++ vb a b) (hM : ∀ a b, Mg (g a b) = M2 a b) :
    EM n Z Γ M (tOp rCat ta tb) (m1.bind fun a => (m2 a).bind fun b => chk ((va a).length + (vb a b).length ≤ 16777216) (.ok (g a b))) (fun _ ps => dR (ps 0)) (fun r ps => (ps 0, cL (vr r)) :: Mg r) :=
  em_bin (C := fun a b => (va a).length + (vb a b).length ≤ 16777216) ha hb fun a b G H v w Q c d1 d2 A q => by
    obtain ⟨p, vs, rfl, hp, d⟩ := d1
    obtain ⟨p2, ws, rfl, hp2, e⟩ := d2
    refine ⟨p, p2, vs, ws, rfl, rfl, A.sub _ _ hp, A.sub _ _ hp2, ?_, fun z nz => ?_⟩
    · rw [sizeLine_eq, d.length, e.length, List.length_map, List.length_map]; exact c
    · refine q (fun _ => z) G _ _ (Sub.refl _) ?_ rfl
      rw [hM, hv]
      exact A.new (c := cL (va a ++ vb a b)) nz ⟨_, rfl, by rw [List.map_append]; exact d.append e⟩
/-- xs * k -/
theorem dens_rep {α : Type} [Enc α] {G : Hp} {xs : List α} {vs : List V} (d : Dens (xs.map dn) G vs) : ∀ k : Nat, Dens (((List.replicate k xs).flatten).map dn) G (List.replicate k vs).flatten
  | 0 => rfl
  | k + 1 => by
    rw [List.replicate_succ, List.replicate_succ, List.flatten_cons, List.flatten_cons, List.map_append]
    exact d.append (dens_rep d k)
theorem em_rep {α : Type} [Enc α] {va : β1 → List α} {vb : β1 → β2 → Int} {vr : β → List α} {Mg : β → Mm} (ha : EMc n Z Γ M ta m1 (fun a => dL (va a)) M1) (hb : ∀ a, EMc n Z Γ (M1 a) tb (m2 a) (fun b => dI (vb a b)) (M2 a))
    (hv : ∀ a b, vr (g a b) = (List.replicate (vb a b).toNat (va a)).flatten) (hM : ∀ a b, Mg (g a b) = M2 a b) :
    EM n Z Γ M (tOp rRep ta tb) (m1.bind fun a => (m2 a).bind fun b => chk (-1000000 ≤ vb a b ∧ vb a b ≤ 1000000 ∧ (va a).length * (vb a b).toNat ≤ 16777216) (.ok (g a b))) (fun _ ps => dR (ps 0)) (fun r ps => (ps 0, cL (vr r)) :: Mg r) :=
  em_bin (C := fun a b => -1000000 ≤ vb a b ∧ vb a b ≤ 1000000 ∧ (va a).length * (vb a b).toNat ≤ 16777216) ha hb fun a b G H v w Q c d1 d2 A q => by
    obtain ⟨p, vs, rfl, hp, d⟩ := d1
    refine ⟨p, vb a b, vs, rfl, d2, A.sub _ _ hp, by omega, by omega, ?_, fun z nz => ?_⟩
    · rw [sizeLine_eq, d.length, List.length_map]; exact c.2.2
    · refine q (fun _ => z) G _ _ (Sub.refl _) ?_ rfl
      rw [hM, hv]
      exact A.new (c := cL _) nz ⟨_, rfl, dens_rep d _⟩
end
/-! ### arguments with effects, displays -/
theorem am_nil : AMc n Z Γ M tNil (.ok ()) (fun _ => []) (fun _ => M) := .mk fun {G H σ Q} A E w => w (fun _ => 0) G H [] (Sub.refl _) A rfl
theorem am_cons {ta : TE} {t : TA} {β1 β2 β : Type} {m1 : R β1} {m2 : β1 → R β2} {D1 : β1 → Dn} {D2 : β1 → β2 → List Dn} {M1 : β1 → Mm} {M2 : β1 → β2 → Mm} {g : β1 → β2 → β} {Ds : β → List Dn} {Mf : β → Mm}
    (ha : EMc n Z Γ M ta m1 D1 M1) (hb : ∀ a, AMc n Z Γ (M1 a) t (m2 a) (D2 a) (M2 a)) (hD : ∀ a b, Ds (g a b) = D1 a :: D2 a b) (hM : ∀ a b, Mf (g a b) = M2 a b) :
    AMc n Z Γ M (tCons ta t) (m1.bind fun a => (m2 a).bind fun b => .ok (g a b)) Ds Mf := .mk fun {G H σ Q} A E w => by
  rw [wp_bind] at w
  refine ha.run A E (w.mono (fun a q ps G1 H1 v s1 A1 d1 => ?_) fun _ x => x)
  rw [wp_bind] at q
  refine (hb a).run A1 (E.mono s1) (q.mono (fun b q2 ps2 G2 H2 u s2 A2 d2 => ?_) fun x hx => Z.mono s1 hx)
  exact q2 ps2 G2 H2 (v :: u) (s1.trans s2) (by show At G2 (Mf (g a b)) H2; rw [hM]; exact A2) (by show Dens (Ds (g a b)) G2 _; rw [hD]; exact ⟨v, u, rfl, (D1 a).mono s2 d1, d2⟩)
/-- (a, b, ..) -/
theorem em_tup {ta : TA} {β : Type} {m : R β} {Ds : β → List Dn} {Mf : β → Mm} (h : AMc n Z Γ M ta m Ds Mf) (hl : ∀ b, (Ds b).length ≤ 1000) : EMc n Z Γ M (tTup ta) m (fun b => dT (Ds b)) Mf := .mk fun {G H σ Q} A E w =>
  h.run A E (w.mono (fun b q ps G1 H1 vs s1 A1 d => ⟨by rw [d.length, sizeLine_eq]; exact Nat.le_trans (hl b) (by decide), fun z nz => q ps (upd G1 z (.tup vs)) _ _ (s1.trans (A1.newS nz)) (A1.newG nz) ⟨z, vs, rfl, upd_same, d.mono (A1.newS nz)⟩⟩) fun _ x => x)
/-- .. whose parts may be owned -/
theorem em_tupO {ta : TA} {β : Type} {m : R β} {Ds : β → Adr → List Dn} {Mf : β → Adr → Mm} (h : AM n Z Γ M ta m Ds Mf) (hl : ∀ b ps, (Ds b ps).length ≤ 1000) : EM n Z Γ M (tTup ta) m (fun b ps => dT (Ds b ps)) Mf := .mk fun {G H σ Q} A E w =>
  h.run A E (w.mono (fun b q ps G1 H1 vs s1 A1 d => ⟨by rw [d.length, sizeLine_eq]; have := hl b ps; omega, fun z nz => q ps (upd G1 z (.tup vs)) _ _ (s1.trans (A1.newS nz)) (A1.newG nz) ⟨z, vs, rfl, upd_same, d.mono (A1.newS nz)⟩⟩) fun _ x => x)
/-- [a, b, ..] -/
theorem em_lst {ta : TA} {β α : Type} [Enc α] {m : R β} {f : β → List α} {Mf : β → Mm} (h : AMc n Z Γ M ta m (fun b => (f b).map dn) Mf) (hl : ∀ b, (f b).length ≤ 1000) : EM n Z Γ M (tLst ta) m (fun _ ps => dR (ps 0)) (fun b ps => (ps 0, cL (f b)) :: Mf b) := .mk fun {G H σ Q} A E w =>
  h.run A E (w.mono (fun b q ps G1 H1 vs s1 A1 d => ⟨by rw [d.length, sizeLine_eq, List.length_map]; have := hl b; omega, fun z nz => q (fun _ => z) G1 _ _ s1 (A1.new (c := cL (f b)) nz ⟨vs, rfl, d⟩) rfl⟩) fun _ x => x)
/-! ### slices, list(x) -/
def cutI {α : Type} (xs : List α) (lo hi : Option Int) : List α := (xs.drop (HT.sIx xs.length 0 lo)).take (HT.sIx xs.length xs.length hi - HT.sIx xs.length 0 lo)
structure OV (n : Nat) (Γ : Gm) (M : Mm) (to : TO) (c : Prop) (o : Option Int) : Prop where
  run : ∀ {G H : Hp} {σ : L2.St} {Q : Option Int → Hp → Prop}, c → At G M H → EnvOk n G σ Γ → Q o H → to σ H Q
theorem ov_none : OV n Γ M tNoPart True none := .mk fun _ _ _ q => q
theorem ov_some {te : TE} {c : Prop} {i : Int} (h : EV n Γ M te c (dI i)) : OV n Γ M (tPart te) c (some i) := .mk fun hc A E q => h.run hc A E fun v hv => ⟨i, hv, q⟩
theorem em_slice {α : Type} [Enc α] {xs : List α} {tl : TE} {cl c1 c2 : Prop} {to tu : TO} {lo hi : Option Int} (h : LV n Γ M tl cl xs) (h1 : OV n Γ M to c1 lo) (h2 : OV n Γ M tu c2 hi) :
    EM n Z Γ M (tSl (rSlL K) tl to tu) (chk (cl ∧ c1 ∧ c2) (.ok (cutI xs lo hi))) (fun _ ps => dR (ps 0)) (fun r ps => (ps 0, cL r) :: M) := .mk fun {G H σ Q} A E w => by
  rw [wp_chk] at w
  obtain ⟨⟨w1, w2, w3⟩, w⟩ := w
  refine h.run w1 A E fun p vs hp d => h1.run w2 A E (h2.run w3 A E ⟨p, vs, rfl, SqL.of hp, fun z nz => w (fun _ => z) G _ _ (Sub.refl _) ?_ rfl⟩)
  refine A.new (c := cL (cutI xs lo hi)) nz ⟨_, rfl, ?_⟩
  unfold cutV cutI
  rw [d.length, List.length_map, List.map_take, List.map_drop]
  exact (d.drop _).take _
theorem em_listof {α : Type} [Enc α] {xs : List α} {tl : TE} {cl : Prop} (h : LV n Γ M tl cl xs) :
    EM n Z Γ M (tCB (fun ws H Q => ∃ p ys, ws = [.ref p] ∧ (SqL K H p ys ∨ SqT K H p ys) ∧ ∀ l, H l = none → Q (.ref l) (upd H l (.lst ys))) (tCons tl tNil)) (chk cl (.ok xs)) (fun _ ps => dR (ps 0)) (fun r ps => (ps 0, cL r) :: M) := .mk fun {G H σ Q} A E w => by
  rw [wp_chk] at w
  exact h.run w.1 A E fun p vs hp d => ⟨p, vs, rfl, .inl (SqL.of hp), fun z nz => w.2 (fun _ => z) G _ _ (Sub.refl _) (A.new (c := cL xs) nz ⟨vs, rfl, d⟩) rfl⟩
/-! ### calls of defs -/
theorem em_call {XD : Exc → Value → Option Addr → Hp → Hp → Prop} {α β βa γ : Type} {Din : α → Adr → List Dn} {Min : α → Adr → Mm} {f : α → R β} {D : α → Adr → β → Adr → Dn} {Mo : α → Adr → β → Adr → Mm} {ta : TA} {m : R βa} {Ds : βa → List Dn} {Mf : βa → Mm}
    {a : βa → α} {qs : Adr} {g : βa → β → γ} {Dr : γ → Adr → Dn} {Mr : γ → Adr → Mm} {Mx : βa → Mm} {E0 : XK} (h : AMc n Z Γ M ta m Ds Mf) (hD : ∀ b, Ds b = Din (a b) qs) (hM : ∀ b, MLe (Min (a b) qs ++ Mx b) (Mf b))
    (hDr : ∀ b r ps, Dr (g b r) ps = D (a b) qs r ps) (hMr : ∀ b r ps, MLe (Mr (g b r) ps) (Mo (a b) qs r ps ++ Mx b)) :
    EM n Z Γ M (tCall (SpG XD Din Min f D Mo) [] E0 ta) (m.bind fun b => (f (a b)).nx.bind fun r => .ok (g b r)) Dr Mr := .mk fun {G H σ Q} A E w => by
  rw [wp_bind] at w
  refine h.run A E (w.mono (fun b q ps G1 H1 vs s1 A1 d => ?_) fun _ x => x)
  rw [wp_bind, wp_nx] at q
  rw [List.append_nil]
  refine ⟨G1, Mx b, a b, qs, hM b A1, by rw [← hD]; exact d, q.mono (fun r q2 ps2 G2 H2 v s2 A2 d2 => ?_) fun _ x => x.elim⟩
  exact q2 ps2 G2 H2 v (s1.trans s2) (hMr b r ps2 A2) (by rw [hDr]; exact d2)
/-! ### what loops walk -/
structure ITM (n : Nat) (Z : Zn) (Γ : Gm) (M : Mm) (wi : TI) {β α : Type} (m : R β) (D : α → Dn) (xs : β → List α) (Mf : β → Mm) (Mk : Mm) : Prop where
  run : ∀ {G H : Hp} {σ : L2.St} {R : It → Hp → Prop}, At G M H → EnvOk n G σ Γ →
  m.wp (fun b => ∀ G1 H1 J Gd Y, Sub G G1 → At G1 (Mf b) H1 → Walk J (xs b).length Gd Y → (∀ G' M' H', Sub G1 G' → At G' M' H' → (∀ q ∈ Mk, q ∈ M') → Gd H') →
    (∀ i x v G' M' H' H'', (xs b)[i]? = some x → Sub G1 G' → At G' M' H' → (∀ q ∈ Mk, q ∈ M') → Y i H' v H'' → ∃ G'', Sub G' G'' ∧ At G'' M' H'' ∧ (D x).P G'' v) → R J H1) (Z.P G) → wi σ H R
theorem it_list {α β : Type} [Enc α] {tl : TE} {m : R β} {xs : β → List α} {Mf : β → Mm} (h : EMc n Z Γ M tl m (fun b => dL (xs b)) Mf) : ITM n Z Γ M (iList K tl) m dn xs Mf [] := .mk fun {G H σ R} A E w =>
  h.run A E (w.mono (fun b q ps G1 H1 v s1 A1 d => by
    obtain ⟨p, vs, rfl, hp, d⟩ := d
    have hl : vs.length = (xs b).length := by rw [d.length, List.length_map]
    refine ⟨p, rfl, ⟨vs, SqL.of (A1.sub _ _ hp)⟩, q G1 H1 _ _ _ s1 A1 (hl ▸ walk_list) (fun G' M' H' s A' _ => SqL.of (A'.sub _ _ (s _ _ hp))) fun i x v G' M' H' H'' hx s A' _ y => ?_⟩
    obtain ⟨rfl, y⟩ := y
    obtain ⟨u, h1, h2⟩ := d.get (i := i) (D := dn x) (by rw [List.getElem?_map, hx]; rfl)
    rw [h1] at y; cases y
    exact ⟨G', Sub.refl _, A', (dn x).mono s h2⟩) fun _ x => x)
/-- 0, 1, .. below j -/
def rng (i j : Int) : List Int := (List.range (j - i).toNat).map fun (k : Nat) => i + (k : Int)
theorem rng_length (i j : Int) : (rng i j).length = (j - i).toNat := by unfold rng; rw [List.length_map, List.length_range]
theorem rng_at {i j x : Int} {k : Nat} (h : (rng i j)[k]? = some x) : x = i + (k : Int) := by
  unfold rng at h
  rw [List.getElem?_map] at h
  by_cases hk : k < (j - i).toNat
  · rw [List.getElem?_range hk] at h; cases h; rfl
  · rw [List.getElem?_eq_none (by rw [List.length_range]; omega)] at h; cases h
theorem it_range1 {β : Type} {ta : TA} {m : R β} {j : β → Int} {Mf : β → Mm} (h : AMc n Z Γ M ta m (fun b => [dI (j b)]) Mf) : ITM n Z Γ M (iRng1 ta) (m.bind fun b => chk (-1000000000 ≤ j b ∧ j b ≤ 1000000000) (.ok b)) dI (fun b => rng 0 (j b)) Mf [] := .mk fun {G H σ R} A E w => by
  rw [wp_bind] at w
  refine h.run A E (w.mono (fun b q ps G1 H1 vs s1 A1 d => ?_) fun _ x => x)
  rw [wp_chk] at q
  obtain ⟨v, r, rfl, rfl, rfl⟩ := d
  have hl : (j b).toNat = (rng 0 (j b)).length := by rw [rng_length]; congr 1; omega
  refine ⟨j b, rfl, by omega, by omega, q.2 G1 H1 (Itr 0 (j b).toNat) _ _ s1 A1 (show Walk _ (rng 0 (j b)).length _ _ by rw [← hl]; exact walk_range) (fun _ _ _ _ _ _ => trivial) fun i x v G' M' H' H'' hx s A' _ y => ?_⟩
  obtain ⟨rfl, rfl⟩ := y
  exact ⟨G', Sub.refl _, A', by rw [rng_at hx]; rfl⟩
theorem it_range2 {β : Type} {ta : TA} {m : R β} {i j : β → Int} {Mf : β → Mm} (h : AMc n Z Γ M ta m (fun b => [dI (i b), dI (j b)]) Mf) : ITM n Z Γ M (iRng2 ta) (m.bind fun b => chk (-1000000000 ≤ i b ∧ i b ≤ 1000000000 ∧ -1000000000 ≤ j b ∧ j b ≤ 1000000000) (.ok b)) dI (fun b => rng (i b) (j b)) Mf [] := .mk fun {G H σ R} A E w => by
  rw [wp_bind] at w
  refine h.run A E (w.mono (fun b q ps G1 H1 vs s1 A1 d => ?_) fun _ x => x)
  rw [wp_chk] at q
  obtain ⟨v, r, rfl, rfl, v2, r2, rfl, rfl, rfl⟩ := d
  have hl : (j b - i b).toNat = (rng (i b) (j b)).length := by rw [rng_length]
  refine ⟨i b, j b, rfl, by omega, q.2 G1 H1 (Itr (i b) (j b - i b).toNat) _ _ s1 A1 (show Walk _ (rng (i b) (j b)).length _ _ by rw [← hl]; exact walk_range) (fun _ _ _ _ _ _ => trivial) fun k x v G' M' H' H'' hx s A' _ y => ?_⟩
  obtain ⟨rfl, rfl⟩ := y
  exact ⟨G', Sub.refl _, A', by rw [rng_at hx]; rfl⟩
def enumI {α : Type} (xs : List α) : List (Int × α) := (List.range xs.length).zip xs |>.map fun p => ((p.1 : Int), p.2)
theorem enum_length {α : Type} (xs : List α) : (enumI xs).length = xs.length := by unfold enumI; rw [List.length_map, List.length_zip, List.length_range, Nat.min_self]
theorem enum_at {α : Type} {xs : List α} {k : Nat} {y : Int × α} (h : (enumI xs)[k]? = some y) : y.1 = (k : Int) ∧ xs[k]? = some y.2 := by
  unfold enumI at h
  rw [List.getElem?_map] at h
  cases e : ((List.range xs.length).zip xs)[k]? with
  | none => rw [e] at h; cases h
  | some z =>
    rw [e] at h; cases h
    have := List.getElem?_zip_eq_some.mp e
    obtain ⟨h1, h2⟩ := this
    have hk : k < (List.range xs.length).length := (List.getElem?_eq_some_iff.mp h1).1
    rw [List.getElem?_range (by simpa using hk)] at h1
    cases h1
    exact ⟨rfl, h2⟩
theorem it_enum {α β : Type} [Enc α] {ta : TA} {m : R β} {xs : β → List α} {Mf : β → Mm} (h : AMc n Z Γ M ta m (fun b => [dL (xs b)]) Mf) : ITM n Z Γ M (iEnum K ta) m (dn (α := Int × α)) (fun b => enumI (xs b)) Mf [] := .mk fun {G H σ R} A E w =>
  h.run A E (w.mono (fun b q ps G1 H1 vs s1 A1 d => by
    obtain ⟨v, r, rfl, ⟨p, vs, rfl, hp, d⟩, rfl⟩ := d
    have hl : vs.length = (enumI (xs b)).length := by rw [d.length, List.length_map, enum_length]
    refine ⟨p, vs, rfl, SqL.of (A1.sub _ _ hp), q G1 H1 _ _ _ s1 A1 (hl ▸ walk_enum) (fun G' M' H' s A' _ => SqL.of (A'.sub _ _ (s _ _ hp))) fun i x v G' M' H' H'' hx s A' _ y => ?_⟩
    obtain ⟨T, x1, y1, rfl, nT, rfl, e1, e2⟩ := y
    cases e1
    obtain ⟨k1, k2⟩ := enum_at hx
    obtain ⟨u, h1, h2⟩ := d.get (i := i) (D := dn x.2) (by rw [List.getElem?_map, k2]; rfl)
    replace e2 : vs[i]? = some y1 := e2
    rw [h1] at e2; cases e2
    refine ⟨_, A'.newS nT, A'.newG nT, T, _, rfl, upd_same, _, _, rfl, ?_, _, _, rfl, (dn x.2).mono (s.trans (A'.newS nT)) h2, rfl⟩
    rw [show x.1 = (i : Int) from k1]; exact rfl) fun _ x => x)
theorem it_zip {α α' β : Type} [Enc α] [Enc α'] {ta : TA} {m : R β} {xs : β → List α} {ys : β → List α'} {Mf : β → Mm} (h : AMc n Z Γ M ta m (fun b => [dL (xs b), dL (ys b)]) Mf) : ITM n Z Γ M (iZip K ta) m (dn (α := α × α')) (fun b => (xs b).zip (ys b)) Mf [] := .mk fun {G H σ R} A E w =>
  h.run A E (w.mono (fun b q ps G1 H1 vs s1 A1 d => by
    obtain ⟨v, r, rfl, ⟨p, vs, rfl, hp, d⟩, v2, r2, rfl, ⟨p2, ws, rfl, hp2, d2⟩, rfl⟩ := d
    have hl : ((xs b).zip (ys b)).length = min vs.length ws.length := by rw [d.length, d2.length, List.length_map, List.length_map, List.length_zip]
    refine ⟨p, p2, vs, ws, rfl, SqL.of (A1.sub _ _ hp), SqL.of (A1.sub _ _ hp2), q G1 H1 _ _ _ s1 A1 (walk_zip hl) (fun G' M' H' s A' _ => ⟨SqL.of (A'.sub _ _ (s _ _ hp)), SqL.of (A'.sub _ _ (s _ _ hp2))⟩) fun i x v G' M' H' H'' hx s A' _ y => ?_⟩
    obtain ⟨T, x1, y1, rfl, nT, rfl, e1, e2⟩ := y
    obtain ⟨k1, k2⟩ := List.getElem?_zip_eq_some.mp hx
    obtain ⟨u, h1, h2⟩ := d.get (i := i) (D := dn x.1) (by rw [List.getElem?_map, k1]; rfl)
    obtain ⟨u', h1', h2'⟩ := d2.get (i := i) (D := dn x.2) (by rw [List.getElem?_map, k2]; rfl)
    replace e1 : vs[i]? = some x1 := e1
    replace e2 : ws[i]? = some y1 := e2
    rw [h1] at e1; cases e1
    rw [h1'] at e2; cases e2
    exact ⟨_, A'.newS nT, A'.newG nT, T, _, rfl, upd_same, _, _, rfl, (dn x.1).mono (s.trans (A'.newS nT)) h2, _, _, rfl, (dn x.2).mono (s.trans (A'.newS nT)) h2', rfl⟩) fun _ x => x)
/-- an owned list, its values known -/
theorem it_ownX {α : Type} [Enc α] {tl : TE} {c : Prop} {p : Addr} {vs : List V} {xs : List α} (k : Nat) (h : EV n Γ M tl c (dR p)) (hm : M[k]? = some (p, cX vs xs)) : ITM n Z Γ M (iList K tl) (chk c (.ok ())) dn (fun _ => xs) (fun _ => M) [(p, cX vs xs)] := .mk fun {G H σ R} A E w => by
  rw [wp_chk] at w
  refine h.run w.1 A E fun v hv => ?_
  cases (show v = .ref p from hv)
  obtain ⟨⟨o, h1, rfl, d⟩, _⟩ := A.own _ (List.mem_of_getElem? hm)
  have hl : vs.length = xs.length := by rw [d.length, List.length_map]
  refine ⟨p, rfl, ⟨vs, SqL.of h1⟩, w.2 G H (Itl K p) (fun H' => SqL K H' p vs) (YAt vs) (Sub.refl _) A (hl ▸ walk_list) (fun G' M' H' s A' hk => ?_) fun i x v G' M' H' H'' hx s A' hk y => ?_⟩
  · obtain ⟨⟨o, h2, rfl, _⟩, _⟩ := A'.own _ (hk _ List.mem_cons_self)
    exact SqL.of h2
  · obtain ⟨rfl, y⟩ := y
    obtain ⟨u, h1, h2⟩ := d.get (i := i) (D := dn x) (by rw [List.getElem?_map, hx]; rfl)
    rw [h1] at y; cases y
    exact ⟨G', Sub.refl _, A', (dn x).mono s h2⟩
end
end Mr
set_option Elab.async false
set_option linter.all false
set_option maxRecDepth 100000
set_option maxHeartbeats 4000000
/-! MrD: targets, comprehensions, statements. -/
namespace Mr
open PySem PySem.Spec PyProof.Rows L2
/-! ### slots wiped -/
theorem wipe_in {σ : L2.St} {j : Nat} : ∀ {vs : List Nat}, j ∈ vs → (wipe σ vs)[j]? = if j < σ.length then some none else none
  | a :: r, h => by
    unfold wipe
    by_cases e : a = j
    · subst e
      by_cases z : a < σ.length
      · rw [List.getElem?_set_self (by rw [wipe_length]; exact z), if_pos z]
      · rw [List.getElem?_eq_none (by rw [List.length_set, wipe_length]; omega), if_neg z]
    · rw [List.getElem?_set_ne e]
      exact wipe_in ((List.mem_cons.mp h).resolve_left fun q => e q.symm)
theorem wipe_no {σ : L2.St} {j : Nat} : ∀ {vs : List Nat}, j ∉ vs → (wipe σ vs)[j]? = σ[j]?
  | [], _ => rfl
  | a :: r, h => by
    unfold wipe
    rw [List.getElem?_set_ne (fun q => h (by rw [← q]; exact List.mem_cons_self))]
    exact wipe_no fun q => h (List.mem_cons_of_mem _ q)
theorem wipe_set {σ : L2.St} {i : Nat} {v : Option V} {vs : List Nat} (h : i ∈ vs) : wipe (σ.set i v) vs = wipe σ vs := by
  apply List.ext_getElem?
  intro j
  by_cases hj : j ∈ vs
  · rw [wipe_in hj, wipe_in hj, List.length_set]
  · rw [wipe_no hj, wipe_no hj, List.getElem?_set_ne (fun q => hj (by rw [← q]; exact h))]
theorem wipe_wipe {σ : L2.St} {vs : List Nat} : wipe (wipe σ vs) vs = wipe σ vs := by
  apply List.ext_getElem?
  intro j
  by_cases hj : j ∈ vs
  · rw [wipe_in hj, wipe_in hj, wipe_length]
  · rw [wipe_no hj]
def Sw (vs : List Nat) : Gm → Gm → Prop
  | [], _ => True
  | (i, D) :: r, Γ => Γ.lookup i = some D ∧ i ∉ vs ∧ Sw vs r Γ
theorem Sw.at_ {vs : List Nat} : ∀ {Γ' Γ : Gm}, Sw vs Γ' Γ → ∀ i D, Γ'.lookup i = some D → Γ.lookup i = some D ∧ i ∉ vs
  | [], _, _, _, _, e => by cases e
  | (j, E) :: r, Γ, ⟨h, h2, k⟩, i, D, e => by
    by_cases z : i = j
    · subst z; rw [lookup_hit] at e; cases e; exact ⟨h, h2⟩
    · rw [lookup_miss z] at e; exact k.at_ i D e
theorem EnvOk.wipe {n : Nat} {G : Hp} {σ : L2.St} {Γ Γ' : Gm} {vs : List Nat} (h : EnvOk n G σ Γ) (s : Sw vs Γ' Γ) : EnvOk n G (L2.wipe σ vs) Γ' := ⟨by rw [wipe_length]; exact h.len, fun i D e => by
  obtain ⟨h1, h2⟩ := s.at_ i D e
  obtain ⟨v, h3, h4⟩ := h.at_ i D h1
  exact ⟨v, by rw [wipe_no h2]; exact h3, h4⟩⟩
section
variable {n : Nat} {Z : Zn} {Γ : Gm} {M : Mm} {K : PySem.W.Frag}
/-! ### targets -/
structure GT (n : Nat) (g : TG) (D : Dn) (adds : Gm) (sl : List Nat) : Prop where
  run : ∀ {G : Hp} {M : Mm} {H : Hp} {σ : L2.St} {Γ : Gm} {v : V} {Q : L2.St → Hp → Prop}, At G M H → EnvOk n G σ Γ → D.P G v →
  (∀ σ', EnvOk n G σ' (adds ++ Γ) → (∀ vs, (∀ i ∈ sl, i ∈ vs) → wipe σ' vs = wipe σ vs) → Q σ' H) → g v σ H Q
theorem gt_name {i : Nat} {D : Dn} (hi : i < n) : GT n (gName i) D [(i, D)] [i] := .mk fun A E d q => q _ (E.set hi d) fun vs h => wipe_set (h i (by simp))
theorem gt_tup2 {g1 g2 : TG} {D1 D2 : Dn} {a1 a2 : Gm} {s1 s2 : List Nat} (h1 : GT n g1 D1 a1 s1) (h2 : GT n g2 D2 a2 s2) : GT n (gTup K 2 (gCons g1 (gCons g2 gNil))) (dT [D1, D2]) (a2 ++ a1) (s1 ++ s2) := .mk fun A E d q => by
  obtain ⟨p, vs, rfl, hp, v1, r1, rfl, d1, v2, r2, rfl, d2, rfl⟩ := d
  refine ⟨p, _, rfl, SqT.of (A.sub _ _ hp), rfl, v1, _, rfl, h1.run A E d1 fun σ1 E1 w1 => ⟨v2, _, rfl, h2.run A E1 d2 fun σ2 E2 w2 => ⟨rfl, q σ2 (by rw [List.append_assoc]; exact E2) fun vs hv => ?_⟩⟩⟩
  rw [w2 vs fun i hi => hv i (List.mem_append_right _ hi), w1 vs fun i hi => hv i (List.mem_append_left _ hi)]
theorem mk_nil {M : Mm} : ∀ q ∈ ([] : Mm), q ∈ M := fun _ h => nomatch h
theorem mk_one {M : Mm} {a : Addr × Cn} (k : Nat) (h : M[k]? = some a) : ∀ q ∈ [a], q ∈ M := fun q hq => by
  rw [List.mem_singleton] at hq
  subst hq
  exact List.mem_of_getElem? h
/-! ### comprehensions -/
structure IE (n : Nat) {β γ : Type} [Enc β] (Γ : Gm) (Mg : γ → Mm) (tt : TT) (te : TE) (g : γ) (m : R (Option β × γ)) : Prop where
  run : ∀ {G H : Hp} {σ : L2.St} (Dd : Addr) (c : Cn) {Q : VK} {N : Hp → Prop}, At G ((Dd, c) :: Mg g) H → EnvOk n G σ Γ →
  m.wp (fun r => ∀ G' H', Sub G G' → At G' ((Dd, c) :: Mg r.2) H' → match r.1 with | some y => ∀ v, (dn y).P G' v → Q v H' | none => N H') (fun _ => False) → tt σ H fun b H3 => if b = true then te σ H3 Q else N H3
theorem em_lcG {β α η γ : Type} [Enc η] {wi : TI} {g : TG} {tt : TT} {te : TE} {vs sl : List Nat} {m : R β} {D : α → Dn} {xs : β → List α} {Mg : γ → Mm} {g0 : β → γ} {Γw : Gm} {adds : α → Gm} {f : β → α → γ → R (Option η × γ)}
    {Mk : Mm} (h : ITM n Z Γ M wi m D xs (fun b => Mg (g0 b)) Mk) (hk : ∀ g, ∀ q ∈ Mk, q ∈ Mg g) (hw : Sw vs Γw Γ) (hg : ∀ x, GT n g (D x) (adds x) sl) (hsl : ∀ i ∈ sl, i ∈ vs) (he : ∀ b x g', IE n (adds x ++ Γw) Mg tt te g' (f b x g')) :
    EM n Z Γ M (tLc wi g tt te vs) (m.bind fun b => chk ((xs b).length ≤ 16000000) (compR (f b) (xs b) (g0 b) []).nx) (fun _ ps => dR (ps 0)) (fun r ps => (ps 0, cL r.1) :: Mg r.2) := by
  refine .mk ?_
  intro G H σ Q A E w
  rw [wp_bind] at w
  refine h.run A E (w.mono (fun b q G1 H1 J Gd Y s1 A1 W hG hY => ?_) fun _ x => x)
  rw [wp_chk, wp_nx] at q
  obtain ⟨hz, q⟩ := q
  intro Dd nD
  refine lc_it W (fun i H' => ∃ G' g' acc, Sub G1 G' ∧ At G' ((Dd, cL acc) :: Mg g') H' ∧ acc.length ≤ i ∧ (compR (f b) ((xs b).drop i) g' acc).wp (fun r => ∀ (ps : Adr) G2 H2 v, Sub G' G2 → At G2 ((ps 0, cL r.1) :: Mg r.2) H2 → (dR (ps 0)).P G2 v → Q v H2) (fun _ => False)) ?_ (fun i H' hi hP => ?_) (fun i v H' H'' hi hP y => ?_) (fun H' hP => ?_)
  · refine ⟨G1, g0 b, [], Sub.refl _, A1.new (c := cL []) nD ⟨[], rfl, rfl⟩, Nat.zero_le _, ?_⟩
    rw [List.drop_zero]
    exact q.mono (fun r k ps G2 H2 v s => k ps G2 H2 v (s1.trans s)) fun _ x => x
  · obtain ⟨G', g', acc, s, A', _⟩ := hP
    exact hG G' _ H' s A' fun q hq => List.mem_cons_of_mem _ (hk g' q hq)
  · obtain ⟨G', g', acc, s, A', la, k⟩ := hP
    obtain ⟨x, hx⟩ := get_len hi
    have hx' := (List.getElem?_eq_some_iff.mp hx).2
    have ed : (xs b).drop i = x :: (xs b).drop (i + 1) := by rw [← hx', ← List.drop_eq_getElem_cons hi]
    rw [ed] at k
    obtain ⟨G'', s2, A'', d⟩ := hY i x v G' _ H' H'' hx s A' (fun q hq => List.mem_cons_of_mem _ (hk g' q hq)) y
    have E2 : EnvOk n G'' (wipe σ vs) Γw := (E.mono ((s1.trans s).trans s2)).wipe hw
    refine (hg x).run A'' E2 d fun σ' E3 w3 => ⟨by rw [w3 vs hsl]; exact wipe_wipe, ?_⟩
    rw [show compR (f b) (x :: (xs b).drop (i + 1)) g' acc = (f b x g').bind _ from rfl, wp_bind] at k
    refine (he b x g').run Dd (cL acc) A'' E3 (k.mono (fun r k2 G3 H3 s3 A3 => ?_) fun _ x => x)
    obtain ⟨ro, g2⟩ := r
    cases ro with
    | none => exact ⟨G3, g2, acc, (s.trans s2).trans s3, A3, Nat.le_succ_of_le la, k2.mono (fun r k3 ps G4 H4 v s4 => k3 ps G4 H4 v ((s2.trans s3).trans s4)) fun _ x => x⟩
    | some z =>
      intro u du
      obtain ⟨o, h1, ws, rfl, dw⟩ := A3.hd
      refine ⟨ws, h1, ?_, G3, g2, acc ++ [z], (s.trans s2).trans s3, A3.put (c' := cL (acc ++ [z])) ⟨_, rfl, by rw [List.map_append]; exact dw.append (.one du)⟩, ?_, k2.mono (fun r k3 ps G4 H4 v s4 => k3 ps G4 H4 v ((s2.trans s3).trans s4)) fun _ x => x⟩
      · rw [dw.length, List.length_map, sizeLine_eq]; omega
      · rw [List.length_append, List.length_singleton]; omega
  · obtain ⟨G', g', acc, s, A', la, k⟩ := hP
    rw [List.drop_length] at k
    exact k (fun _ => Dd) G' H' (.ref Dd) (Sub.refl _) A' rfl

/-! the element and the test -/
section
variable {β γ : Type} [Enc β] {Mg : γ → Mm} {tt : TT} {te : TE} {g : γ}
theorem ie_p0 {ce : Prop} {y : β} (h : EV n Γ (Mg g) te ce (dn y)) : IE n Γ Mg tYes te g (chk ce (.ok (some y, g))) := by
  refine .mk ?_
  intro G H σ Dd c Q N A E w
  rw [wp_chk] at w
  show if true = true then te σ H Q else N H
  exact iteT (h.run w.1 A.tl E (w.2 G H (Sub.refl _) A))
theorem ie_p {ct ce : Prop} {b : Bool} {y : β} (ht : TV n Γ (Mg g) tt ct b) (h : EV n Γ (Mg g) te ce (dn y)) : IE n Γ Mg tt te g (chk (ct ∧ (b = true → ce)) (.ok (if b = true then some y else none, g))) := by
  refine .mk ?_
  intro G H σ Dd c Q N A E w
  rw [wp_chk] at w
  refine ht.run w.1.1 A.tl E ?_
  cases b with
  | true => exact iteT (h.run (w.1.2 rfl) A.tl E (w.2 G H (Sub.refl _) A))
  | false => exact iteF (w.2 G H (Sub.refl _) A)
/-- an element with effects, no test -/
theorem ie_m0 {δ : Type} {m : R δ} {va : δ → β} {gb : δ → γ} (h : ∀ Dd c, EMc n z0 Γ ((Dd, c) :: Mg g) te m (fun d => dn (va d)) (fun d => (Dd, c) :: Mg (gb d))) : IE n Γ Mg tYes te g (m.bind fun d => .ok (some (va d), gb d)) := by
  refine .mk ?_
  intro G H σ Dd c Q N A E w
  rw [wp_bind] at w
  show if true = true then te σ H Q else N H
  exact iteT ((h Dd c).run A E (w.mono (fun d k ps G' H' v s A' dv => k G' H' s A' v dv) fun _ x => x))
theorem ie_m {δ : Type} {ct : Prop} {b : Bool} {m : R δ} {va : δ → β} {gb : δ → γ} (ht : TV n Γ (Mg g) tt ct b) (h : ∀ Dd c, EMc n z0 Γ ((Dd, c) :: Mg g) te m (fun d => dn (va d)) (fun d => (Dd, c) :: Mg (gb d))) :
    IE n Γ Mg tt te g (chk ct (if b = true then m.bind fun d => .ok (some (va d), gb d) else .ok (none, g))) := by
  refine .mk ?_
  intro G H σ Dd c Q N A E w
  rw [wp_chk] at w
  refine ht.run w.1 A.tl E ?_
  have w2 := w.2
  cases b with
  | true =>
    rw [if_pos rfl, wp_bind] at w2
    exact iteT ((h Dd c).run A E (w2.mono (fun d k ps G' H' v s A' dv => k G' H' s A' v dv) fun _ x => x))
  | false => exact iteF (w2 G H (Sub.refl _) A)
/-- a test with effects, a plain element -/
theorem ie_t {δ : Type} {m : R δ} {bb : δ → Bool} {gb : δ → γ} {ce : δ → Prop} {y : δ → β} (ht : ∀ Dd c, TM n z0 Γ ((Dd, c) :: Mg g) tt m bb (fun d _ => (Dd, c) :: Mg (gb d))) (h : ∀ d, EV n Γ (Mg (gb d)) te (ce d) (dn (y d))) :
    IE n Γ Mg tt te g (m.bind fun d => chk (bb d = true → ce d) (.ok (if bb d = true then some (y d) else none, gb d))) := by
  refine .mk ?_
  intro G H σ Dd c Q N A E w
  rw [wp_bind] at w
  refine (ht Dd c).run A E (w.mono (fun d k ps G' H' s A' => ?_) fun _ x => x)
  rw [wp_chk] at k
  cases e : bb d with
  | true =>
    rw [e, if_pos rfl] at k
    exact iteT ((h d).run (k.1 rfl) A'.tl (E.mono s) (k.2 G' H' s A'))
  | false =>
    rw [e, if_neg (by decide)] at k
    exact iteF (k.2 G' H' s A')
end
/-- the comprehension of plain items -/
theorem compR_p0 {α β γ : Type} {ce : α → Prop} {y : α → β} {g : γ} : ∀ (xs : List α) (acc : List β), compR (fun x g => chk (ce x) (.ok (some (y x), g))) xs g acc = chk (∀ x ∈ xs, ce x) (.ok (acc ++ xs.map y, g))
  | [], acc => by
    unfold compR chk
    rw [if_pos (by simp)]; simp
  | x :: r, acc => by
    unfold compR
    by_cases h : ce x
    · unfold chk
      rw [if_pos h]
      show compR (fun x g => chk (ce x) (.ok (some (y x), g))) r g (acc ++ [y x]) = _
      rw [compR_p0 r]
      unfold chk
      by_cases h2 : ∀ x ∈ r, ce x
      · rw [if_pos h2, if_pos (by intro z hz; rcases List.mem_cons.mp hz with rfl | hz; exact h; exact h2 z hz)]
        simp
      · rw [if_neg h2, if_neg (fun k => h2 fun z hz => k z (List.mem_cons_of_mem _ hz))]
    · unfold chk
      rw [if_neg h, if_neg (fun k => h (k x List.mem_cons_self))]; rfl
theorem compR_p {α β γ : Type} {ce : α → Prop} {b : α → Bool} {y : α → β} {g : γ} : ∀ (xs : List α) (acc : List β), compR (fun x g => chk (ce x) (.ok (if b x = true then some (y x) else none, g))) xs g acc = chk (∀ x ∈ xs, ce x) (.ok (acc ++ (xs.filter b).map y, g))
  | [], acc => by
    unfold compR chk
    rw [if_pos (by simp)]; simp
  | x :: r, acc => by
    unfold compR
    by_cases h : ce x
    · unfold chk
      rw [if_pos h]
      show compR (fun x g => chk (ce x) (.ok (if b x = true then some (y x) else none, g))) r g _ = _
      rw [compR_p r]
      unfold chk
      by_cases h2 : ∀ x ∈ r, ce x
      · have h3 : ∀ z ∈ x :: r, ce z := fun z hz => by
          rcases List.mem_cons.mp hz with rfl | hz
          · exact h
          · exact h2 z hz
        cases e : b x <;> simp [e, if_pos h2, if_pos h3]
      · rw [if_neg h2, if_neg (fun k => h2 fun z hz => k z (List.mem_cons_of_mem _ hz))]
    · unfold chk
      rw [if_neg h, if_neg (fun k => h (k x List.mem_cons_self))]; rfl
/-! ### statements -/
variable {γ δ β : Type} {W : Ex γ δ β}
theorem sm_in {ts : TS} {m : R (Out γ δ β)} {M2 : Mm} (h : MLe M2 M) (k : SM n Z Γ M2 ts m W) : SM n Z Γ M ts m W := .mk fun A E w => k.run (h A) E w
theorem sm_sb {ts : TS} {m : R (Out γ δ β)} {Γ2 : Gm} (h : Sb Γ2 Γ) (k : SM n Z Γ2 M ts m W) : SM n Z Γ M ts m W := .mk fun A E w => k.run A (E.sb h) w
theorem sm_eq {ts : TS} {m m' : R (Out γ δ β)} (e : m' = m) (k : SM n Z Γ M ts m W) : SM n Z Γ M ts m' W := e ▸ k
theorem sm_last {t : TS} {m : R (Out γ δ β)} (k : SM n Z Γ M (tSeq t tNext) m W) : SM n Z Γ M t m W := k
theorem sm_nil {g : γ} (ps : Adr) (h : Sb (W.Γn g ps) Γ) (hM : MLe (W.Mn g ps) M) : SM n Z Γ M tNext (.ok (.nx g)) W := .mk fun {G H σ D} A E w => w ps G H σ (Sub.refl _) (hM A) (E.sb h)
/-- an owned list, frozen from here on -/
theorem sm_frz {α : Type} [Enc α] {ts : TS} {m : R (Out γ δ β)} {p : Addr} {xs : List α} (i : Nat) (hi : Γ.lookup i = some (dR p)) (k : SM n Z ((i, dL xs) :: Γ) M ts m W) : SM n Z Γ ((p, cL xs) :: M) ts m W := by
  refine .mk ?_
  intro G H σ D A E w
  obtain ⟨o, h1, vs, rfl, d⟩ := A.hd
  refine k.run (A.frz h1) ⟨E.len, fun j D' e => ?_⟩ (w.mono (fun o f => f.mono A.frzS) fun x hx => Z.mono A.frzS hx)
  by_cases z : j = i
  · subst z
    rw [lookup_hit] at e; cases e
    obtain ⟨v, h2, h3⟩ := E.at_ j _ hi
    cases (show v = .ref p from h3)
    exact ⟨_, h2, p, vs, rfl, upd_same, d.mono A.frzS⟩
  · rw [lookup_miss z] at e
    obtain ⟨v, h2, h3⟩ := E.at_ j D' e
    exact ⟨v, h2, D'.mono A.frzS h3⟩
/-- an owned list's values told, to be walked -/
theorem sm_exact {α : Type} [Enc α] {ts : TS} {m : R (Out γ δ β)} {p : Addr} {xs : List α} (k : ∀ vs, SM n Z Γ ((p, cX vs xs) :: M) ts m W) : SM n Z Γ ((p, cL xs) :: M) ts m W := by
  refine .mk ?_
  intro G H σ D A E w
  obtain ⟨o, h1, vs, rfl, d⟩ := A.hd
  refine (k vs).run ⟨A.sub, fun q hq => ?_, A.nd⟩ E w
  rcases List.mem_cons.mp hq with rfl | hq
  · exact ⟨⟨_, h1, rfl, d⟩, A.gn⟩
  · exact A.own q (List.mem_cons_of_mem _ hq)
section
variable {ta : TE} {η : Type} {m : R η} {D : η → Adr → Dn} {Mf : η → Adr → Mm} {rest : TS} {k : η → R (Out γ δ β)}
theorem sm_asg {g : TG} {adds : η → Adr → Gm} {sl : List Nat} (h : EM n Z Γ M ta m D Mf) (hg : ∀ b ps, GT n g (D b ps) (adds b ps) sl) (hr : ∀ b ps, SM n Z (adds b ps ++ Γ) (Mf b ps) rest (k b) W) : SM n Z Γ M (tSeq (tAsg ta g) rest) (m.bind k) W := by
  refine .mk ?_
  intro G H σ E0 A E w
  rw [wp_bind] at w
  exact h.run A E (w.mono (fun b q ps G' H' v s A' d => (hg b ps).run A' (E.mono s) d fun σ' E' _ => (hr b ps).run A' E' (q.mono (fun o f => f.mono s) fun x hx => Z.mono s hx)) fun _ x => x)
theorem sm_set {i : Nat} (h : EM n Z Γ M ta m D Mf) (hi : i < n) (hr : ∀ b ps, SM n Z ((i, D b ps) :: Γ) (Mf b ps) rest (k b) W) : SM n Z Γ M (tSeq (tAsg ta (gName i)) rest) (m.bind k) W := by
  refine .mk ?_
  intro G H σ E0 A E w
  rw [wp_bind] at w
  exact h.run A E (w.mono (fun b q ps G' H' v s A' d => (hr b ps).run A' ((E.mono s).set hi d) (q.mono (fun o f => f.mono s) fun x hx => Z.mono s hx)) fun _ x => x)
theorem sm_expr (h : EM n Z Γ M ta m D Mf) (hr : ∀ b ps, SM n Z Γ (Mf b ps) rest (k b) W) : SM n Z Γ M (tSeq (tDrop ta) rest) (m.bind k) W := by
  refine .mk ?_
  intro G H σ E0 A E w
  rw [wp_bind] at w
  exact h.run A E (w.mono (fun b q ps G' H' v s A' d => (hr b ps).run A' (E.mono s) (q.mono (fun o f => f.mono s) fun x hx => Z.mono s hx)) fun _ x => x)
theorem sm_ret {g : η → β} (h : EM n Z Γ M ta m D Mf) (hD : ∀ b ps, W.Dr (g b) ps = D b ps) (hM : ∀ b ps, MLe (W.Mr (g b) ps) (Mf b ps)) : SM n Z Γ M (tRet ta) (m.bind fun b => .ok (.rt (g b))) W := by
  refine .mk ?_
  intro G H σ E0 A E w
  rw [wp_bind] at w
  exact h.run A E (w.mono (fun b q ps G' H' v s A' d => q ps G' H' v s (hM b ps A') (by rw [hD]; exact d)) fun _ x => x)
end
/-- x += e, an int -/
theorem sm_aug {i : Nat} {f : Int → Int → Int} {te : TE} {x : Int} {η : Type} {m : R η} {y : η → Int} {Mf : η → Mm} {rest : TS} {k : η → R (Out γ δ β)} (hx : Γ.lookup i = some (dI x)) (h : EMc n Z Γ M te m (fun b => dI (y b)) Mf) (hi : i < n)
    (hr : ∀ b, SM n Z ((i, dI (f x (y b))) :: Γ) (Mf b) rest (k b) W) : SM n Z Γ M (tSeq (tAug i te (ipI f)) rest) (m.bind k) W := by
  refine .mk ?_
  intro G H σ E0 A E w
  rw [wp_bind] at w
  obtain ⟨v, h1, h2⟩ := E.at_ i _ hx
  refine ⟨v, h1, h.run A E (w.mono (fun b q ps G' H' u s A' d => ⟨x, y b, h2, d, ?_⟩) fun _ x => x)⟩
  exact (hr b).run A' ((E.mono s).set (D := dI (f x (y b))) hi rfl) (q.mono (fun o f => f.mono s) fun x hx => Z.mono s hx)
/-- behind a statement -/
theorem fit_seq {γ' : Type} {Γ1 : γ' → Adr → Gm} {M1 : γ' → Adr → Mm} {rest : TS} {k : γ' → R (Out γ δ β)} {G : Hp} {D : Ends} (hr : ∀ g ps, SM n Z (Γ1 g ps) (M1 g ps) rest (k g) W) {o : Out γ' δ β}
    (h : (goO k o).wp (Fits n W G D) (Z.P G)) : Fits n (⟨Γ1, M1, W.Γl, W.Ml, W.Dr, W.Mr⟩ : Ex γ' δ β) G { D with nx := rest D } o := by
  cases o with
  | nx g => exact fun ps G' H' σ' s A' E' => (hr g ps).run A' E' (R.wp.mono h (fun o f => f.mono s) fun x hx => Z.mono s hx)
  | rt b => exact h
  | bk d => exact h
  | ct d => exact h
theorem sm_seq {γ' : Type} {t rest : TS} {m : R (Out γ' δ β)} {Γ1 : γ' → Adr → Gm} {M1 : γ' → Adr → Mm} {k : γ' → R (Out γ δ β)} (h : SM n Z Γ M t m ⟨Γ1, M1, W.Γl, W.Ml, W.Dr, W.Mr⟩) (hr : ∀ g ps, SM n Z (Γ1 g ps) (M1 g ps) rest (k g) W) :
    SM n Z Γ M (tSeq t rest) (seqO m k) W := by
  refine .mk ?_
  intro G H σ D A E w
  unfold seqO at w
  rw [wp_bind] at w
  exact h.run A E (w.mono (fun o q => fit_seq hr q) fun _ x => x)
theorem sm_if {t u : TS} {tt : TT} {c : Prop} {b : Bool} {m1 m2 : R (Out γ δ β)} (ht : TV n Γ M tt c b) (h1 : b = true → SM n Z Γ M t m1 W) (h2 : b = false → SM n Z Γ M u m2 W) : SM n Z Γ M (tIfS tt t u) (chk c (if b = true then m1 else m2)) W := by
  refine .mk ?_
  intro G H σ D A E w
  rw [wp_chk] at w
  refine ht.run w.1 A E ?_
  have w2 := w.2
  cases b with
  | true => exact iteT ((h1 rfl).run A E w2)
  | false => exact iteF ((h2 rfl).run A E w2)
theorem sm_ifM {t u : TS} {tt : TT} {η : Type} {m : R η} {b : η → Bool} {Mf : η → Adr → Mm} {m1 m2 : η → R (Out γ δ β)} (ht : TM n Z Γ M tt m b Mf) (h1 : ∀ r ps, b r = true → SM n Z Γ (Mf r ps) t (m1 r) W) (h2 : ∀ r ps, b r = false → SM n Z Γ (Mf r ps) u (m2 r) W) :
    SM n Z Γ M (tIfS tt t u) (m.bind fun r => if b r = true then m1 r else m2 r) W := by
  refine .mk ?_
  intro G H σ D A E w
  rw [wp_bind] at w
  refine ht.run A E (w.mono (fun r q ps G' H' s A' => ?_) fun _ x => x)
  have q' := R.wp.mono q (fun o f => Fits.mono s f) (fun x hx => Z.mono s hx)
  cases e : b r with
  | true => rw [e, if_pos rfl] at q'; exact iteT ((h1 r ps e).run A' (E.mono s) q')
  | false => rw [e, if_neg (by decide)] at q'; exact iteF ((h2 r ps e).run A' (E.mono s) q')
theorem tm_em {te : TE} {η : Type} {m : R η} {b : η → Bool} {Mf : η → Mm} (h : EMc n Z Γ M te m (fun r => dB (b r)) Mf) : TM n Z Γ M (tTest te) m b (fun r _ => Mf r) := by
  refine .mk ?_
  intro G H σ Q A E w
  exact h.run A E (w.mono (fun r q ps G' H' v s A' d => ⟨b r, d, q ps G' H' s A'⟩) fun _ x => x)
theorem tm_emB {te : TE} {η : Type} {m : R η} {b : η → Bool} {Mf : η → Mm} (h : EMc n Z Γ M te m (fun r => dB (b r)) Mf) : TM n Z Γ M (tB te) m b (fun r _ => Mf r) := by
  refine .mk ?_
  intro G H σ Q A E w
  exact h.run A E (w.mono (fun r q ps G' H' v s A' d => ⟨b r, d, q ps G' H' s A'⟩) fun _ x => x)
/-! ### loops -/
section
variable {wi : TI} {g : TG} {tb rest : TS} {η α γ' : Type} {m : R η} {D : α → Dn} {xs : η → List α} {Mf : η → Mm} {Γl : γ' → Adr → Gm} {Ml : γ' → Adr → Mm} {g0 : η → γ'} {adds : α → Gm} {sl : List Nat} {k : γ' → R (Out γ δ β)}
theorem sm_for {f : η → α → γ' → R (Out γ' γ' β)} (ps0 : η → Adr) {Mk : Mm} (h : ITM n Z Γ M wi m D xs Mf Mk) (hk : ∀ g' ps, ∀ q ∈ Mk, q ∈ Ml g' ps) (h0 : ∀ b, Sb (Γl (g0 b) (ps0 b)) Γ) (hM : ∀ b, MLe (Ml (g0 b) (ps0 b)) (Mf b)) (hg : ∀ x, GT n g (D x) (adds x) sl)
    (hb : ∀ b x g' ps, SM n Z (adds x ++ Γl g' ps) (Ml g' ps) tb (f b x g') (⟨Γl, Ml, Γl, Ml, W.Dr, W.Mr⟩ : Ex γ' γ' β)) (hr : ∀ g' ps, SM n Z (Γl g' ps) (Ml g' ps) rest (k g') W) :
    SM n Z Γ M (tSeq (tFor wi g tb) rest) (m.bind fun b => seqO (forR (f b) (xs b) (g0 b)) k) W := by
  refine .mk ?_
  intro G H σ D0 A E w
  rw [wp_bind] at w
  refine h.run A E (w.mono (fun b q G1 H1 J Gd Y s1 A1 Wk hG hY => ?_) fun _ x => x)
  refine for_it Wk (fun i σ' H' => ∃ G' g' ps, Sub G1 G' ∧ At G' (Ml g' ps) H' ∧ EnvOk n G' σ' (Γl g' ps) ∧ (seqO (forR (f b) ((xs b).drop i) g') k).wp (Fits n W G' D0) (Z.P G')) ?_ (fun i σ' H' _ hP => ?_) (fun i v σ' H' H'' hi hP y => ?_) (fun σ' H' hP => ?_)
  · exact ⟨G1, g0 b, ps0 b, Sub.refl _, hM b A1, (E.mono s1).sb (h0 b), by rw [List.drop_zero]; exact R.wp.mono q (fun o f => f.mono s1) fun x hx => Z.mono s1 hx⟩
  · obtain ⟨G', g', ps, s, A', _⟩ := hP
    exact hG G' _ H' s A' (hk g' ps)
  · obtain ⟨G', g', ps, s, A', E', q'⟩ := hP
    obtain ⟨x, hx⟩ := get_len hi
    have hx' := (List.getElem?_eq_some_iff.mp hx).2
    have ed : (xs b).drop i = x :: (xs b).drop (i + 1) := by rw [← hx', ← List.drop_eq_getElem_cons hi]
    rw [ed] at q'
    obtain ⟨G'', s2, A'', d⟩ := hY i x v G' _ H' H'' hx s A' (hk g' ps) y
    refine (hg x).run A'' (E'.mono s2) d fun σ2 E2 _ => ?_
    unfold seqO at q'
    rw [show forR (f b) (x :: (xs b).drop (i + 1)) g' = (f b x g').bind (turnO (forR (f b) ((xs b).drop (i + 1)))) from rfl, wp_bind, wp_bind] at q'
    refine (hb b x g' ps).run A'' E2 (R.wp.mono q' (fun o q2 => ?_) fun x hx => Z.mono s2 hx)
    have again : ∀ g2, (seqO (forR (f b) ((xs b).drop (i + 1)) g2) k).wp (Fits n W G' D0) (Z.P G') → ∀ (ps : Adr) (G3 H3 : _) (σ3 : L2.St), Sub G'' G3 → At G3 (Ml g2 ps) H3 → EnvOk n G3 σ3 (Γl g2 ps) →
        ∃ G' g' ps, Sub G1 G' ∧ At G' (Ml g' ps) H3 ∧ EnvOk n G' σ3 (Γl g' ps) ∧ (seqO (forR (f b) ((xs b).drop (i + 1)) g') k).wp (Fits n W G' D0) (Z.P G') := fun g2 z ps G3 H3 σ3 s3 A3 E3 =>
      ⟨G3, g2, ps, (s.trans s2).trans s3, A3, E3, R.wp.mono z (fun o f => f.mono (s2.trans s3)) fun x hx => Z.mono (s2.trans s3) hx⟩
    cases o with
    | nx g2 => exact again g2 (by unfold seqO; rw [wp_bind]; exact q2)
    | ct g2 => exact again g2 (by unfold seqO; rw [wp_bind]; exact q2)
    | bk g2 => exact fun ps G3 H3 σ3 s3 A3 E3 => (hr g2 ps).run A3 E3 (R.wp.mono q2 (fun o f => f.mono (s2.trans s3)) fun x hx => Z.mono (s2.trans s3) hx)
    | rt r => exact fun ps G3 H3 v s3 A3 d3 => q2 ps G3 H3 v (s2.trans s3) A3 d3
  · obtain ⟨G', g', ps, s, A', E', q'⟩ := hP
    rw [List.drop_length] at q'
    exact (hr g' ps).run A' E' q'
end
theorem sm_while {c : TT} {tb rest : TS} {γ' : Type} {Γl : γ' → Adr → Gm} {Ml : γ' → Adr → Mm} {g0 : γ'} {k : γ' → R (Out γ δ β)} {cc : γ' → Prop} {b : γ' → Bool} {f : γ' → R (Out γ' γ' β)} (fuel : Nat) (ps0 : Adr) (h0 : Sb (Γl g0 ps0) Γ) (hM : MLe (Ml g0 ps0) M)
    (ht : ∀ g ps, TV n (Γl g ps) (Ml g ps) c (cc g) (b g)) (hb : ∀ g ps, b g = true → SM n Z (Γl g ps) (Ml g ps) tb (f g) (⟨Γl, Ml, Γl, Ml, W.Dr, W.Mr⟩ : Ex γ' γ' β)) (hr : ∀ g ps, SM n Z (Γl g ps) (Ml g ps) rest (k g) W) :
    SM n Z Γ M (tSeq (tWhile c tb) rest) (seqO (whileR cc b f fuel g0) k) W := by
  refine .mk ?_
  intro G H σ D0 A E w
  refine ⟨fun m σ' H' => ∃ G' g ps, Sub G G' ∧ At G' (Ml g ps) H' ∧ EnvOk n G' σ' (Γl g ps) ∧ (seqO (whileR cc b f m g) k).wp (Fits n W G' D0) (Z.P G'), ⟨fuel, G, g0, ps0, Sub.refl _, hM A, E.sb h0, w⟩, fun m σ' H' hP => ?_⟩
  obtain ⟨G', g, ps, s, A', E', q⟩ := hP
  cases m with
  | zero => exact q.elim
  | succ m =>
    unfold seqO at q
    rw [show whileR cc b f (m + 1) g = chk (cc g) (if b g = true then (f g).bind (turnO (whileR cc b f m)) else .ok (.nx g)) from rfl, wp_bind, wp_chk] at q
    refine (ht g ps).run q.1 A' E' ?_
    have q2 := q.2
    cases e : b g with
    | true =>
      rw [e, if_pos rfl, wp_bind] at q2
      refine iteT ⟨fun σ3 H3 => ∃ G' g ps, Sub G G' ∧ At G' (Ml g ps) H3 ∧ EnvOk n G' σ3 (Γl g ps) ∧ (seqO (whileR cc b f m g) k).wp (Fits n W G' D0) (Z.P G'), fun σ3 H3 hP => ⟨m, Nat.lt_succ_self _, hP⟩, ?_⟩
      refine (hb g ps e).run A' E' (R.wp.mono q2 (fun o q3 => ?_) fun _ x => x)
      have again : ∀ g2, (seqO (whileR cc b f m g2) k).wp (Fits n W G' D0) (Z.P G') → ∀ (ps : Adr) (G3 H3 : _) (σ3 : L2.St), Sub G' G3 → At G3 (Ml g2 ps) H3 → EnvOk n G3 σ3 (Γl g2 ps) →
          ∃ G' g ps, Sub G G' ∧ At G' (Ml g ps) H3 ∧ EnvOk n G' σ3 (Γl g ps) ∧ (seqO (whileR cc b f m g) k).wp (Fits n W G' D0) (Z.P G') := fun g2 z ps G3 H3 σ3 s3 A3 E3 =>
        ⟨G3, g2, ps, s.trans s3, A3, E3, R.wp.mono z (fun o f => f.mono s3) fun x hx => Z.mono s3 hx⟩
      cases o with
      | nx g2 => exact again g2 (by unfold seqO; rw [wp_bind]; exact q3)
      | ct g2 => exact again g2 (by unfold seqO; rw [wp_bind]; exact q3)
      | bk g2 => exact fun ps G3 H3 σ3 s3 A3 E3 => (hr g2 ps).run A3 E3 (R.wp.mono q3 (fun o f => f.mono s3) fun x hx => Z.mono s3 hx)
      | rt r => exact fun ps G3 H3 v s3 A3 d3 => q3 ps G3 H3 v s3 A3 d3
    | false =>
      rw [e, if_neg (by decide)] at q2
      exact iteF ((hr g ps).run A' E' q2)
/-! ### objects changed -/
section
variable {α : Type} [Enc α] {p : Addr} {xs : List α}
theorem em_append {c0 : Cn} (hc0 : ∀ G o, c0.P G o → (cL xs).P G o) {to te : TE} {η : Type} {m : R η} {y : η → α} {M1 : η → Mm} {M0 : Mm} (ho : EV n Γ ((p, c0) :: M0) to True (dR p)) (h : EMc n Z Γ ((p, c0) :: M0) te m (fun b => dn (y b)) (fun b => (p, c0) :: M1 b)) :
    EMc n Z Γ ((p, c0) :: M0) (tBM K "list" rAppend to (tCons te tNil)) (m.bind fun b => chk (xs.length ≤ 16000000) (.ok b)) (fun _ => dN) (fun b => (p, cL (xs ++ [y b])) :: M1 b) := by
  refine .mk ?_
  intro G H σ Q A E w
  rw [wp_bind] at w
  refine ho.run trivial A E fun v hv => ?_
  cases (show v = .ref p from hv)
  obtain ⟨o, h1, h2⟩ := A.hd
  obtain ⟨vs, rfl, d⟩ := hc0 _ _ h2
  refine ⟨.inl ⟨rfl, vs, SqL.of h1⟩, h.run A E (w.mono (fun b q ps G' H' u s A' du => ?_) fun _ x => x)⟩
  rw [wp_chk] at q
  obtain ⟨o, h1, h2⟩ := A'.hd
  obtain ⟨ws, rfl, d⟩ := hc0 _ _ h2
  refine ⟨p, ws, u, rfl, rfl, h1, by rw [d.length, List.length_map, sizeLine_eq]; omega, ?_⟩
  exact q.2 ps G' _ _ s (A'.put (c' := cL (xs ++ [y b])) ⟨_, rfl, by rw [List.map_append]; exact d.append (.one du)⟩) rfl
/-- xs[i] = e -/
theorem sm_setL {to ti te : TE} {η : Type} {m : R η} {y : η → α} {M1 : η → Mm} {M0 : Mm} {ci : η → Prop} {i : η → Int} {rest : TS} {k : η → R (Out γ δ β)} (h : EMc n Z Γ ((p, cL xs) :: M0) te m (fun b => dn (y b)) (fun b => (p, cL xs) :: M1 b))
    (ho : ∀ b, EV n Γ ((p, cL xs) :: M1 b) to True (dR p)) (hi : ∀ b, EV n Γ ((p, cL xs) :: M1 b) ti (ci b) (dI (i b))) (hr : ∀ b, SM n Z Γ ((p, cL (setI xs (i b) (y b))) :: M1 b) rest (k b) W) :
    SM n Z Γ ((p, cL xs) :: M0) (tSeq (tAsg te (gSub to ti rSetL)) rest) (m.bind fun b => chk (ci b ∧ inR xs (i b)) (k b)) W := by
  refine .mk ?_
  intro G H σ D A E w
  rw [wp_bind] at w
  refine h.run A E (w.mono (fun b q ps G' H' u s A' du => ?_) fun _ x => x)
  rw [wp_chk] at q
  refine (ho b).run trivial A' (E.mono s) fun v hv => (hi b).run q.1.1 A' (E.mono s) fun z hz => ?_
  cases (show v = .ref p from hv)
  cases (show z = .int (i b) from hz)
  obtain ⟨o, h1, ws, rfl, d⟩ := A'.hd
  have hl : ws.length = xs.length := by rw [d.length, List.length_map]
  refine ⟨p, ws, i b, pl xs (i b), rfl, rfl, h1, by rw [hl]; exact ixN_of q.1.2.1 q.1.2.2, ?_⟩
  refine (hr b).run (A'.put (c' := cL (setI xs (i b) (y b))) ⟨_, rfl, ?_⟩) (E.mono s) (R.wp.mono q.2 (fun o f => f.mono s) fun x hx => Z.mono s hx)
  unfold setI
  rw [List.map_set]
  exact d.set du _
end
end
end Mr
namespace Mr
open PySem PySem.Spec PyProof.Rows L2
section
variable {n : Nat} {Z : Zn} {Γ : Gm} {M : Mm} {K : PySem.W.Frag}
/-- the result told otherwise -/
theorem em_map {te : TE} {β β' : Type} {m : R β} {D : β → Adr → Dn} {Mf : β → Adr → Mm} {D' : β' → Adr → Dn} {Mf' : β' → Adr → Mm} {h : β → β'} (k : EM n Z Γ M te m D Mf) (hD : ∀ b ps, D' (h b) ps = D b ps) (hM : ∀ b ps, MLe (Mf' (h b) ps) (Mf b ps)) :
    EM n Z Γ M te (m.bind fun b => .ok (h b)) D' Mf' := by
  refine .mk ?_
  intro G H σ Q A E w
  rw [wp_bind] at w
  exact k.run A E (w.mono (fun b q ps G' H' v s A' d => q ps G' H' v s (hM b ps A') (by rw [hD]; exact d)) fun _ x => x)
/-- [y for x in xs], all plain -/
theorem em_lcP {α η : Type} [Enc η] {β : Type} {wi : TI} {g : TG} {te : TE} {vs sl : List Nat} {m : R β} {D : α → Dn} {xs : β → List α} {M0 : Mm} {Γw : Gm} {adds : α → Gm} {ce : β → α → Prop} {y : β → α → η}
    {Mk : Mm} (h : ITM n Z Γ M wi m D xs (fun _ => M0) Mk) (hk : ∀ q ∈ Mk, q ∈ M0) (hw : Sw vs Γw Γ) (hg : ∀ x, GT n g (D x) (adds x) sl) (hsl : ∀ i ∈ sl, i ∈ vs) (he : ∀ b x, EV n (adds x ++ Γw) M0 te (ce b x) (dn (y b x))) :
    EM n Z Γ M (tLc wi g tYes te vs) (m.bind fun b => chk ((xs b).length ≤ 16000000 ∧ ∀ x ∈ xs b, ce b x) (.ok ((xs b).map (y b)))) (fun _ ps => dR (ps 0)) (fun r ps => (ps 0, cL r) :: M0) := by
  have k := em_map (D' := fun _ ps => dR (ps 0)) (Mf' := fun (r : List η) ps => (ps 0, cL r) :: M0) (h := fun r => r.1) (em_lcG (Z := Z) (γ := Unit) (Mg := fun _ => M0) (g0 := fun _ => ()) (f := fun b x g => chk (ce b x) (.ok (some (y b x), g))) (η := η) (tt := tYes) (te := te) h (fun _ => hk) hw hg hsl fun b x g' => ie_p0 (he b x)) (fun _ _ => rfl) (fun _ _ => MLe.rfl)
  refine em_bindE ?_ k
  cases m with
  | ok b =>
    show chk _ _ = R.bind (chk _ _) _
    rw [compR_p0]
    unfold chk
    by_cases h1 : (xs b).length ≤ 16000000
    · by_cases h2 : ∀ x ∈ xs b, ce b x
      · rw [if_pos ⟨h1, h2⟩, if_pos h1, if_pos h2]; rfl
      · rw [if_neg (fun z => h2 z.2), if_pos h1, if_neg h2]; rfl
    · rw [if_neg (fun z => h1 z.1), if_neg h1]; rfl
  | exc x => rfl
  | bad => rfl
/-- [y for x in xs if t], all plain -/
theorem em_lcT {α η : Type} [Enc η] {β : Type} {wi : TI} {g : TG} {tt : TT} {te : TE} {vs sl : List Nat} {m : R β} {D : α → Dn} {xs : β → List α} {M0 : Mm} {Γw : Gm} {adds : α → Gm} {ct ce : β → α → Prop} {bb : β → α → Bool} {y : β → α → η}
    {Mk : Mm} (h : ITM n Z Γ M wi m D xs (fun _ => M0) Mk) (hk : ∀ q ∈ Mk, q ∈ M0) (hw : Sw vs Γw Γ) (hg : ∀ x, GT n g (D x) (adds x) sl) (hsl : ∀ i ∈ sl, i ∈ vs) (ht : ∀ b x, TV n (adds x ++ Γw) M0 tt (ct b x) (bb b x)) (he : ∀ b x, EV n (adds x ++ Γw) M0 te (ce b x) (dn (y b x))) :
    EM n Z Γ M (tLc wi g tt te vs) (m.bind fun b => chk ((xs b).length ≤ 16000000 ∧ ∀ x ∈ xs b, ct b x ∧ (bb b x = true → ce b x)) (.ok (((xs b).filter (bb b)).map (y b)))) (fun _ ps => dR (ps 0)) (fun r ps => (ps 0, cL r) :: M0) := by
  have k := em_map (D' := fun _ ps => dR (ps 0)) (Mf' := fun (r : List η) ps => (ps 0, cL r) :: M0) (h := fun r => r.1) (em_lcG (Z := Z) (γ := Unit) (Mg := fun _ => M0) (g0 := fun _ => ()) (f := fun b x g => chk (ct b x ∧ (bb b x = true → ce b x)) (.ok (if bb b x = true then some (y b x) else none, g))) (η := η) h (fun _ => hk) hw hg hsl fun b x g' => ie_p (ht b x) (he b x)) (fun _ _ => rfl) (fun _ _ => MLe.rfl)
  refine em_bindE ?_ k
  cases m with
  | ok b =>
    show chk _ _ = R.bind (chk _ _) _
    rw [compR_p]
    unfold chk
    by_cases h1 : (xs b).length ≤ 16000000
    · by_cases h2 : ∀ x ∈ xs b, ct b x ∧ (bb b x = true → ce b x)
      · rw [if_pos ⟨h1, h2⟩, if_pos h1, if_pos h2]; rfl
      · rw [if_neg (fun z => h2 z.2), if_pos h1, if_neg h2]; rfl
    · rw [if_neg (fun z => h1 z.1), if_neg h1]; rfl
  | exc x => rfl
  | bad => rfl
/-- items made by effects that leave what is owned -/
noncomputable def lcM {α β : Type} (f : α → R β) (xs : List α) : R (List β) := chk (xs.length ≤ 16000000) ((compR (fun x (_ : Unit) => (f x).bind fun y => .ok (some y, ())) xs () []).nx.bind fun r => .ok r.1)
theorem em_lcM {α η : Type} [Enc η] {β : Type} {wi : TI} {g : TG} {te : TE} {vs sl : List Nat} {m : R β} {D : α → Dn} {xs : β → List α} {M0 : Mm} {Γw : Gm} {adds : α → Gm} {f : β → α → R η}
    {Mk : Mm} (h : ITM n Z Γ M wi m D xs (fun _ => M0) Mk) (hk : ∀ q ∈ Mk, q ∈ M0) (hw : Sw vs Γw Γ) (hg : ∀ x, GT n g (D x) (adds x) sl) (hsl : ∀ i ∈ sl, i ∈ vs) (he : ∀ b x Dd c, EMc n z0 (adds x ++ Γw) ((Dd, c) :: M0) te (f b x) (fun d => dn d) (fun _ => (Dd, c) :: M0)) :
    EM n Z Γ M (tLc wi g tYes te vs) (m.bind fun b => lcM (f b) (xs b)) (fun _ ps => dR (ps 0)) (fun r ps => (ps 0, cL r) :: M0) := by
  have k := em_map (D' := fun _ ps => dR (ps 0)) (Mf' := fun (r : List η) ps => (ps 0, cL r) :: M0) (h := fun r => r.1) (em_lcG (Z := Z) (γ := Unit) (Mg := fun _ => M0) (g0 := fun _ => ()) (f := fun b x g => (f b x).bind fun y => .ok (some y, g)) (η := η) (tt := tYes) (te := te) h (fun _ => hk) hw hg hsl fun b x g' => ie_m0 (va := fun y => y) (gb := fun _ => g') (he b x)) (fun _ _ => rfl) (fun _ _ => MLe.rfl)
  refine em_bindE ?_ k
  cases m with
  | ok b =>
    show lcM _ _ = R.bind (chk _ _) _
    unfold lcM chk
    by_cases h1 : (xs b).length ≤ 16000000
    · rw [if_pos h1, if_pos h1]
    · rw [if_neg h1, if_neg h1]; rfl
  | exc x => rfl
  | bad => rfl
/-! ### more on mirrors of expressions -/
section
variable {te : TE} {β : Type} {m : R β} {Mf : β → Mm}
theorem em_un {f : Int → Int} {v : β → Int} (h : EMc n Z Γ M te m (fun b => dI (v b)) Mf) : EMc n Z Γ M (tUn (rU fun i => .int (f i)) te) m (fun b => dI (f (v b))) Mf := by
  refine .mk ?_
  intro G H σ Q A E w
  exact h.run A E (w.mono (fun b q ps G' H' u s A' d => ⟨v b, d, q ps G' H' _ s A' rfl⟩) fun _ x => x)
theorem em_not {v : β → Bool} (h : EMc n Z Γ M te m (fun b => dB (v b)) Mf) : EMc n Z Γ M (tNotV te) m (fun b => dB (!v b)) Mf := by
  refine .mk ?_
  intro G H σ Q A E w
  exact h.run A E (w.mono (fun b q ps G' H' u s A' d => ⟨v b, d, q ps G' H' _ s A' rfl⟩) fun _ x => x)
theorem em_sum {v : β → List Int} (h : EMc n Z Γ M te m (fun b => dL (v b)) Mf) : EMc n Z Γ M (tCB (rSum K) (tCons te tNil)) m (fun b => dI (v b).sum) Mf := by
  refine .mk ?_
  intro G H σ Q A E w
  refine h.run A E (w.mono (fun b q ps G' H' u s A' d => ?_) fun _ x => x)
  obtain ⟨p, vs, rfl, hp, d⟩ := d
  rw [dens_ints d] at hp
  exact ⟨p, v b, rfl, SqL.of (A'.sub _ _ hp), q ps G' H' _ s A' rfl⟩
theorem em_len {α : Type} [Enc α] {v : β → List α} (h : EMc n Z Γ M te m (fun b => dL (v b)) Mf) : EMc n Z Γ M (tCB (fun ws H Q => ∃ p ys, ws = [.ref p] ∧ (SqL K H p ys ∨ SqT K H p ys) ∧ Q (.int ys.length) H) (tCons te tNil)) m (fun b => dI (v b).length) Mf := by
  refine .mk ?_
  intro G H σ Q A E w
  refine h.run A E (w.mono (fun b q ps G' H' u s A' d => ?_) fun _ x => x)
  obtain ⟨p, vs, rfl, hp, d⟩ := d
  exact ⟨p, vs, rfl, .inl (SqL.of (A'.sub _ _ hp)), q ps G' H' _ s A' (by show V.int _ = V.int _; rw [d.length, List.length_map])⟩
end
section
variable {t u : TT} {β1 β2 : Type} {m1 : R β1} {m2 : R β2} {b1 : β1 → Bool} {b2 : β2 → Bool}
/-- and, or with effects that leave what is owned -/
theorem tm_and (h : TM n Z Γ M t m1 b1 (fun _ _ => M)) (k : TM n Z Γ M u m2 b2 (fun _ _ => M)) : TM n Z Γ M (tAnd t u) (m1.bind fun a => if b1 a = true then m2.bind fun b => .ok (b2 b) else .ok false) id (fun _ _ => M) := by
  refine .mk ?_
  intro G H σ Q A E w
  rw [wp_bind] at w
  refine h.run A E (w.mono (fun a q ps G' H' s A' => ?_) fun _ x => x)
  cases e : b1 a with
  | true =>
    rw [e, if_pos rfl, wp_bind] at q
    exact iteT (k.run A' (E.mono s) (q.mono (fun b q2 ps G2 H2 s2 A2 => q2 ps G2 H2 (s.trans s2) A2) fun x hx => Z.mono s hx))
  | false =>
    rw [e, if_neg (by decide)] at q
    exact iteF (q ps G' H' s A')
theorem tm_or (h : TM n Z Γ M t m1 b1 (fun _ _ => M)) (k : TM n Z Γ M u m2 b2 (fun _ _ => M)) : TM n Z Γ M (tOr t u) (m1.bind fun a => if b1 a = true then .ok true else m2.bind fun b => .ok (b2 b)) id (fun _ _ => M) := by
  refine .mk ?_
  intro G H σ Q A E w
  rw [wp_bind] at w
  refine h.run A E (w.mono (fun a q ps G' H' s A' => ?_) fun _ x => x)
  cases e : b1 a with
  | false =>
    rw [e, if_neg (by decide), wp_bind] at q
    exact iteF (k.run A' (E.mono s) (q.mono (fun b q2 ps G2 H2 s2 A2 => q2 ps G2 H2 (s.trans s2) A2) fun x hx => Z.mono s hx))
  | true =>
    rw [e, if_pos rfl] at q
    exact iteT (q ps G' H' s A')
theorem tm_not (h : TM n Z Γ M t m1 b1 (fun _ _ => M)) : TM n Z Γ M (tNot t) m1 (fun a => !b1 a) (fun _ _ => M) := by
  refine .mk ?_
  intro G H σ Q A E w
  exact h.run A E (w.mono (fun a q ps G' H' s A' => q ps G' H' s A') fun _ x => x)
end
/-! ### what is lent to a def that hands back a plain value -/
structure BV (n : Nat) (Γ : Gm) (M : Mm) (ta : TA) (c : Prop) (Ds : List Dn) : Prop where
  run : ∀ {G H : Hp} {σ : L2.St} {Q : List V → Hp → Prop}, c → At G M H → EnvOk n G σ Γ → (∀ vs, Dens Ds H vs → Q vs H) → ta σ H Q
theorem bv_nil : BV n Γ M tNil True [] := .mk fun _ _ _ q => q [] rfl
theorem bv_cons {ta : TE} {t : TA} {ca cb : Prop} {D : Dn} {Ds : List Dn} (h : EV n Γ M ta ca D) (k : BV n Γ M t cb Ds) : BV n Γ M (tCons ta t) (ca ∧ cb) (D :: Ds) :=
  .mk fun hc A E q => h.run hc.1 A E fun v hv => k.run hc.2 A E fun vs hvs => q _ ⟨v, vs, rfl, D.mono A.sub hv, hvs⟩
theorem bv_lent {α : Type} [Enc α] {xs : List α} {ta : TE} {t : TA} {ca cb : Prop} {Ds : List Dn} (h : LV n Γ M ta ca xs) (k : BV n Γ M t cb Ds) : BV n Γ M (tCons ta t) (ca ∧ cb) (dL xs :: Ds) :=
  .mk fun hc A E q => h.run hc.1 A E fun p ws hp d => k.run hc.2 A E fun vs hvs => q _ ⟨_, vs, rfl, ⟨p, ws, rfl, hp, d.mono A.sub⟩, hvs⟩
def Flat (D : Dn) : Prop := ∀ G G' v, D.P G v → D.P G' v
theorem flat_I {i : Int} : Flat (dI i) := fun _ _ _ h => h
theorem flat_B {i : Bool} : Flat (dB i) := fun _ _ _ h => h
theorem flat_S {i : Str} : Flat (dS i) := fun _ _ _ h => h
theorem em_callB {XD : Exc → Value → Option Addr → Hp → Hp → Prop} {α β : Type} {Din : α → Adr → List Dn} {Min : α → Adr → Mm} {f : α → R β} {D : α → Adr → β → Adr → Dn} {Mo : α → Adr → β → Adr → Mm} {ta : TA} {c : Prop}
    {a : α} {Dr : β → Dn} {E0 : XK} (h : BV n Γ M ta c (Din a fun _ => 0)) (hM : Min a (fun _ => 0) = []) (hDr : ∀ r ps, D a (fun _ => 0) r ps = Dr r) (hF : ∀ r, Flat (Dr r)) :
    EMc n Z Γ M (tCall (SpG XD Din Min f D Mo) [] E0 ta) (chk c (f a).nx) Dr (fun _ => M) := by
  refine .mk ?_
  intro G H σ Q A E w
  rw [wp_chk, wp_nx] at w
  refine h.run w.1 A E fun vs hvs => ?_
  rw [List.append_nil]
  refine ⟨H, [], a, fun _ => 0, by rw [hM]; exact At.self H, hvs, w.2.mono (fun r q ps G2 H2 v s2 A2 d2 => ?_) fun _ x => x.elim⟩
  rw [hDr] at d2
  exact q (fun _ => 0) G H2 v (Sub.refl _) (A.ext (s2.trans A2.sub)) (hF r _ _ _ d2)
/-! ### a def by its body -/
def runE {γ δ β : Type} (m : R (Out γ δ β)) : R β := m.bind fun o => match o with
  | .rt b => .ok b
  | _ => .bad
def gm0 : Nat → List Dn → Gm
  | _, [] => []
  | k, D :: r => (k, D) :: gm0 (k + 1) r
theorem gm0_at {G : Hp} : ∀ {Ds : List Dn} {vs : List V} (k : Nat), Dens Ds G vs → ∀ i D, (gm0 k Ds).lookup i = some D → k ≤ i ∧ ∃ v, vs[i - k]? = some v ∧ D.P G v
  | [], _, _, _, _, _, e => by cases e
  | E :: Ds, _, k, ⟨v, r, h, h1, h2⟩, i, D, e => by
    subst h
    by_cases z : i = k
    · subst z
      rw [gm0, lookup_hit] at e; cases e
      exact ⟨Nat.le_refl _, v, by simp, h1⟩
    · rw [gm0, lookup_miss z] at e
      obtain ⟨k1, w, k2, k3⟩ := gm0_at (k + 1) h2 i D e
      refine ⟨by omega, w, ?_, k3⟩
      rw [show i - k = (i - (k + 1)) + 1 by omega, List.getElem?_cons_succ]
      exact k2
theorem start_env {N : List Str} {n : Nat} {G : Hp} {Ds : List Dn} {vs : List V} (hn : N.length = n) (hl : Ds.length ≤ n) (d : Dens Ds G vs) : EnvOk n G (L2.start N vs) (gm0 0 Ds) := by
  have l := d.length
  refine ⟨by unfold L2.start; rw [List.length_append, List.length_map, List.length_replicate]; omega, fun i D e => ?_⟩
  obtain ⟨_, v, h1, h2⟩ := gm0_at 0 d i D e
  refine ⟨v, ?_, h2⟩
  have hi : i < vs.length := by
    have := (List.getElem?_eq_some_iff.mp h1).1
    omega
  unfold L2.start
  rw [List.getElem?_append_left (by rw [List.length_map]; exact hi), List.getElem?_map]
  simp only [Nat.sub_zero] at h1
  rw [h1]; rfl
/-- what is wished of an exception that leaves a def -/
def zE (XD : Exc → Value → Option Addr → Hp → Hp → Prop) (M0 : Mm) (E : XK) : Zn := ⟨fun G x => ∀ G' H' c d, Sub G G' → At G' M0 H' → XD x c d G' H' → E c d H', fun s h G' H' c d s' => h G' H' c d (s.trans s')⟩
theorem spg_len {XD : Exc → Value → Option Addr → Hp → Hp → Prop} {α β : Type} {Din : α → Adr → List Dn} {Min : α → Adr → Mm} {f : α → R β} {D : α → Adr → β → Adr → Dn} {Mo : α → Adr → β → Adr → Mm} {k : Nat} (hk : ∀ a qs, (Din a qs).length = k) {vs : List V} {H : Hp} {Q : VK} {E : XK} (h : SpG XD Din Min f D Mo vs H Q E) : vs.length = k := by
  obtain ⟨G, M, a, qs, A, d, w⟩ := h
  rw [d.length, hk]
theorem def_ret {XD : Exc → Value → Option Addr → Hp → Hp → Prop} {α β γ δ : Type} {Din : α → Adr → List Dn} {Min : α → Adr → Mm} {f : α → R β} {D : α → Adr → β → Adr → Dn} {Mo : α → Adr → β → Adr → Mm} {N : List Str} {vs : List V} {H : Hp} {Q : VK} {E : XK} {ts : TS} {nx : L2.St → Hp → Prop}
    {body : α → R (Out γ δ β)} {Γn : α → Adr → γ → Adr → Gm} {Mn : α → Adr → γ → Adr → Mm} {Γl : α → Adr → δ → Adr → Gm} {Ml : α → Adr → δ → Adr → Mm} (h : SpG XD Din Min f D Mo vs H Q E) (hn : N.length = n) (hl : ∀ a qs, (Din a qs).length ≤ n) (hf : ∀ a, f a = runE (body a))
    (hb : ∀ a qs M, SM n (zE XD (Min a qs ++ M) E) (gm0 0 (Din a qs)) (Min a qs ++ M) ts (body a) ⟨Γn a qs, Mn a qs, Γl a qs, Ml a qs, D a qs, fun r ps => Mo a qs r ps ++ M⟩) :
    ts { nx := nx, rt := Q } (L2.start N vs) H := by
  obtain ⟨G, M, a, qs, A, d, w⟩ := h
  refine (hb a qs M).run A (start_env hn (hl a qs) d) ?_
  rw [hf] at w
  unfold runE at w
  rw [wp_bind] at w
  refine w.mono (fun o q => ?_) fun x hx => hx
  cases o with
  | rt b => exact q
  | nx g => exact q.elim
  | bk g => exact q.elim
  | ct g => exact q.elim
end
end Mr
namespace Mr
open PySem PySem.Spec PyProof.Rows L2
section
variable {n : Nat} {Z : Zn} {Γ : Gm} {M : Mm} {K : PySem.W.Frag}
/-- f(e, ..), the arguments plain -/
theorem em_callP {XD : Exc → Value → Option Addr → Hp → Hp → Prop} {α β : Type} {Din : α → Adr → List Dn} {Min : α → Adr → Mm} {f : α → R β} {D : α → Adr → β → Adr → Dn} {Mo : α → Adr → β → Adr → Mm} {ta : TA} {c : Prop}
    {a : α} {E0 : XK} (qs : Adr) (Mx : Mm) {Mr : β → Adr → Mm} (h : AV n Γ M ta c (Din a qs)) (hM : MLe (Min a qs ++ Mx) M) (hMr : ∀ r ps, MLe (Mr r ps) (Mo a qs r ps ++ Mx)) :
    EM n Z Γ M (tCall (SpG XD Din Min f D Mo) [] E0 ta) (chk c (f a).nx) (D a qs) Mr := by
  refine .mk ?_
  intro G H σ Q A E w
  rw [wp_chk, wp_nx] at w
  refine h.run w.1 A E fun vs hvs => ?_
  rw [List.append_nil]
  exact ⟨G, Mx, a, qs, hM A, hvs, w.2.mono (fun r q ps G2 H2 v s2 A2 d2 => q ps G2 H2 v s2 (hMr r ps A2) d2) fun _ x => x.elim⟩
theorem em_callP0 {XD : Exc → Value → Option Addr → Hp → Hp → Prop} {α β : Type} {Din : α → Adr → List Dn} {Min : α → Adr → Mm} {f : α → R β} {D : α → Adr → β → Adr → Dn} {Mo : α → Adr → β → Adr → Mm} {ta : TA} {c : Prop}
    {a : α} {E0 : XK} (h : AV n Γ M ta c (Din a fun _ => 0)) (hM : Min a (fun _ => 0) = []) (hMr : ∀ r ps, Mo a (fun _ => 0) r ps = []) :
    EM n Z Γ M (tCall (SpG XD Din Min f D Mo) [] E0 ta) (chk c (f a).nx) (D a fun _ => 0) (fun _ _ => M) :=
  em_callP (fun _ => 0) M h (by rw [hM]; exact MLe.rfl) fun r ps => by rw [hMr]; exact MLe.rfl
/-- [a, b], the items plain -/
theorem em_lst0 {α : Type} [Enc α] {ta : TA} {c : Prop} {xs : List α} (h : AV n Γ M ta c (xs.map dn)) (hl : xs.length ≤ 1000) : EM n Z Γ M (tLst ta) (chk c (.ok xs)) (fun _ ps => dR (ps 0)) (fun r ps => (ps 0, cL r) :: M) := by
  refine .mk ?_
  intro G H σ Q A E w
  rw [wp_chk] at w
  exact h.run w.1 A E fun vs d => ⟨by rw [d.length, sizeLine_eq, List.length_map]; omega, fun z nz => w.2 (fun _ => z) G _ _ (Sub.refl _) (A.new (c := cL xs) nz ⟨vs, rfl, d⟩) rfl⟩
/-- (a, b), the parts plain -/
theorem em_tup0 {β : Type} {D : β → Dn} {ta : TA} {c : Prop} {Ds : List Dn} {x : β} (h : AV n Γ M ta c Ds) (hD : D x = dT Ds) (hl : Ds.length ≤ 1000) : EMc n Z Γ M (tTup ta) (chk c (.ok x)) D (fun _ => M) := by
  refine .mk ?_
  intro G H σ Q A E w
  rw [wp_chk] at w
  refine h.run w.1 A E fun vs d => ⟨by rw [d.length, sizeLine_eq]; omega, fun z nz => w.2 (fun _ => z) _ _ _ (A.newS nz) (A.newG nz) ?_⟩
  rw [hD]
  exact ⟨z, vs, rfl, upd_same, d.mono (A.newS nz)⟩
/-- [y for x in xs if t], t with effects -/
noncomputable def lcT {α β δ : Type} (mt : α → R δ) (bb : α → δ → Bool) (ce : α → Prop) (y : α → β) (xs : List α) : R (List β) := chk (xs.length ≤ 16000000) ((compR (fun x (_ : Unit) => (mt x).bind fun d => chk (bb x d = true → ce x) (.ok (if bb x d = true then some (y x) else none, ()))) xs () []).nx.bind fun r => .ok r.1)
theorem em_lcTM {α η δ : Type} [Enc η] {β : Type} {wi : TI} {g : TG} {tt : TT} {te : TE} {vs sl : List Nat} {m : R β} {D : α → Dn} {xs : β → List α} {M0 : Mm} {Γw : Gm} {adds : α → Gm} {mt : β → α → R δ} {bb : β → α → δ → Bool} {ce : β → α → Prop} {y : β → α → η}
    {Mk : Mm} (h : ITM n Z Γ M wi m D xs (fun _ => M0) Mk) (hk : ∀ q ∈ Mk, q ∈ M0) (hw : Sw vs Γw Γ) (hg : ∀ x, GT n g (D x) (adds x) sl) (hsl : ∀ i ∈ sl, i ∈ vs) (ht : ∀ b x Dd c, TM n z0 (adds x ++ Γw) ((Dd, c) :: M0) tt (mt b x) (bb b x) (fun _ _ => (Dd, c) :: M0)) (he : ∀ b x, EV n (adds x ++ Γw) M0 te (ce b x) (dn (y b x))) :
    EM n Z Γ M (tLc wi g tt te vs) (m.bind fun b => lcT (mt b) (bb b) (ce b) (y b) (xs b)) (fun _ ps => dR (ps 0)) (fun r ps => (ps 0, cL r) :: M0) := by
  have k := em_map (D' := fun _ ps => dR (ps 0)) (Mf' := fun (r : List η) ps => (ps 0, cL r) :: M0) (h := fun r => r.1) (em_lcG (Z := Z) (γ := Unit) (Mg := fun _ => M0) (g0 := fun _ => ()) (f := fun b x g => (mt b x).bind fun d => chk (bb b x d = true → ce b x) (.ok (if bb b x d = true then some (y b x) else none, g))) (η := η) h (fun _ => hk) hw hg hsl fun b x g' => ie_t (gb := fun _ => g') (ce := fun _ => ce b x) (y := fun _ => y b x) (ht b x) (fun _ => he b x)) (fun _ _ => rfl) (fun _ _ => MLe.rfl)
  refine em_bindE ?_ k
  cases m with
  | ok b =>
    show lcT _ _ _ _ _ = R.bind (chk _ _) _
    unfold lcT chk
    by_cases h1 : (xs b).length ≤ 16000000
    · rw [if_pos h1, if_pos h1]
    · rw [if_neg h1, if_neg h1]; rfl
  | exc x => rfl
  | bad => rfl
theorem sm_bad {γ δ β : Type} {W : Ex γ δ β} {ts : TS} : SM n Z Γ M ts .bad W := .mk fun _ _ w => w.elim
end
end Mr
set_option Elab.async false
set_option linter.all false
set_option maxRecDepth 100000
set_option maxHeartbeats 4000000
/-! MrK: the layer's rules with the written part named apart (in blocks within blocks it is the def's own). -/
namespace Mr
open PySem PySem.Spec PyProof.Rows L2
section
variable {X : Cx} {K : PySem.W.Frag} {tg : Expr}
theorem ix_listK (e : X.K = K) : IxR X (rIxL K) := by subst e; exact ix_list
theorem ix_tupK (e : X.K = K) : IxR X (rIxT K) := by subst e; exact ix_tup
theorem sl_listK (e : X.K = K) : SlR X (rSlL K) := by subst e; exact sl_list
theorem sl_tupK (e : X.K = K) : SlR X (rSlT K) := by subst e; exact sl_tup
theorem call_len_seqK (e : X.K = K) : CallR X (.builtin "len") (fun xs H Q => ∃ p ys, xs = [.ref p] ∧ (SqL K H p ys ∨ SqT K H p ys) ∧ Q (.int ys.length) H) := by subst e; exact call_len_seq
theorem cr_sumK (e : X.K = K) (hc : X.calm = true) : CallR X (.builtin "sum") (rSum K) := by subst e; exact cr_sum hc
theorem call_list_ofK (e : X.K = K) : CallR X (.type "list") (fun xs H Q => ∃ p ys, xs = [.ref p] ∧ (SqL K H p ys ∨ SqT K H p ys) ∧ ∀ l, H l = none → Q (.ref l) (upd H l (.lst ys))) := by subst e; exact call_list_of
theorem call_tuple_ofK (e : X.K = K) : CallR X (.type "tuple") (fun xs H Q => ∃ p ys, xs = [.ref p] ∧ ((SqL K H p ys ∧ ∀ l, H l = none → Q (.ref l) (upd H l (.tup ys))) ∨ (SqT K H p ys ∧ Q (.ref p) H))) := by subst e; exact call_tuple_of
theorem call_isiK (e : X.K = K) : CallR X (.builtin "isinstance") (rIsi K) := by subst e; exact call_isi
theorem op_in_seqK (e : X.K = K) : OpR X (compareOp .In) (rIn K false) := by subst e; exact op_in_seq
theorem op_notIn_seqK (e : X.K = K) : OpR X (compareOp .NotIn) (rIn K true) := by subst e; exact op_notIn_seq
theorem op_eqDK (e : X.K = K) (hu : X.A.units + 64 < cLine) : OpR X (compareOp .Eq) (rEqD K) := by subst e; exact op_eqD hu
theorem op_neDK (e : X.K = K) (hu : X.A.units + 64 < cLine) : OpR X (compareOp .NotEq) (rNeD K) := by subst e; exact op_neD hu
theorem pi_listK (e : X.K = K) {l : Expr} {tl : TE} (hl : PE X l tl) : PI X tg l (iList K tl) := by subst e; exact pi_list hl
theorem pi_tupK (e : X.K = K) {l : Expr} {tl : TE} (hl : PE X l tl) : PI X tg l (iTup K tl) := by subst e; exact pi_tup hl
theorem pi_enumK {e : Expr} {ta : TA} {p pos tpos : Pos} {elts : List Expr} {kk : Nat} (eK : X.K = K) (hg : Gl X "enumerate") (hm : X.mg "enumerate" = none) (ha : PA X [e] ta) (hs : starEach [e] X.env = [(false, eval e X.env)] := by rfl) : PI X (.Tuple elts kk tpos) (.Call (.Name "enumerate" p) [e] [] pos) (iEnum K ta) := by subst eK; exact pi_enum hg hm ha hs
theorem pi_zipK {e e2 : Expr} {ta : TA} {p pos tpos : Pos} {elts : List Expr} {kk : Nat} (eK : X.K = K) (hg : Gl X "zip") (hm : X.mg "zip" = none) (ha : PA X [e, e2] ta)
    (hs : starEach [e, e2] X.env = (false, eval e X.env) :: starEach [e2] X.env := by rfl) (hpl : (backTo pos (starEach [e2] X.env)).any (·.1) = false := by rfl) : PI X (.Tuple elts kk tpos) (.Call (.Name "zip" p) [e, e2] [] pos) (iZip K ta) := by subst eK; exact pi_zip hg hm ha hs hpl
theorem pg_tupK {es : List Expr} {k : Nat} {t : TGs} {n : Nat} {pos : Pos} (eK : X.K = K) (hc : X.calm = true) (h : PGs X es t)
    (hn : (assignEach es X.env).length = n := by rfl) (hst : (assignEach es X.env).findIdx? (·.1) = none := by rfl) : PG X (.Tuple es k pos) (gTup K n t) := by subst eK; exact pg_tup hc h hn hst
theorem pe_fldK {e : Expr} {ta : TE} {f : Str} {pos : Pos} (eK : X.K = K) (he : PE X e ta) (hb : attributeBase e f X.env (eval e X.env) = eval e X.env) : PE X (.Attribute e f pos) (tFld K ta f) := by subst eK; exact pe_fld he hb
end
end Mr
set_option Elab.async false
set_option linter.all false
set_option maxRecDepth 100000
set_option maxHeartbeats 4000000
/-! MrX: X(e), X an own exception class over own classes over ValueError; its __init__ says super().__init__("..") and stores one field. -/
namespace PySem
namespace XiX
open PySem.W PySem.Calls PyProof.Rows PySem.HandSPX
abbrev xB (f txt : Str) (j : Nat) (p1 p2 p3 p4 p5 p6 q1 q2 q3 q4 : Pos) : List Stmt :=
  [.Expr (.Call (.Attribute (.Call (.Name "super" p1) [] [] p2) "__init__" p3) [.Constant (.str txt) j p4] [] p5) p6, .Assign [.Attribute (.Name "self" q1) f q2] (.Name f q3) q4]
/-- what the written part says of X's class C, of its __init__ at fI, of the class's cell cc, of the code's record cda -/
structure Txt (P : Program) (K : Frag) (mg : Str → Option Value) (nm f : Str) (st : Stmt) (C fI cc cda : Addr) : Prop where
  gC : mg nm = some (.ref C)
  cls : ∃ nm q N bs bm sn sub ab col dd k0 k1 k2 k3 k5, K.lookup C = some (excClassObj nm q C N bs bm true sn sub ab col dd k0 k1 k2 k3 k5 "ValueError.__new__") ∧ refsVE bm = true
  sa : findIn K (.ref C) "__setattr__" = some (some (.builtin "object.__setattr__"))
  ga : findIn K (.ref C) "__getattribute__" = some (some (.builtin "BaseException.__getattribute__"))
  gg : findIn K (.ref C) "__getattr__" = some none
  noN : findIn K (.ref C) f = some none
  iC : findIn K (.ref C) "__init__" = some (some (.ref fI))
  tC : typeIn K (.ref fI) = some (.type "function")
  kC : keepIn K (.ref C) = true
  exC : subIn K (.ref C) (.type "BaseException") = some true
  tyC : typeIn K (.ref C) = some (.type "type")
  hdC : hasDictIn K C = true
  te : exmOne K (.ref C) (.ref C) = some true
  fn : ∃ (oc : Value) (od : Option Addr) (kV doc pm : Value) (an : Option Addr) (ct : Value) (osl : Array (Option Value)) (qual : Str),
    K.lookup fI = some ⟨oc, od, .func (fnX "__init__" qual (L2.defArgs st) (L2.defBody st) (L2.defScope st) [("__class__", cc)] .none kV doc pm an (.ref cda) ct), osl⟩ ∧ codeIn K (.ref cda) qual = true
  body : ∃ txt j p1 p2 p3 p4 p5 p6 q1 q2 q3 q4, L2.defBody st = xB f txt j p1 p2 p3 p4 p5 p6 q1 q2 q3 q4 ∧
    ∀ env : Env, ∃ pl : Sem Bool, eval (.Call (.Attribute (.Call (.Name "super" p1) [] [] p2) "__init__" p3) [.Constant (.str txt) j p4] [] p5) env = (do
      let ov ← attributeBase (.Call (.Name "super" p1) [] [] p2) "__init__" env (eval (.Call (.Name "super" p1) [] [] p2) env)
      standAt p3.atName
      let (f, first) ← holding [ov] (getMethod ov "__init__" pl)
      callWith p5 f first (backTo p5 (starEach [.Constant (.str txt) j p4] env)) [])
  bnd : ∀ (qual : Str) (kV doc pm : Value) (an : Option Addr) (cdv ct a b : Value), bindArgs (fnX "__init__" qual (L2.defArgs st) (L2.defBody st) (L2.defScope st) [("__class__", cc)] .none kV doc pm an cdv ct) ⟨[a, b], []⟩ = pure [(("self" : Str), a), (f, b)]
  first : ∃ ar : Arg, ((L2.defArgs st).posonlyargs ++ (L2.defArgs st).args).head? = some ar ∧ ar.arg = "self"
  ls : (L2.defScope st).names.lookup ("self" : Str) = some .local
  lf : (L2.defScope st).names.lookup f = some .local
  lsup : (L2.defScope st).names.lookup ("super" : Str) = some .globalImplicit
  lcl : (L2.defScope st).names.lookup ("__class__" : Str) = some .free
  cells : ∀ x ∈ (L2.defScope st).names, x.2 ≠ .cell
  sco : (L2.defScope st).isCoroutine = false
  sgen : (L2.defScope st).isGenerator = false
  skind : (L2.defScope st).kind = .function
  nsf : (f == ("self" : Str)) = false
  dbg : (f == ("__debug__" : Str)) = false
  cell : ∃ (oc : Value) (od : Option Addr) (sl : Array (Option Value)), K.lookup cc = some ⟨oc, od, .cell (some (.ref C)), sl⟩
  code : ∃ (oc : Value) (od : Option Addr) (sl : Array (Option Value)) (vs : Array Value) (file : Str) (tf : Tok), K.lookup cda = some ⟨oc, od, .fields vs, sl⟩ ∧ vs[2]? = some (.str file tf) ∧ ((P.main.file : Str) == file) = true
  top : (P.main.scope.names.lookup ("super" : Str)).isSome = false
  sup : mg "super" = none
  along : ks_superIn K C C "__init__" = some (some (.builtin "ValueError.__init__"))
  sVE : subIn K (.ref C) (.type "ValueError") = some true
  sC : mroIn K C (.ref C) = some true
  opq : nsIn K cStatics "thirdparty.any" = some none
structure InitEnd (h h' : Heap) (x C dx t1 : Addr) (f : Str) (v : Value) : Prop where
  keep : ∀ b o, b ≠ x → h.get? b = some o → h'.get? b = some o
  obj : h'.get? x = some { cls := .ref C, dict := some dx, data := .fields #[.ref t1, .none, .none, .none, .bool false, .none] }
  dbig : h.objs.size ≤ dx
  dne : dx ≠ x
  ns : h'.Ns1 dx (fun y => if y = f then some v else none)
structure OwnMade (h h' : Heap) (e C d : Addr) (f : Str) (v : Value) : Prop where
  keep : ∀ b o, h.get? b = some o → h'.get? b = some o
  new : h.objs.size ≤ e
  obj : ∃ oe vs, h'.get? e = some oe ∧ oe.cls = .ref C ∧ oe.dict = some d ∧ oe.data = .fields vs ∧ vs[1]? = some .none ∧ vs[2]? = some .none
  dbig : h.objs.size ≤ d
  dne : d ≠ e
  ns : h'.Ns1 d (fun y => if y = f then some v else none)
section
variable {prog : Program} {w : World} {A : Around} {E : Value → Shared → Prop} {R : Result → Shared → Prop} {s : Shared} {K : Frag} {mg : Str → Option Value} {nm f : Str} {st : Stmt} {C fI cc cda : Addr}
theorem x_init (T : Txt prog K mg nm f st C fI cc cda) {x t0 : Addr} {v : Value} (X : K.In s.heap) (hlim : s.heap.NoLimit) (hg : s.heap.Ns mainGlobals mg) (hb : ∃ mb, s.heap.Ns builtinsNs mb ∧ ∀ x : Str, x ≠ "__name__" → mb x = bootBuiltins x)
    (hx : s.heap.get? x = some (excO C t0)) (hnx : K.lookup x = none) (hroom : A.depth < recursionLimit) (hq : ∀ h' tk dx t1, InitEnd s.heap h' x C dx t1 f v → R (.ok (.ret .none)) { s with heap := h', toks := tk }) :
    codeAny (model prog w) A (.call (.ref fI) ⟨[.ref x, v], []⟩) R s := by
  obtain ⟨oc, od, kV, doc, pm, an, ct, osl, qual, ho, hcd⟩ := T.fn
  obtain ⟨txt, j, p1, p2, p3, p4, p5, p6, q1, q2, q3, q4, hbody, hcall⟩ := T.body
  obtain ⟨nm', q, N, bs, bm, sn, sub, ab, col, dd, k0, k1, k2, k3, k5, hC, hbm⟩ := T.cls
  obtain ⟨ocl, odl, csl, hcell⟩ := T.cell
  obtain ⟨okc, okd, ksl, vs, file, tf, hcode, hvs, hfile⟩ := T.code
  obtain ⟨ar, har, hself⟩ := T.first
  have hcl : clsIn K C = some { name := nm', bases := bs, mro := .ref C :: bm, ns := N, qualname := q, hasDict := true, slotNames := sn, subclasses := sub, abstract := ab, collection := col, hasDel := false } := by unfold clsIn; rw [hC] <;> rfl
  refine ks_codeAny_call_defAt (binds := [(("self" : Str), .ref x), (f, v)]) hroom (X _ _ ho) rfl hlim (codeRec_of X hcd) rfl (BindsTo.of_eq (T.bnd qual kV doc pm an (.ref cda) ct (.ref x) v)) T.cells (fun y hy => ?_) (fun h₁ hn hk => ?_) T.sco T.sgen T.skind
  · rcases List.mem_cons.mp hy with rfl | hy
    · exact T.ls
    · rw [List.mem_singleton] at hy; subst hy; exact T.lf
  rw [hbody]
  generalize henv : callEnv _ s.heap.objs.size fI = env
  have hk1 : env.scope = L2.defScope st := by rw [← henv]; rfl
  have k1s : env.scope.kind = .function := by rw [hk1]; exact T.skind
  have ekind : ∀ y, env.kindOf y = (L2.defScope st).names.lookup y := fun y => by rw [← henv]; rfl
  have ecode : env.code = .ref cda := by rw [← henv]; rfl
  have efunc : env.func = some fI := by rw [← henv]; rfl
  have ecells : env.cells = [(("__class__" : Str), cc)] := by rw [← henv]; rfl
  have eloc : env.locals = s.heap.objs.size := by rw [← henv]; rfl
  have eglob : env.globals = mainGlobals := by rw [← henv]; rfl
  have eblt : env.builtins = builtinsNs := by rw [← henv]; rfl
  have X₁ : K.In h₁ := X.keeps hk
  have hx₁ := hk _ _ hx
  have hn : h₁.Ns env.locals (fun y => [(("self" : Str), Value.ref x), (f, v)].reverse.lookup y) := by rw [eloc]; exact hn
  have mself : ([(("self" : Str), Value.ref x), (f, v)].reverse.lookup ("self" : Str)) = some (.ref x) := by
    show (match ("self" : Str) == f with | true => some v | false => ([(("self" : Str), Value.ref x)] : List (Str × Value)).lookup ("self" : Str)) = _
    rw [show (("self" : Str) == f) = false from by rw [beq_eq_false_iff_ne]; exact fun e => (beq_eq_false_iff_ne.mp T.nsf) e.symm]
    rfl
  have mf : ([(("self" : Str), Value.ref x), (f, v)].reverse.lookup f) = some v := by
    show (match f == f with | true => some v | false => ([(("self" : Str), Value.ref x)] : List (Str × Value)).lookup f) = _
    rw [show (f == f) = true from beq_self_eq_true f]
  have xL : env.locals ≠ x := by rw [eloc]; exact Nat.ne_of_gt (Heap.lt_size hx)
  have CE : C ≠ x := fun z => by
    have := X _ _ hC
    rw [z, hx] at this
    cases this
  -- super()
  refine ks_wpAt_execs_cons ?_
  refine ks_wpAt_Expr_any ?_ (by simp [interactive, k1s]) (by rfl)
  obtain ⟨pl, hpl⟩ := hcall env
  refine ks_wpAt_MethodCall (pl := pl) ?_ hpl
  refine ks_wpAt_super_base (by rw [ekind]; exact T.lsup) (by rw [ekind]; exact T.lcl) (by decide) efunc (X₁ _ _ ho) rfl har ecode (X₁ _ _ hcode) rfl hvs hfile T.top ?_
  obtain ⟨mb, b1, b2⟩ := hb
  refine ks_loadName_global k1s (by rw [ekind]; exact T.lsup) (loadGlobal_builtin (mb := mb) (by rw [eglob]; exact hg.keeps hk) T.sup (by rw [eblt]; exact b1.keeps hk) ((b2 _ (by decide)).trans (by first | rfl | decide +kernel)) ⟨rfl, ?_⟩)
  refine wpAny_loadName_free k1s (by rw [ekind]; exact T.lcl) (by rw [ecells]; rfl) ⟨_, X₁ _ _ hcell, rfl⟩ ?_
  rw [hself]
  refine wpAny_loadName_local k1s (by rw [ekind]; exact T.ls) hn mself ?_
  have hD1 := X₁ _ _ hC
  refine ks_wpAny_isType_cls hD1 rfl ⟨rfl, ?_⟩
  refine ks_wpAny_call_super hD1 rfl hx₁ rfl (fun c e => by cases e) (looks_mroIn X₁ T.sC) (fun h2 e2 kk2 => ?_)
  have X₂ : K.In h2 := X₁.keeps kk2
  have hx₂ := kk2 _ _ hx₁
  have I2 : InstAt h2 x (excO C t0) C none := ⟨hx₂, rfl, rfl, trivial⟩
  have hal : alongIn K "__init__" (((Value.ref C :: bm).dropWhile (· != .ref C)).drop 1) = some (some (.builtin "ValueError.__init__")) := by
    have := T.along
    unfold ks_superIn at this
    rw [hcl] at this
    exact this
  -- .__init__
  refine kxs_getMethod kxs_ValueError e2 (looks_opaque X₂ T.opq) (l₀ := .ref C :: bm) (fun A Q E s k q => wpAny_bind ((looks_clsIn X₂ hcl) A _ E s k (wpAny_pure q))) rfl X₂ hal (I2.type.andThen (looks_subIn X₂ T.sVE)) (fun z => CE z.symm) (by decide) ?_
  have e3 : (h2.push (kxs_mw "ValueError.__init__" x)).get? h2.objs.size = some (kxs_mw "ValueError.__init__" x) := Heap.get?_push_at rfl rfl
  have kk3 : ∀ b o, h2.get? b = some o → (h2.push (kxs_mw "ValueError.__init__" x)).get? b = some o := fun b o e => Heap.get?_push_of_some _ e
  have X₃ : K.In (h2.push (kxs_mw "ValueError.__init__" x)) := X₂.keeps kk3
  have hx₃ := kk3 _ _ hx₂
  -- ("..")
  refine kxs_callWith (i := "ValueError.__init__") (x := x) (by rfl) ?_
  refine evalArgs_plain ?_
  refine Calls.spliced_cons (Calls.Constant_str (k := j) (pos := p4) (Calls.spliced_nil ?_))
  refine ⟨e3, ?_⟩
  refine wpAny_call (codeAny_of_tree ?_)
  show wpAny _ _ (callAny (.ref _) ⟨_, []⟩) _ _ _
  simp only [callAny]
  refine wpAny_bind (wpAny_load e3 ?_)
  simp only [kxs_mw, show (Value.type "method-wrapper" == Value.type "method" || Value.type "method-wrapper" == Value.type "builtin_function_or_method" || Value.type "method-wrapper" == Value.type "method-wrapper") = true by decide, if_true]
  refine KFB.if_so (by decide) ?_
  refine wpAny_bind (check_bound_init PySem.F.excBase_ValueError.toExcCallFacts (X₃ _ _ hC) hx₃ rfl ?_)
  refine wpAny_bind (wpAny_pure (wpAny_pure ?_))
  refine ⟨plainId_quiet PySem.F.excBase_ValueError.init.plain _, codeAny_builtin PySem.F.excBase_ValueError.initEntry ?_⟩
  refine exc_init_tree (cls := .ref C) (t0 := t0) (dv := none) (c2 := .none) (c3 := .none) (b4 := .bool false) hx₃ (by show 1 ≤ sizeLine; decide) fun h4 kk4 e4 e4' => ?_
  have X₄ : K.In h4 := fun a o e => kk4 a o (fun z => by rw [z, hnx] at e; cases e) (X₃ _ _ e)
  -- self.f = f
  have hn4 : h4.Ns env.locals (fun y => [(("self" : Str), Value.ref x), (f, v)].reverse.lookup y) := by
    obtain ⟨oL, es, ep, hL, r⟩ := hn
    exact ⟨oL, es, ep, kk4 _ _ xL (kk3 _ _ (kk2 _ _ hL)), r⟩
  refine ks_wpAt_execs_cons ?_
  refine ks_wpAt_Assign_Attr ?_
  refine wpAt_of_wpAny ?_
  refine wpAny_Name (wpAny_loadName_local k1s (by rw [ekind]; exact T.lf) hn4 mf ?_) T.dbg
  refine wpAny_Name (wpAny_loadName_local k1s (by rw [ekind]; exact T.ls) hn4 mself ?_) (by decide)
  refine set_plain X₄ (ox := excO C (h2.push (kxs_mw "ValueError.__init__" x)).objs.size) (od := none) ⟨e4, rfl, rfl, trivial⟩ T.sa ?_
  refine exc_osa X₄ e4 hcl (show refsVE (.ref C :: bm) = true from hbm) rfl T.noN (fun h₅ tk₅ dx k₅ dn dne hx₅ hn₅ => ?_)
  refine wpAt_of_wpAny ?_
  refine wpAny_execs_nil (hq h₅ tk₅ dx _ ⟨fun b o hb e => k₅ b o hb (kk4 b o hb (kk3 b o (kk2 b o (hk b o e)))), hx₅, ?_, dne, hn₅⟩)
  have z : ∀ b, s.heap.get? b ≠ none → b < h4.objs.size := fun b hb => by
    cases e : s.heap.get? b with
    | none => exact absurd e hb
    | some o =>
      by_cases y : b = x
      · rw [y]; exact Heap.lt_size e4
      · exact Heap.lt_size (kk4 b o y (kk3 b o (kk2 b o (hk b o e))))
  obtain ⟨oL, es, ep, hL, r⟩ := hn4
  have := Heap.lt_size hL
  rw [eloc] at this
  exact Nat.le_trans (Nat.le_of_lt this) dn
theorem x_made (T : Txt prog K mg nm f st C fI cc cda) {v : Value} (X : K.In s.heap) (hlim : s.heap.NoLimit) (hg : s.heap.Ns mainGlobals mg) (hb : ∃ mb, s.heap.Ns builtinsNs mb ∧ ∀ x : Str, x ≠ "__name__" → mb x = bootBuiltins x) (hroom : A.depth + 1 < recursionLimit)
    (hq : ∀ h' tk e d, OwnMade s.heap h' e C d f v → R (.ok (.ret (.ref e))) { s with heap := h', toks := tk }) :
    codeAny (model prog w) A (.call (.ref C) ⟨[v], []⟩) R s := by
  obtain ⟨nm, q, N, bs, bm, sn, sub, ab, col, dd, k0, k1, k2, k3, k5, hC, hbm⟩ := T.cls
  obtain ⟨hp, g, dr, tk, os⟩ := s
  have k : ∀ b o, hp.get? b = some o → ((hp.push (kdv_tup [v])).push (excO C hp.objs.size)).get? b = some o := fun b o e => Heap.get?_push_of_some _ (Heap.get?_push_of_some _ e)
  have hget : ((hp.push (kdv_tup [v])).push (excO C hp.objs.size)).get? (hp.objs.size + 1) = some (excO C hp.objs.size) := by heap_get
  have hnx : K.lookup (hp.objs.size + 1) = none := by
    cases e : K.lookup (hp.objs.size + 1) with
    | none => rfl
    | some o =>
      have z : hp.get? (hp.objs.size + 1) = some o := X _ _ e
      exact absurd (Nat.lt_of_succ_lt (Heap.lt_size z)) (Nat.lt_irrefl _)
  refine call_own PySem.F.excBase_ValueError (fun X => refsVE_contains X bm hbm) (X _ _ hC) (looks_findIn X T.iC) (fun self => bind_fn X self T.tC) (by show 1 ≤ sizeLine; decide) ?_
  obtain ⟨mb, b1, b2⟩ := hb
  refine x_init (s := ⟨(hp.push (kdv_tup [v])).push (excO C hp.objs.size), g, dr, tk, os⟩) T (X.keeps k) (hlim.keeps k) (hg.keeps k) ⟨mb, b1.keeps k, b2⟩ hget hnx ?_ fun h' tk' dx t1 ⟨k', hx, dn, dne, hns⟩ => ?_
  · show A.depth + 1 < recursionLimit
    exact hroom
  · have old : ∀ b o, hp.get? b = some o → h'.get? b = some o := fun b o e => k' b o (Nat.ne_of_lt (Nat.lt_succ_of_lt (Heap.lt_size e))) (k b o e)
    have z : hp.objs.size + 1 + 1 ≤ dx := by
      first
        | (simpa only [Heap.size_push] using dn)
        | exact dn
        | (have q := dn; rw [Heap.size_push, Heap.size_push] at q; exact q)
    exact ⟨rfl, hq h' tk' (hp.objs.size + 1) dx ⟨old, Nat.le_succ _, ⟨_, _, hx, rfl, rfl, rfl, rfl, rfl⟩, Nat.le_trans (Nat.le_trans (Nat.le_succ _) (Nat.le_succ _)) z, dne, hns⟩⟩
end
end XiX
end PySem
namespace Mr
open PySem PySem.Spec PyProof.Rows L2
theorem relO_one {f : Str} {v : V} {v' : Value} (r : RelV v v') (g : Str) : RelO (List.lookup g [(f, v)]) (if g = f then some v' else none) := by
  by_cases hw : g = f
  · subst hw
    rw [if_pos rfl]
    have q : List.lookup g [(g, v)] = some v := by simp [List.lookup]
    rw [q]
    exact r
  · rw [if_neg hw]
    have qw : (g == f) = false := by simpa using hw
    have q2 : List.lookup g [(f, v)] = none := by simp [List.lookup, qw]
    rw [q2]
    trivial
section
variable {X : Cx} {nm f : Str} {st : Stmt} {C fI cc cda : Addr}
/-- X(e): an exception with its field -/
def tMkX (C : Addr) (f : Str) (ta : TA) : L2.St → Hp → XK → Prop := fun σ H Q => ta σ H fun vs H1 => ∃ v, vs = [v] ∧ ∀ d, H1 d = none → Q (.ref C) (some d) (upd H1 d (.xd [(f, v)]))
theorem pmk_x {a : Expr} {ta : TA} {p pos : Pos} {k : Nat} (T : PySem.XiX.Txt X.prog X.K X.mg nm f st C fI cc cda) (hr : Room k X.A) (ha : PA X [a] ta) (hg : Gl X nm := by rfl) (hdb : (nm == ("__debug__" : Str)) = false := by decide)
    (he : starEach (a :: []) X.env = (false, eval a X.env) :: starEach [] X.env := by rfl) (hpl : (backTo pos (starEach [] X.env)).any (·.1) = false := by rfl) :
    L2N.PMk X (.Call (.Name nm p) [a] [] pos) (tMkX C f ta) := by
  intro pins s σ H Q I h
  refine wpAny_Call_Name_kw (ld_glob I hg T.gC ?_ hdb)
  refine PySem.W.callWith_K (h₀ := X.base) I.ok.mod.kin T.kC (thn (ha.run pos pins s σ H _ I h) fun us s1 hh => ?_) he hpl
  obtain ⟨vs, H1, I1, r1, v, ev, q1⟩ := hh
  subst ev
  refine ⟨I1.kIn, ?_⟩
  cases r1 with
  | cons rv rn =>
    rename_i v' us'
    cases rn
    show wpAny _ _ (call (.ref C) [v']) _ _ _
    have hlim := I1.nolimit
    obtain ⟨mb, b1, b2⟩ := I1.ok.mod.blt
    have gl : s1.heap.Ns mainGlobals X.mg := I1.ok.mod.glob.keeps I1.bk
    have bl : s1.heap.Ns builtinsNs mb := b1.keeps I1.bk
    have kIn := I1.kIn
    obtain ⟨hp, g, dr, tk, os⟩ := s1
    refine wpAny_call (PySem.XiX.x_made T kIn hlim gl ⟨mb, bl, b2⟩ (by have := hr.dp; omega) fun h' tk' e d M => ?_)
    show L2N.MkP X pins σ Q (.ref e) ⟨h', g, dr, tk', os⟩
    obtain ⟨oe, fv, hoe, hc, hd, hdat, h1, h2⟩ := M.obj
    have hns := M.ns
    obtain ⟨G', g1, g2⟩ := restrict h' fun b => decide (b ≠ e)
    have gk : ∀ b, b ≠ e → G'.get? b = h'.get? b := fun b hb => g1 b (decide_eq_true hb)
    have ge : G'.get? e = none := g2 e (by simp)
    have old : ∀ b o, hp.get? b = some o → G'.get? b = some o := fun b o q => (gk b (Nat.ne_of_lt (Nat.lt_of_lt_of_le (Heap.lt_size q) M.new))).trans (M.keep b o q)
    have ob : ObjOk X.prog X.w (upd H1 d (.xd [(f, v)])) G' d (.xd [(f, v)]) :=
      ⟨_, hns.at (fun o q => (gk d M.dne).trans q), fun g => relO_one rv g⟩
    have J : Inv X pins σ (upd H1 d (.xd [(f, v)])) ⟨G', g, dr, tk', os⟩ := I1.laid (t' := tk') old M.dbig ob
    refine ⟨e, oe, fv, ⟨G', g, dr, tk', os⟩, _, .ref C, some d, rfl, J, fun b o q => ?_, ge, hoe, ⟨hc, hd, fun vs e => by rw [hdat] at e; cases e; exact h2⟩, hdat, h1, ?_, rfl, I1.bare, raises_own T.exC T.tyC, q1 d (I1.hok.fresh M.dbig)⟩
    · by_cases hb : b = e
      · have q' : G'.get? b = some o := q
        rw [hb, ge] at q'; cases q'
      · exact (gk b hb).symm.trans q
    · rw [upd_ne (Ne.symm M.dne)]
      exact I1.hok.fresh M.new
end
theorem xfc_of {P : Program} {K : PySem.W.Frag} {mg : Str → Option Value} {nm f : Str} {st : Stmt} {C fI cc cda : Addr} (T : PySem.XiX.Txt P K mg nm f st C fI cc cda) : XfC K C := ⟨T.ga, T.gg, T.exC, T.hdC⟩
theorem exm_mine {K : PySem.W.Frag} {C : Addr} (h1 : PySem.W.subIn K (.ref C) (.type "BaseException") = some true) (h2 : PySem.W.isClsIn K C = true) (h3 : PySem.W.typeIn K (.ref C) = some (.type "type")) (h4 : PySem.W.subIn K (.ref C) (.ref C) = some true) : PySem.W.exmOne K (.ref C) (.ref C) = some true := by
  have a1 : (PySem.W.subIn K (.ref C) (.type "BaseException") == some true) = true := by rw [h1]; rfl
  have a2 : ((PySem.W.clsIn K C).isSome && PySem.W.typeIn K (.ref C) == some (.type "type")) = true := by
    rw [h3, show (PySem.W.clsIn K C).isSome = true from h2]; rfl
  unfold PySem.W.exmOne
  rw [if_pos a1]
  show ite ((((PySem.W.clsIn K C).isSome && PySem.W.typeIn K (.ref C) == some (.type "type"))) = true) _ _ = _
  rw [if_pos a2]
  exact h4
/-! ### raised in a mirror -/
def xaD : XA → Dn
  | .non => dN
  | .int i => dI i
  | .str s => dS s
  | .pair p q => dT [dI p, dI q]
  | .ints l => dL l
/-- an exception: its class and field by the number k, its dict in the world -/
def xden (tbl : List (Addr × Str)) (x : Exc) (c : Value) (d : Option Addr) (G _ : Hp) : Prop := ∃ C f dd v, tbl[x.cls]? = some (C, f) ∧ c = .ref C ∧ d = some dd ∧ G dd = some (.xd [(f, v)]) ∧ (xaD x.arg).P G v
section
variable {n : Nat} {Z : Zn} {Γ : Gm} {M : Mm} {K : PySem.W.Frag}
theorem sm_raiseX {γ δ β : Type} {W : Ex γ δ β} {tbl : List (Addr × Str)} {C : Addr} {f : Str} {k : Nat} {E : XK} {M0 : Mm} {te : TE} {η : Type} {m : R η} {y : η → XA} {D0 : η → Dn} {Mf : η → Mm} (h : EMc n (zE (xden tbl) M0 E) Γ M te m D0 Mf) (hy : ∀ b, xaD (y b) = D0 b) (ht : tbl[k]? = some (C, f)) (hM : ∀ b, MLe M0 (Mf b)) :
    SM n (zE (xden tbl) M0 E) Γ M (fun _ σ H => tMkX C f (tCons te tNil) σ H fun cls d H' => E cls d H') (m.bind fun b => .exc ⟨k, y b⟩) W := by
  refine .mk ?_
  intro G H σ D A Ev w
  rw [wp_bind] at w
  refine h.run A Ev (w.mono (fun b q ps G1 H1 v s1 A1 d1 => ?_) fun _ x => x)
  refine ⟨v, rfl, fun d nd => ?_⟩
  exact q (upd G1 d (.xd [(f, v)])) _ _ _ (s1.trans (A1.newS nd)) (hM b (A1.newG nd)) ⟨C, f, d, v, ht, rfl, rfl, upd_same, by rw [hy]; exact (D0 b).mono (A1.newS nd) d1⟩
/-- (a, l), l owned -/
theorem em_tupO2 {α η : Type} [Enc η] {ta tb : TE} {c : Prop} {D1 : α → Dn} {x : α} {β : Type} {m : R β} {f : β → List η} {M0 : Mm} (h1 : EV n Γ M ta c (D1 x)) (h2 : EM n Z Γ M tb m (fun _ ps => dR (ps 0)) (fun b ps => (ps 0, cL (f b)) :: M0)) :
    EM n Z Γ M (tTup (tCons ta (tCons tb tNil))) (chk c (m.bind fun b => .ok (x, f b))) (fun r ps => dT [D1 r.1, dR (ps 0)]) (fun r ps => (ps 0, cL r.2) :: M0) := by
  refine .mk ?_
  intro G H σ Q A E w
  rw [wp_chk, wp_bind] at w
  refine h1.run w.1 A E fun v hv => h2.run A E (w.2.mono (fun b q ps G1 H1 u s1 A1 d1 => ?_) fun _ x => x)
  refine ⟨by show 2 ≤ sizeLine; decide, fun z nz => ?_⟩
  exact q ps (upd G1 z (.tup [v, u])) _ _ (s1.trans (A1.newS nz)) (A1.newG nz) ⟨z, _, rfl, upd_same, v, _, rfl, (D1 x).mono (s1.trans (A1.newS nz)) hv, u, _, rfl, d1, rfl⟩
end
end Mr
set_option Elab.async false
set_option linter.all false
set_option maxRecDepth 100000
set_option maxHeartbeats 4000000
/-! MrY: isinstance of a caught error that has a dict; loops, comprehensions within an except suite. -/
namespace PySem.YX
open PySem PySem.W PySem.Spec PySem.Calls PyProof.Rows
section
variable {prog : Program} {w : World} {A : Around} {E : Value → Shared → Prop} {s : Shared} {K : Frag} {x D : Addr} {ox od : Obj}
theorem kin_cls {Q : Option Value → Shared → Prop} (C : L2.ExcC K D) (X : K.In s.heap) (I : InstAt s.heap x ox D (some od)) (h : Q (some (.ref D)) { s with toks := s.toks + 1 }) : wpAny (model prog w) A (getAttr? (.ref x) "__class__") Q E s := by
  have hf : findObj K D (some od) "__class__" = some (.bind (.builtin "getset_descriptor.__get__") (.builtin "object.__class__")) := findObj_data (by obtain ⟨cd, hc, _⟩ := any_some C.hd; rw [hc]; rfl) C.ha C.hn C.ht
  obtain ⟨hp, g, d, t, os⟩ := s
  have L0 := I.type (M := model prog w)
  have L1 := looks_findIn (M := model prog w) X C.hg
  have L2 := looks_findIn (M := model prog w) X C.hk
  have L3 := looks_find (M := model prog w) X I hf
  have sub : Looks (model prog w) hp (isInstance (.ref x) (.type "BaseException")) true := L0.andThen (looks_subIn X C.hs)
  have z2 : (Value.builtin "BaseException.__getattribute__" == Value.builtin "object.__getattribute__") = false := by decide +kernel
  have z1 : (onTheHeap (Value.ref D) && Value.builtin "BaseException.__getattribute__" == Value.builtin "object.__getattribute__") = false := by rw [z2]; rfl
  have z0 : (false && onTheHeap (Value.builtin "BaseException.__getattribute__")) = false := rfl
  unfold getAttr? getAttrBy? getAttrBy
  refine wpAny_bind (wpAny_mkText (wpAny_bind (wpAny_attempt (wpAny_holding (wpAny_bind (L0.at (wpAny_bind (L1.at ?_))))))))
  show wpAny _ _ (if (onTheHeap (Value.ref D) && Value.builtin "BaseException.__getattribute__" == Value.builtin "object.__getattribute__") = true then _ else _) _ _ _
  rw [z1, if_neg Bool.false_ne_true]
  unfold getAttrByItsOwn hookBefore
  refine wpAny_bind ?_
  rw [if_pos (show onTheHeap (Value.ref D) = true from rfl)]
  refine L2.at ?_
  refine wpAny_bind (wpAny_attempt (wpAny_holding ?_))
  unfold callGetattribute
  rw [z0, if_neg Bool.false_ne_true]
  unfold boundAndCalled
  rw [PySem.F.excAttr_ValueError.ga.bind (.ref x)]
  refine wpAny_bind (wpAny_pure ?_)
  refine wpAny_call (codeAny_call_builtin PySem.F.excAttr_ValueError.ga.plain PySem.F.entry_bexc_ga ?_)
  refine @check_slot (model prog w) _ _ ⟨hp, g, d, t + 1, os⟩ "BaseException.__getattribute__" "BaseException" "__getattribute__" (.ref x) [.str "__class__" t] [] _ (by decide +kernel) (by decide +kernel) sub (PySem.F.args_bexc_ga (.ref x) (.str "__class__" t)) ?_
  unfold Builtin.«object.__getattribute__»
  refine wpAny_bind (wpAny_of_eq (a := ((Value.ref x : Value), [Value.str "__class__" t])) (by first | rfl | (simp only [slotArgs]; rfl)) ?_)
  refine wpAny_bind (wpAny_pure (wpAny_bind (L0.at (wpAny_bind (L3.at ?_)))))
  refine wpAny_bind (wpAny_holding (wpAny_call (class_get (s := ⟨hp, g, d, t + 1, os⟩) (ox := ox) (od := some od) X I C.hm ?_)))
  refine wpAny_pure ?_
  show wpAny _ _ (handedOut (.ref D)) _ _ _
  rw [handedOut_of (v := .ref D) rfl]
  first
    | exact wpAny_pure (wpAny_pure h)
    | exact wpAny_pure h
    | exact wpAny_pure (wpAny_bind (wpAny_pure (wpAny_pure h)))
theorem kitx_d (C : L2.ExcC K D) : KitX K (.ref x) (.ref D) (fun h => ∃ od, InstAt h x ox D (some od)) where
  ty := fun _ _ _ ⟨_, I⟩ => I.type
  it := fun _ _ X _ => by
    obtain ⟨cdD, hcD, _⟩ := any_some C.hd
    unfold clsIn at hcD
    split at hcD
    · rename_i c' d' cd' sl' ho
      intro A' Q' E' s' k q
      unfold isType loadHead
      exact wpAny_bind (wpAny_loadPart (k _ _ (X _ _ ho)) (wpAny_pure q))
    · cases hcD
  ne := fun h tp dd its n sl X htp => by
    obtain ⟨cdD, hcD, _⟩ := any_some C.hd
    refine Bool.eq_false_iff.mpr fun q => ?_
    have e : D = tp := Value.ref.inj (beq_iff_eq.mp q)
    subst e
    unfold clsIn at hcD
    split at hcD
    · rename_i c' d' cd' sl' ho
      have z := (X _ _ ho).symm.trans htp
      cases z
    · cases hcD
  ca := fun X ⟨_, I⟩ k => kin_cls C X I k
end
end PySem.YX
namespace Mr
open PySem PySem.Spec PyProof.Rows L2
/-- isinstance(e, c), e the caught error, its dict in the heap -/
def rIsX (K : PySem.W.Frag) (D a : Addr) (cls : Value) (d : Option Addr) : List V → Hp → VK → Prop := fun xs H Q => cls = .ref D ∧ ∃ (dd : Addr) (fs : List (Str × V)) (c : V) (cv : Value) (b : Bool), d = some dd ∧ H dd = some (.xd fs) ∧ xs = [.ref a, c] ∧ (∀ u, RelV c u → u = cv) ∧ PySem.W.kitOne K (.ref D) cv = some b ∧ Q (.bl b) H
theorem call_isX {X : Cx} {K : PySem.W.Frag} {a D : Addr} {oe : Obj} {d : Option Addr} {pn : List (Addr × Obj)} {cls : Value} (eK : X.K = K) (C : ExcC K D) (hz : Zc cls d oe) (hf : ∃ vs, oe.data = .fields vs) : CallR (X.suite a ((a, oe) :: pn)) (.builtin "isinstance") (rIsX K D a cls d) := by
  subst eK
  intro pins s σ H xs us Q I r h
  obtain ⟨hcl, dd, fs, c, cv, b, rfl, hd, rfl, hcv, e, q⟩ := h
  subst hcl
  cases r with
  | cons rx rr =>
    cases rr with
    | cons rt rr =>
      cases rr
      cases rx
      have ec := hcv _ rt
      subst ec
      obtain ⟨hget, _⟩ := I.pin (a, oe) (List.mem_append.mpr (.inl List.mem_cons_self))
      obtain ⟨vs, hv⟩ := hf
      have hx : ObjOk X.prog X.w H s.heap dd (.xd fs) := I.hok dd _ hd
      obtain ⟨mA, hns, hr⟩ := hx
      obtain ⟨od, ho, hl⟩ := lookIn_ns hns
      have J : PySem.W.InstAt s.heap a oe D (some od) := ⟨hget, hz.1, by unfold PySem.W.notCls; rw [hv] <;> rfl, by rw [hz.2]; exact ho⟩
      exact PySem.W.kia_one (PySem.YX.kitx_d C) I.kIn ⟨_, J⟩ e (fun z => nomatch z) fun tk => ⟨.bl b, H, I.kept (t' := tk) fun _ _ z => z, rfl, q⟩
end Mr
set_option Elab.async false
set_option linter.all false
set_option maxRecDepth 100000
set_option maxHeartbeats 4000000
/-! MrH: lists walked, comprehensions, while an exception is handled. -/
namespace Mr.Hx
open PySem PySem.Spec PyProof.Rows L2 L2H HotX
section
variable {prog : Program} {w : World} {A : Around} {E : Value → Shared → Prop} {s : Shared}
/-- a list's iterator at its end, hot -/
theorem next_end {j p x1 : Addr} {k : Nat} {xs : Array Value} {Q : Option Value → Shared → Prop} (hot : HotAt A x1 s.heap) (hj : s.heap.IsListIter j p k) (hp : s.heap.IsList p xs) (hx : xs[k]? = none) (nj : x1 ≠ j)
    (q : ∀ h1, Heap.ExtBut j s.heap h1 → Q none { s with heap := h1 }) : wpAny (model prog w) A (pyNext (.ref j)) Q E s := by
  have ⟨oj, gj, cj, dj⟩ := hj
  have ⟨op, gp, _, _, dp⟩ := hp
  have ⟨hh, o1, vs1, g1, d1, c1⟩ := hot
  have nn : ¬ ((Value.ref p == Value.none) = true) := Bool.false_ne_true
  unfold pyNext
  refine wpAny_bind (wpAny_attempt (wpAny_callSpecial?_slot (name := Str.ofString "__next__") hj.typeIs slot_listiter_next (wpAny_call_entry slot_listiter_next hj.typeIs entry_listiter_next ?_ (args_listiter_next _))))
  show wpAny _ _ (field (.ref j) 0 >>= _) _ _ s
  refine wpAny_bind (wpAny_field gj dj (x := .ref p) rfl ?_)
  show wpAny _ _ (ite ((Value.ref p == Value.none) = true) _ _) _ _ s
  rw [if_neg nn]
  show wpAny _ _ (field (.ref j) 1 >>= _) _ _ s
  refine wpAny_bind (wpAny_field gj dj (x := .int k 0) rfl ?_)
  show wpAny _ _ (seqItems? (.ref p) >>= _) _ _ s
  refine wpAny_bind (wpAny_seqItems gp dp ?_)
  simp only [Int.toNat_natCast, hx]
  refine wpAny_bind (wpAny_rule (wpAny_bind (wpAny_setField gj dj (by simp) (wpAny_bind ?_))))
  show wpAny _ _ (newExc (.type "StopIteration") []) _ _ _
  simp only [newExc, newTuple]
  refine wpAny_bind (wpAny_newObj_type (wpAny_bind (m := firstArgMember _ _) (wpAny_of_eq (a := Value.none) (by first | rfl | (simp only [firstArgMember]; rfl)) (wpAny_newObj_type ?_ (by size_fits)))) (by size_fits))
  refine raiseNew_hot (x1 := x1) ⟨hh, o1, vs1, Heap.get?_push_of_some _ (Heap.get?_push_of_some _ ((Heap.get?_update_other _ _ (fun z => nj z.symm)).trans g1)), d1, c1⟩ ?_ (Heap.get?_push_size _ rfl) rfl ?_ ?_
  · exact Nat.ne_of_lt (Heap.lt_size (Heap.get?_push_of_some _ ((Heap.get?_update_other _ _ (fun z => nj z.symm)).trans g1)))
  · first | (simp; done) | (simp; omega) | (simp only [Array.size_append]; simp; omega)
  · refine wpAny_bind (wpAny_isInstance (T := "StopIteration") (b := true) ⟨_, Heap.get?_update_self _ (Heap.get?_push_size _ rfl) rfl, rfl⟩ isSubtype_stop (wpAny_pure (q _ ?_)))
    intro b o nb e
    have e3 := (Heap.get?_update_other s.heap (Obj.mapFields fun x => x.setIfInBounds 0 Value.none) (fun z => nb z.symm)).trans e
    exact (Heap.get?_update_other _ _ (Nat.ne_of_gt (Heap.lt_size (Heap.get?_push_of_some _ e3)))).trans (Heap.get?_push_of_some _ (Heap.get?_push_of_some _ e3))
end
section
theorem HotC.ne {X : Cx} {pins : List (Addr × Obj)} {σ : L2.St} {H : Hp} {s : Shared} {b : Addr} (c : HotC X) (I : Inv X pins σ H s) (f : FpOk X pins H b) : ∃ x1, HotAt X.A x1 s.heap ∧ x1 ≠ b := by
  obtain ⟨p, ⟨hh, v1, e1, c1⟩, hp⟩ := c
  have hm : p ∈ X.pn ++ pins := List.mem_append_left _ hp
  exact ⟨p.1, ⟨hh, p.2, v1, (I.pin p hm).1, e1, c1⟩, f.2.2.2.2.2 p hm⟩
theorem turn_listH {P : Program} {w : World} {K : PySem.W.Frag} {tg : Expr} (a j : Addr) : TurnH P w K tg (Itl K a) [j] j (fun i h => h.IsListIter j a i) := by
  have base := turn_list (P := P) (w := w) (K := K) (tg := tg) a j
  refine ⟨base.mem, base.obj, base.keep, ?_, ?_, base.self⟩
  · intro X hP hw hK hc i pins s σ H E I hf st ⟨xs, x, hq, hx⟩
    subst hP hw hK
    obtain ⟨its, rv, p, hz⟩ := I.list hq
    obtain ⟨u, hu, ru⟩ := rv.get hx
    obtain ⟨f0, f1, f2, f3, f4, f5⟩ := hf j List.mem_cons_self
    refine wpAny_pyNext_list_item st p.isList (x := u) (by simpa using hu) fun h1 st1 sb => ⟨u, rfl, ?_⟩
    have J1 : Inv X pins σ H { s with heap := h1 } := I.turned (t' := s.toks) (fun b o hb e => (sb.2 b hb).trans e) f0 f1 f3 f4 f5
    have ⟨oj, gj, cj, dj⟩ := st1
    exact go_of (s := { s with heap := h1 }) gj cj dj (by decide) ⟨x, H, J1, ru, ⟨rfl, fun ys hy => (I.list_inj hy hq) ▸ hx⟩, st1, fun b hb => (hf b hb).1⟩
  · intro X hP hw hK hc i pins s σ H E I hf st ⟨xs, hq, hx⟩
    subst hP hw hK
    obtain ⟨its, rv, p, hz⟩ := I.list hq
    have fj := hf j List.mem_cons_self
    obtain ⟨x1, hot, ne⟩ := HotC.ne hc I fj
    obtain ⟨f0, f1, f2, f3, f4, f5⟩ := fj
    have hl := rv.length
    exact next_end hot st p.isList (by simp; omega) ne fun h1 eb => ⟨rfl, I.turned (t' := s.toks) (fun b o hb e => eb b o hb e) f0 f1 f3 f4 f5⟩
variable {X : Cx} {tg : Expr}
theorem pi_listH {l : Expr} {tl : TE} (hl : PE X l tl) : PIH X tg l (iList X.K tl) := .mk fun pins s σ H R I h => by
  refine thn (hl.run pins s σ H _ I h) fun v s1 ⟨x, H1, I1, r1, a, e, ⟨xs, hq⟩, q⟩ => ?_
  subst e
  cases r1
  obtain ⟨its, rv, p, hz⟩ := I1.list hq
  have hn := I1.hok.fresh (Nat.le_refl s1.heap.objs.size)
  exact wpAny_pyIter_list p.isList ⟨s1.heap.objs.size, [s1.heap.objs.size], _, _, H1, rfl, I1.kept (t' := s1.toks) fun b o e => Heap.get?_push_of_some _ e, turn_listH a _, ⟨_, Heap.get?_push_size _ rfl, rfl, rfl⟩,
    fun b hb => (List.mem_singleton.mp hb) ▸ I1.fpOk (Nat.le_refl _) hn, q⟩
end
theorem pi_listHK {X : Cx} {K : PySem.W.Frag} {tg l : Expr} {tl : TE} (e : X.K = K) (hl : PE X l tl) : PIH X tg l (iList K tl) := by subst e; exact pi_listH hl
/-- a block's context that keeps what is pinned -/
abbrev hblk (X : Cx) (s : Shared) (H : Hp) (scope : Scope) (ce : Env) (fp : List Addr) : Cx := { X.blk s H scope ce fp with pn := X.pn }
theorem hblk_hot {X : Cx} {s : Shared} {H : Hp} {scope : Scope} {ce : Env} {fp : List Addr} (h : HotC X) : HotC (hblk X s H scope ce fp) := h
theorem hblk_inv {X : Cx} {pins : List (Addr × Obj)} {σ τ : L2.St} {H : Hp} {s s1 : Shared} {scope : Scope} {ce : Env} {fp : List Addr} (I : Inv X pins σ H s) (B : Inv (X.blk s H scope ce fp) [] τ H s1) (hl : ce.locals = s.heap.objs.size)
    (k : ∀ b o, s.heap.get? b = some o → s1.heap.get? b = some o) : Inv (hblk X s H scope ce fp) [] τ H s1 := by
  have o := B.ok
  refine ⟨⟨o.mod, o.kind, o.glob, o.blt, o.above, o.inj, o.has, o.cab, o.hd, o.frames, o.stk, o.exf, o.bs, o.bsz, o.noex, o.exfs, o.funs, o.frf⟩, B.os, B.bare, B.base, B.loc, B.cell, B.free, B.freeC, fun p hp => ?_, B.hok, B.len⟩
  have hm : p ∈ X.pn ++ pins := List.mem_append_left _ (by simpa using (show p ∈ X.pn ++ [] from hp))
  obtain ⟨g, n, nl, nf, nc⟩ := I.pin p hm
  refine ⟨k _ _ g, n, ?_, fun z => ?_, nc⟩
  · show p.1 ≠ ce.locals
    rw [hl]
    exact Nat.ne_of_lt (Heap.lt_size g)
  · rcases List.mem_cons.mp (I.stkSub _ z) with e | e
    · exact nl e
    · exact nf e
section
variable {X : Cx}
/-- a comprehension's block for every start -/
abbrev AllB (X : Cx) (scope : Scope) (F : Cx → Prop) : Prop := ∀ (s : Shared) (H : Hp) (C : Addr) (cl : List (Str × Addr)) (fp : List Addr), F (hblk X s H scope (compEnvC scope cl C X.env) fp)
theorem pe_lcH {elt tg iter : Expr} {ifs : List Expr} {scope : Scope} {own : List (Str × Nat)} {pos : Pos} {wi : TI} {g : TG} {tt : TT} {te : TE} (hc : HotC X) (hN : X.N.Nodup) (hi : PIH X tg iter wi) (ok : BlkOk X.N X.env.scope scope own)
    (hg : AllB X scope fun Y => PG Y tg g) (ht : AllB X scope fun Y => PTs Y ifs tt) (he : AllB X scope fun Y => PE Y elt te) (hs : ∀ x, foldedSetIterable iter X.env x = pure x := by intro _; rfl) :
    PE X (.ListComp elt [⟨tg, iter, ifs, 0⟩] scope pos) (tLc wi g tt te (own.map (·.2))) := .mk fun pins s σ H Q I h => by
  rw [eval_ListComp]
  have capt : ∀ y ∈ scope.names, y.2 = .free → ∃ c, X.env.cells.lookup y.1 = some c := fun y hy e => (ok.free y hy e).elim (fun k => I.ok.has _ (.inl k)) fun k => I.ok.has _ (.inr k)
  refine wpAny_comprehension_free (use := none) rfl hs (closure_ok capt) ok.kind (fun y hy e => (ok.uniq y hy).trans (congrArg some e)) (thn (hi.run pins s σ H _ I h) fun xv s1 hx => thn hx fun itv s2 ⟨j, fp, tn, J, H2, ej, I2, T, tn2, f2, q⟩ => ?_)
  subst ej
  refine wpAny_newObj_type (newEnv_comp ?_) (Nat.zero_le _)
  -- the list that grows, at D
  obtain ⟨D, hD⟩ : ∃ D, D = s2.heap.objs.size := ⟨_, rfl⟩
  rw [← hD]
  obtain ⟨W, ⟨m0, w0⟩, turn⟩ := q D (I2.hok.fresh (Nat.le_of_eq hD.symm))
  obtain ⟨s3, hs3⟩ : ∃ s3 : Shared, s3 = { s2 with heap := s2.heap.push { cls := .type "list", data := .seq ([] : List Value).toArray } } := ⟨_, rfl⟩
  have k3 : ∀ b o, s2.heap.get? b = some o → s3.heap.get? b = some o := fun b o e => hs3 ▸ Heap.get?_push_of_some _ e
  have I3 : Inv X pins σ (upd H2 D (.lst [])) s3 := by
    subst hs3
    exact I2.laid (t' := s2.toks) (fun b o e => Heap.get?_push_of_some _ e) (Nat.le_of_eq hD.symm) ⟨Nat.zero_le _, [], 0, .nil, hD ▸ Heap.get?_push_size _ rfl⟩
  have f3 : ∀ b ∈ fp, FpOk X pins (upd H2 D (.lst [])) b ∧ b < s3.heap.objs.size := fun b hb => by
    obtain ⟨o, e, _⟩ := T.obj _ _ tn2 b hb
    have lt := Heap.lt_size e
    exact ⟨⟨(upd_ne (hD ▸ Nat.ne_of_lt lt)).trans (f2 b hb).1, (f2 b hb).2⟩, Heap.lt_size (k3 b o e)⟩
  have tn3 : tn 0 s3.heap := T.keep _ _ _ tn2 fun b _ o e => k3 b o e
  rw [← hs3]
  obtain ⟨H3, hH3⟩ : ∃ H3, H3 = upd H2 D (.lst []) := ⟨_, rfl⟩
  rw [← hH3] at I3 f3 w0
  -- the block
  obtain ⟨cl, hcl⟩ : ∃ cl, cl = cellsFrom (s3.heap.objs.size + 1) scope.names (cloFrom X.env.cells scope.names []) := ⟨_, rfl⟩
  obtain ⟨ce, hce⟩ : ∃ ce, ce = compEnvC scope cl s3.heap.objs.size X.env := ⟨_, rfl⟩
  obtain ⟨s4, hs4⟩ : ∃ s4 : Shared, s4 = { s3 with heap := pushCells (s3.heap.push { cls := .type "dict", data := .dict #[] }) scope.names } := ⟨_, rfl⟩
  have k4 : ∀ b o, s3.heap.get? b = some o → s4.heap.get? b = some o := fun b o e => hs4 ▸ pushCells_keeps _ _ _ _ (Heap.get?_push_of_some _ e)
  have cL : ce.locals = s3.heap.objs.size := hce ▸ rfl
  have I4 : Inv (hblk X s3 H3 scope ce fp) [] (wipe σ (own.map (·.2))) H3 s4 := by
    refine hblk_inv I3 ?_ cL k4
    have z := block_start I3 ok hN f3
    rw [← hcl, ← hce, ← hs4] at z
    exact z
  have pg := hg s3 H3 s3.heap.objs.size cl fp
  have pt := ht s3 H3 s3.heap.objs.size cl fp
  have pe := he s3 H3 s3.heap.objs.size cl fp
  rw [← hce] at pg pt pe
  have hotB : HotC (hblk X s3 H3 scope ce fp) := hc
  have stays : ∀ {τ : L2.St} {F : Hp} {t : Shared}, Inv (hblk X s3 H3 scope ce fp) [] τ F t → (∀ b ∈ fp, F b = none) → ∀ b ∈ fp, FpOk (hblk X s3 H3 scope ce fp) [] F b := fun {τ F t} J hn b hb =>
    ⟨hn b hb, (J.ok.exf b hb).1, J.ok.exfs b hb, .inl hb, (J.ok.exf b hb).2, fun p hp => (f3 b hb).1.2.2.2.2.2 p (List.mem_append_left _ (by simpa using (show p ∈ X.pn ++ [] from hp)))⟩
  have tn4 : tn 0 s4.heap := T.keep _ _ _ tn3 fun b _ o e => k4 b o e
  have loop : codeAny (model X.prog X.w) X.A (.compLoop (.ListComp elt [⟨tg, iter, ifs, 0⟩] scope pos) 0 (.ref j) (.ref D) ce) (compPost (model X.prog X.w) X.A X.xe none (EP X pins σ Q) (.ref D) s3.heap.objs.size) s4 := by
    refine compLoop_any (fun n t => ∃ i F, Inv (hblk X s3 H3 scope ce fp) [] (wipe σ (own.map (·.2))) F t ∧ tn i t.heap ∧ (∀ b ∈ fp, F b = none) ∧ W i n F) ?_ m0 ⟨0, H3, I4, tn4, fun b hb => (f3 b hb).1.1, w0⟩
    rintro n s5 ⟨i, F5, I5, tn5, n5, w5⟩
    rcases turn i n F5 w5 with ⟨stop, qq⟩ | ⟨go, Nx, hNx, step⟩
    · refine thnF (T.done (hblk X s3 H3 scope ce fp) rfl rfl rfl hotB i [] s5 _ F5 (fun _ _ => False) I5 (stays I5 n5) tn5 stop) fun r s6 ⟨hr, I6⟩ => ?_
      subst hr
      have I7 : Inv X pins σ F5 s6 := I3.call' (ch := fp) I6.os I6.base I6.hok I6.bare fun b hb => by
        obtain ⟨_, a1, _, a3, a4, a5⟩ := (f3 b hb).1
        exact ⟨a3, a1, a4, a5⟩
      have nC : F5 s3.heap.objs.size = none := cL ▸ I6.free
      obtain ⟨m, hn, _⟩ := I6.loc
      have hn2 : s6.heap.Ns s3.heap.objs.size m := cL ▸ hn
      refine ⟨m, hn2, fun h9 sb => ?_⟩
      obtain ⟨b0, b1, b2, b3, b4, b5⟩ := I3.fpOk (Nat.le_refl _) nC
      exact ⟨.ref D, F5, I7.turned (t' := s6.toks) (fun b o hb e => (sb.2 b hb).trans e) b0 b1 b3 b4 b5, rfl, qq⟩
    · refine thnF (T.item (hblk X s3 H3 scope ce fp) rfl rfl rfl hotB i [] s5 _ F5 (fun _ _ => False) I5 (stays I5 n5) tn5 go) fun r s6 ⟨u, hr, h6⟩ => ?_
      subst hr
      refine thnF h6 fun _ s7 ⟨x, F7, I7, r7, y7, tn7, n7⟩ => ?_
      refine thnF (pg.run _ s7 _ F7 x u _ (I7.pinned (stays I7 n7) (T.obj _ _ tn7)) r7 (step x F7 y7)) fun _ s8 ⟨σ8, F8, I8, hw8, q8⟩ => thnF (pt.run _ s8 σ8 F8 _ I8 q8) fun b s9 ⟨F9, I9, q9⟩ => ?_
      have fin : ∀ {t : Shared} {F : Hp}, Inv (hblk X s3 H3 scope ce fp) ([] ++ pinsAt fp s7.heap) σ8 F t → Nx F → ∃ m, m < n ∧ ∃ i F, Inv (hblk X s3 H3 scope ce fp) [] (wipe σ (own.map (·.2))) F t ∧ tn i t.heap ∧ (∀ b ∈ fp, F b = none) ∧ W i m F := fun {t F} J nx => by
        obtain ⟨m2, hm, w2⟩ := hNx F nx
        have pinned : ∀ b ∈ fp, ∀ o, s7.heap.get? b = some o → t.heap.get? b = some o ∧ F b = none := fun b hb o e => by
          have z := J.pin (b, o) (List.mem_append_right _ (List.mem_append_right _ (mem_pinsAt hb e)))
          exact ⟨z.1, z.2.1⟩
        refine ⟨m2, hm, i + 1, F, (J.unpinned (pins := [])).weak (by rw [← wipe_length σ8 (own.map (·.2)), hw8]) (fun l v e => (wipe_some (hw8 ▸ e)).1), T.keep _ _ _ tn7 fun b hb o e => (pinned b hb o e).1, fun b hb => ?_, w2⟩
        obtain ⟨o, e, _⟩ := T.obj _ _ tn7 b hb
        exact (pinned b hb o e).2
      cases b with
      | false =>
        rw [if_neg Bool.false_ne_true] at q9 ⊢
        exact fin I9 q9
      | true =>
        rw [if_pos rfl] at q9 ⊢
        exact thnF (pe.run _ s9 σ8 F9 _ I9 q9) fun z s10 ⟨yv, F10, I10, r10, acc, hD10, hz10, nx⟩ => app_ok (X := hblk X s3 H3 scope ce fp) I10 hD10 hz10 r10 fun s11 I11 => fin I11 nx
  have st := codeAny_compStart_list loop (T.self X.A 0 _ _ _ tn4 loop)
  rw [hce, hcl, hs4] at st
  exact st
end
end Mr.Hx
set_option Elab.async false
set_option linter.all false
set_option maxRecDepth 100000
set_option maxHeartbeats 4000000
/-! MrT: defs that raise, defs called while an exception is handled; try / except in a mirror. -/
namespace L2H
theorem RoomH.units {k : Nat} {A : PySem.Around} (r : RoomH k A) : A.units + 64 < PySem.cLine := by have := r.un; omega
end L2H
namespace Mr
open PySem PySem.Spec PyProof.Rows L2
section
variable {P : Program} {w : World} {K : PySem.W.Frag} {mg : Str → Option Value} {base : Heap} {x qual : Str} {st : Stmt} {f : Addr} {fd : FuncData} {N ps : List Str} {k : Nat} {sp : Sp}
theorem okN (F : Fun K x qual st f fd) (S : FnScope N ps (defScope st)) (len : ∀ vs H Q E, sp vs H Q E → vs.length = ps.length)
    (hb : ∀ (cdv : Value) (A : Around) (outer : List Env) (s : Shared) (H : Hp) (vs : List V) (Q : VK) (E : XK), Room k (A.deeper (envOfC qual (defScope st) s.heap.objs.size f cdv)) → sp vs H Q E →
      ∃ t, PSs (cxOf (L2N.CX P w) P w K mg base N qual (defScope st) f cdv A outer s H E) (defBody st) t ∧ t { nx := fun _ H' => Q .non H', rt := Q } (L2.start N vs) H) : FnOk P w K mg base (L2N.CX P w) (k + 1) f fd ps sp := by
  obtain ⟨oc, od, kV, doc, pm, an, cdv, ct, osl, rfl, lk, hcd⟩ := F.ex
  exact fn_of lk hcd S len fun A outer s H vs Q E => hb cdv A outer s H vs Q E
theorem okH (F : Fun K x qual st f fd) (S : FnScope N ps (defScope st)) (len : ∀ vs H Q E, sp vs H Q E → vs.length = ps.length)
    (hb : ∀ (cdv : Value) (A : Around) (outer : List Env) (s : Shared) (H : Hp) (vs : List V) (Q : VK) (E : XK) (p : Addr × Obj), L2H.HotC (L2H.cxH CX0 P w K mg base N qual (defScope st) f cdv A outer s H E p).nox → L2H.RoomH k (A.deeper (envOfC qual (defScope st) s.heap.objs.size f cdv)) → sp vs H Q E →
      ∃ t, PSs (L2H.cxH CX0 P w K mg base N qual (defScope st) f cdv A outer s H E p).nox (defBody st) t ∧ t { nx := fun _ H' => Q .non H', rt := Q } (L2.start N vs) H) : L2H.FnH P w K mg base CX0 (k + 1) f fd ps sp := by
  obtain ⟨oc, od, kV, doc, pm, an, cdv, ct, osl, rfl, lk, hcd⟩ := F.ex
  refine L2H.fn_ofH lk hcd S len fun A outer s H vs Q E p hot hr hsp => ?_
  obtain ⟨t, h, q⟩ := hb cdv A outer s H vs Q E p ⟨p, hot, List.mem_singleton.mpr rfl⟩ hr hsp
  exact ⟨t, h.nox, q⟩
theorem hu_ofH {A : Around} {k : Nat} (hr : L2H.RoomH k A) : A.units + 1 < cLine := by have := hr.un; omega
end
section
variable {X : Cx} {k : Nat} {f : Addr} {fd : FuncData} {ps : List Str} {sp : Sp} {x : Str} {q pos : Pos} {e : Expr} {es : List Expr} {t : TA}
theorem pe_callHT (F : L2H.FnH X.prog X.w X.K X.mg X.base CX0 k f fd ps sp) (hr : L2H.RoomH k X.A) (hc : L2H.HotC X) (hg : Gl X x) (hm : X.mg x = some (.ref f)) (hk : PySem.W.keepIn X.K (.ref f) = true) (hb : Binds X.K fd ps [])
    (ha : PA X (e :: es) t) (hdb : (x == ("__debug__" : Str)) = false := by decide) (he : starEach (e :: es) X.env = (false, eval e X.env) :: starEach es X.env := by rfl) (hpl : (backTo pos (starEach es X.env)).any (·.1) = false := by rfl) :
    PE X (.Call (.Name x q) (e :: es) [] pos) (tCall sp [] E0 t) := by
  have h := L2H.pe_callH (q := q) (E := fun _ => E0) F hr hc hg hm hk hb (fun _ _ _ _ _ _ _ z => z.elim) ha hdb he hpl
  refine ⟨fun pins s σ H Q I z => h.run pins s σ H Q I ?_⟩
  have z' : t σ H fun vs H1 => sp (vs ++ []) H1 Q E0 := z
  simp only [List.append_nil] at z'
  exact z'
theorem hot_suite {a : Addr} {oe : Obj} {pn : List (Addr × Obj)} {cls : Value} {d : Option Addr} (hz : L2N.Zn cls d oe) (hf : ∃ vs, oe.data = .fields vs) : L2H.HotC (X.suite a ((a, oe) :: pn)) := by
  obtain ⟨vs, hv⟩ := hf
  exact ⟨(a, oe), ⟨rfl, vs, hv, hz.2.2 vs hv⟩, List.mem_cons_self⟩
theorem roomH_suite {A : Around} {v : Option Value} (hr : Room k A) : L2H.RoomH k (A.mark v) := ⟨hr.dp, hr.un⟩
theorem takesN0 : L2N.Takes X (fun _ _ _ _ => False) := fun _ _ z => by
  obtain ⟨_, _, _, _, _, _, _, _, _, _, _, _, _, _, _, _, z⟩ := z
  exact z.elim
end
/-! ### the caught error -/
/-- the error a of the class C with one field -/
def dE (a : Addr) (cls : Value) (d : Option Addr) (C : Addr) (f : Str) (g : XA) : Dn := ⟨fun G v => v = .ref a ∧ cls = .ref C ∧ ∃ dd u, d = some dd ∧ G dd = some (.xd [(f, u)]) ∧ (xaD g).P G u,
  fun s ⟨h1, h2, dd, u, h3, h4, h5⟩ => ⟨h1, h2, dd, u, h3, s _ _ h4, (xaD g).mono s h5⟩⟩
section
variable {n : Nat} {Z : Zn} {Γ : Gm} {M : Mm} {K : PySem.W.Frag} {te : TE} {c : Prop} {a C : Addr} {cls : Value} {d : Option Addr} {f : Str} {g : XA}
theorem ev_xf (h : EV n Γ M te c (dE a cls d C f g)) : EV n Γ M (tXf a cls d C f te) c (xaD g) := .mk fun hc A E q => h.run hc A E fun v hv => by
  obtain ⟨e1, e2, dd, u, e3, e4, e5⟩ := hv
  exact ⟨e1, e2, dd, _, u, e3, A.sub _ _ e4, by simp [List.lookup], q u e5⟩
theorem ev_cls {p : Addr} : EV n Γ M (tC (.ref p)) True (dR p) := .mk fun _ _ _ q => q _ rfl
theorem ev_isX {tc : TE} {p : Addr} {b : Bool} (h : EV n Γ M te c (dE a cls d C f g)) (h2 : EV n Γ M tc True (dR p)) (hk : PySem.W.kitOne K (.ref C) (.ref p) = some b) : EV n Γ M (tCB (rIsX K C a cls d) (tCons te (tCons tc tNil))) c (dB b) := .mk fun hc A E q => h.run hc A E fun v hv => h2.run trivial A E fun u hu => by
  obtain ⟨e1, e2, dd, w, e3, e4, e5⟩ := hv
  subst e1
  cases (show u = .ref p from hu)
  exact ⟨e2, dd, _, _, .ref p, b, e3, A.sub _ _ e4, rfl, fun _ r => r, hk, q _ rfl⟩
/-- values of a builtin type -/
def TyD (D : Dn) (t : String) : Prop := ∀ (K : PySem.W.Frag) (G : Hp) (v : V), D.P G v → TyX K G v (.type t)
theorem ty_I {i : Int} : TyD (dI i) "int" := fun _ _ _ h => by cases (show _ = V.int i from h); exact .base (.int i)
theorem ty_B {i : Bool} : TyD (dB i) "bool" := fun _ _ _ h => by cases (show _ = V.bl i from h); exact .base (.bl i)
theorem ty_S {i : Str} : TyD (dS i) "str" := fun _ _ _ h => by cases (show _ = V.str i from h); exact .base (.str i)
theorem ty_N : TyD dN "NoneType" := fun _ _ _ h => by cases (show _ = V.non from h); exact .base .non
theorem ty_L {α : Type} [Enc α] {xs : List α} : TyD (dL xs) "list" := fun _ _ _ ⟨p, vs, e, h, _⟩ => by subst e; exact .base (.lst h)
theorem ty_T {Ds : List Dn} : TyD (dT Ds) "tuple" := fun _ _ _ ⟨p, vs, e, h, _⟩ => by subst e; exact .base (.tup h)
theorem tyX_mono {K : PySem.W.Frag} {G H : Hp} (s : Sub G H) {v : V} {t : Value} (h : TyX K G v t) : TyX K H v t := by
  cases h with
  | base h =>
    cases h with
    | non => exact .base .non
    | bl x => exact .base (.bl x)
    | int x => exact .base (.int x)
    | str x => exact .base (.str x)
    | flt x => exact .base (.flt x)
    | lst e => exact .base (.lst (s _ _ e))
    | frz e => exact .base (.frz (s _ _ e))
    | tup e => exact .base (.tup (s _ _ e))
    | dK e => exact .base (.dK (s _ _ e))
    | dT e => exact .base (.dT (s _ _ e))
    | ins e cl h1 h2 h3 h4 => exact .base (.ins (s _ _ e) cl h1 h2 h3 h4)
  | byt b => exact .byt b
  | set e => exact .set (s _ _ e)
  | kList e c => exact .kList e c
  | kTuple e c => exact .kTuple e c
  | kDict e c => exact .kDict e c
  | fTuple e => exact .fTuple (s _ _ e)
  | fDict e => exact .fDict (s _ _ e)
theorem ev_isi {D : Dn} {t u : String} {b : Bool} (h : EV n Γ M te c D) (ht : TyD D t) (hk : PySem.W.kitOne K (.type t) (.type u) = some b) : EV n Γ M (tCB (rIsi K) (tCons te (tCons (tC (.ty u)) tNil))) c (dB b) := .mk fun hc A E q =>
  h.run hc A E fun v hv => ⟨v, .ty u, _, _, b, rfl, .ty _, tyX_mono A.sub (ht K _ v hv), hk, q _ rfl⟩
/-! ### and, or with calls -/
variable {ta tb : TE} {β1 β2 : Type} {m1 : R β1} {m2 : R β2} {b1 : β1 → Bool} {b2 : β2 → Bool}
theorem em_and (h : EMc n Z Γ M ta m1 (fun r => dB (b1 r)) (fun _ => M)) (k : EMc n Z Γ M tb m2 (fun r => dB (b2 r)) (fun _ => M)) : EMc n Z Γ M (tAndV ta tb) (m1.bind fun a => if b1 a = true then m2.bind fun r => .ok (b2 r) else .ok false) dB (fun _ => M) := by
  refine .mk ?_
  intro G H σ Q A E w
  rw [wp_bind] at w
  refine h.run A E (w.mono (fun r q ps G1 H1 v s1 A1 d1 => ⟨b1 r, d1, ?_⟩) fun _ x => x)
  by_cases hb : b1 r = true
  · rw [if_pos hb] at q ⊢
    rw [wp_bind] at q
    exact k.run A1 (E.mono s1) (q.mono (fun r2 q2 ps2 G2 H2 v2 s2 A2 d2 => q2 ps2 G2 H2 v2 (s1.trans s2) A2 d2) fun x hx => Z.mono s1 hx)
  · rw [if_neg hb] at q ⊢
    exact q ps G1 H1 _ s1 A1 rfl
theorem em_or (h : EMc n Z Γ M ta m1 (fun r => dB (b1 r)) (fun _ => M)) (k : EMc n Z Γ M tb m2 (fun r => dB (b2 r)) (fun _ => M)) : EMc n Z Γ M (tOrV ta tb) (m1.bind fun a => if b1 a = true then .ok true else m2.bind fun r => .ok (b2 r)) dB (fun _ => M) := by
  refine .mk ?_
  intro G H σ Q A E w
  rw [wp_bind] at w
  refine h.run A E (w.mono (fun r q ps G1 H1 v s1 A1 d1 => ⟨b1 r, d1, ?_⟩) fun _ x => x)
  by_cases hb : b1 r = true
  · rw [if_pos hb] at q ⊢
    exact q ps G1 H1 _ s1 A1 rfl
  · rw [if_neg hb] at q ⊢
    rw [wp_bind] at q
    exact k.run A1 (E.mono s1) (q.mono (fun r2 q2 ps2 G2 H2 v2 s2 A2 d2 => q2 ps2 G2 H2 v2 (s1.trans s2) A2 d2) fun x hx => Z.mono s1 hx)
section
variable {ta tb : TE} {β1 β2 β : Type} {m1 : R β1} {m2 : β1 → R β2} {M1 : β1 → Mm} {M2 : β1 → β2 → Mm} {g : β1 → β2 → β}
open Classical in
theorem em_neD {α : Type} [Enc α] [DE α] (hd : DE.dep α ≤ 64) {va : β1 → α} {vb : β1 → β2 → α} {vr : β → Bool} {Mg : β → Mm} (ha : EMc n Z Γ M ta m1 (fun a => dn (va a)) M1) (hb : ∀ a, EMc n Z Γ (M1 a) tb (m2 a) (fun b => dn (vb a b)) (M2 a))
    (hv : ∀ a b, vr (g a b) = !decide (va a = vb a b)) (hM : ∀ a b, Mg (g a b) = M2 a b) :
    EMc n Z Γ M (tOp (rNeD K) ta tb) (m1.bind fun a => (m2 a).bind fun b => chk (DE.ok (va a) ∧ DE.ok (vb a b)) (.ok (g a b))) (fun r => dB (vr r)) Mg :=
  em_bin (C := fun a b => DE.ok (va a) ∧ DE.ok (vb a b)) ha hb fun a b G H v w Q c d1 d2 A q => by
    refine ⟨_, _, DE.dp K A.sub d1, DE.dp K A.sub d2, shp c.1 hd, shp c.2 hd, q (fun _ => 0) G H _ (Sub.refl _) (by rw [hM]; exact A) ?_⟩
    show V.bl _ = V.bl _
    rw [hv]; congr 2
    exact Bool.eq_iff_iff.mpr ((DE.eqv _ _).trans (decide_eq_true_iff).symm)
end
section
variable {α : Type} [Enc α] [Inhabited α] {xs : List α} {p : Addr} {γ δ ρ : Type} {W : Ex γ δ ρ}
/-- xs[i] = e, i with effects (e goes ahead of it) -/
theorem sm_setM {to ti te : TE} {η ι : Type} {m : R η} {y : η → α} {M1 : η → Mm} {M0 : Mm} {mi : η → R ι} {i : η → ι → Int} {M2 : η → ι → Mm} {rest : TS} {k : η → ι → R (Out γ δ ρ)} (h : EMc n Z Γ ((p, cL xs) :: M0) te m (fun b => dn (y b)) (fun b => (p, cL xs) :: M1 b))
    (ho : ∀ b, EV n Γ ((p, cL xs) :: M1 b) to True (dR p)) (hi : ∀ b, EMc n Z Γ ((p, cL xs) :: M1 b) ti (mi b) (fun r => dI (i b r)) (fun r => (p, cL xs) :: M2 b r)) (hr : ∀ b r, SM n Z Γ ((p, cL (setI xs (i b r) (y b))) :: M2 b r) rest (k b r) W) :
    SM n Z Γ ((p, cL xs) :: M0) (tSeq (tAsg te (gSub to ti rSetL)) rest) (m.bind fun b => (mi b).bind fun r => chk (inR xs (i b r)) (k b r)) W := by
  refine .mk ?_
  intro G H σ D A E w
  rw [wp_bind] at w
  refine h.run A E (w.mono (fun b q ps G1 H1 u s1 A1 du => ?_) fun _ x => x)
  rw [wp_bind] at q
  refine (ho b).run trivial A1 (E.mono s1) fun v hv => (hi b).run A1 (E.mono s1) (q.mono (fun r q2 ps2 G2 H2 z s2 A2 dz => ?_) fun x hx => Z.mono s1 hx)
  rw [wp_chk] at q2
  cases (show v = .ref p from hv)
  cases (show z = .int (i b r) from dz)
  obtain ⟨o, h1, ws, rfl, d⟩ := A2.hd
  have hl : ws.length = xs.length := by rw [d.length, List.length_map]
  refine ⟨p, ws, i b r, pl xs (i b r), rfl, rfl, h1, by rw [hl]; exact ixN_of q2.1.1 q2.1.2, ?_⟩
  refine (hr b r).run (A2.put (c' := cL (setI xs (i b r) (y b))) ⟨_, rfl, ?_⟩) (E.mono (s1.trans s2)) (R.wp.mono q2.2 (fun o f => f.mono (s1.trans s2)) fun x hx => Z.mono (s1.trans s2) hx)
  unfold setI
  rw [List.map_set]
  exact d.set ((dn (y b)).mono s2 du) _
end
/-! ### what is lent -/
theorem bv_any {t : TA} {cb : Prop} {D0 D : Dn} {Ds : List Dn} (h : EV n Γ M ta c D0) (hD : ∀ G H v, At G M H → D0.P G v → D.P H v) (k : BV n Γ M t cb Ds) : BV n Γ M (tCons ta t) (c ∧ cb) (D :: Ds) :=
  .mk fun hc A E q => h.run hc.1 A E fun v hv => k.run hc.2 A E fun vs hvs => q _ ⟨v, vs, rfl, hD _ _ v A hv, hvs⟩
/-- a part that is owned, read as it stands -/
def PartAt (M : Mm) (D0 D : Dn) : Prop := ∀ G H v, At G M H → D0.P G v → D.P H v
theorem part_same {D : Dn} : PartAt M D D := fun _ _ _ A h => D.mono A.sub h
theorem part_own {α : Type} [Enc α] {p : Addr} {xs : List α} (i : Nat) (hm : M[i]? = some (p, cL xs)) : PartAt M (dR p) (dL xs) := fun G H v A h => by
  obtain ⟨o, h1, vs, rfl, d⟩ := (A.perm (Mr.front i hm)).hd
  exact ⟨p, vs, h, h1, d.mono A.sub⟩
theorem part_tup2 {A1 A2 B1 B2 : Dn} (h1 : PartAt M A1 B1) (h2 : PartAt M A2 B2) : PartAt M (dT [A1, A2]) (dT [B1, B2]) := fun G H v A ⟨p, vs, e, hp, v1, r1, e1, d1, v2, r2, e2, d2, e3⟩ =>
  ⟨p, vs, e, A.sub _ _ hp, v1, r1, e1, h1 _ _ _ A d1, v2, r2, e2, h2 _ _ _ A d2, e3⟩
end
section
variable {n : Nat} {Z : Zn} {Γ : Gm} {M : Mm} {XD : Exc → Value → Option Addr → Hp → Hp → Prop} {α β : Type} {Din : α → Adr → List Dn} {Min : α → Adr → Mm} {f : α → R β} {D : α → Adr → β → Adr → Dn} {Mo : α → Adr → β → Adr → Mm} {ta : TA} {sp : Sp} {E0 : XK}
theorem em_callQ (hs : sp = SpG XD Din Min f D Mo) {c : Prop} {a : α} (qs : Adr) (Mx : Mm) {Mr : β → Adr → Mm} (h : AV n Γ M ta c (Din a qs)) (hM : MLe (Min a qs ++ Mx) M) (hMr : ∀ r ps, MLe (Mr r ps) (Mo a qs r ps ++ Mx)) :
    EM n Z Γ M (tCall sp [] E0 ta) (chk c (f a).nx) (D a qs) Mr := by
  subst hs
  exact em_callP qs Mx h hM hMr
theorem em_callG (hs : sp = SpG XD Din Min f D Mo) {βa γ : Type} {m : R βa} {Ds : βa → List Dn} {Mf : βa → Mm} {a : βa → α} {qs : Adr} {g : βa → β → γ} {Dr : γ → Adr → Dn} {Mr : γ → Adr → Mm} {Mx : βa → Mm} (h : AMc n Z Γ M ta m Ds Mf) (hD : ∀ b, Ds b = Din (a b) qs)
    (hM : ∀ b, MLe (Min (a b) qs ++ Mx b) (Mf b)) (hDr : ∀ b r ps, Dr (g b r) ps = D (a b) qs r ps) (hMr : ∀ b r ps, MLe (Mr (g b r) ps) (Mo (a b) qs r ps ++ Mx b)) :
    EM n Z Γ M (tCall sp [] E0 ta) (m.bind fun b => (f (a b)).nx.bind fun r => .ok (g b r)) Dr Mr := by
  subst hs
  exact em_call h hD hM hDr hMr
end
/-! ### try -/
/-- a call, its result stored; its error's numbers -/
def tryI {β γ δ ρ : Type} (k : Nat) (m : R β) (g : β → γ) (h : List Int → R (Out γ δ ρ)) : R (Out γ δ ρ) := match m with
  | .ok r => .ok (.nx (g r))
  | .exc ⟨c, .ints l⟩ => if c = k then h l else .bad
  | _ => .bad
theorem tryI_ok {β γ δ ρ : Type} {k : Nat} {r : β} {g : β → γ} {h : List Int → R (Out γ δ ρ)} : tryI k (.ok r) g h = .ok (.nx (g r)) := rfl
theorem tryI_exc {β γ δ ρ : Type} {k : Nat} {l : List Int} {g : β → γ} {h : List Int → R (Out γ δ ρ)} : tryI k (.exc ⟨k, .ints l⟩) g h = h l := if_pos rfl
theorem EnvOk.unset {n : Nat} {G : Hp} {σ : L2.St} {Γ : Gm} {j : Nat} (h : EnvOk n G σ Γ) (hj : Γ.lookup j = none) : EnvOk n G (σ.set j none) Γ := by
  refine ⟨by rw [List.length_set]; exact h.len, fun i D e => ?_⟩
  have ne : j ≠ i := fun z => by rw [← z, hj] at e; cases e
  obtain ⟨v, h1, h2⟩ := h.at_ i D e
  exact ⟨v, by rw [List.getElem?_set_ne ne]; exact h1, h2⟩
section
variable {n : Nat} {Z : Zn} {Γ : Gm} {M : Mm} {K : PySem.W.Frag} {γ δ ρ : Type} {W : Ex γ δ ρ}
/-- a result seen otherwise (a part frozen) -/
def Post (M : Mm) (D : Dn) (M' : Mm) (D' : Dn) : Prop := ∀ G H v, At G M H → D.P G v → ∃ G', Sub G G' ∧ At G' M' H ∧ D'.P G' v
theorem post_same {M M' : Mm} {D : Dn} (h : MLe M' M) : Post M D M' D := fun G H v A d => ⟨G, Sub.refl _, h A, d⟩
theorem post_tup1 {α : Type} [Enc α] {M : Mm} {D1 : Dn} {p : Addr} {xs : List α} : Post ((p, cL xs) :: M) (dT [D1, dR p]) M (dT [D1, dL xs]) := fun G H v A ⟨q, vs, e, hq, v1, r1, e1, d1, v2, r2, e2, d2, e3⟩ => by
  obtain ⟨o, h1, ws, rfl, d⟩ := A.hd
  have s : Sub G (upd G p (.lst ws)) := Sub.new A.gn
  have A2 : At (upd G p (.lst ws)) M H := A.frz h1
  exact ⟨_, s, A2, q, vs, e, s _ _ hq, v1, r1, e1, D1.mono s d1, v2, r2, e2, ⟨p, ws, d2, upd_same, d.mono s⟩, e3⟩
theorem sm_tryI {α β : Type} {Din : α → Adr → List Dn} {Min : α → Adr → Mm} {fm : α → R β} {D : α → Adr → β → Adr → Dn} {Mo : α → Adr → β → Adr → Mm} {ta : TA} {c : Prop} {a : α} {C : Addr} {f : Str} {cc : Value} {tbl : List (Addr × Str)} {ki : Nat} {j : Nat} {ts : Addr → Value → Option Addr → TS} {Wout : WX} {g : TG}
    {adds : β → Adr → Gm} {sl : List Nat} {gg : β → γ} {hh : List Int → R (Out γ δ ρ)} (qs : Adr) (Mx : Mm) (D' : β → Adr → Dn) (h : AV n Γ M ta c (Din a qs)) (hM : MLe (Min a qs ++ Mx) M) (hp : ∀ r ps, Post (Mo a qs r ps ++ Mx) (D a qs r ps) (W.Mn (gg r) ps) (D' r ps)) (hg : ∀ r ps, GT n g (D' r ps) (adds r ps) sl) (hn : ∀ r ps, Sb (W.Γn (gg r) ps) (adds r ps ++ Γ))
    (hk : PySem.W.exmOne K (.ref C) cc = some true) (hti : tbl[ki]? = some (C, f)) (hj : j < n) (hjn : ∀ g ps, (W.Γn g ps).lookup j = none) (hjl : ∀ g ps, (W.Γl g ps).lookup j = none)
    (hs : ∀ l p cls d, SM n Z ((j, dE p cls d C f (.ints l)) :: Γ) (Min a qs ++ Mx) (ts p cls d) (hh l) W) :
    SM n Z Γ M (fun E σ H => tAsg (tCallS (SpG (xden tbl) Din Min fm D Mo) (WE (wAs K cc j ts Wout E)) ta) g E σ H) (chk c (tryI ki (fm a) gg hh)) W := by
  refine .mk ?_
  intro G H σ E A Ev w
  rw [wp_chk] at w
  refine h.run w.1 A Ev fun vs hvs => ?_
  have w2 := w.2
  refine ⟨G, Mx, a, qs, hM A, hvs, ?_⟩
  cases hm : fm a with
  | ok r =>
    rw [hm] at w2
    intro ps G' H' v s A' d
    obtain ⟨G2, s2, A2, d2⟩ := hp r ps G' H' v A' d
    exact (hg r ps).run A2 (Ev.mono (s.trans s2)) d2 fun σ' E' _ => w2 ps G2 H' σ' (s.trans s2) A2 (E'.sb (hn r ps))
  | bad => rw [hm] at w2; exact w2.elim
  | exc y =>
    rw [hm] at w2
    intro G' H' cls d s A' hx
    obtain ⟨C', f', dd, v, ht, e1, e2, e3, e4⟩ := hx
    obtain ⟨k, arg⟩ := y
    cases arg with
    | «ints» l =>
      by_cases hki : k = ki
      · subst hki
        have h9 : some (C', f') = some (C, f) := ht.symm.trans hti
        cases h9
        subst e1
        refine ⟨true, hk, fun _ p np => ?_, fun z => nomatch z⟩
        have w3 : (hh l).wp (Fits n W G E) (Z.P G) := by rw [tryI_exc] at w2; exact w2
        refine (hs l p (.ref C) d).run A' ((Ev.mono s).set hj ⟨rfl, rfl, dd, v, e2, e3, e4⟩) (w3.mono (fun o q => ?_) fun x hx => Z.mono s hx)
        have q' := q.mono s
        cases o with
        | nx g => exact fun ps G2 H2 σ2 s2 A2 E2 => q' ps G2 H2 _ s2 A2 (E2.unset (hjn g ps))
        | rt b => exact q'
        | bk g => exact fun ps G2 H2 σ2 s2 A2 E2 => q' ps G2 H2 _ s2 A2 (E2.unset (hjl g ps))
        | ct g => exact fun ps G2 H2 σ2 s2 A2 E2 => q' ps G2 H2 _ s2 A2 (E2.unset (hjl g ps))
      · have w3 : (if k = ki then hh l else .bad).wp (Fits n W G E) (Z.P G) := w2
        rw [if_neg hki] at w3
        exact w3.elim
    | non => exact w2.elim
    | int i => exact w2.elim
    | str i => exact w2.elim
    | pair p q => exact w2.elim
end
end Mr
set_option Elab.async false
set_option linter.all false
set_option maxRecDepth 100000
set_option maxHeartbeats 4000000
/-! MrP: what mirrors compute. -/
namespace Mr
open PySem PySem.Spec PyProof.Rows L2
section
variable {α β γ δ : Type} {E : Exc → Prop}
def TurnP (J : γ → Prop) (Q : Out γ δ β → Prop) : Out γ γ β → Prop
  | .nx g => J g
  | .ct g => J g
  | .bk g => Q (.nx g)
  | .rt b => Q (.rt b)
theorem turn_wp {r : γ → R (Out γ δ β)} {Q : Out γ δ β → Prop} {o : Out γ γ β} (h : TurnP (fun g => (r g).wp Q E) Q o) : (turnO r o).wp Q E := by
  cases o with
  | nx g => exact h
  | ct g => exact h
  | bk g => exact h
  | rt b => exact h
theorem TurnP.mono {J J' : γ → Prop} {Q : Out γ δ β → Prop} {o : Out γ γ β} (h : TurnP J Q o) (k : ∀ g, J g → J' g) : TurnP J' Q o := by
  cases o with
  | nx g => exact k g h
  | ct g => exact k g h
  | bk g => exact h
  | rt b => exact h
theorem for_from {f : α → γ → R (Out γ γ β)} {I : Nat → γ → Prop} {Q : Out γ δ β → Prop} : ∀ (xs : List α) (k : Nat) (g : γ), I k g → (∀ i x g, xs[i]? = some x → I (k + i) g → (f x g).wp (TurnP (I (k + i + 1)) Q) E) → (∀ g, I (k + xs.length) g → Q (.nx g)) → (forR f xs g).wp Q E
  | [], k, g, h0, _, hf => hf g h0
  | x :: xs, k, g, h0, hs, hf => by
    unfold forR
    rw [wp_bind]
    refine (hs 0 x g rfl h0).mono (fun o ho => turn_wp (ho.mono fun g' h' => ?_)) fun _ z => z
    refine for_from xs (k + 1) g' h' (fun i y g2 hy h2 => ?_) fun g2 h2 => hf g2 ?_
    · have := hs (i + 1) y g2 (by simpa using hy) (by rw [show k + (i + 1) = k + 1 + i by omega]; exact h2)
      rw [show k + (i + 1) + 1 = k + 1 + i + 1 by omega] at this
      exact this
    · rw [List.length_cons, show k + (xs.length + 1) = k + 1 + xs.length by omega]; exact h2
/-- a loop over a list, by its invariant -/
theorem for_wp {f : α → γ → R (Out γ γ β)} {Q : Out γ δ β → Prop} {xs : List α} {g : γ} (I : Nat → γ → Prop) (h0 : I 0 g) (hs : ∀ i x g, xs[i]? = some x → I i g → (f x g).wp (TurnP (I (i + 1)) Q) E) (hf : ∀ g, I xs.length g → Q (.nx g)) : (forR f xs g).wp Q E :=
  for_from xs 0 g h0 (fun i x g hx h => by simpa using hs i x g hx (by simpa using h)) fun g h => hf g (by simpa using h)
def RtP (Q : β → Prop) : Out γ δ β → Prop
  | .rt b => Q b
  | _ => False
def NxP (J : γ → Prop) : Out γ γ β → Prop
  | .nx g => J g
  | _ => False
theorem for_nx {f : α → γ → R (Out γ γ β)} {Q : Out γ δ β → Prop} {xs : List α} {g : γ} (I : Nat → γ → Prop) (h0 : I 0 g) (hs : ∀ i x g, xs[i]? = some x → I i g → (f x g).wp (NxP (I (i + 1))) E) (hf : ∀ g, I xs.length g → Q (.nx g)) : (forR f xs g).wp Q E :=
  for_wp I h0 (fun i x g hx h => (hs i x g hx h).mono (fun o ho => by
    cases o with
    | nx g => exact ho
    | _ => exact ho.elim) fun _ z => z) hf
theorem nxp {J : γ → Prop} {g : γ} : (NxP J (.nx g : Out γ γ β)) = J g := rfl
theorem rtp {Q : β → Prop} {b : β} : (RtP Q (.rt b : Out γ δ β)) = Q b := rfl
theorem comp_from {f : α → γ → R (Option β × γ)} {I : Nat → γ → List β → Prop} {Q : List β × γ → Prop} : ∀ (xs : List α) (k : Nat) (g : γ) (acc : List β), I k g acc →
    (∀ i x g acc, xs[i]? = some x → I (k + i) g acc → (f x g).wp (fun r => I (k + i + 1) r.2 (match r.1 with | some y => acc ++ [y] | none => acc)) E) → (∀ g acc, I (k + xs.length) g acc → Q (acc, g)) → (compR f xs g acc).wp Q E
  | [], k, g, acc, h0, _, hf => hf g acc h0
  | x :: xs, k, g, acc, h0, hs, hf => by
    unfold compR
    rw [wp_bind]
    refine (hs 0 x g acc rfl h0).mono (fun r hr => ?_) fun _ z => z
    refine comp_from xs (k + 1) r.2 _ hr (fun i y g2 a2 hy h2 => ?_) fun g2 a2 h2 => hf g2 a2 ?_
    · have := hs (i + 1) y g2 a2 (by simpa using hy) (by rw [show k + (i + 1) = k + 1 + i by omega]; exact h2)
      rw [show k + (i + 1) + 1 = k + 1 + i + 1 by omega] at this
      exact this
    · rw [List.length_cons, show k + (xs.length + 1) = k + 1 + xs.length by omega]; exact h2
theorem comp_wp {f : α → γ → R (Option β × γ)} {Q : List β × γ → Prop} {xs : List α} {g : γ} {acc : List β} (I : Nat → γ → List β → Prop) (h0 : I 0 g acc)
    (hs : ∀ i x g acc, xs[i]? = some x → I i g acc → (f x g).wp (fun r => I (i + 1) r.2 (match r.1 with | some y => acc ++ [y] | none => acc)) E) (hf : ∀ g acc, I xs.length g acc → Q (acc, g)) : (compR f xs g acc).wp Q E :=
  comp_from xs 0 g acc h0 (fun i x g acc hx h => by simpa using hs i x g acc hx (by simpa using h)) fun g acc h => hf g acc (by simpa using h)
theorem lcM_wp {f : α → R β} {xs : List α} {Q : List β → Prop} (h : α → β) (hl : xs.length ≤ 16000000) (hs : ∀ x ∈ xs, (f x).wp (fun y => y = h x) (fun _ => False)) (hf : Q (xs.map h)) : (lcM f xs).wp Q E := by
  unfold lcM
  rw [wp_chk, wp_bind, wp_nx]
  refine ⟨hl, comp_wp (fun i _ acc => acc = (xs.take i).map h) (by simp) (fun i x g acc hx ha => ?_) fun g acc ha => ?_⟩
  · rw [wp_bind]
    refine (hs x (List.mem_of_getElem? hx)).mono (fun y hy => ?_) fun _ z => z
    show acc ++ [y] = _
    have hi : i < xs.length := (List.getElem?_eq_some_iff.mp hx).1
    rw [ha, hy, List.take_add_one, hx, List.map_append]
    rfl
  · rw [List.take_length] at ha
    subst ha
    exact hf
theorem lcT_wp {δ : Type} {mt : α → R δ} {bb : α → δ → Bool} {ce : α → Prop} {y : α → β} {xs : List α} {Q : List β → Prop} (p : α → Bool) (hl : xs.length ≤ 16000000) (hs : ∀ x ∈ xs, (mt x).wp (fun d => bb x d = p x ∧ (p x = true → ce x)) (fun _ => False)) (hf : Q ((xs.filter p).map y)) : (lcT mt bb ce y xs).wp Q E := by
  unfold lcT
  rw [wp_chk, wp_bind, wp_nx]
  refine ⟨hl, comp_wp (fun i _ acc => acc = ((xs.take i).filter p).map y) (by simp) (fun i x g acc hx ha => ?_) fun g acc ha => ?_⟩
  · rw [wp_bind]
    refine (hs x (List.mem_of_getElem? hx)).mono (fun d hd => ?_) fun _ z => z
    rw [wp_chk]
    refine ⟨fun z => hd.2 (hd.1 ▸ z), ?_⟩
    rw [hd.1]
    show _ = _
    rw [List.take_add_one, hx, List.filter_append, List.map_append, ← ha]
    cases hp : p x with
    | true => simp [List.filter, hp]
    | false => simp [List.filter, hp]
  · rw [List.take_length] at ha
    subst ha
    exact hf
theorem while_wp {c : γ → Prop} {b : γ → Bool} {f : γ → R (Out γ γ β)} {Q : Out γ δ β → Prop} (I : Nat → γ → Prop) (hz : ∀ g, ¬ I 0 g) (hs : ∀ k g, I (k + 1) g → c g ∧ (b g = true → (f g).wp (TurnP (I k) Q) E) ∧ (b g = false → Q (.nx g))) : ∀ (n : Nat) (g : γ), I n g → (whileR c b f n g).wp Q E
  | 0, g, h => (hz g h).elim
  | n + 1, g, h => by
    obtain ⟨h1, h2, h3⟩ := hs n g h
    unfold whileR
    rw [wp_chk]
    refine ⟨h1, ?_⟩
    by_cases hb : b g = true
    · rw [if_pos hb, wp_bind]
      exact (h2 hb).mono (fun o ho => turn_wp (ho.mono fun g' h' => while_wp I hz hs n g' h')) fun _ z => z
    · rw [if_neg hb]
      exact h3 (by simpa using hb)
theorem while_nx {c : γ → Prop} {b : γ → Bool} {f : γ → R (Out γ γ β)} {Q : Out γ δ β → Prop} (I : Nat → γ → Prop) (n : Nat) (g : γ) (h0 : I n g) (hz : ∀ g, ¬ I 0 g) (hb : ∀ k g, I (k + 1) g → b g = true → c g ∧ (f g).wp (NxP (I k)) E) (he : ∀ k g, I (k + 1) g → b g = false → c g ∧ Q (.nx g)) : (whileR c b f n g).wp Q E := by
  refine while_wp I hz (fun k g h => ?_) n g h0
  by_cases hbg : b g = true
  · obtain ⟨h1, h2⟩ := hb k g h hbg
    exact ⟨h1, fun _ => h2.mono (fun o ho => by
      cases o with
      | nx g => exact ho
      | _ => exact ho.elim) fun _ z => z, fun z => absurd hbg (by rw [z]; decide)⟩
  · obtain ⟨h1, h2⟩ := he k g h (by simpa using hbg)
    exact ⟨h1, fun z => absurd z hbg, fun _ => h2⟩
theorem seq_wp {γ' : Type} {m : R (Out γ δ β)} {k : γ → R (Out γ' δ β)} {Q : Out γ' δ β → Prop} : (seqO m k).wp Q E = m.wp (fun o => (goO k o).wp Q E) E := wp_bind
theorem run_wp {m : R (Out γ δ β)} {Q : β → Prop} (h : m.wp (RtP Q) E) : (runE m).wp Q E := by
  unfold runE
  rw [wp_bind]
  refine h.mono (fun o ho => ?_) fun _ z => z
  cases o with
  | rt b => exact ho
  | nx g => exact ho.elim
  | bk g => exact ho.elim
  | ct g => exact ho.elim
theorem go_nx {γ' : Type} {k : γ → R (Out γ' δ β)} {g : γ} : goO k (.nx g : Out γ δ β) = k g := rfl
theorem go_rt {γ' : Type} {k : γ → R (Out γ' δ β)} {b : β} : goO k (.rt b : Out γ δ β) = .ok (.rt b) := rfl
/-- the only value -/
theorem wp_eq {m : R β} {v : β} (h : m.wp (fun r => r = v) (fun _ => False)) : m = .ok v := by
  cases m with
  | ok a => rw [show a = v from h]
  | exc x => exact (h : False).elim
  | bad => exact (h : False).elim
theorem wp_ite {c : Prop} [Decidable c] {m k : R β} {Q : β → Prop} : (if c then m else k).wp Q E = if c then m.wp Q E else k.wp Q E := by split <;> rfl
end
/-! ### lists by functions -/
section
variable {α β : Type}
abbrev mk (n : Nat) (f : Nat → α) : List α := (List.range n).map f
theorem mk_len {n : Nat} {f : Nat → α} : (mk n f).length = n := by rw [List.length_map, List.length_range]
theorem mk_get? {n i : Nat} {f : Nat → α} (h : i < n) : (mk n f)[i]? = some (f i) := by rw [List.getElem?_map, List.getElem?_range h]; rfl
theorem mk_at {n i : Nat} {f : Nat → α} {x : α} (h : (mk n f)[i]? = some x) : i < n ∧ x = f i := by
  have hl : i < n := by
    have := (List.getElem?_eq_some_iff.mp h).1
    rwa [mk_len] at this
  rw [mk_get? hl] at h
  exact ⟨hl, by injection h with h; exact h.symm⟩
theorem mk_mem {n : Nat} {f : Nat → α} {x : α} (h : x ∈ mk n f) : ∃ i, i < n ∧ x = f i := by
  obtain ⟨i, hi, e⟩ := List.mem_map.mp h
  exact ⟨i, List.mem_range.mp hi, e.symm⟩
theorem mk_ext {xs : List α} {n : Nat} {f : Nat → α} (hl : xs.length = n) (h : ∀ i, i < n → xs[i]? = some (f i)) : xs = mk n f := by
  refine List.ext_getElem? fun i => ?_
  by_cases hi : i < n
  · rw [h i hi, mk_get? hi]
  · rw [List.getElem?_eq_none (by omega), List.getElem?_eq_none (by rw [mk_len]; omega)]
theorem mk_congr {n : Nat} {f g : Nat → α} (h : ∀ i, i < n → f i = g i) : mk n f = mk n g := mk_ext mk_len fun i hi => by rw [mk_get? hi, h i hi]
theorem mk_inj {n : Nat} {f g : Nat → α} (h : mk n f = mk n g) : ∀ i, i < n → f i = g i := fun i hi => by
  have e := congrArg (fun l : List α => l[i]?) h
  simp only [mk_get? hi] at e
  injection e
theorem mk_app {a b : Nat} {f g : Nat → α} : mk a f ++ mk b g = mk (a + b) (fun i => if i < a then f i else g (i - a)) := by
  refine mk_ext (by rw [List.length_append, mk_len, mk_len]) fun i hi => ?_
  by_cases h : i < a
  · rw [List.getElem?_append_left (by rw [mk_len]; exact h), mk_get? h, if_pos h]
  · rw [List.getElem?_append_right (by rw [mk_len]; omega), mk_len, mk_get? (by omega), if_neg h]
theorem mk_single {x : α} : [x] = mk 1 (fun _ => x) := rfl
theorem mk_snoc {n : Nat} {f : Nat → α} : mk n f ++ [f n] = mk (n + 1) f := by
  show _ = (List.range (n + 1)).map f
  rw [List.range_succ, List.map_append]; rfl
theorem mk_of [Inhabited α] (xs : List α) : xs = mk xs.length (fun i => xs.getD i default) := mk_ext rfl fun i hi => by rw [List.getD_eq_getElem?_getD, List.getElem?_eq_getElem hi]; rfl
theorem mk_zip {n : Nat} {f : Nat → α} {g : Nat → β} : List.zip (mk n f) (mk n g) = mk n fun i => (f i, g i) := by
  refine mk_ext (by rw [List.length_zip, mk_len, mk_len, Nat.min_self]) fun i hi => ?_
  exact List.getElem?_zip_eq_some.mpr ⟨mk_get? (f := f) hi, mk_get? (f := g) hi⟩
theorem mk_map {n : Nat} {f : Nat → α} {g : α → β} : (mk n f).map g = mk n fun i => g (f i) := by rw [List.map_map]; rfl
theorem rng_mk (n : Nat) : rng 0 (n : Int) = mk n fun k => (k : Int) := by
  unfold rng
  rw [show ((n : Int) - 0).toNat = n by omega]
  exact mk_congr fun i _ => by omega
theorem enum_mk {n : Nat} {f : Nat → α} : enumI (mk n f) = mk n fun i => ((i : Int), f i) := by
  unfold enumI
  rw [mk_len]
  have : List.zip (List.range n) (mk n f) = mk n fun i => (i, f i) := by
    have h := mk_zip (n := n) (f := fun i : Nat => i) (g := f)
    rw [show mk n (fun i : Nat => i) = List.range n from List.map_id' _] at h
    exact h
  rw [this, List.map_map]
  rfl
theorem rep_mk {n : Nat} {x : α} : List.flatten (List.replicate n [x]) = mk n fun _ => x := by
  induction n with
  | zero => rfl
  | succ n ih =>
    rw [List.replicate_succ, List.flatten_cons, ih, mk_single, mk_app, Nat.add_comm]
    exact mk_congr fun i _ => by split <;> rfl
theorem tail_mk {n : Nat} {f : Nat → α} : (mk (n + 1) f).tail = mk n fun i => f (i + 1) := by
  refine mk_ext (by rw [List.length_tail, mk_len]; rfl) fun i hi => ?_
  rw [List.getElem?_tail, mk_get? (by omega)]
theorem inR_mk {n i : Nat} {f : Nat → α} (h : i < n) : inR (mk n f) (i : Int) := by unfold inR; rw [mk_len]; omega
theorem inR_last {n : Nat} {f : Nat → α} : inR (mk (n + 1) f) (-1) := by unfold inR; rw [mk_len]; omega
variable [Inhabited α]
theorem get_mk {n i : Nat} {f : Nat → α} (h : i < n) : getI (mk n f) (i : Int) = f i := by
  unfold getI pl
  rw [if_pos (by omega), Int.toNat_natCast, List.getD_eq_getElem?_getD, mk_get? h]
  rfl
theorem get_last {n : Nat} {f : Nat → α} : getI (mk (n + 1) f) (-1) = f n := by
  unfold getI pl
  rw [if_neg (by omega), mk_len, show ((-1 : Int) + ((n + 1 : Nat) : Int)).toNat = n by omega, List.getD_eq_getElem?_getD, mk_get? (by omega)]
  rfl
theorem set_mk {n i : Nat} {f : Nat → α} {y : α} (h : i < n) : setI (mk n f) (i : Int) y = mk n fun k => if k = i then y else f k := by
  unfold setI pl
  rw [if_pos (by omega), Int.toNat_natCast]
  refine mk_ext (by rw [List.length_set, mk_len]) fun k hk => ?_
  by_cases e : k = i
  · subst e; rw [List.getElem?_set_self (by rw [mk_len]; exact hk), if_pos rfl]
  · rw [List.getElem?_set_ne (fun z => e z.symm), mk_get? hk, if_neg e]
theorem cut_mk {a b : Nat} {f : Nat → α} : cutI (mk (a + b + 1) f) (some (a : Int)) (some (-1)) = mk b fun i => f (a + i) := by
  unfold cutI
  rw [mk_len]
  have e1 : HT.sIx (a + b + 1) 0 (some (a : Int)) = a := by rw [HT.sIx_nat]; omega
  have e2 : HT.sIx (a + b + 1) (a + b + 1) (some (-1)) = a + b := by
    unfold HT.sIx
    have h : (-1 : Int) < 0 := by decide
    simp only [h, if_true]
    omega
  rw [e1, e2]
  refine mk_ext (by simp <;> omega) fun i hi => ?_
  rw [List.getElem?_take_of_lt (by omega), List.getElem?_drop, mk_get? (by omega)]
theorem cut_tail {xs : List α} : cutI xs (some 1) none = xs.tail := by
  unfold cutI
  cases xs with
  | nil => rfl
  | cons x r =>
    have e1 : HT.sIx (x :: r).length 0 (some 1) = 1 := by unfold HT.sIx; simp <;> omega
    have e2 : HT.sIx (x :: r).length (x :: r).length none = (x :: r).length := by unfold HT.sIx; simp
    rw [e1, e2]
    simp
end
end Mr
set_option Elab.async false
set_option linter.all false
set_option maxRecDepth 100000
set_option maxHeartbeats 4000000
/-! MrU: xs[i] += e; membership; values that may be None. -/
namespace Mr
open PySem PySem.Spec PyProof.Rows L2
section
variable {X : Cx}
theorem get_listK {K : PySem.W.Frag} (e : X.K = K) : PGet X (rIxL K) := by
  subst e
  intro pins s σ H x y v u Q I rx ry h
  obtain ⟨p, xs, i, z, rfl, rfl, hq, he, q⟩ := h
  cases rx
  obtain ⟨t, rfl⟩ := ry
  obtain ⟨its, r, pl, hz⟩ := I.list hq
  obtain ⟨j, h1, h2, h3, h4, h5⟩ := atI_get he
  obtain ⟨w, ew, rw'⟩ := r.get h2
  have hl := r.length
  have hn := line63
  have fin : EP X pins σ Q w s := ⟨z, H, I, rw', q⟩
  by_cases h0 : 0 ≤ i
  · have hj : i.toNat = j := by
      rw [seqIndex_of h0 h5] at h1
      exact Option.some.inj h1
    exact wpAny_getItem_list pl.isList h0 (by omega) (by rw [hj]; simpa using ew) fin
  · have hj : (i + (its.toArray.size : Int)).toNat = j := by
      rw [seqIndex_neg (by omega) h4] at h1
      rw [List.size_toArray, ← hl]
      exact Option.some.inj h1
    exact wpAny_getItem_list_neg pl.isList (by omega) (by rw [List.size_toArray] <;> omega) (by omega) (by rw [hj]; simpa using ew) fin
end
section
variable {n : Nat} {Z : Zn} {Γ : Gm} {K : PySem.W.Frag} {γ δ ρ : Type} {W : Ex γ δ ρ} {xs : List Int} {p : Addr}
/-- xs[i] += e, ints -/
theorem sm_augL {f : Int → Int → Int} {to ti te : TE} {M0 : Mm} {c c2 : Prop} {i y : Int} {rest : TS} {k : R (Out γ δ ρ)} (ho : EV n Γ ((p, cL xs) :: M0) to True (dR p)) (hi : EV n Γ ((p, cL xs) :: M0) ti c (dI i)) (he : EV n Γ ((p, cL xs) :: M0) te c2 (dI y))
    (hr : SM n Z Γ ((p, cL (setI xs i (f (getI xs i) y))) :: M0) rest k W) : SM n Z Γ ((p, cL xs) :: M0) (tSeq (tAugS to ti te (rIxL K) (ipI f) rSetL) rest) (chk (c ∧ c2 ∧ inR xs i) k) W := by
  refine .mk ?_
  intro G H σ D A E w
  rw [wp_chk] at w
  obtain ⟨⟨w1, w2, w3⟩, w⟩ := w
  refine ho.run trivial A E fun v hv => hi.run w1 A E fun u hu => ?_
  cases (show v = .ref p from hv)
  cases (show u = .int i from hu)
  have A0 := A
  obtain ⟨o, h1, ws, rfl, d⟩ := A.hd
  obtain ⟨z, e1, e2⟩ := atI_dens d w3
  have hl : ws.length = xs.length := by rw [d.length, List.length_map]
  refine ⟨p, ws, i, z, rfl, rfl, SqL.of h1, e1, he.run w2 A0 E fun v hv => ⟨_, _, e2, hv, p, ws, i, pl xs i, rfl, rfl, h1, by rw [hl]; exact ixN_of w3.1 w3.2, ?_⟩⟩
  refine hr.run (A0.put (c' := cL (setI xs i (f (getI xs i) y))) ⟨_, rfl, ?_⟩) E w
  unfold setI
  rw [List.map_set]
  exact d.set rfl _
end
/-! ### membership -/
section
variable {n : Nat} {Z : Zn} {Γ : Gm} {M : Mm} {K : PySem.W.Frag} {te tl : TE} {c cl : Prop}
theorem inV_str {x : Str} : ∀ ys : List Str, inV (.str x) (ys.map V.str) = decide (x ∈ ys)
  | [] => rfl
  | y :: r => by
    have h := inV_str (x := x) r
    show (eqV (.str y) (.str x) || inV (.str x) (r.map V.str)) = _
    rw [h]
    show ((y == x) || decide (x ∈ r)) = _
    rw [Bool.eq_iff_iff, Bool.or_eq_true, decide_eq_true_iff, decide_eq_true_iff, beq_iff_eq, List.mem_cons]
    exact ⟨fun z => z.elim (fun e => .inl e.symm) .inr, fun z => z.elim (fun e => .inl e.symm) .inr⟩
theorem inV_int {x : Int} : ∀ ys : List Int, inV (.int x) (ys.map V.int) = decide (x ∈ ys)
  | [] => rfl
  | y :: r => by
    have h := inV_int (x := x) r
    show (eqV (.int y) (.int x) || inV (.int x) (r.map V.int)) = _
    rw [h]
    show ((y == x) || decide (x ∈ r)) = _
    rw [Bool.eq_iff_iff, Bool.or_eq_true, decide_eq_true_iff, decide_eq_true_iff, beq_iff_eq, List.mem_cons]
    exact ⟨fun z => z.elim (fun e => .inl e.symm) .inr, fun z => z.elim (fun e => .inl e.symm) .inr⟩
theorem flat_strs : ∀ ys : List Str, (ys.map V.str).all flatV = true
  | [] => rfl
  | _ :: r => flat_strs r
theorem flat_ints : ∀ ys : List Int, (ys.map V.int).all flatV = true
  | [] => rfl
  | _ :: r => flat_ints r
theorem dens_strs {G : Hp} : ∀ {ns : List Str} {vs : List V}, Dens (ns.map dn) G vs → vs = ns.map V.str
  | [], _, h => h
  | n :: r, vs, ⟨v, w, e, h1, h2⟩ => by rw [e, show v = V.str n from h1, dens_strs (ns := r) h2]; rfl
/-- i in xs, ints -/
theorem ev_inI {x : Int} {xs : List Int} (h : EV n Γ M te c (dI x)) (k : LV n Γ M tl cl xs) : EV n Γ M (tOp (rIn K false) te tl) (c ∧ cl) (dB (decide (x ∈ xs))) := .mk fun hc A E q =>
  h.run hc.1 A E fun v hv => k.run hc.2 A E fun p vs hp d => by
    cases (show v = .int x from hv)
    have e := dens_ints d
    subst e
    refine ⟨p, _, rfl, .inl (SqL.of hp), rfl, flat_ints _, q _ ?_⟩
    show V.bl _ = V.bl _
    rw [if_neg Bool.false_ne_true, inV_int]
/-- s in T, T a tuple of texts that stands in the written part -/
theorem ev_inK {x : Str} {p : Addr} {ys : List Str} (h : EV n Γ M te c (dS x)) (hT : ∀ H, SqT K H p (ys.map V.str)) : EV n Γ M (tOp (rIn K false) te (tC (.ref p))) c (dB (decide (x ∈ ys))) := .mk fun hc A E q =>
  h.run hc A E fun v hv => by
    cases (show v = .str x from hv)
    refine ⟨p, _, rfl, .inr (hT _), rfl, flat_strs _, q _ ?_⟩
    show V.bl _ = V.bl _
    rw [if_neg Bool.false_ne_true, inV_str]
/-- s in (t, u): the tuple is laid -/
theorem em_inT {x : Str} {ta : TA} {ys : List Str} (h : EV n Γ M te c (dS x)) (k : AV n Γ M ta cl (ys.map dS)) (hl : ys.length ≤ 1000) : EMc n Z Γ M (tOp (rIn K false) te (tTup ta)) (chk (c ∧ cl) (.ok (decide (x ∈ ys)))) dB (fun _ => M) := .mk fun {G H σ Q} A E w => by
  rw [wp_chk] at w
  refine h.run w.1.1 A E fun v hv => k.run w.1.2 A E fun vs d => ?_
  cases (show v = .str x from hv)
  have e : vs = ys.map V.str := dens_strs (ns := ys) d
  subst e
  refine ⟨by rw [List.length_map, sizeLine_eq]; omega, fun z nz => ⟨z, _, rfl, .inr (SqT.of upd_same), rfl, flat_strs _, w.2 (fun _ => z) _ _ _ (A.newS nz) (A.newG nz) ?_⟩⟩
  show V.bl _ = V.bl _
  rw [if_neg Bool.false_ne_true, inV_str]
end
/-! ### None, or a value -/
instance {α : Type} [Enc α] : Enc (Option α) := ⟨fun x => match x with
  | none => dN
  | some a => dn a⟩
/-- an owned list, or None -/
def dO {α : Type} (x : Option α) (p : Addr) : Dn := match x with
  | none => dN
  | some _ => dR p
def mO {α : Type} [Enc α] (x : Option (List α)) (p : Addr) : Mm := match x with
  | none => []
  | some l => [(p, cL l)]
end Mr
namespace Mr
open PySem PySem.Spec PyProof.Rows L2
section
variable {n : Nat} {Z : Zn} {Γ : Gm} {M : Mm} {γ δ : Type} {W : Ex γ δ (Option (List Int) × List Int)} {te : TE} {η : Type} {m : R η}
/-- return None, xs -/
theorem sm_retN {f : η → List Int} {Mf : η → Mm} (h : EMc n Z Γ M te m (fun b => dL (f b)) Mf) (hD : ∀ b ps, W.Dr (none, f b) ps = dT [dO (none : Option (List Int)) (ps 0), dL (f b)]) (hM : ∀ b ps, MLe (W.Mr (none, f b) ps) (Mf b)) :
    SM n Z Γ M (tRet (tTup (tCons (tC .non) (tCons te tNil)))) (m.bind fun b => .ok (.rt (none, f b))) W := by
  refine .mk ?_
  intro G H σ E0 A E w
  rw [wp_bind] at w
  refine h.run A E (w.mono (fun b q ps G1 H1 v s1 A1 d1 => ?_) fun _ x => x)
  refine ⟨by show 2 ≤ sizeLine; decide, fun z nz => ?_⟩
  refine q (fun _ => z) (upd G1 z (.tup [.non, v])) _ _ (s1.trans (A1.newS nz)) (hM b _ (A1.newG nz)) ?_
  rw [hD]
  exact ⟨z, _, rfl, upd_same, .non, _, rfl, rfl, v, _, rfl, (dL (f b)).mono (A1.newS nz) d1, rfl⟩
/-- return xs, [], xs owned -/
theorem sm_retS {f : η → List Int} {M0 : Mm} (h : EM n Z Γ M te m (fun _ ps => dR (ps 0)) (fun b ps => (ps 0, cL (f b)) :: M0)) (hD : ∀ b ps, W.Dr (some (f b), []) ps = dT [dO (some (f b)) (ps 0), dL ([] : List Int)]) (hM : ∀ b ps, MLe (W.Mr (some (f b), []) ps) ((ps 0, cL (f b)) :: M0)) :
    SM n Z Γ M (tRet (tTup (tCons te (tCons (tLst tNil) tNil)))) (m.bind fun b => .ok (.rt (some (f b), []))) W := by
  refine .mk ?_
  intro G H σ E0 A E w
  rw [wp_bind] at w
  refine h.run A E (w.mono (fun b q ps G1 H1 v s1 A1 d1 => ?_) fun _ x => x)
  refine ⟨Nat.zero_le _, fun y ny => ⟨by show 2 ≤ sizeLine; decide, fun z nz => ?_⟩⟩
  have A2 := A1.newG (o := .lst []) ny
  have s2 := A1.newS (o := .lst []) ny
  refine q ps (upd (upd G1 y (.lst [])) z (.tup [v, .ref y])) _ _ ((s1.trans s2).trans (A2.newS nz)) (hM b _ (A2.newG nz)) ?_
  rw [hD]
  exact ⟨z, _, rfl, upd_same, v, _, rfl, d1, .ref y, _, rfl, ⟨y, [], rfl, A2.newS nz _ _ upd_same, rfl⟩, rfl⟩
end
end Mr
namespace Mr
open PySem PySem.Spec PyProof.Rows L2
section
variable {n : Nat} {Z : Zn} {Γ : Gm} {M0 : Mm} {γ δ β : Type} {W : Ex γ δ β} {p : Addr} {i : Nat}
/-- an owned list by its name -/
theorem em_ownVar {α : Type} [Enc α] {l : List α} (h : Γ.lookup i = some (dR p)) : EM n Z Γ ((p, cL l) :: M0) (tVar i) (chk True (.ok l)) (fun _ ps => dR (ps 0)) (fun r ps => (ps 0, cL r) :: M0) := by
  refine .mk ?_
  intro G H σ Q A E w
  rw [wp_chk] at w
  obtain ⟨v, h1, h2⟩ := E.at_ i _ h
  exact ⟨v, h1, w.2 (fun _ => p) G H v (Sub.refl _) A h2⟩
/-- if x is None: t, else: u -/
theorem sm_ifN {o : Option (List Int)} {t u : TS} {m1 : R (Out γ δ β)} {m2 : List Int → R (Out γ δ β)} (hx : Γ.lookup i = some (dO o p)) (h1 : o = none → SM n Z Γ M0 t m1 W) (h2 : ∀ l, o = some l → SM n Z Γ ((p, cL l) :: M0) u (m2 l) W) :
    SM n Z Γ (mO o p ++ M0) (tIfS (tTest (tOp (fun x y H Q => y = .non ∧ Q (.bl (decide (x = .non))) H) (tVar i) (tC .non))) t u) (match o with | none => m1 | some l => m2 l) W := by
  refine .mk ?_
  intro G H σ D A E w
  obtain ⟨v, e1, e2⟩ := E.at_ i _ hx
  cases o with
  | none =>
    cases (show v = .non from e2)
    refine ⟨_, e1, rfl, _, rfl, ?_⟩
    dsimp only
    rw [if_pos (decide_eq_true rfl)]
    exact (h1 rfl).run A E w
  | some l =>
    cases (show v = .ref p from e2)
    refine ⟨_, e1, rfl, _, rfl, ?_⟩
    dsimp only
    rw [if_neg (by rw [decide_eq_false (fun z => nomatch z)]; decide)]
    exact (h2 l rfl).run A E w
end
end Mr
namespace Mr
open PySem PySem.Spec PyProof.Rows L2
section
variable {n : Nat} {Z : Zn} {Γ : Gm} {M : Mm} {ta tb : TE} {β1 β2 β : Type} {m1 : R β1} {m2 : β1 → R β2} {M1 : β1 → Mm} {M2 : β1 → β2 → Mm} {g : β1 → β2 → β}
theorem em_neI {va : β1 → Int} {vb : β1 → β2 → Int} {vr : β → Bool} {Mg : β → Mm} (ha : EMc n Z Γ M ta m1 (fun a => dI (va a)) M1) (hb : ∀ a, EMc n Z Γ (M1 a) tb (m2 a) (fun b => dI (vb a b)) (M2 a))
    (hv : ∀ a b, vr (g a b) = !decide (va a = vb a b)) (hM : ∀ a b, Mg (g a b) = M2 a b) :
    EMc n Z Γ M (tOp rNe ta tb) (m1.bind fun a => (m2 a).bind fun b => chk True (.ok (g a b))) (fun r => dB (vr r)) Mg :=
  em_bin (C := fun _ _ => True) ha hb fun a b G H v w Q _ d1 d2 A q => by
    cases (show v = .int (va a) from d1)
    cases (show w = .int (vb a b) from d2)
    exact ⟨rfl, q (fun _ => 0) G H _ (Sub.refl _) (by rw [hM]; exact A) (by show _ = V.bl _; rw [hv, dec_i])⟩
end
end Mr
set_option Elab.async false
set_option linter.all false
set_option maxRecDepth 100000
set_option maxHeartbeats 4000000
/-! MrN: an owned list of owned lists (a nest). -/
namespace Mr
open PySem PySem.Spec PyProof.Rows L2
/-- the references of k rows -/
def cN (k : Nat) (qs : Nat → Addr) : Cn := ⟨fun _ o => o = .lst (mk k fun i => V.ref (qs i)), fun _ h => h⟩
def nrows (k : Nat) (qs : Nat → Addr) (rows : List (List Int)) : Mm := mk k fun i => (qs i, cL (rows.getD i []))
/-- the list at p, its rows, the rest -/
def nest (p : Addr) (k : Nat) (qs : Nat → Addr) (rows : List (List Int)) (M : Mm) : Mm := (p, cN k qs) :: (nrows k qs rows ++ M)
section
variable {p : Addr} {k : Nat} {qs : Nat → Addr} {rows : List (List Int)} {M : Mm}
theorem nest_at {i : Nat} (h : i < k) : (nest p k qs rows M)[i + 1]? = some (qs i, cL (rows.getD i [])) := by
  unfold nest nrows
  rw [List.getElem?_cons_succ, List.getElem?_append_left (by rw [mk_len]; exact h), mk_get? h]
theorem nest_erase {i : Nat} {x : List Int} : (nest p k qs (rows.set i x) M).eraseIdx (i + 1) = (nest p k qs rows M).eraseIdx (i + 1) := by
  unfold nest
  rw [List.eraseIdx_cons_succ, List.eraseIdx_cons_succ]
  congr 1
  refine List.ext_getElem? fun j => ?_
  rw [List.getElem?_eraseIdx, List.getElem?_eraseIdx]
  have hl : (nrows k qs (rows.set i x)).length = (nrows k qs rows).length := by unfold nrows; rw [mk_len, mk_len]
  have ne : ∀ l, l ≠ i → (nrows k qs (rows.set i x) ++ M)[l]? = (nrows k qs rows ++ M)[l]? := fun l h => by
    by_cases c : l < k
    · rw [List.getElem?_append_left (by unfold nrows; rw [mk_len]; exact c), List.getElem?_append_left (by unfold nrows; rw [mk_len]; exact c)]
      unfold nrows
      rw [mk_get? c, mk_get? c, List.getD_eq_getElem?_getD, List.getD_eq_getElem?_getD, List.getElem?_set_ne (fun z => h z.symm)]
    · rw [List.getElem?_append_right (by unfold nrows; rw [mk_len]; omega), List.getElem?_append_right (by unfold nrows; rw [mk_len]; omega), hl]
  split
  · exact ne j (by omega)
  · exact ne (j + 1) (by omega)
theorem getD_set {i : Nat} {x : List Int} (h : i < rows.length) : (rows.set i x).getD i [] = x := by
  rw [List.getD_eq_getElem?_getD, List.getElem?_set_self h]; rfl
end
section
variable {n : Nat} {Z : Zn} {Γ : Gm} {M0 : Mm} {K : PySem.W.Frag} {p : Addr} {k : Nat} {qs : Nat → Addr} {rows : List (List Int)} {te tl ti : TE} {c c2 : Prop}
/-- a row, to be read -/
theorem lv_row {i : Nat} (h : EV n Γ (nest p k qs rows M0) te c (dR (qs i))) : LV n Γ (nest p k qs rows M0) te (c ∧ i < k) (rows.getD i []) := .mk fun hc A E q => h.run hc.1 A E fun v hv => by
  cases (show v = .ref (qs i) from hv)
  obtain ⟨⟨o, h1, vs, rfl, d⟩, _⟩ := A.own _ (List.mem_of_getElem? (nest_at hc.2))
  exact q _ vs h1 d
/-- rows[z] -/
theorem ev_ixN {z : Int} (h : EV n Γ (nest p k qs rows M0) tl c (dR p)) (h2 : EV n Γ (nest p k qs rows M0) ti c2 (dI z)) : EV n Γ (nest p k qs rows M0) (tOp (rIxL K) tl ti) (c ∧ c2 ∧ 0 ≤ z ∧ z < k) (dR (qs z.toNat)) := .mk fun hc A E q => h.run hc.1 A E fun v hv => h2.run hc.2.1 A E fun u hu => by
  cases (show v = .ref p from hv)
  cases (show u = .int z from hu)
  obtain ⟨o, h1, e⟩ := A.hd
  cases (show o = .lst (mk k fun i => V.ref (qs i)) from e)
  refine ⟨p, _, z, .ref (qs z.toNat), rfl, rfl, SqL.of h1, ?_, q _ rfl⟩
  unfold atI
  rw [ixN_of (n := (mk k fun i => V.ref (qs i)).length) (by rw [mk_len]; omega) (by rw [mk_len]; exact hc.2.2.2), if_pos hc.2.2.1]
  exact mk_get? (by omega)
/-- for row in rows -/
theorem it_N (h : EV n Γ (nest p k qs rows M0) tl c (dR p)) : ITM n Z Γ (nest p k qs rows M0) (iList K tl) (chk c (.ok ())) (fun i : Nat => dR (qs i)) (fun _ => List.range k) (fun _ => nest p k qs rows M0) [(p, cN k qs)] := .mk fun {G H σ R} A E w => by
  rw [wp_chk] at w
  refine h.run w.1 A E fun v hv => ?_
  cases (show v = .ref p from hv)
  obtain ⟨o, h1, e⟩ := A.hd
  cases (show o = .lst (mk k fun i => V.ref (qs i)) from e)
  have hl : (mk k fun i => V.ref (qs i)).length = (List.range k).length := by rw [mk_len, List.length_range]
  refine ⟨p, rfl, ⟨_, SqL.of h1⟩, w.2 G H (Itl K p) (fun H' => SqL K H' p (mk k fun i => V.ref (qs i))) (YAt (mk k fun i => V.ref (qs i))) (Sub.refl _) A (hl ▸ walk_list) (fun G' M' H' s A' hk => ?_) fun i x v G' M' H' H'' hx s A' hk y => ?_⟩
  · obtain ⟨⟨o, h2, e⟩, _⟩ := A'.own _ (hk _ List.mem_cons_self)
    cases (show o = .lst (mk k fun i => V.ref (qs i)) from e)
    exact SqL.of h2
  · obtain ⟨rfl, y⟩ := y
    have hi : i < k := by have := (List.getElem?_eq_some_iff.mp hx).1; rwa [List.length_range] at this
    rw [List.getElem?_range hi] at hx
    cases hx
    rw [mk_get? hi] at y
    cases y
    exact ⟨G', Sub.refl _, A', rfl⟩
variable {γ δ ρ : Type} {W : Ex γ δ ρ}
/-- row[j] = e -/
theorem sm_setN {to : TE} {cto : Prop} {i : Nat} {η : Type} {m : R η} {y : η → Int} {ci : η → Prop} {j : η → Int} {rest : TS} {kk : η → R (Out γ δ ρ)} (h : EMc n Z Γ (nest p k qs rows M0) te m (fun b => dI (y b)) (fun _ => nest p k qs rows M0))
    (ho : EV n Γ (nest p k qs rows M0) to cto (dR (qs i))) (hi : ∀ b, EV n Γ (nest p k qs rows M0) ti (ci b) (dI (j b))) (hr : ∀ b, SM n Z Γ (nest p k qs (rows.set i (setI (rows.getD i []) (j b) (y b))) M0) rest (kk b) W) :
    SM n Z Γ (nest p k qs rows M0) (tSeq (tAsg te (gSub to ti rSetL)) rest) (m.bind fun b => chk (cto ∧ ci b ∧ i < k ∧ i < rows.length ∧ inR (rows.getD i []) (j b)) (kk b)) W := by
  refine .mk ?_
  intro G H σ D A E w
  rw [wp_bind] at w
  refine h.run A E (w.mono (fun b q ps G1 H1 u s1 A1 du => ?_) fun _ x => x)
  rw [wp_chk] at q
  obtain ⟨⟨w1, w2, hk, hl, hin⟩, q⟩ := q
  refine ho.run w1 A1 (E.mono s1) fun v hv => (hi b).run w2 A1 (E.mono s1) fun z hz => ?_
  cases (show v = .ref (qs i) from hv)
  cases (show z = .int (j b) from hz)
  have A2 := A1.perm (Mr.front (i + 1) (nest_at hk))
  obtain ⟨o, h1, ws, rfl, d⟩ := A2.hd
  have hw : ws.length = (rows.getD i []).length := by rw [d.length, List.length_map]
  refine ⟨qs i, ws, j b, pl (rows.getD i []) (j b), rfl, rfl, h1, by rw [hw]; exact ixN_of hin.1 hin.2, ?_⟩
  have A3 := A2.put (c' := cL (setI (rows.getD i []) (j b) (y b))) (u := .lst (ws.set (pl (rows.getD i []) (j b)) u)) ⟨_, rfl, by unfold setI; rw [List.map_set]; exact d.set du _⟩
  have A4 : At G1 (nest p k qs (rows.set i (setI (rows.getD i []) (j b) (y b))) M0) (upd H1 (qs i) (.lst (ws.set (pl (rows.getD i []) (j b)) u))) := by
    have f := Mr.front (i + 1) (nest_at (p := p) (qs := qs) (rows := rows.set i (setI (rows.getD i []) (j b) (y b))) (M := M0) hk)
    rw [nest_erase, getD_set hl] at f
    exact A3.perm f.symm
  exact (hr b).run A4 (E.mono s1) (R.wp.mono q (fun o f => f.mono s1) fun x hx => Z.mono s1 hx)
end
end Mr
namespace Mr
open PySem PySem.Spec PyProof.Rows L2
/-- the world with what L owns -/
theorem At.frzAll {G H : Hp} {L M : Mm} (A : At G (L ++ M) H) : ∃ G', Sub G G' ∧ At G' M H ∧ (∀ q ∈ L, ∃ o, G' q.1 = some o ∧ q.2.P G' o) := by
  classical
  refine ⟨fun a => if a ∈ L.map (·.1) then H a else G a, ?_, ?_, ?_⟩
  · intro a x e
    show (if a ∈ L.map (·.1) then H a else G a) = some x
    by_cases h : a ∈ L.map (·.1)
    · rw [if_pos h]; exact A.sub a x e
    · rw [if_neg h]; exact e
  · refine ⟨fun a x e => ?_, fun q hq => ?_, ?_⟩
    · have e : (if a ∈ L.map (·.1) then H a else G a) = some x := e
      split at e
      · exact e
      · exact A.sub a x e
    · obtain ⟨⟨o, h1, h3⟩, h2⟩ := A.own q (List.mem_append_right _ hq)
      have nd := A.nd
      rw [List.map_append, List.nodup_append] at nd
      have nm : q.1 ∉ L.map (·.1) := fun hm => nd.2.2 _ hm _ (List.mem_map.mpr ⟨q, hq, rfl⟩) rfl
      refine ⟨⟨o, h1, q.2.mono (fun a x e => ?_) h3⟩, ?_⟩
      · show (if a ∈ L.map (·.1) then H a else G a) = some x
        by_cases h : a ∈ L.map (·.1)
        · rw [if_pos h]; exact A.sub a x e
        · rw [if_neg h]; exact e
      · show (if q.1 ∈ L.map (·.1) then H q.1 else G q.1) = none
        rw [if_neg nm]; exact h2
    · have nd := A.nd
      rw [List.map_append, List.nodup_append] at nd
      exact nd.2.1
  · intro q hq
    obtain ⟨⟨o, h1, h3⟩, h2⟩ := A.own q (List.mem_append_left _ hq)
    have hm : q.1 ∈ L.map (·.1) := List.mem_map.mpr ⟨q, hq, rfl⟩
    refine ⟨o, ?_, q.2.mono (fun a x e => ?_) h3⟩
    · show (if q.1 ∈ L.map (·.1) then H q.1 else G q.1) = some o
      rw [if_pos hm]; exact h1
    · show (if a ∈ L.map (·.1) then H a else G a) = some x
      by_cases h : a ∈ L.map (·.1)
      · rw [if_pos h]; exact A.sub a x e
      · rw [if_neg h]; exact e
theorem dens_mk {G : Hp} {D : Nat → Dn} {v : Nat → V} : ∀ k, (∀ i, i < k → (D i).P G (v i)) → Dens (mk k D) G (mk k v)
  | 0, _ => rfl
  | k + 1, h => by
    rw [← mk_snoc, ← mk_snoc]
    exact (dens_mk k fun i hi => h i (by omega)).append (.one (h k (by omega)))
section
variable {n : Nat} {Z : Zn} {Γ : Gm} {M : Mm} {K : PySem.W.Frag} {γ δ β : Type} {W : Ex γ δ β} {p : Addr} {k : Nat} {qs : Nat → Addr} {rows : List (List Int)}
/-- a nest frozen -/
theorem nest_frz {G H : Hp} (A : At G (nest p k qs rows M) H) (hl : rows.length = k) : ∃ G', Sub G G' ∧ At G' M H ∧ (dL rows).P G' (.ref p) := by
  have A' : At G (((p, cN k qs) :: nrows k qs rows) ++ M) H := A
  obtain ⟨G', s, A2, f⟩ := A'.frzAll
  refine ⟨G', s, A2, p, mk k fun i => V.ref (qs i), rfl, ?_, ?_⟩
  · obtain ⟨o, h1, e⟩ := f (p, cN k qs) List.mem_cons_self
    cases (show o = .lst (mk k fun i => V.ref (qs i)) from e)
    exact h1
  · have e : rows.map dn = mk k fun i => dn (rows.getD i []) := mk_ext (by rw [List.length_map, hl]) fun i hi => by
      rw [List.getElem?_map, List.getElem?_eq_getElem (by omega), List.getD_eq_getElem?_getD, List.getElem?_eq_getElem (by omega)]; rfl
    rw [e]
    refine dens_mk k fun i hi => ?_
    obtain ⟨o, h1, vs, rfl, d⟩ := f (qs i, cL (rows.getD i [])) (List.mem_cons_of_mem _ (List.mem_map.mpr ⟨i, List.mem_range.mpr hi, rfl⟩))
    exact ⟨qs i, vs, rfl, h1, d⟩
theorem sm_frzN {ts : TS} {m : R (Out γ δ β)} (i : Nat) (hi : Γ.lookup i = some (dR p)) (hl : rows.length = k) (h : SM n Z ((i, dL rows) :: Γ) M ts m W) : SM n Z Γ (nest p k qs rows M) ts m W := by
  refine .mk ?_
  intro G H σ D A E w
  obtain ⟨G', s, A2, d⟩ := nest_frz A hl
  refine h.run A2 ⟨E.len, fun j D' e => ?_⟩ (w.mono (fun o f => f.mono s) fun x hx => Z.mono s hx)
  by_cases z : j = i
  · subst z
    rw [lookup_hit] at e; cases e
    obtain ⟨v, h2, h3⟩ := E.at_ j _ hi
    cases (show v = .ref p from h3)
    exact ⟨_, h2, d⟩
  · rw [lookup_miss z] at e
    obtain ⟨v, h2, h3⟩ := E.at_ j D' e
    exact ⟨v, h2, D'.mono s h3⟩
/-- rows.append(e), e an owned list -/
theorem em_appN {to te : TE} {η : Type} {m : R η} {y : η → List Int} {M1 : η → Mm} (ho : EV n Γ (nest p k qs rows M) to True (dR p)) (h : EM n Z Γ (nest p k qs rows M) te m (fun _ ps => dR (ps 0)) (fun b ps => (ps 0, cL (y b)) :: nest p k qs rows (M1 b))) :
    EM n Z Γ (nest p k qs rows M) (tBM K "list" rAppend to (tCons te tNil)) (m.bind fun b => chk (k ≤ 16000000 ∧ rows.length = k) (.ok b)) (fun _ _ => dN) (fun b ps => nest p (k + 1) (fun i => if i < k then qs i else ps 0) (rows ++ [y b]) (M1 b)) := by
  refine .mk ?_
  intro G H σ Q A E w
  rw [wp_bind] at w
  refine ho.run trivial A E fun v hv => ?_
  cases (show v = .ref p from hv)
  obtain ⟨o, h1, e⟩ := A.hd
  cases (show o = .lst (mk k fun i => V.ref (qs i)) from e)
  refine ⟨.inl ⟨rfl, _, SqL.of h1⟩, h.run A E (w.mono (fun b q ps G' H' u s A' du => ?_) fun _ x => x)⟩
  rw [wp_chk] at q
  obtain ⟨⟨q1, q2⟩, q⟩ := q
  cases (show u = .ref (ps 0) from du)
  have A2 : At G' ((p, cN k qs) :: (ps 0, cL (y b)) :: (nrows k qs rows ++ M1 b)) H' := A'.perm (.swap _ _ _)
  obtain ⟨o, h2, e⟩ := A2.hd
  cases (show o = .lst (mk k fun i => V.ref (qs i)) from e)
  refine ⟨p, _, _, rfl, rfl, h2, by rw [mk_len, sizeLine_eq]; omega, ?_⟩
  refine q ps G' _ _ s ?_ rfl
  have e1 : (mk k fun i => V.ref (qs i)) ++ [V.ref (ps 0)] = mk (k + 1) fun i => V.ref (if i < k then qs i else ps 0) := by
    rw [mk_single, mk_app]
    exact mk_congr fun i hi => by split <;> rfl
  have A3 := A2.put (c' := cN (k + 1) (fun i => if i < k then qs i else ps 0)) (u := .lst ((mk k fun i => V.ref (qs i)) ++ [V.ref (ps 0)])) (by rw [e1]; rfl)
  refine A3.perm (.cons _ ?_)
  have e2 : nrows (k + 1) (fun i => if i < k then qs i else ps 0) (rows ++ [y b]) = nrows k qs rows ++ [(ps 0, cL (y b))] := by
    unfold nrows
    rw [show [(ps 0, cL (α := Int) (y b))] = mk 1 (fun _ => (ps 0, cL (α := Int) (y b))) from rfl, mk_app]
    refine mk_congr fun i hi => ?_
    rw [List.getD_eq_getElem?_getD]
    dsimp only
    by_cases l : i < k
    · rw [if_pos l, if_pos l, List.getElem?_append_left (by omega), List.getD_eq_getElem?_getD]
    · have : i = k := by omega
      subst this
      rw [if_neg l, if_neg l, List.getElem?_append_right (by omega), q2, Nat.sub_self]
      rfl
  rw [e2, List.append_assoc]
  exact List.perm_middle.symm
end
end Mr
namespace Mr
open PySem PySem.Spec PyProof.Rows L2
section
variable {n : Nat} {Z : Zn} {Γ : Gm} {L M0 : Mm} {K : PySem.W.Frag} {γ δ β : Type} {W : Ex γ δ β} {p : Addr} {k : Nat} {qs : Nat → Addr} {rows : List (List Int)} {te tl ti to : TE} {c c2 : Prop}
theorem nl_eq : nest p k qs rows M0 ++ L = nest p k qs rows (M0 ++ L) := by
  unfold nest
  rw [List.cons_append, List.append_assoc]
theorem nl1 : MLe (L ++ nest p k qs rows M0) (nest p k qs rows (M0 ++ L)) := fun A => by
  rw [← nl_eq] at A
  exact A.perm List.perm_append_comm
theorem nl2 : MLe (nest p k qs rows (M0 ++ L)) (L ++ nest p k qs rows M0) := fun A => by
  rw [← nl_eq]
  exact A.perm List.perm_append_comm
theorem nl3 : MLe (L ++ nest p k qs rows M0) (nest p k qs rows (L ++ M0)) := fun A => A.perm (by
  unfold nest
  have e : ∀ X : Mm, (X ++ (L ++ M0)).Perm (L ++ (X ++ M0)) := fun X => by
    rw [← List.append_assoc, ← List.append_assoc]
    exact List.perm_append_comm.append_right M0
  exact e ((p, cN k qs) :: nrows k qs rows))
theorem nl4 : MLe (nest p k qs rows (L ++ M0)) (L ++ nest p k qs rows M0) := fun A => A.perm (by
  unfold nest
  have e : ∀ X : Mm, (L ++ (X ++ M0)).Perm (X ++ (L ++ M0)) := fun X => by
    rw [← List.append_assoc, ← List.append_assoc]
    exact List.perm_append_comm.append_right M0
  exact e ((p, cN k qs) :: nrows k qs rows))
theorem ev_in {M M2 : Mm} {D : Dn} (h : MLe M2 M) (x : EV n Γ M2 te c D) : EV n Γ M te c D := .mk fun hc A E q => x.run hc (h A) E q
theorem lv_in {α : Type} [Enc α] {M M2 : Mm} {xs : List α} (h : MLe M2 M) (x : LV n Γ M2 te c xs) : LV n Γ M te c xs := .mk fun hc A E q => x.run hc (h A) E q
/-- the nest behind L -/
theorem lv_rowL {i : Nat} (h : EV n Γ (L ++ nest p k qs rows M0) te c (dR (qs i))) : LV n Γ (L ++ nest p k qs rows M0) te (c ∧ i < k) (rows.getD i []) := lv_in nl2 (lv_row (ev_in nl1 h))
theorem ev_ixNL {z : Int} (h : EV n Γ (L ++ nest p k qs rows M0) tl c (dR p)) (h2 : EV n Γ (L ++ nest p k qs rows M0) ti c2 (dI z)) : EV n Γ (L ++ nest p k qs rows M0) (tOp (rIxL K) tl ti) (c ∧ c2 ∧ 0 ≤ z ∧ z < k) (dR (qs z.toNat)) := ev_in nl2 (ev_ixN (ev_in nl1 h) (ev_in nl1 h2))
theorem sm_setNL {cto : Prop} {i : Nat} {η : Type} {m : R η} {y : η → Int} {ci : η → Prop} {j : η → Int} {rest : TS} {kk : η → R (Out γ δ β)} (h : EMc n Z Γ (L ++ nest p k qs rows M0) te m (fun b => dI (y b)) (fun _ => L ++ nest p k qs rows M0))
    (ho : EV n Γ (L ++ nest p k qs rows M0) to cto (dR (qs i))) (hi : ∀ b, EV n Γ (L ++ nest p k qs rows M0) ti (ci b) (dI (j b))) (hr : ∀ b, SM n Z Γ (L ++ nest p k qs (rows.set i (setI (rows.getD i []) (j b) (y b))) M0) rest (kk b) W) :
    SM n Z Γ (L ++ nest p k qs rows M0) (tSeq (tAsg te (gSub to ti rSetL)) rest) (m.bind fun b => chk (cto ∧ ci b ∧ i < k ∧ i < rows.length ∧ inR (rows.getD i []) (j b)) (kk b)) W :=
  sm_in nl2 (sm_setN (em_in nl1 (em_out (fun _ _ => nl2) h)) (ev_in nl1 ho) (fun b => ev_in nl1 (hi b)) fun b => sm_in nl1 (hr b))
theorem it_NL (h : EV n Γ (L ++ nest p k qs rows M0) tl c (dR p)) : ITM n Z Γ (L ++ nest p k qs rows M0) (iList K tl) (chk c (.ok ())) (fun i : Nat => dR (qs i)) (fun _ => List.range k) (fun _ => L ++ nest p k qs rows M0) [(p, cN k qs)] := .mk fun {G H σ R} A E w => by
  refine (it_N (ev_in nl1 h)).run (nl2 A) E (w.mono (fun b q G1 H1 J Gd Y s A1 => q G1 H1 J Gd Y s (nl1 A1)) fun _ x => x)
/-- an empty nest -/
theorem em_nest0 {M : Mm} : EM n Z Γ M (tLst tNil) (chk True (.ok ())) (fun _ ps => dR (ps 0)) (fun _ ps => nest (ps 0) 0 (fun _ => 0) [] M) := by
  refine .mk ?_
  intro G H σ Q A E w
  rw [wp_chk] at w
  exact ⟨Nat.zero_le _, fun z nz => w.2 (fun _ => z) G _ _ (Sub.refl _) (A.new (c := cN 0 (fun _ => 0)) nz rfl) rfl⟩
end
end Mr
set_option Elab.async false
set_option linter.all false
set_option maxRecDepth 100000
set_option maxHeartbeats 4000000
/-! MrQ: defs that make, change and hand back nests. -/
namespace Mr
open PySem PySem.Spec PyProof.Rows L2
/-- addresses of a nest that is handed back, and of one handed in behind q -/
@[reducible] def adR (p : Addr) (qs : Nat → Addr) : Adr := fun j => match j with
  | 0 => p
  | i + 1 => qs i
@[reducible] def adN (q p : Addr) (qs : Nat → Addr) : Adr := fun j => match j with
  | 0 => q
  | 1 => p
  | i + 2 => qs i
section
variable {n : Nat} {Z : Zn} {Γ : Gm} {L M M0 : Mm} {K : PySem.W.Frag} {γ δ β : Type} {W : Ex γ δ β} {p : Addr} {k k2 : Nat} {qs : Nat → Addr} {rows : List (List Int)} {te tl ti to : TE} {c c2 : Prop}
theorem sm_retV {i : Nat} {b : β} {ps : Adr} {D : Dn} (hx : Γ.lookup i = some D) (hD : W.Dr b ps = D) (hM : MLe (W.Mr b ps) M) : SM n Z Γ M (tRet (tVar i)) (.ok (.rt b)) W := by
  refine .mk ?_
  intro G H σ E0 A E w
  obtain ⟨v, h1, h2⟩ := E.at_ i _ hx
  exact ⟨v, h1, w ps G H v (Sub.refl _) (hM A) (by rw [hD]; exact h2)⟩
theorem nlE : MLe (L ++ nest p k qs rows M) ((L ++ nest p k qs rows []) ++ M) := fun A => by
  rw [List.append_assoc, nl_eq] at A
  exact A
theorem nlX : MLe ((L ++ nest p k qs rows []) ++ M) (L ++ nest p k qs rows M) := fun A => by
  rw [List.append_assoc, nl_eq]
  exact A
theorem nl_k (h : k = k2) : MLe (L ++ nest p k qs rows M) (L ++ nest p k2 qs rows M) := by
  subst h
  exact MLe.rfl
/-- len(rows) -/
theorem ev_lenN (h : EV n Γ (nest p k qs rows M0) tl c (dR p)) : EV n Γ (nest p k qs rows M0) (tCB (fun ws H Q => ∃ p ys, ws = [.ref p] ∧ (SqL K H p ys ∨ SqT K H p ys) ∧ Q (.int ys.length) H) (tCons tl tNil)) c (dI k) :=
  .mk fun hc A E q => h.run hc A E fun v hv => by
    cases (show v = .ref p from hv)
    obtain ⟨o, h1, e⟩ := A.hd
    cases (show o = .lst (mk k fun i => V.ref (qs i)) from e)
    exact ⟨p, _, rfl, .inl (SqL.of h1), q _ (by show V.int _ = V.int _; rw [mk_len])⟩
theorem ev_lenNL (h : EV n Γ (L ++ nest p k qs rows M0) tl c (dR p)) : EV n Γ (L ++ nest p k qs rows M0) (tCB (fun ws H Q => ∃ p ys, ws = [.ref p] ∧ (SqL K H p ys ∨ SqT K H p ys) ∧ Q (.int ys.length) H) (tCons tl tNil)) c (dI k) := ev_in nl2 (ev_lenN (ev_in nl1 h))
/-- rows == [] -/
theorem em_eqN0 (h : EV n Γ (nest p k qs rows M0) tl c (dR p)) : EMc n Z Γ (nest p k qs rows M0) (tOp (rEqD K) tl (tLst tNil)) (chk (c ∧ rows.length = k) (.ok rows.isEmpty)) dB (fun _ => nest p k qs rows M0) := .mk fun {G H σ Q} A E w => by
  rw [wp_chk] at w
  refine h.run w.1.1 A E fun v hv => ⟨Nat.zero_le _, fun z nz => ?_⟩
  cases (show v = .ref p from hv)
  have A2 := A.newG (o := .lst []) nz
  obtain ⟨G', s', A3, d⟩ := nest_frz A2 w.1.2
  have e2 : (dL ([] : List (List Int))).P (upd G z (.lst [])) (.ref z) := ⟨z, [], rfl, upd_same, rfl⟩
  have ok : ∀ x : List (List Int), DE.ok x := fun x y hy i hi => trivial
  refine ⟨_, _, DE.dp K A3.sub d, DE.dp (α := List (List Int)) K A2.sub e2, shp (ok rows) (by decide), shp (ok []) (by decide), w.2 (fun _ => 0) _ _ _ (A.newS nz) A2 ?_⟩
  show V.bl _ = V.bl _
  congr 1
  refine Bool.eq_iff_iff.mpr ((DE.eqv _ _).trans ?_)
  exact List.isEmpty_iff.symm
theorem em_eqNL (h : EV n Γ (L ++ nest p k qs rows M0) tl c (dR p)) : EMc n Z Γ (L ++ nest p k qs rows M0) (tOp (rEqD K) tl (tLst tNil)) (chk (c ∧ rows.length = k) (.ok rows.isEmpty)) dB (fun _ => L ++ nest p k qs rows M0) :=
  em_in nl2 (em_out (fun _ _ => nl1) (em_eqN0 (ev_in nl1 h)))
theorem nl5 {a : Addr × Cn} {L2 : Mm} : MLe (a :: nest p k qs rows (M0 ++ L2)) (a :: (L2 ++ nest p k qs rows M0)) := fun A => by
  rw [← nl_eq]
  exact A.perm (.cons _ List.perm_append_comm)
/-- rows.append(e) -/
theorem em_appNL {η : Type} {m : R η} {y : η → List Int} {L1 : η → Mm} (ho : EV n Γ (L ++ nest p k qs rows M0) to True (dR p)) (h : EM n Z Γ (L ++ nest p k qs rows M0) te m (fun _ ps => dR (ps 0)) (fun b ps => (ps 0, cL (y b)) :: (L1 b ++ nest p k qs rows M0))) :
    EM n Z Γ (L ++ nest p k qs rows M0) (tBM K "list" rAppend to (tCons te tNil)) (m.bind fun b => chk (k ≤ 16000000 ∧ rows.length = k) (.ok b)) (fun _ _ => dN) (fun b ps => L1 b ++ nest p (k + 1) (fun i => if i < k then qs i else ps 0) (rows ++ [y b]) M0) :=
  em_in nl2 (em_out (fun _ _ => nl1) (em_appN (M1 := fun b => M0 ++ L1 b) (ev_in nl1 ho) (em_in nl1 (em_out (fun b ps => nl5) h))))
theorem sm_frzNc {ts : TS} {m : R (Out γ δ β)} (i : Nat) (hi : Γ.lookup i = some (dR p)) (h : SM n Z ((i, dL rows) :: Γ) M ts m W) : SM n Z Γ (nest p k qs rows M) ts (chk (rows.length = k) m) W := by
  refine .mk ?_
  intro G H σ D A E w
  rw [wp_chk] at w
  exact (sm_frzN i hi w.1 h).run A E w.2
theorem sm_frzNL {ts : TS} {m : R (Out γ δ β)} (i : Nat) (hi : Γ.lookup i = some (dR p)) (h : SM n Z ((i, dL rows) :: Γ) (L ++ M) ts m W) : SM n Z Γ (L ++ nest p k qs rows M) ts (chk (rows.length = k) m) W :=
  sm_in nl4 (sm_frzNc i hi h)
end
section
variable {n : Nat} {Z : Zn} {Γ : Gm} {M : Mm} {t u : TT} {β1 β2 : Type} {c : Prop} {v : Bool} {m : R β1} {b : β1 → Bool} {Mf : β1 → Adr → Mm} {bb : β2 → Bool} {Mo : β2 → Adr → Mm} {g : β1 → β2} {g0 : β2}
/-- and, or: the second one with what it changes -/
theorem tm_andS (h : TV n Γ M t c v) (k : TM n Z Γ M u m b Mf) (h1 : ∀ r, bb (g r) = b r) (h0 : bb g0 = false) (hM : ∀ r ps, Mo (g r) ps = Mf r ps) (hM0 : ∀ ps, Mo g0 ps = M) :
    TM n Z Γ M (tAnd t u) (chk c (if v = true then m.bind fun r => .ok (g r) else .ok g0)) bb Mo := by
  refine .mk ?_
  intro G H σ Q A E w
  rw [wp_chk] at w
  refine h.run w.1 A E ?_
  have q := w.2
  cases v with
  | true =>
    rw [if_pos rfl, wp_bind] at q
    exact iteT (k.run A E (q.mono (fun r q2 ps G2 H2 s2 A2 => by
      have := q2 ps G2 H2 s2 (by rw [hM]; exact A2)
      rwa [h1] at this) fun x hx => hx))
  | false =>
    rw [if_neg (by decide)] at q
    have := q (fun _ => 0) G H (Sub.refl _) (by rw [hM0]; exact A)
    rw [h0] at this
    exact iteF this
theorem tm_orS (h : TV n Γ M t c v) (k : TM n Z Γ M u m b Mf) (h1 : ∀ r, bb (g r) = b r) (h0 : bb g0 = true) (hM : ∀ r ps, Mo (g r) ps = Mf r ps) (hM0 : ∀ ps, Mo g0 ps = M) :
    TM n Z Γ M (tOr t u) (chk c (if v = true then .ok g0 else m.bind fun r => .ok (g r))) bb Mo := by
  refine .mk ?_
  intro G H σ Q A E w
  rw [wp_chk] at w
  refine h.run w.1 A E ?_
  have q := w.2
  cases v with
  | false =>
    rw [if_neg (by decide), wp_bind] at q
    exact iteF (k.run A E (q.mono (fun r q2 ps G2 H2 s2 A2 => by
      have := q2 ps G2 H2 s2 (by rw [hM]; exact A2)
      rwa [h1] at this) fun x hx => hx))
  | true =>
    rw [if_pos rfl] at q
    have := q (fun _ => 0) G H (Sub.refl _) (by rw [hM0]; exact A)
    rw [h0] at this
    exact iteT this
end
end Mr
set_option Elab.async false
set_option linter.all false
set_option maxRecDepth 100000
set_option maxHeartbeats 4000000
set_option exponentiation.threshold 100
/-! MrLq: as MrLp, for tasks of other sizes (never imported beside MrLp). -/
namespace Lp
open Wd Mr
def sgn (x : Int) : Int := if x < 0 then -1 else 1
section
variable (m n : Nat) (c : Nat → Nat → Int) (go : Nat → Int)
/-- the columns, the units, the goal: each row with its sign -/
def LA : Nat → Vec := fun j x => if j < n then sgn (go x) * c j x else if j < n + m then un (j - n) x else sgn (go x) * go x
def Lw : Nat → Int := fun j => if n ≤ j ∧ j < n + m then 1 else 0
def t0 : TS := ⟨fun i => n + i, 1, fun i j => LA m n c go j i⟩
/-- row i of the table, or the costs -/
def tr (w : Nat → Int) (t : TS) (i j : Nat) : Int := if i < m then t.T i j else rcS m w t j
abbrev tabl (t : TS) : List (List Int) := mk (m + 1) fun i => mk (n + m + 1) (tr m (Lw m n) t i)
abbrev basl (t : TS) : List Int := mk m fun i => (t.b i : Int)
noncomputable def stp : TS → TS := nextS m n (n + m) (LA m n c go) (Lw m n)
open Classical in
/-- turns that are enough -/
noncomputable def fuN : Nat := if h : ∃ k, ¬ ∃ q, EnOk m n (Lw m n) (iter (stp m n c go) k (t0 m n c go)) q then h.choose + 1 else 0
end
noncomputable def fu (a : List (List Int) × List Int) : Nat := fuN a.2.length a.1.length (fun j i => (a.1.getD j []).getD i 0) (fun i => a.2.getD i 0)
section
variable {m n : Nat} {c : Nat → Nat → Int} {go : Nat → Int}
theorem sgn_abs (x y : Int) : (sgn x * y).natAbs = y.natAbs := by
  unfold sgn
  split
  · rw [Int.neg_mul, Int.one_mul, Int.natAbs_neg]
  · rw [Int.one_mul]
theorem sgn_go (x : Int) : 0 ≤ sgn x * x := by
  unfold sgn
  split <;> omega
theorem fu_mk : fu (mk n (fun j => mk m (c j)), mk m go) = fuN m n (fun j i => if j < n ∧ i < m then c j i else 0) (fun i => if i < m then go i else 0) := by
  unfold fu
  have e1 : (fun j i => ((mk n (fun j => mk m (c j))).getD j []).getD i 0) = fun j i => if j < n ∧ i < m then c j i else 0 := by
    funext j i
    rw [List.getD_eq_getElem?_getD, List.getD_eq_getElem?_getD]
    by_cases hj : j < n
    · rw [mk_get? hj]
      by_cases hi : i < m
      · show ((mk m (c j))[i]?).getD 0 = _
        rw [mk_get? hi, if_pos ⟨hj, hi⟩]; rfl
      · show ((mk m (c j))[i]?).getD 0 = _
        rw [List.getElem?_eq_none (by rw [mk_len]; omega), if_neg (by omega)]; rfl
    · have e : (mk n (fun j => mk m (c j)))[j]? = none := List.getElem?_eq_none (by rw [mk_len]; omega)
      rw [e, if_neg (by omega)]; rfl
  have e2 : (fun i => (mk m go).getD i 0) = fun i => if i < m then go i else 0 := by
    funext i
    rw [List.getD_eq_getElem?_getD]
    by_cases hi : i < m
    · rw [mk_get? hi, if_pos hi]; rfl
    · rw [List.getElem?_eq_none (by rw [mk_len]; omega), if_neg hi]; rfl
  show fuN (mk m go).length (mk n (fun j => mk m (c j))).length _ _ = _
  rw [e1, e2, mk_len, mk_len]
theorem units : Units m n (LA m n c go) := fun k hk x hx => by
  unfold LA
  rw [if_neg (by omega), if_pos (by omega), Nat.add_sub_cancel_left]
theorem w_nn : ∀ j, 0 ≤ Lw m n j := fun j => by unfold Lw; split <;> decide
theorem w_low : ∀ j, j < n → Lw m n j = 0 := fun j hj => by unfold Lw; rw [if_neg (by omega)]
theorem w_unit : ∀ k, k < m → Lw m n (n + k) = 1 := fun k hk => by unfold Lw; rw [if_pos (by omega)]
theorem w_goal : Lw m n (n + m) = 0 := by unfold Lw; rw [if_neg (by omega)]
theorem good0 : Good m n (n + m) (LA m n c go) (t0 m n c go) := ⟨Tab.first units, (by decide : (0 : Int) < 1), fun i hi => by
  show 0 ≤ LA m n c go (n + m) i
  unfold LA
  rw [if_neg (by omega), if_neg (by omega)]
  exact sgn_go _, fun i hi => by show n + i < n + m; omega⟩
/-- the numbers of the columns -/
def Few (m n : Nat) (c : Nat → Nat → Int) (go : Nat → Int) : Prop := m ≤ 12 ∧ n ≤ 32 ∧ (∀ j, j < n → ∀ i, i < m → (c j i).natAbs ≤ 5592405) ∧ ∀ i, i < m → (go i).natAbs ≤ 5592405
theorem few_go (h : Few m n c go) {i : Nat} (hi : i < m) : (go i).natAbs ≤ 2 ^ 26 := Nat.le_trans (h.2.2.2 i hi) (by decide)
theorem few_c (h : Few m n c go) {j i : Nat} (hj : j < n) (hi : i < m) : (c j i).natAbs ≤ 2 ^ 26 := Nat.le_trans (h.2.2.1 j hj i hi) (by decide)
theorem LA_abs (h : Few m n c go) {j x : Nat} (hj : j < n + m + 1) (hx : x < m) : (LA m n c go j x).natAbs ≤ 5592405 := by
  unfold LA
  split
  · rw [sgn_abs]; exact h.2.2.1 j (by omega) x hx
  · split
    · unfold un
      split <;> decide
    · rw [sgn_abs]; exact h.2.2.2 x hx
theorem pow312 {m : Nat} (h : m ≤ 12) : (m * 5592405) ^ m ≤ 2 ^ 312 := by
  have h1 : m * 5592405 ≤ 2 ^ 26 := Nat.le_trans (Nat.mul_le_mul_right _ h) (by decide)
  refine Nat.le_trans (Nat.pow_le_pow_left h1 m) ?_
  rw [← Nat.pow_mul]
  exact Nat.pow_le_pow_right (by decide) (by omega)
/-- the sizes of a good state -/
theorem T_abs (h : Few m n c go) {t : TS} (G : Good m n (n + m) (LA m n c go) t) {i j : Nat} (hi : i < m) (hj : j < n + m + 1) : (t.T i j).natAbs ≤ 2 ^ 312 :=
  Nat.le_trans (G.tab.size hi (fun k hk x hx => LA_abs h (by have := G.bd k hk; omega) hx) (fun x hx => LA_abs h hj hx)) (pow312 h.1)
theorem s_abs (h : Few m n c go) {t : TS} (G : Good m n (n + m) (LA m n c go) t) : t.s.natAbs ≤ 2 ^ 312 :=
  Nat.le_trans (G.tab.size_s (fun k hk x hx => LA_abs h (by have := G.bd k hk; omega) hx)) (pow312 h.1)
theorem rc_abs (h : Few m n c go) {t : TS} (G : Good m n (n + m) (LA m n c go) t) {j : Nat} (hj : j < n + m + 1) : (rcS m (Lw m n) t j).natAbs ≤ 2 ^ 316 := by
  unfold rcS rc
  have hw : ∀ j, (Lw m n j).natAbs ≤ 1 := fun j => by unfold Lw; split <;> decide
  have h1 : (t.s * Lw m n j).natAbs ≤ 2 ^ 312 := by
    rw [Int.natAbs_mul]
    have := Nat.mul_le_mul (s_abs h G) (hw j)
    omega
  have h2 : (sm m fun i => Lw m n (t.b i) * t.T i j).natAbs ≤ m * 2 ^ 312 := sm_abs fun i hi => by
    rw [Int.natAbs_mul]
    have := Nat.mul_le_mul (hw (t.b i)) (T_abs h G hi hj)
    omega
  have h3 := h.1
  have h4 : m * 2 ^ 312 ≤ 12 * 2 ^ 312 := Nat.mul_le_mul_right _ h3
  rw [show (2 : Nat) ^ 316 = 16 * 2 ^ 312 by rw [show (316 : Nat) = 4 + 312 from rfl, Nat.pow_add]]
  generalize (2 : Nat) ^ 312 = z at *
  omega
theorem tr_abs (h : Few m n c go) {t : TS} (G : Good m n (n + m) (LA m n c go) t) (i : Nat) {j : Nat} (hj : j < n + m + 1) : (tr m (Lw m n) t i j).natAbs ≤ 2 ^ 316 := by
  unfold tr
  split
  · rename_i hi
    exact Nat.le_trans (T_abs h G hi hj) (Nat.pow_le_pow_right (by decide) (by decide))
  · exact rc_abs h G hj
end
end Lp
set_option Elab.async false
set_option linter.all false
set_option maxRecDepth 100000
set_option maxHeartbeats 4000000
namespace K19
open PySem L2 Tr Mr
/-! the text by places -/
def top (i : Nat) : Stmt := PySem.Challenge.pw_toldridges_k19_balance_or_weights.main.body.getD i (.Pass ⟨0, 0, 0, 0⟩)
abbrev s_reduced : Stmt := top 7
abbrev s_first_table : Stmt := top 8
abbrev s_entering : Stmt := top 9
abbrev s_is_tighter : Stmt := top 10
abbrev s_leaving : Stmt := top 11
abbrev s_pivoted : Stmt := top 12
abbrev s_combine : Stmt := top 13
abbrev s_signed_columns : Stmt := top 14
abbrev s_solve : Stmt := top 15
abbrev s_balance : Stmt := top 16
abbrev s_law_take : Stmt := top 19
abbrev s_law_whole : Stmt := top 20
abbrev s_law_dot : Stmt := top 21
abbrev s_law_list_of : Stmt := top 22
abbrev s_law_kinds : Stmt := top 23
abbrev s_law_rows : Stmt := top 24
abbrev s_law_solved_rows : Stmt := top 25
abbrev s_law_barred_rows : Stmt := top 26
abbrev s_law_drawn_task : Stmt := top 27
abbrev s_law_sign_right : Stmt := top 28
abbrev s_law_numbers_right : Stmt := top 29
abbrev s_law_totals : Stmt := top 30
abbrev s_law_weights_right : Stmt := top 31
abbrev s_law_right : Stmt := top 32
abbrev s_law_pool : Stmt := top 18
abbrev s_law : Stmt := top 33
abbrev s_NoCombination_init : Stmt := inClass (top 3) 0
abbrev s_NoBalance_init : Stmt := inClass (top 4) 0
/-- the addresses -/
structure Ad where
  f_reduced : Addr
  d_reduced : FuncData
  f_first_table : Addr
  d_first_table : FuncData
  f_entering : Addr
  d_entering : FuncData
  f_is_tighter : Addr
  d_is_tighter : FuncData
  f_leaving : Addr
  d_leaving : FuncData
  f_pivoted : Addr
  d_pivoted : FuncData
  f_combine : Addr
  d_combine : FuncData
  f_signed_columns : Addr
  d_signed_columns : FuncData
  f_solve : Addr
  d_solve : FuncData
  f_balance : Addr
  d_balance : FuncData
  f_law_take : Addr
  d_law_take : FuncData
  f_law_whole : Addr
  d_law_whole : FuncData
  f_law_dot : Addr
  d_law_dot : FuncData
  f_law_list_of : Addr
  d_law_list_of : FuncData
  f_law_kinds : Addr
  d_law_kinds : FuncData
  f_law_rows : Addr
  d_law_rows : FuncData
  f_law_solved_rows : Addr
  d_law_solved_rows : FuncData
  f_law_barred_rows : Addr
  d_law_barred_rows : FuncData
  f_law_drawn_task : Addr
  d_law_drawn_task : FuncData
  f_law_sign_right : Addr
  d_law_sign_right : FuncData
  f_law_numbers_right : Addr
  d_law_numbers_right : FuncData
  f_law_totals : Addr
  d_law_totals : FuncData
  f_law_weights_right : Addr
  d_law_weights_right : FuncData
  f_law_right : Addr
  d_law_right : FuncData
  f_law_pool : Addr
  d_law_pool : FuncData
  f_law : Addr
  d_law : FuncData
  c_PlanError : Addr
  t_SIGNED : Addr
  c_NoCombination : Addr
  xf_NoCombination : Addr
  xc_NoCombination : Addr
  xk_NoCombination : Addr
  c_NoBalance : Addr
  xf_NoBalance : Addr
  xc_NoBalance : Addr
  xk_NoBalance : Addr
structure Txt (P : Program) (K : PySem.W.Frag) (mg : Str → Option Value) (ad : Ad) : Prop where
  F_reduced : Fun K "reduced" "reduced" s_reduced ad.f_reduced ad.d_reduced
  B_reduced : Binds K ad.d_reduced ["numbers"] []
  g_reduced : mg "reduced" = some (.ref ad.f_reduced)
  F_first_table : Fun K "first_table" "first_table" s_first_table ad.f_first_table ad.d_first_table
  B_first_table : Binds K ad.d_first_table ["columns", "goal"] []
  g_first_table : mg "first_table" = some (.ref ad.f_first_table)
  F_entering : Fun K "entering" "entering" s_entering ad.f_entering ad.d_entering
  B_entering : Binds K ad.d_entering ["costs", "count"] []
  g_entering : mg "entering" = some (.ref ad.f_entering)
  F_is_tighter : Fun K "is_tighter" "is_tighter" s_is_tighter ad.f_is_tighter ad.d_is_tighter
  B_is_tighter : Binds K ad.d_is_tighter ["table", "basis", "column", "one", "other"] []
  g_is_tighter : mg "is_tighter" = some (.ref ad.f_is_tighter)
  F_leaving : Fun K "leaving" "leaving" s_leaving ad.f_leaving ad.d_leaving
  B_leaving : Binds K ad.d_leaving ["table", "basis", "column"] []
  g_leaving : mg "leaving" = some (.ref ad.f_leaving)
  F_pivoted : Fun K "pivoted" "pivoted" s_pivoted ad.f_pivoted ad.d_pivoted
  B_pivoted : Binds K ad.d_pivoted ["table", "row", "column", "scale"] []
  g_pivoted : mg "pivoted" = some (.ref ad.f_pivoted)
  F_combine : Fun K "combine" "combine" s_combine ad.f_combine ad.d_combine
  B_combine : Binds K ad.d_combine ["columns", "goal"] []
  g_combine : mg "combine" = some (.ref ad.f_combine)
  F_signed_columns : Fun K "signed_columns" "signed_columns" s_signed_columns ad.f_signed_columns ad.d_signed_columns
  B_signed_columns : Binds K ad.d_signed_columns ["rows", "kinds"] []
  g_signed_columns : mg "signed_columns" = some (.ref ad.f_signed_columns)
  F_solve : Fun K "solve" "solve" s_solve ad.f_solve ad.d_solve
  B_solve : Binds K ad.d_solve ["rows", "kinds", "strict"] []
  g_solve : mg "solve" = some (.ref ad.f_solve)
  F_balance : Fun K "balance" "balance" s_balance ad.f_balance ad.d_balance
  B_balance : Binds K ad.d_balance ["rows", "kinds"] []
  g_balance : mg "balance" = some (.ref ad.f_balance)
  F_law_take : Fun K "_law_take" "_law_take" s_law_take ad.f_law_take ad.d_law_take
  B_law_take : Binds K ad.d_law_take ["_law_pool_here", "_law_many"] []
  g_law_take : mg "_law_take" = some (.ref ad.f_law_take)
  F_law_whole : Fun K "_law_whole" "_law_whole" s_law_whole ad.f_law_whole ad.d_law_whole
  B_law_whole : Binds K ad.d_law_whole ["_law_x"] []
  g_law_whole : mg "_law_whole" = some (.ref ad.f_law_whole)
  F_law_dot : Fun K "_law_dot" "_law_dot" s_law_dot ad.f_law_dot ad.d_law_dot
  B_law_dot : Binds K ad.d_law_dot ["_law_one", "_law_two"] []
  g_law_dot : mg "_law_dot" = some (.ref ad.f_law_dot)
  F_law_list_of : Fun K "_law_list_of" "_law_list_of" s_law_list_of ad.f_law_list_of ad.d_law_list_of
  B_law_list_of : Binds K ad.d_law_list_of ["_law_told", "_law_count"] []
  g_law_list_of : mg "_law_list_of" = some (.ref ad.f_law_list_of)
  F_law_kinds : Fun K "_law_kinds" "_law_kinds" s_law_kinds ad.f_law_kinds ad.d_law_kinds
  B_law_kinds : Binds K ad.d_law_kinds ["_law_pool_here", "_law_count"] []
  g_law_kinds : mg "_law_kinds" = some (.ref ad.f_law_kinds)
  F_law_rows : Fun K "_law_rows" "_law_rows" s_law_rows ad.f_law_rows ad.d_law_rows
  B_law_rows : Binds K ad.d_law_rows ["_law_pool_here", "_law_many", "_law_count"] []
  g_law_rows : mg "_law_rows" = some (.ref ad.f_law_rows)
  F_law_solved_rows : Fun K "_law_solved_rows" "_law_solved_rows" s_law_solved_rows ad.f_law_solved_rows ad.d_law_solved_rows
  B_law_solved_rows : Binds K ad.d_law_solved_rows ["_law_pool_here", "_law_rows_here", "_law_kinds_here"] []
  g_law_solved_rows : mg "_law_solved_rows" = some (.ref ad.f_law_solved_rows)
  F_law_barred_rows : Fun K "_law_barred_rows" "_law_barred_rows" s_law_barred_rows ad.f_law_barred_rows ad.d_law_barred_rows
  B_law_barred_rows : Binds K ad.d_law_barred_rows ["_law_pool_here", "_law_rows_here", "_law_kinds_here"] []
  g_law_barred_rows : mg "_law_barred_rows" = some (.ref ad.f_law_barred_rows)
  F_law_drawn_task : Fun K "_law_drawn_task" "_law_drawn_task" s_law_drawn_task ad.f_law_drawn_task ad.d_law_drawn_task
  B_law_drawn_task : Binds K ad.d_law_drawn_task ["_law_pool_here"] []
  g_law_drawn_task : mg "_law_drawn_task" = some (.ref ad.f_law_drawn_task)
  F_law_sign_right : Fun K "_law_sign_right" "_law_sign_right" s_law_sign_right ad.f_law_sign_right ad.d_law_sign_right
  B_law_sign_right : Binds K ad.d_law_sign_right ["_law_kind", "_law_number", "_law_strict"] []
  g_law_sign_right : mg "_law_sign_right" = some (.ref ad.f_law_sign_right)
  F_law_numbers_right : Fun K "_law_numbers_right" "_law_numbers_right" s_law_numbers_right ad.f_law_numbers_right ad.d_law_numbers_right
  B_law_numbers_right : Binds K ad.d_law_numbers_right ["_law_rows_here", "_law_kinds_here", "_law_numbers", "_law_strict"] []
  g_law_numbers_right : mg "_law_numbers_right" = some (.ref ad.f_law_numbers_right)
  F_law_totals : Fun K "_law_totals" "_law_totals" s_law_totals ad.f_law_totals ad.d_law_totals
  B_law_totals : Binds K ad.d_law_totals ["_law_rows_here", "_law_count", "_law_weights"] []
  g_law_totals : mg "_law_totals" = some (.ref ad.f_law_totals)
  F_law_weights_right : Fun K "_law_weights_right" "_law_weights_right" s_law_weights_right ad.f_law_weights_right ad.d_law_weights_right
  B_law_weights_right : Binds K ad.d_law_weights_right ["_law_rows_here", "_law_kinds_here", "_law_weights", "_law_strict"] []
  g_law_weights_right : mg "_law_weights_right" = some (.ref ad.f_law_weights_right)
  F_law_right : Fun K "_law_right" "_law_right" s_law_right ad.f_law_right ad.d_law_right
  B_law_right : Binds K ad.d_law_right ["_law_rows_here", "_law_kinds_here"] []
  g_law_right : mg "_law_right" = some (.ref ad.f_law_right)
  F_law_pool : Fun K "_law_pool" "_law_pool" s_law_pool ad.f_law_pool ad.d_law_pool
  B_law_pool : Binds K ad.d_law_pool ["_law_script"] []
  g_law_pool : mg "_law_pool" = some (.ref ad.f_law_pool)
  F_law : Fun K "law" "law" s_law ad.f_law ad.d_law
  B_law : Binds K ad.d_law ["_law_script"] []
  g_law : mg "law" = some (.ref ad.f_law)
  g_SIGNED : mg "SIGNED" = some (.ref ad.t_SIGNED)
  tp_SIGNED : ∀ H, SqT K H ad.t_SIGNED (List.map V.str ["positive", "negative"])
  ec_NoCombination : ExcC K ad.c_NoCombination
  ec_NoBalance : ExcC K ad.c_NoBalance
  xi_NoCombination : PySem.XiX.Txt P K mg "NoCombination" "weights" s_NoCombination_init ad.c_NoCombination ad.xf_NoCombination ad.xc_NoCombination ad.xk_NoCombination
  xi_NoBalance : PySem.XiX.Txt P K mg "NoBalance" "weights" s_NoBalance_init ad.c_NoBalance ad.xf_NoBalance ad.xc_NoBalance ad.xk_NoBalance
  g_PlanError : mg "PlanError" = some (.ref ad.c_PlanError)
  kt_NoBalance_PlanError : PySem.W.kitOne K (.ref ad.c_NoBalance) (.ref ad.c_PlanError) = some true
  ign : PySem.W.specialIn K (.builtin "object.__class__") "__get__" = some (some (.builtin "getset_descriptor.__get__"))
  igt : PySem.W.takesIn K (.builtin "object.__class__") = some true
  z_max : mg "max" = none
  z_enumerate : mg "enumerate" = none
  z_int : mg "int" = none
  z_sum : mg "sum" = none
  z_range : mg "range" = none
  z_len : mg "len" = none
  z_zip : mg "zip" = none
  z_isinstance : mg "isinstance" = none
  z_bool : mg "bool" = none
  z_list : mg "list" = none
  z_abs : mg "abs" = none
  z_gcd : mg "gcd" = some (.builtin "math.gcd")
theorem sc_reduced : FnScope ["numbers", "divisor", "number"] ["numbers"] (defScope s_reduced) := ⟨rfl, rfl, rfl, by decide +kernel, rfl, by decide +kernel, by decide +kernel⟩
theorem sc_first_table : FnScope ["columns", "goal", "table", "row", "number", "sign", "unit", "k", "column", "costs", "numbers"] ["columns", "goal"] (defScope s_first_table) := ⟨rfl, rfl, rfl, by decide +kernel, rfl, by decide +kernel, by decide +kernel⟩
theorem sc_entering : FnScope ["costs", "count", "k"] ["costs", "count"] (defScope s_entering) := ⟨rfl, rfl, rfl, by decide +kernel, rfl, by decide +kernel, by decide +kernel⟩
theorem sc_is_tighter : FnScope ["table", "basis", "column", "one", "other", "first", "second"] ["table", "basis", "column", "one", "other"] (defScope s_is_tighter) := ⟨rfl, rfl, rfl, by decide +kernel, rfl, by decide +kernel, by decide +kernel⟩
theorem sc_leaving : FnScope ["table", "basis", "column", "best", "row"] ["table", "basis", "column"] (defScope s_leaving) := ⟨rfl, rfl, rfl, by decide +kernel, rfl, by decide +kernel, by decide +kernel⟩
theorem sc_pivoted : FnScope ["table", "row", "column", "scale", "lead", "done", "k", "numbers", "a", "b"] ["table", "row", "column", "scale"] (defScope s_pivoted) := ⟨rfl, rfl, rfl, by decide +kernel, rfl, by decide +kernel, by decide +kernel⟩
theorem sc_combine : FnScope ["columns", "goal", "count", "table", "basis", "k", "scale", "column", "row", "costs", "weights", "cost", "a", "b", "multiples", "numbers"] ["columns", "goal"] (defScope s_combine) := ⟨rfl, rfl, rfl, by decide +kernel, rfl, by decide +kernel, by decide +kernel⟩
theorem sc_signed_columns : FnScope ["rows", "kinds", "columns", "places", "index", "kind", "column", "row", "number"] ["rows", "kinds"] (defScope s_signed_columns) := ⟨rfl, rfl, rfl, by decide +kernel, rfl, by decide +kernel, by decide +kernel⟩
theorem sc_solve : FnScope ["rows", "kinds", "strict", "columns", "places", "goal", "column", "index", "sign", "a", "b", "scale", "multiples", "e", "weight", "numbers", "multiple"] ["rows", "kinds", "strict"] (defScope s_solve) := ⟨rfl, rfl, rfl, by decide +kernel, rfl, by decide +kernel, by decide +kernel⟩
theorem sc_balance : FnScope ["rows", "kinds", "strict", "index", "kind", "numbers", "weights"] ["rows", "kinds"] (defScope s_balance) := ⟨rfl, rfl, rfl, by decide +kernel, rfl, by decide +kernel, by decide +kernel⟩
theorem sc_law_take : FnScope ["_law_pool_here", "_law_many"] ["_law_pool_here", "_law_many"] (defScope s_law_take) := ⟨rfl, rfl, rfl, by decide +kernel, rfl, by decide +kernel, by decide +kernel⟩
theorem sc_law_whole : FnScope ["_law_x"] ["_law_x"] (defScope s_law_whole) := ⟨rfl, rfl, rfl, by decide +kernel, rfl, by decide +kernel, by decide +kernel⟩
theorem sc_law_dot : FnScope ["_law_one", "_law_two", "_law_total", "_law_k"] ["_law_one", "_law_two"] (defScope s_law_dot) := ⟨rfl, rfl, rfl, by decide +kernel, rfl, by decide +kernel, by decide +kernel⟩
theorem sc_law_list_of : FnScope ["_law_told", "_law_count", "_law_k"] ["_law_told", "_law_count"] (defScope s_law_list_of) := ⟨rfl, rfl, rfl, by decide +kernel, rfl, by decide +kernel, by decide +kernel⟩
theorem sc_law_kinds : FnScope ["_law_pool_here", "_law_count", "_law_words", "_law_k"] ["_law_pool_here", "_law_count"] (defScope s_law_kinds) := ⟨rfl, rfl, rfl, by decide +kernel, rfl, by decide +kernel, by decide +kernel⟩
theorem sc_law_rows : FnScope ["_law_pool_here", "_law_many", "_law_count", "_law_rows_here", "_law_j", "_law_k"] ["_law_pool_here", "_law_many", "_law_count"] (defScope s_law_rows) := ⟨rfl, rfl, rfl, by decide +kernel, rfl, by decide +kernel, by decide +kernel⟩
theorem sc_law_solved_rows : FnScope ["_law_pool_here", "_law_rows_here", "_law_kinds_here", "_law_numbers", "_law_kind", "_law_number", "_law_places", "_law_k", "_law_at", "_law_row"] ["_law_pool_here", "_law_rows_here", "_law_kinds_here"] (defScope s_law_solved_rows) := ⟨rfl, rfl, rfl, by decide +kernel, rfl, by decide +kernel, by decide +kernel⟩
theorem sc_law_barred_rows : FnScope ["_law_pool_here", "_law_rows_here", "_law_kinds_here", "_law_weights", "_law_row", "_law_at", "_law_k", "_law_due", "_law_column"] ["_law_pool_here", "_law_rows_here", "_law_kinds_here"] (defScope s_law_barred_rows) := ⟨rfl, rfl, rfl, by decide +kernel, rfl, by decide +kernel, by decide +kernel⟩
theorem sc_law_drawn_task : FnScope ["_law_pool_here", "_law_many", "_law_count", "_law_kinds_here", "_law_rows_here", "_law_mode", "_law_big", "_law_k", "_law_row"] ["_law_pool_here"] (defScope s_law_drawn_task) := ⟨rfl, rfl, rfl, by decide +kernel, rfl, by decide +kernel, by decide +kernel⟩
theorem sc_law_sign_right : FnScope ["_law_kind", "_law_number", "_law_strict"] ["_law_kind", "_law_number", "_law_strict"] (defScope s_law_sign_right) := ⟨rfl, rfl, rfl, by decide +kernel, rfl, by decide +kernel, by decide +kernel⟩
theorem sc_law_numbers_right : FnScope ["_law_rows_here", "_law_kinds_here", "_law_numbers", "_law_strict", "_law_k", "_law_row"] ["_law_rows_here", "_law_kinds_here", "_law_numbers", "_law_strict"] (defScope s_law_numbers_right) := ⟨rfl, rfl, rfl, by decide +kernel, rfl, by decide +kernel, by decide +kernel⟩
theorem sc_law_totals : FnScope ["_law_rows_here", "_law_count", "_law_weights", "_law_totals_here", "_law_k", "_law_row"] ["_law_rows_here", "_law_count", "_law_weights"] (defScope s_law_totals) := ⟨rfl, rfl, rfl, by decide +kernel, rfl, by decide +kernel, by decide +kernel⟩
theorem sc_law_weights_right : FnScope ["_law_rows_here", "_law_kinds_here", "_law_weights", "_law_strict", "_law_totals_here", "_law_changed", "_law_k"] ["_law_rows_here", "_law_kinds_here", "_law_weights", "_law_strict"] (defScope s_law_weights_right) := ⟨rfl, rfl, rfl, by decide +kernel, rfl, by decide +kernel, by decide +kernel⟩
theorem sc_law_right : FnScope ["_law_rows_here", "_law_kinds_here", "_law_handed", "_law_row", "_law_words", "_law_told", "e", "_law_fine"] ["_law_rows_here", "_law_kinds_here"] (defScope s_law_right) := ⟨rfl, rfl, rfl, by decide +kernel, rfl, by decide +kernel, by decide +kernel⟩
theorem sc_law_pool : FnScope ["_law_script", "_law_pool_here", "_law_cell", "_law_rest", "_law_k", "_law_mixed"] ["_law_script"] (defScope s_law_pool) := ⟨rfl, rfl, rfl, by decide +kernel, rfl, by decide +kernel, by decide +kernel⟩
theorem sc_law : FnScope ["_law_script", "_law_pool_here", "_law_rows_here", "_law_kinds_here"] ["_law_script"] (defScope s_law) := ⟨rfl, rfl, rfl, by decide +kernel, rfl, by decide +kernel, by decide +kernel⟩
def xd (ad : Ad) : Exc → Value → Option Addr → Hp → Hp → Prop := xden [(ad.c_NoCombination, "weights"), (ad.c_NoBalance, "weights")]
noncomputable def b_reduced (a : ((List Int))) : R (Out Empty Empty (List Int)) :=
  (R.bind (chk True (.ok (0 : Int))) fun b1 => (R.bind (chk True (.ok a)) fun b3 => seqO (forR (γ := (Int)) (fun x4 g5 => (R.bind (chk (True ∧ (True ∧ True)) (.ok ((Nat.gcd (Int.natAbs g5) (Int.natAbs x4) : Nat) : Int))) fun b7 => (.ok (.nx b7)))) b3 b1) fun g5 => (R.bind (R.bind (chk True (.ok a)) fun b9 => chk ((b9).length ≤ 16000000 ∧ ∀ x10 ∈ b9, (True ∧ (True ∧ (True ∧ True)) ∧ (Tr.CDivS x10 (max (1 : Int) g5)))) (.ok (List.map (fun x10 => (Int.fdiv x10 (max (1 : Int) g5))) b9))) fun b11 => .ok (.rt b11))))
noncomputable def m_reduced (a : ((List Int))) : R (List Int) := runE (b_reduced a)
abbrev sp_reduced (K : PySem.W.Frag) (ad : Ad) : Sp := SpG (xd ad) (α := ((List Int))) (β := (List Int)) (fun a qs => [((dL (α := Int)) a)]) (fun a qs => []) m_reduced (fun a qs r ps => dR (ps 0)) (fun a qs r ps => [(ps 0, cL (α := Int) r)])
section
variable {P : Program} {w : World} {K : PySem.W.Frag} {mg : Str → Option Value} {base : Heap} {ad : Ad}
theorem ok_reduced (T : Txt P K mg ad) : FnOk P w K mg base CX0 1 ad.f_reduced ad.d_reduced ["numbers"] (sp_reduced K ad) := by
  refine T.F_reduced.ok sc_reduced (fun vs H Q E h => spg_len (k := 1) (fun _ _ => rfl) h) (fun cdv A outer s H vs Q E hr h => ?_)
  have hu := hu_of hr
  refine ⟨_, (pss_cons (ps_set (i := 1) sc_reduced.nd rfl (by first | exact Or.inl rfl | exact Or.inr rfl) pe_int)
      (pss_cons (ps_for PassesOwn.never rfl (pi_listK (K := K) rfl (pv 0)) (pg_name (i := 2) sc_reduced.nd rfl (by first | exact Or.inl rfl | exact Or.inr rfl))
      (pss_one (ps_set (i := 1) sc_reduced.nd rfl (by first | exact Or.inl rfl | exact Or.inr rfl) (pe_callBfun cr_gcd (by rfl) T.z_gcd (pa_cons (pv 1) (pa_cons (pv 2) pa_nil))))))
      (pss_one (ps_ret (pe_lc (own := [("number", 2)]) (g := gName 2) (tt := tYes) rfl sc_reduced.nd (pi_listK (K := K) rfl (pv 0)) (blkOk_by (own := [("number", 2)]) (N := ["numbers", "divisor", "number"]) (sc := defScope s_reduced) (by decide +kernel)) (fun _ _ _ _ _ => (pg_name (i := 2) sc_reduced.nd rfl (by first | exact Or.inl rfl | exact Or.inr rfl))) (fun _ _ _ _ _ => pts_nil) (fun _ _ _ _ _ => (pe_op op_fdivS (pv 2) (pe_callB (call_max2 rfl) (by rfl) T.z_max (by decide +kernel) (pa_cons pe_int (pa_cons (pv 1) pa_nil)))))))))), ?_⟩
  try simp only [cxK, cxK2]
  refine def_ret (n := 3) (γ := Empty) (δ := Empty) (body := b_reduced) (Γn := fun _ _ _ _ => []) (Mn := fun _ _ _ _ => []) (Γl := fun _ _ _ _ => []) (Ml := fun _ _ _ _ => []) h rfl (fun _ _ => Nat.le_of_ble_eq_true rfl) (fun _ => rfl) (fun a qs M => ?_)
  unfold b_reduced
  exact (sm_set (em_ev (β := Int) (D := dI) ev_int) (by decide) (fun b1 ps2 => (sm_for (γ' := (Int)) (Γl := fun g5 ps6 => [(0, ((dL (α := Int)) a)), (1, (dI g5))]) (Ml := fun g5 ps6 => M) (xs := fun b3 => b3) (g0 := fun b3 => b1) (adds := fun x4 => [(2, (dI x4))]) (sl := [2]) (f := fun b3 x4 g5 => (R.bind (chk (True ∧ (True ∧ True)) (.ok ((Nat.gcd (Int.natAbs g5) (Int.natAbs x4) : Nat) : Int))) fun b7 => (.ok (.nx b7)))) (fun _ => (fun _ => 0)) (it_list (α := Int) (β := (List Int)) (xs := fun (b : (List Int)) => b) (em_ev (β := (List Int)) (D := (dL (α := Int))) (ev_var (i := 0) rfl))) (fun _ _ => mk_nil) (fun _ => ⟨rfl, rfl, trivial⟩) (fun _ => MLe.rfl) (fun x4 => (gt_name (by decide))) (fun b3 x4 g5 ps6 => (sm_last (sm_set (em_ev (β := Int) (D := dI) (ev_gcd (av_cons (ev_var (i := 1) rfl) (av_cons (ev_var (i := 2) rfl) av_nil)))) (by decide) (fun b7 ps8 => (sm_nil (fun _ => 0) ⟨rfl, rfl, trivial⟩ MLe.rfl))))) (fun g5 ps6 => (sm_ret (g := fun b11 => b11) (em_lcP (η := Int) (M0 := M) (Γw := [(0, ((dL (α := Int)) a)), (1, (dI g5))]) (adds := fun (x10 : Int) => [(2, (dI x10))]) (sl := [2]) (xs := fun (b9 : (List Int)) => b9) (ce := fun (b9 : (List Int)) (x10 : Int) => (True ∧ (True ∧ (True ∧ True)) ∧ (Tr.CDivS x10 (max (1 : Int) g5)))) (y := fun (b9 : (List Int)) (x10 : Int) => (Int.fdiv x10 (max (1 : Int) g5))) (it_list (α := Int) (β := (List Int)) (xs := fun (b : (List Int)) => b) (em_ev (β := (List Int)) (D := (dL (α := Int))) (ev_var (i := 0) rfl))) mk_nil ⟨rfl, by decide, rfl, by decide, trivial⟩ (fun x10 => (gt_name (by decide))) (by decide) (fun (b9 : (List Int)) (x10 : Int) => (ev_opC (ev_var (i := 2) rfl) (ev_max2 (av_cons ev_int (av_cons (ev_var (i := 1) rfl) av_nil)))))) (fun _ _ => rfl) (fun _ _ => MLe.rfl))))))
end
noncomputable def b_first_table (a : ((List (List Int)) × (List Int))) : R (Out Empty Empty (List (List Int))) :=
  (R.bind (chk True (.ok ([] : List (List Int)))) fun b1 => (R.bind (chk (True ∧ True) (.ok a.2)) fun b3 => seqO (forR (γ := ((List (List Int)))) (fun x4 g5 => (R.bind (chk ((True ∧ True) ∧ ((decide (x4.2 < (0 : Int))) = true → True) ∧ ((decide (x4.2 < (0 : Int))) = false → True)) (.ok (if (decide (x4.2 < (0 : Int))) = true then (-(1 : Int)) else (1 : Int)))) fun b7 => (R.bind (R.bind (R.bind (chk (True ∧ True) (.ok ())) fun b => chk (-1000000000 ≤ ((List.length a.2 : Nat) : Int) ∧ ((List.length a.2 : Nat) : Int) ≤ 1000000000) (.ok b)) fun b9 => chk (((rng 0 ((List.length a.2 : Nat) : Int))).length ≤ 16000000 ∧ ∀ x10 ∈ (rng 0 ((List.length a.2 : Nat) : Int)), ((True ∧ True) ∧ True)) (.ok (List.map (fun x10 => (if (decide (x10 = x4.1)) = true then 1 else 0)) (rng 0 ((List.length a.2 : Nat) : Int))))) fun b11 => (R.bind (R.bind (R.bind (R.bind (R.bind (chk True (.ok a.1)) fun b13 => chk ((b13).length ≤ 16000000 ∧ ∀ x14 ∈ b13, (True ∧ (True ∧ True ∧ inR x14 x4.1) ∧ (CMulW b7 (getI x14 x4.1)))) (.ok (List.map (fun x14 => (b7 * (getI x14 x4.1))) b13))) fun a15 => R.bind (chk True (.ok b11)) fun b16 => chk ((a15).length + (b16).length ≤ 16777216) (.ok (a15 ++ b16))) fun a17 => R.bind (chk ((True ∧ True ∧ (CMulW b7 x4.2)) ∧ True) (.ok ([(b7 * x4.2)] : List Int))) fun b18 => chk ((a17).length + (b18).length ≤ 16777216) (.ok (a17 ++ b18))) fun b19 => chk ((g5).length ≤ 16000000) (.ok b19)) fun b19 => (.ok (.nx (g5 ++ [b19]))))))) (enumI b3) b1) fun g5 => (R.bind (R.bind (R.bind (chk (True ∧ True) (.ok ())) fun b => chk (-1000000000 ≤ ((List.length a.1 : Nat) : Int) ∧ ((List.length a.1 : Nat) : Int) ≤ 1000000000) (.ok b)) fun b21 => lcM (fun x22 => (R.bind (R.bind (chk True (.ok ())) fun b25 => chk ((g5).length ≤ 16000000 ∧ ∀ x26 ∈ g5, (True ∧ True ∧ inR x26 x22)) (.ok (List.map (fun x26 => (getI x26 x22)) g5))) fun r27 => .ok (-(List.sum r27)))) (rng 0 ((List.length a.1 : Nat) : Int))) fun b28 => (R.bind (R.bind (R.bind (R.bind (chk True (.ok b28)) fun a31 => R.bind (R.bind (chk (True ∧ True) (.ok ([(0 : Int)] : List Int))) fun a33 => R.bind (chk True (.ok ((List.length a.2 : Nat) : Int))) fun b34 => chk (-1000000 ≤ b34 ∧ b34 ≤ 1000000 ∧ (a33).length * (Int.toNat b34) ≤ 16777216) (.ok (List.flatten (List.replicate (Int.toNat b34) a33)))) fun b32 => chk ((a31).length + (b32).length ≤ 16777216) (.ok (a31 ++ b32))) fun a35 => R.bind (R.bind (R.bind (chk True (.ok ())) fun b39 => chk ((g5).length ≤ 16000000 ∧ ∀ x40 ∈ g5, (True ∧ True ∧ inR x40 (-(1 : Int)))) (.ok (List.map (fun x40 => (getI x40 (-(1 : Int)))) g5))) fun a41 => R.bind (.ok ()) fun b42 => .ok (a41, b42)) fun b36 => chk ((a35).length + ([(-(List.sum b36.1))]).length ≤ 16777216) (.ok (a35 ++ [(-(List.sum b36.1))]))) fun b43 => chk ((g5).length ≤ 16000000) (.ok b43)) fun b43 => (R.bind (chk True (.ok (g5 ++ [b43]))) fun b44 => .ok (.rt b44))))))
noncomputable def m_first_table (a : ((List (List Int)) × (List Int))) : R (List (List Int)) := runE (b_first_table a)
abbrev sp_first_table (K : PySem.W.Frag) (ad : Ad) : Sp := SpG (xd ad) (α := ((List (List Int)) × (List Int))) (β := (List (List Int))) (fun a qs => [((dL (α := (List Int))) a.1), ((dL (α := Int)) a.2)]) (fun a qs => []) m_first_table (fun a qs r ps => ((dL (α := (List Int))) r)) (fun a qs r ps => [])
section
variable {P : Program} {w : World} {K : PySem.W.Frag} {mg : Str → Option Value} {base : Heap} {ad : Ad}
theorem ok_first_table (T : Txt P K mg ad) : FnOk P w K mg base CX0 1 ad.f_first_table ad.d_first_table ["columns", "goal"] (sp_first_table K ad) := by
  refine T.F_first_table.ok sc_first_table (fun vs H Q E h => spg_len (k := 2) (fun _ _ => rfl) h) (fun cdv A outer s H vs Q E hr h => ?_)
  have hu := hu_of hr
  refine ⟨_, (pss_cons (ps_set (i := 2) sc_first_table.nd rfl (by first | exact Or.inl rfl | exact Or.inr rfl) (pe_lst pa_nil))
      (pss_cons (ps_for PassesOwn.never rfl (pi_enumK (K := K) rfl (by rfl) T.z_enumerate (pa_cons (pv 1) pa_nil)) (pg_tupK (K := K) (n := 2) rfl rfl (pgs_cons (pg_name (i := 3) sc_first_table.nd rfl (by first | exact Or.inl rfl | exact Or.inr rfl)) (pgs_cons (pg_name (i := 4) sc_first_table.nd rfl (by first | exact Or.inl rfl | exact Or.inr rfl)) pgs_nil)))
      (pss_cons (ps_set (i := 5) sc_first_table.nd rfl (by first | exact Or.inl rfl | exact Or.inr rfl) (pe_ifExp (pt_cmpR op_lt (pv 4) pe_int (nomark _)) (pe_un un_neg pe_int) pe_int))
      (pss_cons (ps_setLc (i := 6) (own := [("k", 7)]) (g := gName 7) (tt := tYes) rfl sc_first_table.nd rfl rfl (sw_true rfl rfl rfl (by decide +kernel)) (pi_range1 rfl T.z_range (pa_cons (pe_callB (id := "len") (call_len_seqK (K := K) rfl) (by rfl) T.z_len PySem.boot_len (pa_cons (pv 1) pa_nil)) pa_nil)) (blkOk_by (own := [("k", 7)]) (N := ["columns", "goal", "table", "row", "number", "sign", "unit", "k", "column", "costs", "numbers"]) (sc := defScope s_first_table) (by decide +kernel)) (fun _ _ _ _ _ => (pg_name (i := 7) sc_first_table.nd rfl (by first | exact Or.inl rfl | exact Or.inr rfl))) (fun _ _ _ _ _ => pts_nil) (fun _ _ _ _ _ => (pe_callTy call_int1 (by rfl) T.z_int (by decide +kernel) (pa_cons (pe_cmpR op_eq (pv 7) (pv 3) (nomark _)) pa_nil))))
      (pss_one (ps_expr (pe_bm PySem.F.plainAttrs_list PySem.F.slot_list_append PySem.F.type_list_append mt_append (pv 2) (pa_cons (pe_op op_cat (pe_op op_cat (pe_lc (own := [("column", 8)]) (g := gName 8) (tt := tYes) rfl sc_first_table.nd (pi_listK (K := K) rfl (pv 0)) (blkOk_by (own := [("column", 8)]) (N := ["columns", "goal", "table", "row", "number", "sign", "unit", "k", "column", "costs", "numbers"]) (sc := defScope s_first_table) (by decide +kernel)) (fun _ _ _ _ _ => (pg_name (i := 8) sc_first_table.nd rfl (by first | exact Or.inl rfl | exact Or.inr rfl))) (fun _ _ _ _ _ => pts_nil) (fun _ _ _ _ _ => (pe_op op_mulW (pv 5) (pe_ix (ix_listK (K := K) rfl) (pv 8) (pv 3) (fun _ _ => rfl))))) (pv 6)) (pe_lst (pa_cons (pe_op op_mulW (pv 5) (pv 4)) pa_nil))) pa_nil)))))))
      (pss_cons (ps_setLc (i := 9) (own := [("k", 7)]) (g := gName 7) (tt := tYes) rfl sc_first_table.nd rfl rfl (sw_true rfl rfl rfl (by decide +kernel)) (pi_range1 rfl T.z_range (pa_cons (pe_callB (id := "len") (call_len_seqK (K := K) rfl) (by rfl) T.z_len PySem.boot_len (pa_cons (pv 0) pa_nil)) pa_nil)) (blkOk_by (own := [("k", 7)]) (N := ["columns", "goal", "table", "row", "number", "sign", "unit", "k", "column", "costs", "numbers"]) (sc := defScope s_first_table) (by decide +kernel)) (fun _ _ _ _ _ => (pg_name (i := 7) sc_first_table.nd rfl (by first | exact Or.inl rfl | exact Or.inr rfl))) (fun _ _ _ _ _ => pts_nil) (fun _ _ _ _ _ => (pe_un un_neg (pe_callB (id := "sum") (cr_sumK (K := K) rfl rfl) (by rfl) T.z_sum (by decide +kernel) (pa_cons (pe_lc (own := [("numbers", 10)]) (g := gName 10) (tt := tYes) rfl sc_first_table.nd (pi_listK (K := K) rfl (pv 2)) (blkOk_by (own := [("numbers", 10)]) (N := ["columns", "goal", "table", "row", "number", "sign", "unit", "k", "column", "costs", "numbers"]) (by rfl)) (fun _ _ _ _ _ => (pg_name (i := 10) sc_first_table.nd rfl (by first | exact Or.inl rfl | exact Or.inr rfl))) (fun _ _ _ _ _ => pts_nil) (fun _ _ _ _ _ => (pe_ix (ix_listK (K := K) rfl) (pv 10) (pv 7) (fun _ _ => rfl)))) pa_nil)))))
      (pss_cons (ps_expr (pe_bm PySem.F.plainAttrs_list PySem.F.slot_list_append PySem.F.type_list_append mt_append (pv 2) (pa_cons (pe_op op_cat (pe_op op_cat (pv 9) (pe_op op_rep (pe_lst (pa_cons pe_int pa_nil)) (pe_callB (id := "len") (call_len_seqK (K := K) rfl) (by rfl) T.z_len PySem.boot_len (pa_cons (pv 1) pa_nil)))) (pe_lst (pa_cons (pe_un un_neg (pe_callB (id := "sum") (cr_sumK (K := K) rfl rfl) (by rfl) T.z_sum (by decide +kernel) (pa_cons (pe_lc (own := [("numbers", 10)]) (g := gName 10) (tt := tYes) rfl sc_first_table.nd (pi_listK (K := K) rfl (pv 2)) (blkOk_by (own := [("numbers", 10)]) (N := ["columns", "goal", "table", "row", "number", "sign", "unit", "k", "column", "costs", "numbers"]) (sc := defScope s_first_table) (by decide +kernel)) (fun _ _ _ _ _ => (pg_name (i := 10) sc_first_table.nd rfl (by first | exact Or.inl rfl | exact Or.inr rfl))) (fun _ _ _ _ _ => pts_nil) (fun _ _ _ _ _ => (pe_ix (ix_listK (K := K) rfl) (pv 10) (pe_un un_neg pe_int) (fun _ _ => rfl)))) pa_nil))) pa_nil))) pa_nil)))
      (pss_one (ps_ret (pv 2))))))), ?_⟩
  try simp only [cxK, cxK2]
  refine def_ret (n := 11) (γ := Empty) (δ := Empty) (body := b_first_table) (Γn := fun _ _ _ _ => []) (Mn := fun _ _ _ _ => []) (Γl := fun _ _ _ _ => []) (Ml := fun _ _ _ _ => []) h rfl (fun _ _ => Nat.le_of_ble_eq_true rfl) (fun _ => rfl) (fun a qs M => ?_)
  unfold b_first_table
  exact (sm_set (em_lst0 (α := (List Int)) (xs := ([] : List (List Int))) av_nil (Nat.le_of_ble_eq_true rfl)) (by decide) (fun b1 ps2 => (sm_for (γ' := ((List (List Int)))) (Γl := fun g5 ps6 => [(0, ((dL (α := (List Int))) a.1)), (1, ((dL (α := Int)) a.2)), (2, dR (ps2 0))]) (Ml := fun g5 ps6 => (((ps2 0), cL (α := (List Int)) g5) :: M)) (xs := fun b3 => (enumI b3)) (g0 := fun b3 => b1) (adds := fun x4 => ([(4, (dI x4.2))] ++ [(3, (dI x4.1))])) (sl := [3, 4]) (f := fun b3 x4 g5 => (R.bind (chk ((True ∧ True) ∧ ((decide (x4.2 < (0 : Int))) = true → True) ∧ ((decide (x4.2 < (0 : Int))) = false → True)) (.ok (if (decide (x4.2 < (0 : Int))) = true then (-(1 : Int)) else (1 : Int)))) fun b7 => (R.bind (R.bind (R.bind (chk (True ∧ True) (.ok ())) fun b => chk (-1000000000 ≤ ((List.length a.2 : Nat) : Int) ∧ ((List.length a.2 : Nat) : Int) ≤ 1000000000) (.ok b)) fun b9 => chk (((rng 0 ((List.length a.2 : Nat) : Int))).length ≤ 16000000 ∧ ∀ x10 ∈ (rng 0 ((List.length a.2 : Nat) : Int)), ((True ∧ True) ∧ True)) (.ok (List.map (fun x10 => (if (decide (x10 = x4.1)) = true then 1 else 0)) (rng 0 ((List.length a.2 : Nat) : Int))))) fun b11 => (R.bind (R.bind (R.bind (R.bind (R.bind (chk True (.ok a.1)) fun b13 => chk ((b13).length ≤ 16000000 ∧ ∀ x14 ∈ b13, (True ∧ (True ∧ True ∧ inR x14 x4.1) ∧ (CMulW b7 (getI x14 x4.1)))) (.ok (List.map (fun x14 => (b7 * (getI x14 x4.1))) b13))) fun a15 => R.bind (chk True (.ok b11)) fun b16 => chk ((a15).length + (b16).length ≤ 16777216) (.ok (a15 ++ b16))) fun a17 => R.bind (chk ((True ∧ True ∧ (CMulW b7 x4.2)) ∧ True) (.ok ([(b7 * x4.2)] : List Int))) fun b18 => chk ((a17).length + (b18).length ≤ 16777216) (.ok (a17 ++ b18))) fun b19 => chk ((g5).length ≤ 16000000) (.ok b19)) fun b19 => (.ok (.nx (g5 ++ [b19]))))))) (fun _ => (fun _ => 0)) (it_enum (α := Int) (β := (List Int)) (xs := fun b => b) (am_av (Ds := fun (b : (List Int)) => [((dL (α := Int)) b)]) (x := a.2) (av_cons (ev_var (i := 1) rfl) av_nil))) (fun _ _ => mk_nil) (fun _ => ⟨rfl, rfl, rfl, trivial⟩) (fun _ => MLe.rfl) (fun x4 => (gt_tup2 (gt_name (by decide)) (gt_name (by decide)))) (fun b3 x4 g5 ps6 => (sm_set (em_ev (β := Int) (D := dI) (ev_if (α := Int) (x := (-(1 : Int))) (y := (1 : Int)) (tv_test (ev_cmp (ev_var (i := 4) rfl) ev_int)) (ev_un ev_int) ev_int)) (by decide) (fun b7 ps8 => (sm_set (em_frz (α := Int) (f := fun (r : (List Int)) => r) (Mf := fun (r : (List Int)) => (((ps2 0), cL (α := (List Int)) g5) :: M)) (em_lcP (η := Int) (M0 := (((ps2 0), cL (α := (List Int)) g5) :: M)) (Γw := [(0, ((dL (α := (List Int))) a.1)), (1, ((dL (α := Int)) a.2)), (2, dR (ps2 0)), (3, (dI x4.1)), (4, (dI x4.2)), (5, (dI b7))]) (adds := fun (x10 : Int) => [(7, (dI x10))]) (sl := [7]) (xs := fun (b9 : Unit) => (rng 0 ((List.length a.2 : Nat) : Int))) (ce := fun (b9 : Unit) (x10 : Int) => ((True ∧ True) ∧ True)) (y := fun (b9 : Unit) (x10 : Int) => (if (decide (x10 = x4.1)) = true then 1 else 0)) (it_range1 (j := fun _ => ((List.length a.2 : Nat) : Int)) (am_av (β := Unit) (Ds := fun _ => [dI ((List.length a.2 : Nat) : Int)]) (x := ()) (av_cons (ev_len (lv_dn (ev_var (i := 1) rfl))) av_nil))) mk_nil ⟨rfl, by decide, rfl, by decide, rfl, by decide, rfl, by decide, rfl, by decide, rfl, by decide, trivial⟩ (fun x10 => (gt_name (by decide))) (by decide) (fun (b9 : Unit) (x10 : Int) => (ev_int_b (av_cons (ev_eqI (ev_var (i := 7) rfl) (ev_var (i := 3) rfl)) av_nil))))) (by decide) (fun b11 ps12 => (sm_last (sm_expr (em_append (α := (List Int)) (xs := g5) (fun _ _ h => h) (y := fun (b19 : (List Int)) => b19) (M1 := fun (b19 : (List Int)) => M) (ev_var (i := 2) rfl) (em_frz (α := Int) (f := fun (r : (List Int)) => r) (Mf := fun (r : (List Int)) => (((ps2 0), cL (α := (List Int)) g5) :: M)) (em_cat (β := (List Int)) (g := fun (a17 : (List Int)) (b18 : (List Int)) => (a17 ++ b18)) (vr := fun (r : (List Int)) => r) (va := fun (a17 : (List Int)) => a17) (vb := fun (a17 : (List Int)) (b18 : (List Int)) => b18) (Mg := fun (r : (List Int)) => (((ps2 0), cL (α := (List Int)) g5) :: M)) (α := Int) (em_frz (α := Int) (f := fun (r : (List Int)) => r) (Mf := fun (r : (List Int)) => (((ps2 0), cL (α := (List Int)) g5) :: M)) (em_cat (β := (List Int)) (g := fun (a15 : (List Int)) (b16 : (List Int)) => (a15 ++ b16)) (vr := fun (r : (List Int)) => r) (va := fun (a15 : (List Int)) => a15) (vb := fun (a15 : (List Int)) (b16 : (List Int)) => b16) (Mg := fun (r : (List Int)) => (((ps2 0), cL (α := (List Int)) g5) :: M)) (α := Int) (em_frz (α := Int) (f := fun (r : (List Int)) => r) (Mf := fun (r : (List Int)) => (((ps2 0), cL (α := (List Int)) g5) :: M)) (em_lcP (η := Int) (M0 := (((ps2 0), cL (α := (List Int)) g5) :: M)) (Γw := [(0, ((dL (α := (List Int))) a.1)), (1, ((dL (α := Int)) a.2)), (2, dR (ps2 0)), (3, (dI x4.1)), (4, (dI x4.2)), (5, (dI b7)), (6, ((dL (α := Int)) b11))]) (adds := fun (x14 : (List Int)) => [(8, ((dL (α := Int)) x14))]) (sl := [8]) (xs := fun (b13 : (List (List Int))) => b13) (ce := fun (b13 : (List (List Int))) (x14 : (List Int)) => (True ∧ (True ∧ True ∧ inR x14 x4.1) ∧ (CMulW b7 (getI x14 x4.1)))) (y := fun (b13 : (List (List Int))) (x14 : (List Int)) => (b7 * (getI x14 x4.1))) (it_list (α := (List Int)) (β := (List (List Int))) (xs := fun (b : (List (List Int))) => b) (em_ev (β := (List (List Int))) (D := (dL (α := (List Int)))) (ev_var (i := 0) rfl))) mk_nil ⟨rfl, by decide, rfl, by decide, rfl, by decide, rfl, by decide, rfl, by decide, rfl, by decide, rfl, by decide, trivial⟩ (fun x14 => (gt_name (by decide))) (by decide) (fun (b13 : (List (List Int))) (x14 : (List Int)) => (ev_opC (ev_var (i := 5) rfl) (ev_ixL (lv_dn (ev_var (i := 8) rfl)) (ev_var (i := 3) rfl)))))) (fun (a15 : (List Int)) => (em_ev (β := (List Int)) (D := (dL (α := Int))) (ev_var (i := 6) rfl))) (fun _ _ => rfl) (fun _ _ => rfl))) (fun (a17 : (List Int)) => (em_frz (α := Int) (f := fun (r : (List Int)) => r) (Mf := fun (r : (List Int)) => (((ps2 0), cL (α := (List Int)) g5) :: M)) (em_lst0 (α := Int) (xs := ([(b7 * x4.2)] : List Int)) (av_cons (ev_opC (ev_var (i := 5) rfl) (ev_var (i := 4) rfl)) av_nil) (Nat.le_of_ble_eq_true rfl)))) (fun _ _ => rfl) (fun _ _ => rfl)))) (fun b19 _ => (sm_nil (fun _ => 0) ⟨rfl, rfl, rfl, trivial⟩ MLe.rfl))))))))) (fun g5 ps6 => (sm_exact (fun vs20 => (sm_set (em_frz (α := Int) (f := fun (r : (List Int)) => r) (Mf := fun (r : (List Int)) => (((ps2 0), cX (α := (List Int)) vs20 g5) :: M)) (em_lcM (η := Int) (M0 := (((ps2 0), cX (α := (List Int)) vs20 g5) :: M)) (Γw := [(0, ((dL (α := (List Int))) a.1)), (1, ((dL (α := Int)) a.2)), (2, dR (ps2 0))]) (adds := fun (x22 : Int) => [(7, (dI x22))]) (sl := [7]) (xs := fun (b21 : Unit) => (rng 0 ((List.length a.1 : Nat) : Int))) (f := fun (b21 : Unit) (x22 : Int) => (R.bind (R.bind (chk True (.ok ())) fun b25 => chk ((g5).length ≤ 16000000 ∧ ∀ x26 ∈ g5, (True ∧ True ∧ inR x26 x22)) (.ok (List.map (fun x26 => (getI x26 x22)) g5))) fun r27 => .ok (-(List.sum r27)))) (it_range1 (j := fun _ => ((List.length a.1 : Nat) : Int)) (am_av (β := Unit) (Ds := fun _ => [dI ((List.length a.1 : Nat) : Int)]) (x := ()) (av_cons (ev_len (lv_dn (ev_var (i := 0) rfl))) av_nil))) mk_nil ⟨rfl, by decide, rfl, by decide, rfl, by decide, trivial⟩ (fun x22 => (gt_name (by decide))) (by decide) (fun (b21 : Unit) (x22 : Int) Dd23 cc24 => em_map (h := fun (r27 : (List Int)) => (-(List.sum r27))) (em_un (v := fun (r : (List Int)) => (List.sum r)) (em_sum (v := fun (r : (List Int)) => r) (em_frz (α := Int) (f := fun (r : (List Int)) => r) (Mf := fun (r : (List Int)) => ((Dd23, cc24) :: (((ps2 0), cX (α := (List Int)) vs20 g5) :: M))) (em_lcP (η := Int) (M0 := ((Dd23, cc24) :: (((ps2 0), cX (α := (List Int)) vs20 g5) :: M))) (Γw := [(0, ((dL (α := (List Int))) a.1)), (1, ((dL (α := Int)) a.2)), (2, dR (ps2 0)), (7, (dI x22))]) (adds := fun (x26 : (List Int)) => [(10, ((dL (α := Int)) x26))]) (sl := [10]) (xs := fun (b25 : Unit) => g5) (ce := fun (b25 : Unit) (x26 : (List Int)) => (True ∧ True ∧ inR x26 x22)) (y := fun (b25 : Unit) (x26 : (List Int)) => (getI x26 x22)) (it_ownX 1 (ev_var (i := 2) rfl) rfl) (mk_one 1 rfl) ⟨rfl, by decide, rfl, by decide, rfl, by decide, rfl, by decide, trivial⟩ (fun x26 => (gt_name (by decide))) (by decide) (fun (b25 : Unit) (x26 : (List Int)) => (ev_ixL (lv_dn (ev_var (i := 10) rfl)) (ev_var (i := 7) rfl))))))) (fun _ _ => rfl) (fun _ _ => MLe.rfl)))) (by decide) (fun b28 ps29 => (sm_in (MLe.weak cX_cL) (sm_exact (fun vs30 => (sm_expr (em_append (α := (List Int)) (xs := g5) cX_cL (y := fun (b43 : (List Int)) => b43) (M1 := fun (b43 : (List Int)) => M) (ev_var (i := 2) rfl) (em_frz (α := Int) (f := fun (r : (List Int)) => r) (Mf := fun (r : (List Int)) => (((ps2 0), cX (α := (List Int)) vs30 g5) :: M)) (em_cat (β := (List Int)) (g := fun (a35 : (List Int)) (b36 : ((List Int) × Unit)) => (a35 ++ [(-(List.sum b36.1))])) (vr := fun (r : (List Int)) => r) (va := fun (a35 : (List Int)) => a35) (vb := fun (a35 : (List Int)) (b36 : ((List Int) × Unit)) => [(-(List.sum b36.1))]) (Mg := fun (r : (List Int)) => (((ps2 0), cX (α := (List Int)) vs30 g5) :: M)) (α := Int) (em_frz (α := Int) (f := fun (r : (List Int)) => r) (Mf := fun (r : (List Int)) => (((ps2 0), cX (α := (List Int)) vs30 g5) :: M)) (em_cat (β := (List Int)) (g := fun (a31 : (List Int)) (b32 : (List Int)) => (a31 ++ b32)) (vr := fun (r : (List Int)) => r) (va := fun (a31 : (List Int)) => a31) (vb := fun (a31 : (List Int)) (b32 : (List Int)) => b32) (Mg := fun (r : (List Int)) => (((ps2 0), cX (α := (List Int)) vs30 g5) :: M)) (α := Int) (em_ev (β := (List Int)) (D := (dL (α := Int))) (ev_var (i := 9) rfl)) (fun (a31 : (List Int)) => (em_frz (α := Int) (f := fun (r : (List Int)) => r) (Mf := fun (r : (List Int)) => (((ps2 0), cX (α := (List Int)) vs30 g5) :: M)) (em_rep (β := (List Int)) (g := fun (a33 : (List Int)) (b34 : Int) => (List.flatten (List.replicate (Int.toNat b34) a33))) (vr := fun (r : (List Int)) => r) (va := fun (a33 : (List Int)) => a33) (vb := fun (a33 : (List Int)) (b34 : Int) => b34) (Mg := fun (r : (List Int)) => (((ps2 0), cX (α := (List Int)) vs30 g5) :: M)) (α := Int) (em_frz (α := Int) (f := fun (r : (List Int)) => r) (Mf := fun (r : (List Int)) => (((ps2 0), cX (α := (List Int)) vs30 g5) :: M)) (em_lst0 (α := Int) (xs := ([(0 : Int)] : List Int)) (av_cons ev_int av_nil) (Nat.le_of_ble_eq_true rfl))) (fun (a33 : (List Int)) => (em_ev (β := Int) (D := dI) (ev_len (lv_dn (ev_var (i := 1) rfl))))) (fun _ _ => rfl) (fun _ _ => rfl)))) (fun _ _ => rfl) (fun _ _ => rfl))) (fun (a35 : (List Int)) => (em_frz (α := Int) (f := fun (r : ((List Int) × Unit)) => [(-(List.sum r.1))]) (Mf := fun (r : ((List Int) × Unit)) => (((ps2 0), cX (α := (List Int)) vs30 g5) :: M)) (em_lst (α := Int) (f := fun (r : ((List Int) × Unit)) => [(-(List.sum r.1))]) (am_cons (g := fun (a : (List Int)) (b : Unit) => (a, b)) (Ds := fun (r : ((List Int) × Unit)) => [(dI (-(List.sum r.1)))]) (Mf := fun (r : ((List Int) × Unit)) => (((ps2 0), cX (α := (List Int)) vs30 g5) :: M)) (em_un (v := fun (r : (List Int)) => (List.sum r)) (em_sum (v := fun (r : (List Int)) => r) (em_frz (α := Int) (f := fun (r : (List Int)) => r) (Mf := fun (r : (List Int)) => (((ps2 0), cX (α := (List Int)) vs30 g5) :: M)) (em_lcP (η := Int) (M0 := (((ps2 0), cX (α := (List Int)) vs30 g5) :: M)) (Γw := [(0, ((dL (α := (List Int))) a.1)), (1, ((dL (α := Int)) a.2)), (2, dR (ps2 0)), (9, ((dL (α := Int)) b28))]) (adds := fun (x40 : (List Int)) => [(10, ((dL (α := Int)) x40))]) (sl := [10]) (xs := fun (b39 : Unit) => g5) (ce := fun (b39 : Unit) (x40 : (List Int)) => (True ∧ True ∧ inR x40 (-(1 : Int)))) (y := fun (b39 : Unit) (x40 : (List Int)) => (getI x40 (-(1 : Int)))) (it_ownX 0 (ev_var (i := 2) rfl) rfl) (mk_one 0 rfl) ⟨rfl, by decide, rfl, by decide, rfl, by decide, rfl, by decide, trivial⟩ (fun x40 => (gt_name (by decide))) (by decide) (fun (b39 : Unit) (x40 : (List Int)) => (ev_ixL (lv_dn (ev_var (i := 10) rfl)) (ev_un ev_int))))))) (fun (a41 : (List Int)) => am_nil) (fun _ _ => rfl) (fun _ _ => rfl)) (fun _ => Nat.le_of_ble_eq_true rfl)))) (fun _ _ => rfl) (fun _ _ => rfl)))) (fun b43 _ => (sm_frz 2 rfl (sm_ret (g := fun b44 => b44) (em_ev (β := (List (List Int))) (D := (dL (α := (List Int)))) (ev_var (i := 2) rfl)) (fun _ _ => rfl) (fun _ _ => MLe.rfl))))))))))))))))
end
noncomputable def b_entering (a : ((List Int) × Int)) : R (Out Empty Empty Int) :=
  (R.bind (R.bind (chk (True ∧ True) (.ok ())) fun b => chk (-1000000000 ≤ a.2 ∧ a.2 ≤ 1000000000) (.ok b)) fun b1 => seqO (forR (γ := Unit) (fun x2 g3 => (seqO (γ := Unit) (chk ((True ∧ True ∧ inR a.1 x2) ∧ True) (if (decide ((getI a.1 x2) < (0 : Int))) = true then (R.bind (chk True (.ok x2)) fun b6 => .ok (.rt b6)) else (.ok (.nx ())))) fun g7 => (.ok (.nx ())))) (rng 0 a.2) ()) fun g3 => (R.bind (chk True (.ok (-(1 : Int)))) fun b8 => .ok (.rt b8)))
noncomputable def m_entering (a : ((List Int) × Int)) : R Int := runE (b_entering a)
abbrev sp_entering (K : PySem.W.Frag) (ad : Ad) : Sp := SpG (xd ad) (α := ((List Int) × Int)) (β := Int) (fun a qs => [((dL (α := Int)) a.1), (dI a.2)]) (fun a qs => []) m_entering (fun a qs r ps => (dI r)) (fun a qs r ps => [])
section
variable {P : Program} {w : World} {K : PySem.W.Frag} {mg : Str → Option Value} {base : Heap} {ad : Ad}
theorem ok_entering (T : Txt P K mg ad) : FnOk P w K mg base CX0 1 ad.f_entering ad.d_entering ["costs", "count"] (sp_entering K ad) := by
  refine T.F_entering.ok sc_entering (fun vs H Q E h => spg_len (k := 2) (fun _ _ => rfl) h) (fun cdv A outer s H vs Q E hr h => ?_)
  have hu := hu_of hr
  refine ⟨_, (pss_cons (ps_for PassesOwn.never rfl (pi_range1 rfl T.z_range (pa_cons (pv 1) pa_nil)) (pg_name (i := 2) sc_entering.nd rfl (by first | exact Or.inl rfl | exact Or.inr rfl))
      (pss_one (ps_if (pt_cmpR op_lt (pe_ix (ix_listK (K := K) rfl) (pv 0) (pv 2) (fun _ _ => rfl)) pe_int (nomark _)) (pss_one (ps_ret (pv 2))) pss_nil)))
      (pss_one (ps_ret (pe_un un_neg pe_int)))), ?_⟩
  try simp only [cxK, cxK2]
  refine def_ret (n := 3) (γ := Empty) (δ := Empty) (body := b_entering) (Γn := fun _ _ _ _ => []) (Mn := fun _ _ _ _ => []) (Γl := fun _ _ _ _ => []) (Ml := fun _ _ _ _ => []) h rfl (fun _ _ => Nat.le_of_ble_eq_true rfl) (fun _ => rfl) (fun a qs M => ?_)
  unfold b_entering
  exact (sm_for (γ' := Unit) (Γl := fun g3 ps4 => [(0, ((dL (α := Int)) a.1)), (1, (dI a.2))]) (Ml := fun g3 ps4 => M) (xs := fun b1 => (rng 0 a.2)) (g0 := fun b1 => ()) (adds := fun x2 => [(2, (dI x2))]) (sl := [2]) (f := fun b1 x2 g3 => (seqO (γ := Unit) (chk ((True ∧ True ∧ inR a.1 x2) ∧ True) (if (decide ((getI a.1 x2) < (0 : Int))) = true then (R.bind (chk True (.ok x2)) fun b6 => .ok (.rt b6)) else (.ok (.nx ())))) fun g7 => (.ok (.nx ())))) (fun _ => (fun _ => 0)) (it_range1 (j := fun _ => a.2) (am_av (β := Unit) (Ds := fun _ => [dI a.2]) (x := ()) (av_cons (ev_var (i := 1) rfl) av_nil))) (fun _ _ => mk_nil) (fun _ => ⟨rfl, rfl, trivial⟩) (fun _ => MLe.rfl) (fun x2 => (gt_name (by decide))) (fun b1 x2 g3 ps4 => (sm_last (sm_seq (γ' := Unit) (Γ1 := fun g7 _ => [(0, ((dL (α := Int)) a.1)), (1, (dI a.2)), (2, (dI x2))]) (M1 := fun g7 _ => M) (sm_if (tv_test (ev_cmp (ev_ixL (lv_dn (ev_var (i := 0) rfl)) (ev_var (i := 2) rfl)) ev_int)) (fun _ => (sm_ret (g := fun b6 => b6) (em_ev (β := Int) (D := dI) (ev_var (i := 2) rfl)) (fun _ _ => rfl) (fun _ _ => MLe.rfl))) (fun _ => (sm_nil (fun _ => 0) ⟨rfl, rfl, rfl, trivial⟩ MLe.rfl))) (fun g7 _ => (sm_nil (fun _ => 0) ⟨rfl, rfl, trivial⟩ MLe.rfl))))) (fun g3 ps4 => (sm_ret (g := fun b8 => b8) (em_ev (β := Int) (D := dI) (ev_un ev_int)) (fun _ _ => rfl) (fun _ _ => MLe.rfl))))
end
noncomputable def b_is_tighter (a : ((List (List Int)) × (List Int) × Int × Int × Int)) : R (Out Empty Empty Bool) :=
  (R.bind (chk (((True ∧ True ∧ inR a.1 a.2.2.2.1) ∧ True ∧ inR (getI a.1 a.2.2.2.1) (-(1 : Int))) ∧ ((True ∧ True ∧ inR a.1 a.2.2.2.2) ∧ True ∧ inR (getI a.1 a.2.2.2.2) a.2.2.1) ∧ (CMulW (getI (getI a.1 a.2.2.2.1) (-(1 : Int))) (getI (getI a.1 a.2.2.2.2) a.2.2.1))) (.ok ((getI (getI a.1 a.2.2.2.1) (-(1 : Int))) * (getI (getI a.1 a.2.2.2.2) a.2.2.1)))) fun b1 => (R.bind (chk (((True ∧ True ∧ inR a.1 a.2.2.2.2) ∧ True ∧ inR (getI a.1 a.2.2.2.2) (-(1 : Int))) ∧ ((True ∧ True ∧ inR a.1 a.2.2.2.1) ∧ True ∧ inR (getI a.1 a.2.2.2.1) a.2.2.1) ∧ (CMulW (getI (getI a.1 a.2.2.2.2) (-(1 : Int))) (getI (getI a.1 a.2.2.2.1) a.2.2.1))) (.ok ((getI (getI a.1 a.2.2.2.2) (-(1 : Int))) * (getI (getI a.1 a.2.2.2.1) a.2.2.1)))) fun b3 => (R.bind (chk ((True ∧ True) ∧ ((decide (b1 < b3)) = false → ((True ∧ True) ∧ ((decide (b1 = b3)) = true → ((True ∧ True ∧ inR a.2.1 a.2.2.2.1) ∧ (True ∧ True ∧ inR a.2.1 a.2.2.2.2)))))) (.ok ((decide (b1 < b3)) || ((decide (b1 = b3)) && (decide ((getI a.2.1 a.2.2.2.1) < (getI a.2.1 a.2.2.2.2))))))) fun b5 => .ok (.rt b5))))
noncomputable def m_is_tighter (a : ((List (List Int)) × (List Int) × Int × Int × Int)) : R Bool := runE (b_is_tighter a)
abbrev sp_is_tighter (K : PySem.W.Frag) (ad : Ad) : Sp := SpG (xd ad) (α := ((List (List Int)) × (List Int) × Int × Int × Int)) (β := Bool) (fun a qs => [((dL (α := (List Int))) a.1), ((dL (α := Int)) a.2.1), (dI a.2.2.1), (dI a.2.2.2.1), (dI a.2.2.2.2)]) (fun a qs => []) m_is_tighter (fun a qs r ps => (dB r)) (fun a qs r ps => [])
section
variable {P : Program} {w : World} {K : PySem.W.Frag} {mg : Str → Option Value} {base : Heap} {ad : Ad}
theorem ok_is_tighter (T : Txt P K mg ad) : FnOk P w K mg base CX0 1 ad.f_is_tighter ad.d_is_tighter ["table", "basis", "column", "one", "other"] (sp_is_tighter K ad) := by
  refine T.F_is_tighter.ok sc_is_tighter (fun vs H Q E h => spg_len (k := 5) (fun _ _ => rfl) h) (fun cdv A outer s H vs Q E hr h => ?_)
  have hu := hu_of hr
  refine ⟨_, (pss_cons (ps_set (i := 5) sc_is_tighter.nd rfl (by first | exact Or.inl rfl | exact Or.inr rfl) (pe_op op_mulW (pe_ix (ix_listK (K := K) rfl) (pe_ix (ix_listK (K := K) rfl) (pv 0) (pv 3) (fun _ _ => rfl)) (pe_un un_neg pe_int) (fun _ _ => rfl)) (pe_ix (ix_listK (K := K) rfl) (pe_ix (ix_listK (K := K) rfl) (pv 0) (pv 4) (fun _ _ => rfl)) (pv 2) (fun _ _ => rfl))))
      (pss_cons (ps_set (i := 6) sc_is_tighter.nd rfl (by first | exact Or.inl rfl | exact Or.inr rfl) (pe_op op_mulW (pe_ix (ix_listK (K := K) rfl) (pe_ix (ix_listK (K := K) rfl) (pv 0) (pv 4) (fun _ _ => rfl)) (pe_un un_neg pe_int) (fun _ _ => rfl)) (pe_ix (ix_listK (K := K) rfl) (pe_ix (ix_listK (K := K) rfl) (pv 0) (pv 3) (fun _ _ => rfl)) (pv 2) (fun _ _ => rfl))))
      (pss_one (ps_ret (pe_or (pe_cmpR op_lt (pv 5) (pv 6) (nomark _)) (pe_one (pe_and (pe_cmpR op_eq (pv 5) (pv 6) (nomark _)) (pe_one (pe_cmpR op_lt (pe_ix (ix_listK (K := K) rfl) (pv 1) (pv 3) (fun _ _ => rfl)) (pe_ix (ix_listK (K := K) rfl) (pv 1) (pv 4) (fun _ _ => rfl)) (nomark _)))))))))), ?_⟩
  try simp only [cxK, cxK2]
  refine def_ret (n := 7) (γ := Empty) (δ := Empty) (body := b_is_tighter) (Γn := fun _ _ _ _ => []) (Mn := fun _ _ _ _ => []) (Γl := fun _ _ _ _ => []) (Ml := fun _ _ _ _ => []) h rfl (fun _ _ => Nat.le_of_ble_eq_true rfl) (fun _ => rfl) (fun a qs M => ?_)
  unfold b_is_tighter
  exact (sm_set (em_ev (β := Int) (D := dI) (ev_opC (ev_ixL (lv_dn (ev_ixL (lv_dn (ev_var (i := 0) rfl)) (ev_var (i := 3) rfl))) (ev_un ev_int)) (ev_ixL (lv_dn (ev_ixL (lv_dn (ev_var (i := 0) rfl)) (ev_var (i := 4) rfl))) (ev_var (i := 2) rfl)))) (by decide) (fun b1 ps2 => (sm_set (em_ev (β := Int) (D := dI) (ev_opC (ev_ixL (lv_dn (ev_ixL (lv_dn (ev_var (i := 0) rfl)) (ev_var (i := 4) rfl))) (ev_un ev_int)) (ev_ixL (lv_dn (ev_ixL (lv_dn (ev_var (i := 0) rfl)) (ev_var (i := 3) rfl))) (ev_var (i := 2) rfl)))) (by decide) (fun b3 ps4 => (sm_ret (g := fun b5 => b5) (em_ev (β := Bool) (D := dB) (ev_or (ev_cmp (ev_var (i := 5) rfl) (ev_var (i := 6) rfl)) (ev_and (ev_eqI (ev_var (i := 5) rfl) (ev_var (i := 6) rfl)) (ev_cmp (ev_ixL (lv_dn (ev_var (i := 1) rfl)) (ev_var (i := 3) rfl)) (ev_ixL (lv_dn (ev_var (i := 1) rfl)) (ev_var (i := 4) rfl)))))) (fun _ _ => rfl) (fun _ _ => MLe.rfl))))))
end
noncomputable def b_leaving (a : ((List (List Int)) × (List Int) × Int)) : R (Out Empty Empty Int) :=
  (R.bind (chk True (.ok (-(1 : Int)))) fun b1 => (R.bind (R.bind (chk (True ∧ True) (.ok ())) fun b => chk (-1000000000 ≤ ((List.length a.2.1 : Nat) : Int) ∧ ((List.length a.2.1 : Nat) : Int) ≤ 1000000000) (.ok b)) fun b3 => seqO (forR (γ := (Int)) (fun x4 g5 => (seqO (γ := (Int)) (R.bind (R.bind (chk (((True ∧ True ∧ inR a.1 x4) ∧ True ∧ inR (getI a.1 x4) a.2.2) ∧ True) (.ok (decide ((0 : Int) < (getI (getI a.1 x4) a.2.2))))) fun a9 => if a9 = true then R.bind (R.bind (chk (True ∧ True) (.ok (decide (g5 < (0 : Int))))) fun a7 => if a7 = true then .ok true else R.bind (chk (True ∧ (True ∧ (True ∧ (True ∧ (True ∧ True))))) (R.nx (m_is_tighter (a.1, a.2.1, a.2.2, x4, g5)))) fun b8 => .ok b8) fun b10 => .ok b10 else .ok false) fun r11 => if r11 = true then (R.bind (chk True (.ok x4)) fun b12 => (.ok (.nx b12))) else (.ok (.nx g5))) fun g14 => (.ok (.nx g14)))) (rng 0 ((List.length a.2.1 : Nat) : Int)) b1) fun g5 => (R.bind (chk True (.ok g5)) fun b15 => .ok (.rt b15))))
noncomputable def m_leaving (a : ((List (List Int)) × (List Int) × Int)) : R Int := runE (b_leaving a)
abbrev sp_leaving (K : PySem.W.Frag) (ad : Ad) : Sp := SpG (xd ad) (α := ((List (List Int)) × (List Int) × Int)) (β := Int) (fun a qs => [((dL (α := (List Int))) a.1), ((dL (α := Int)) a.2.1), (dI a.2.2)]) (fun a qs => []) m_leaving (fun a qs r ps => (dI r)) (fun a qs r ps => [])
section
variable {P : Program} {w : World} {K : PySem.W.Frag} {mg : Str → Option Value} {base : Heap} {ad : Ad}
theorem ok_leaving (T : Txt P K mg ad) : FnOk P w K mg base CX0 2 ad.f_leaving ad.d_leaving ["table", "basis", "column"] (sp_leaving K ad) := by
  refine T.F_leaving.ok sc_leaving (fun vs H Q E h => spg_len (k := 3) (fun _ _ => rfl) h) (fun cdv A outer s H vs Q E hr h => ?_)
  have hu := hu_of hr
  refine ⟨_, (pss_cons (ps_set (i := 3) sc_leaving.nd rfl (by first | exact Or.inl rfl | exact Or.inr rfl) (pe_un un_neg pe_int))
      (pss_cons (ps_for PassesOwn.never rfl (pi_range1 rfl T.z_range (pa_cons (pe_callB (id := "len") (call_len_seqK (K := K) rfl) (by rfl) T.z_len PySem.boot_len (pa_cons (pv 1) pa_nil)) pa_nil)) (pg_name (i := 4) sc_leaving.nd rfl (by first | exact Or.inl rfl | exact Or.inr rfl))
      (pss_one (ps_if (PW.pt (pw_and (pt_cmpR op_gt (pe_ix (ix_listK (K := K) rfl) (pe_ix (ix_listK (K := K) rfl) (pv 0) (pv 4) (fun _ _ => rfl)) (pv 2) (fun _ _ => rfl)) pe_int (nomark _)) (pw_and1 (PW.pt (pw_or (pt_cmpR op_lt (pv 3) pe_int (nomark _)) (pw_or1 (pt_val (pe_call (ok_is_tighter (P := P) (w := w) (K := K) (mg := mg) (base := base) T) (hr.mono (by decide)) (by rfl) T.g_is_tighter T.F_is_tighter.kp T.B_is_tighter .nil pass0 (pa_cons (pv 0) (pa_cons (pv 1) (pa_cons (pv 2) (pa_cons (pv 4) (pa_cons (pv 3) pa_nil))))))))))))) (pss_one (ps_set (i := 3) sc_leaving.nd rfl (by first | exact Or.inl rfl | exact Or.inr rfl) (pv 4))) pss_nil)))
      (pss_one (ps_ret (pv 3))))), ?_⟩
  try simp only [cxK, cxK2]
  refine def_ret (n := 5) (γ := Empty) (δ := Empty) (body := b_leaving) (Γn := fun _ _ _ _ => []) (Mn := fun _ _ _ _ => []) (Γl := fun _ _ _ _ => []) (Ml := fun _ _ _ _ => []) h rfl (fun _ _ => Nat.le_of_ble_eq_true rfl) (fun _ => rfl) (fun a qs M => ?_)
  unfold b_leaving
  exact (sm_set (em_ev (β := Int) (D := dI) (ev_un ev_int)) (by decide) (fun b1 ps2 => (sm_for (γ' := (Int)) (Γl := fun g5 ps6 => [(0, ((dL (α := (List Int))) a.1)), (1, ((dL (α := Int)) a.2.1)), (2, (dI a.2.2)), (3, (dI g5))]) (Ml := fun g5 ps6 => M) (xs := fun b3 => (rng 0 ((List.length a.2.1 : Nat) : Int))) (g0 := fun b3 => b1) (adds := fun x4 => [(4, (dI x4))]) (sl := [4]) (f := fun b3 x4 g5 => (seqO (γ := (Int)) (R.bind (R.bind (chk (((True ∧ True ∧ inR a.1 x4) ∧ True ∧ inR (getI a.1 x4) a.2.2) ∧ True) (.ok (decide ((0 : Int) < (getI (getI a.1 x4) a.2.2))))) fun a9 => if a9 = true then R.bind (R.bind (chk (True ∧ True) (.ok (decide (g5 < (0 : Int))))) fun a7 => if a7 = true then .ok true else R.bind (chk (True ∧ (True ∧ (True ∧ (True ∧ (True ∧ True))))) (R.nx (m_is_tighter (a.1, a.2.1, a.2.2, x4, g5)))) fun b8 => .ok b8) fun b10 => .ok b10 else .ok false) fun r11 => if r11 = true then (R.bind (chk True (.ok x4)) fun b12 => (.ok (.nx b12))) else (.ok (.nx g5))) fun g14 => (.ok (.nx g14)))) (fun _ => (fun _ => 0)) (it_range1 (j := fun _ => ((List.length a.2.1 : Nat) : Int)) (am_av (β := Unit) (Ds := fun _ => [dI ((List.length a.2.1 : Nat) : Int)]) (x := ()) (av_cons (ev_len (lv_dn (ev_var (i := 1) rfl))) av_nil))) (fun _ _ => mk_nil) (fun _ => ⟨rfl, rfl, rfl, rfl, trivial⟩) (fun _ => MLe.rfl) (fun x4 => (gt_name (by decide))) (fun b3 x4 g5 ps6 => (sm_last (sm_seq (γ' := (Int)) (Γ1 := fun g14 _ => [(0, ((dL (α := (List Int))) a.1)), (1, ((dL (α := Int)) a.2.1)), (2, (dI a.2.2)), (3, (dI g14)), (4, (dI x4))]) (M1 := fun g14 _ => M) (sm_ifM (b := fun (r11 : Bool) => r11) (tm_and (b1 := fun (r : Bool) => r) (b2 := fun (r : Bool) => r) (tm_tv (tv_test (ev_cmp (ev_ixL (lv_dn (ev_ixL (lv_dn (ev_var (i := 0) rfl)) (ev_var (i := 4) rfl))) (ev_var (i := 2) rfl)) ev_int))) (tm_or (b1 := fun (r : Bool) => r) (b2 := fun (r : Bool) => r) (tm_tv (tv_test (ev_cmp (ev_var (i := 3) rfl) ev_int))) (tm_emB (b := fun (r : Bool) => r) (em_callP0 (a := (a.1, a.2.1, a.2.2, x4, g5)) (av_cons (ev_var (i := 0) rfl) (av_cons (ev_var (i := 1) rfl) (av_cons (ev_var (i := 2) rfl) (av_cons (ev_var (i := 4) rfl) (av_cons (ev_var (i := 3) rfl) av_nil))))) rfl (fun _ _ => rfl))))) (fun r11 _ _ => (sm_last (sm_set (em_ev (β := Int) (D := dI) (ev_var (i := 4) rfl)) (by decide) (fun b12 ps13 => (sm_nil (fun _ => 0) ⟨rfl, rfl, rfl, rfl, rfl, trivial⟩ MLe.rfl))))) (fun r11 _ _ => (sm_nil (fun _ => 0) ⟨rfl, rfl, rfl, rfl, rfl, trivial⟩ MLe.rfl))) (fun g14 _ => (sm_nil (fun _ => 0) ⟨rfl, rfl, rfl, rfl, trivial⟩ MLe.rfl))))) (fun g5 ps6 => (sm_ret (g := fun b15 => b15) (em_ev (β := Int) (D := dI) (ev_var (i := 3) rfl)) (fun _ _ => rfl) (fun _ _ => MLe.rfl))))))
end
noncomputable def b_pivoted (a : ((List (List Int)) × Int × Int × Int)) : R (Out Empty Empty (List (List Int))) :=
  (R.bind (chk (True ∧ True ∧ inR a.1 a.2.1) (.ok (getI a.1 a.2.1))) fun b1 => (R.bind (chk True (.ok ([] : List (List Int)))) fun b3 => (R.bind (chk (True ∧ True) (.ok a.1)) fun b5 => seqO (forR (γ := ((List (List Int)))) (fun x6 g7 => (seqO (γ := ((List (List Int)))) (chk (True ∧ True) (if (decide (x6.1 = a.2.1)) = true then (R.bind (R.bind (chk True (.ok b1)) fun b10 => chk ((g7).length ≤ 16000000) (.ok b10)) fun b10 => (.ok (.nx (g7 ++ [b10])))) else (R.bind (R.bind (R.bind (chk (True ∧ True ∧ True) (.ok ())) fun b11 => chk (((List.zip x6.2 b1)).length ≤ 16000000 ∧ ∀ x12 ∈ (List.zip x6.2 b1), ((((True ∧ True ∧ inR b1 a.2.2.1) ∧ True ∧ (CMulW (getI b1 a.2.2.1) x12.1)) ∧ ((True ∧ True ∧ inR x6.2 a.2.2.1) ∧ True ∧ (CMulW (getI x6.2 a.2.2.1) x12.2))) ∧ True ∧ (Tr.CDivS (((getI b1 a.2.2.1) * x12.1) - ((getI x6.2 a.2.2.1) * x12.2)) a.2.2.2))) (.ok (List.map (fun x12 => (Int.fdiv (((getI b1 a.2.2.1) * x12.1) - ((getI x6.2 a.2.2.1) * x12.2)) a.2.2.2)) (List.zip x6.2 b1)))) fun b13 => chk ((g7).length ≤ 16000000) (.ok b13)) fun b13 => (.ok (.nx (g7 ++ [b13])))))) fun g14 => (.ok (.nx g14)))) (enumI b5) b3) fun g7 => (R.bind (chk True (.ok g7)) fun b15 => .ok (.rt b15)))))
noncomputable def m_pivoted (a : ((List (List Int)) × Int × Int × Int)) : R (List (List Int)) := runE (b_pivoted a)
abbrev sp_pivoted (K : PySem.W.Frag) (ad : Ad) : Sp := SpG (xd ad) (α := ((List (List Int)) × Int × Int × Int)) (β := (List (List Int))) (fun a qs => [((dL (α := (List Int))) a.1), (dI a.2.1), (dI a.2.2.1), (dI a.2.2.2)]) (fun a qs => []) m_pivoted (fun a qs r ps => ((dL (α := (List Int))) r)) (fun a qs r ps => [])
section
variable {P : Program} {w : World} {K : PySem.W.Frag} {mg : Str → Option Value} {base : Heap} {ad : Ad}
theorem ok_pivoted (T : Txt P K mg ad) : FnOk P w K mg base CX0 1 ad.f_pivoted ad.d_pivoted ["table", "row", "column", "scale"] (sp_pivoted K ad) := by
  refine T.F_pivoted.ok sc_pivoted (fun vs H Q E h => spg_len (k := 4) (fun _ _ => rfl) h) (fun cdv A outer s H vs Q E hr h => ?_)
  have hu := hu_of hr
  refine ⟨_, (pss_cons (ps_set (i := 4) sc_pivoted.nd rfl (by first | exact Or.inl rfl | exact Or.inr rfl) (pe_ix (ix_listK (K := K) rfl) (pv 0) (pv 1) (fun _ _ => rfl)))
      (pss_cons (ps_set (i := 5) sc_pivoted.nd rfl (by first | exact Or.inl rfl | exact Or.inr rfl) (pe_lst pa_nil))
      (pss_cons (ps_for PassesOwn.never rfl (pi_enumK (K := K) rfl (by rfl) T.z_enumerate (pa_cons (pv 0) pa_nil)) (pg_tupK (K := K) (n := 2) rfl rfl (pgs_cons (pg_name (i := 6) sc_pivoted.nd rfl (by first | exact Or.inl rfl | exact Or.inr rfl)) (pgs_cons (pg_name (i := 7) sc_pivoted.nd rfl (by first | exact Or.inl rfl | exact Or.inr rfl)) pgs_nil)))
      (pss_one (ps_if (pt_cmpR op_eq (pv 6) (pv 1) (nomark _)) (pss_one (ps_expr (pe_bm PySem.F.plainAttrs_list PySem.F.slot_list_append PySem.F.type_list_append mt_append (pv 5) (pa_cons (pv 4) pa_nil)))) (pss_one (ps_expr (pe_bm PySem.F.plainAttrs_list PySem.F.slot_list_append PySem.F.type_list_append mt_append (pv 5) (pa_cons (pe_lc (own := [("a", 8), ("b", 9)]) (tt := tYes) rfl sc_pivoted.nd (pi_zipK (K := K) rfl (by rfl) T.z_zip (pa_cons (pv 7) (pa_cons (pv 4) pa_nil))) (blkOk_by (own := [("a", 8), ("b", 9)]) (N := ["table", "row", "column", "scale", "lead", "done", "k", "numbers", "a", "b"]) (sc := defScope s_pivoted) (by decide +kernel)) (fun _ _ _ _ _ => (pg_tupK (K := K) (n := 2) rfl rfl (pgs_cons (pg_name (i := 8) sc_pivoted.nd rfl (by first | exact Or.inl rfl | exact Or.inr rfl)) (pgs_cons (pg_name (i := 9) sc_pivoted.nd rfl (by first | exact Or.inl rfl | exact Or.inr rfl)) pgs_nil)))) (fun _ _ _ _ _ => pts_nil) (fun _ _ _ _ _ => (pe_op op_fdivS (pe_op op_sub (pe_op op_mulW (pe_ix (ix_listK (K := K) rfl) (pv 4) (pv 2) (fun _ _ => rfl)) (pv 8)) (pe_op op_mulW (pe_ix (ix_listK (K := K) rfl) (pv 7) (pv 2) (fun _ _ => rfl)) (pv 9))) (pv 3)))) pa_nil)))))))
      (pss_one (ps_ret (pv 5)))))), ?_⟩
  try simp only [cxK, cxK2]
  refine def_ret (n := 10) (γ := Empty) (δ := Empty) (body := b_pivoted) (Γn := fun _ _ _ _ => []) (Mn := fun _ _ _ _ => []) (Γl := fun _ _ _ _ => []) (Ml := fun _ _ _ _ => []) h rfl (fun _ _ => Nat.le_of_ble_eq_true rfl) (fun _ => rfl) (fun a qs M => ?_)
  unfold b_pivoted
  exact (sm_set (em_ev (β := (List Int)) (D := (dL (α := Int))) (ev_ixL (lv_dn (ev_var (i := 0) rfl)) (ev_var (i := 1) rfl))) (by decide) (fun b1 ps2 => (sm_set (em_lst0 (α := (List Int)) (xs := ([] : List (List Int))) av_nil (Nat.le_of_ble_eq_true rfl)) (by decide) (fun b3 ps4 => (sm_for (γ' := ((List (List Int)))) (Γl := fun g7 ps8 => [(0, ((dL (α := (List Int))) a.1)), (1, (dI a.2.1)), (2, (dI a.2.2.1)), (3, (dI a.2.2.2)), (4, ((dL (α := Int)) b1)), (5, dR (ps4 0))]) (Ml := fun g7 ps8 => (((ps4 0), cL (α := (List Int)) g7) :: M)) (xs := fun b5 => (enumI b5)) (g0 := fun b5 => b3) (adds := fun x6 => ([(7, ((dL (α := Int)) x6.2))] ++ [(6, (dI x6.1))])) (sl := [6, 7]) (f := fun b5 x6 g7 => (seqO (γ := ((List (List Int)))) (chk (True ∧ True) (if (decide (x6.1 = a.2.1)) = true then (R.bind (R.bind (chk True (.ok b1)) fun b10 => chk ((g7).length ≤ 16000000) (.ok b10)) fun b10 => (.ok (.nx (g7 ++ [b10])))) else (R.bind (R.bind (R.bind (chk (True ∧ True ∧ True) (.ok ())) fun b11 => chk (((List.zip x6.2 b1)).length ≤ 16000000 ∧ ∀ x12 ∈ (List.zip x6.2 b1), ((((True ∧ True ∧ inR b1 a.2.2.1) ∧ True ∧ (CMulW (getI b1 a.2.2.1) x12.1)) ∧ ((True ∧ True ∧ inR x6.2 a.2.2.1) ∧ True ∧ (CMulW (getI x6.2 a.2.2.1) x12.2))) ∧ True ∧ (Tr.CDivS (((getI b1 a.2.2.1) * x12.1) - ((getI x6.2 a.2.2.1) * x12.2)) a.2.2.2))) (.ok (List.map (fun x12 => (Int.fdiv (((getI b1 a.2.2.1) * x12.1) - ((getI x6.2 a.2.2.1) * x12.2)) a.2.2.2)) (List.zip x6.2 b1)))) fun b13 => chk ((g7).length ≤ 16000000) (.ok b13)) fun b13 => (.ok (.nx (g7 ++ [b13])))))) fun g14 => (.ok (.nx g14)))) (fun _ => (fun _ => 0)) (it_enum (α := (List Int)) (β := (List (List Int))) (xs := fun b => b) (am_av (Ds := fun (b : (List (List Int))) => [((dL (α := (List Int))) b)]) (x := a.1) (av_cons (ev_var (i := 0) rfl) av_nil))) (fun _ _ => mk_nil) (fun _ => ⟨rfl, rfl, rfl, rfl, rfl, rfl, trivial⟩) (fun _ => MLe.rfl) (fun x6 => (gt_tup2 (gt_name (by decide)) (gt_name (by decide)))) (fun b5 x6 g7 ps8 => (sm_last (sm_seq (γ' := ((List (List Int)))) (Γ1 := fun g14 _ => [(0, ((dL (α := (List Int))) a.1)), (1, (dI a.2.1)), (2, (dI a.2.2.1)), (3, (dI a.2.2.2)), (4, ((dL (α := Int)) b1)), (5, dR (ps4 0)), (6, (dI x6.1)), (7, ((dL (α := Int)) x6.2))]) (M1 := fun g14 _ => (((ps4 0), cL (α := (List Int)) g14) :: M)) (sm_if (tv_test (ev_eqI (ev_var (i := 6) rfl) (ev_var (i := 1) rfl))) (fun _ => (sm_last (sm_expr (em_append (α := (List Int)) (xs := g7) (fun _ _ h => h) (y := fun (b10 : (List Int)) => b10) (M1 := fun (b10 : (List Int)) => M) (ev_var (i := 5) rfl) (em_ev (β := (List Int)) (D := (dL (α := Int))) (ev_var (i := 4) rfl))) (fun b10 _ => (sm_nil (fun _ => 0) ⟨rfl, rfl, rfl, rfl, rfl, rfl, rfl, rfl, trivial⟩ MLe.rfl))))) (fun _ => (sm_last (sm_expr (em_append (α := (List Int)) (xs := g7) (fun _ _ h => h) (y := fun (b13 : (List Int)) => b13) (M1 := fun (b13 : (List Int)) => M) (ev_var (i := 5) rfl) (em_frz (α := Int) (f := fun (r : (List Int)) => r) (Mf := fun (r : (List Int)) => (((ps4 0), cL (α := (List Int)) g7) :: M)) (em_lcP (η := Int) (M0 := (((ps4 0), cL (α := (List Int)) g7) :: M)) (Γw := [(0, ((dL (α := (List Int))) a.1)), (1, (dI a.2.1)), (2, (dI a.2.2.1)), (3, (dI a.2.2.2)), (4, ((dL (α := Int)) b1)), (5, dR (ps4 0)), (6, (dI x6.1)), (7, ((dL (α := Int)) x6.2))]) (adds := fun (x12 : (Int × Int)) => ([(9, (dI x12.2))] ++ [(8, (dI x12.1))])) (sl := [8, 9]) (xs := fun (b11 : Unit) => (List.zip x6.2 b1)) (ce := fun (b11 : Unit) (x12 : (Int × Int)) => ((((True ∧ True ∧ inR b1 a.2.2.1) ∧ True ∧ (CMulW (getI b1 a.2.2.1) x12.1)) ∧ ((True ∧ True ∧ inR x6.2 a.2.2.1) ∧ True ∧ (CMulW (getI x6.2 a.2.2.1) x12.2))) ∧ True ∧ (Tr.CDivS (((getI b1 a.2.2.1) * x12.1) - ((getI x6.2 a.2.2.1) * x12.2)) a.2.2.2))) (y := fun (b11 : Unit) (x12 : (Int × Int)) => (Int.fdiv (((getI b1 a.2.2.1) * x12.1) - ((getI x6.2 a.2.2.1) * x12.2)) a.2.2.2)) (it_zip (α := Int) (α' := Int) (β := Unit) (xs := fun _ => x6.2) (ys := fun _ => b1) (am_av (β := Unit) (Ds := fun b => [((dL (α := Int)) x6.2), ((dL (α := Int)) b1)]) (x := ()) (av_cons (ev_var (i := 7) rfl) (av_cons (ev_var (i := 4) rfl) av_nil)))) mk_nil ⟨rfl, by decide, rfl, by decide, rfl, by decide, rfl, by decide, rfl, by decide, rfl, by decide, rfl, by decide, rfl, by decide, trivial⟩ (fun x12 => (gt_tup2 (gt_name (by decide)) (gt_name (by decide)))) (by decide) (fun (b11 : Unit) (x12 : (Int × Int)) => (ev_opC (ev_op (ev_opC (ev_ixL (lv_dn (ev_var (i := 4) rfl)) (ev_var (i := 2) rfl)) (ev_var (i := 8) rfl)) (ev_opC (ev_ixL (lv_dn (ev_var (i := 7) rfl)) (ev_var (i := 2) rfl)) (ev_var (i := 9) rfl))) (ev_var (i := 3) rfl)))))) (fun b13 _ => (sm_nil (fun _ => 0) ⟨rfl, rfl, rfl, rfl, rfl, rfl, rfl, rfl, trivial⟩ MLe.rfl)))))) (fun g14 _ => (sm_nil (fun _ => 0) ⟨rfl, rfl, rfl, rfl, rfl, rfl, trivial⟩ MLe.rfl))))) (fun g7 ps8 => (sm_frz 5 rfl (sm_ret (g := fun b15 => b15) (em_ev (β := (List (List Int))) (D := (dL (α := (List Int)))) (ev_var (i := 5) rfl)) (fun _ _ => rfl) (fun _ _ => MLe.rfl)))))))))
end
noncomputable def b_combine (a : ((List (List Int)) × (List Int))) : R (Out Empty Empty (Int × (List Int))) :=
  (R.bind (chk True (.ok ((List.length a.1 : Nat) : Int))) fun b1 => (R.bind (chk (True ∧ (True ∧ True)) (R.nx (m_first_table (a.1, a.2)))) fun b3 => (R.bind (R.bind (R.bind (chk (True ∧ True) (.ok ())) fun b => chk (-1000000000 ≤ ((List.length a.2 : Nat) : Int) ∧ ((List.length a.2 : Nat) : Int) ≤ 1000000000) (.ok b)) fun b5 => chk (((rng 0 ((List.length a.2 : Nat) : Int))).length ≤ 16000000 ∧ ∀ x6 ∈ (rng 0 ((List.length a.2 : Nat) : Int)), (True ∧ True)) (.ok (List.map (fun x6 => (b1 + x6)) (rng 0 ((List.length a.2 : Nat) : Int))))) fun b7 => (R.bind (chk True (.ok (1 : Int))) fun b9 => (R.bind (chk ((True ∧ True ∧ inR b3 (-(1 : Int))) ∧ (True ∧ True)) (R.nx (m_entering ((getI b3 (-(1 : Int))), b1)))) fun b11 => (seqO (whileR (γ := ((List (List Int)) × (List Int) × Int × Int)) (fun g13 => (True ∧ True)) (fun g13 => (decide ((0 : Int) ≤ g13.2.2.2))) (fun g13 => (R.bind (chk (True ∧ (True ∧ (True ∧ True))) (R.nx (m_leaving (g13.1, g13.2.1, g13.2.2.2)))) fun b14 => (R.bind (chk (True ∧ (True ∧ (True ∧ (True ∧ True)))) (R.nx (m_pivoted (g13.1, b14, g13.2.2.2, g13.2.2.1)))) fun b16 => (R.bind (chk ((True ∧ True ∧ inR b16 b14) ∧ True ∧ inR (getI b16 b14) g13.2.2.2) (.ok (getI (getI b16 b14) g13.2.2.2))) fun b18 => (R.bind (chk True (.ok g13.2.2.2)) fun b20 => chk (True ∧ inR g13.2.1 b14) (R.bind (chk ((True ∧ True ∧ inR b16 (-(1 : Int))) ∧ (True ∧ True)) (R.nx (m_entering ((getI b16 (-(1 : Int))), b1)))) fun b21 => (.ok (.nx (b16, (setI g13.2.1 b14 b20), b18, b21))))))))) (Lp.fu a) (b3, b7, b9, b11)) fun g13 => (R.bind (chk (True ∧ True ∧ inR g13.1 (-(1 : Int))) (.ok (getI g13.1 (-(1 : Int))))) fun b23 => (seqO (γ := Unit) (chk ((True ∧ True ∧ inR b23 (-(1 : Int))) ∧ True) (if (decide ((getI b23 (-(1 : Int))) < (0 : Int))) = true then (R.bind (R.bind (chk (True ∧ True ∧ True) (.ok (cutI b23 (some b1) (some (-(1 : Int)))))) fun b26 => chk ((b26).length ≤ 16000000 ∧ ∀ x27 ∈ b26, (True ∧ True)) (.ok (List.map (fun x27 => (g13.2.2.1 - x27)) b26))) fun b28 => (R.bind (R.bind (R.bind (R.bind (chk (True ∧ True ∧ True) (.ok ())) fun b30 => chk (((List.zip b28 a.2)).length ≤ 16000000 ∧ ∀ x31 ∈ (List.zip b28 a.2), ((True ∧ True) ∧ ((decide (x31.2 < (0 : Int))) = true → True) ∧ ((decide (x31.2 < (0 : Int))) = false → True))) (.ok (List.map (fun x31 => (if (decide (x31.2 < (0 : Int))) = true then (-x31.1) else x31.1)) (List.zip b28 a.2)))) fun a32 => R.bind (.ok ()) fun b33 => .ok (a32, b33)) fun b34 => R.bind (R.nx (m_reduced b34.1)) fun r35 => .ok r35) fun b36 => .exc ⟨0, .ints b36⟩)) else (.ok (.nx ())))) fun g37 => (R.bind (R.bind (chk (True ∧ True) (.ok ([(0 : Int)] : List Int))) fun a38 => R.bind (chk True (.ok b1)) fun b39 => chk (-1000000 ≤ b39 ∧ b39 ≤ 1000000 ∧ (a38).length * (Int.toNat b39) ≤ 16777216) (.ok (List.flatten (List.replicate (Int.toNat b39) a38)))) fun b40 => (R.bind (chk (True ∧ True) (.ok g13.2.1)) fun b42 => seqO (forR (γ := ((List Int))) (fun x43 g44 => (seqO (γ := ((List Int))) (chk (True ∧ True) (if (decide (x43.2 < b1)) = true then (R.bind (chk ((True ∧ True ∧ inR g13.1 x43.1) ∧ True ∧ inR (getI g13.1 x43.1) (-(1 : Int))) (.ok (getI (getI g13.1 x43.1) (-(1 : Int))))) fun b47 => chk (True ∧ inR g44 x43.2) (.ok (.nx (setI g44 x43.2 b47)))) else (.ok (.nx g44)))) fun g48 => (.ok (.nx g48)))) (enumI b42) b40) fun g44 => (R.bind (R.bind (R.bind (R.bind (chk (True ∧ True) (.ok ([g13.2.2.1] : List Int))) fun a49 => R.bind (chk True (.ok g44)) fun b50 => chk ((a49).length + (b50).length ≤ 16777216) (.ok (a49 ++ b50))) fun a51 => R.bind (.ok ()) fun b52 => .ok (a51, b52)) fun b53 => R.bind (R.nx (m_reduced b53.1)) fun r54 => .ok r54) fun b55 => (R.bind (chk (True ∧ True ∧ inR b55 (0 : Int)) (R.bind (chk (True ∧ True ∧ True) (.ok (cutI b55 (some (1 : Int)) none))) fun r57 => .ok ((getI b55 (0 : Int)), r57))) fun b58 => .ok (.rt b58)))))))))))))
noncomputable def m_combine (a : ((List (List Int)) × (List Int))) : R (Int × (List Int)) := runE (b_combine a)
abbrev sp_combine (K : PySem.W.Frag) (ad : Ad) : Sp := SpG (xd ad) (α := ((List (List Int)) × (List Int))) (β := (Int × (List Int))) (fun a qs => [((dL (α := (List Int))) a.1), ((dL (α := Int)) a.2)]) (fun a qs => []) m_combine (fun a qs r ps => dT [(dI r.1), dR (ps 0)]) (fun a qs r ps => [(ps 0, cL (α := Int) r.2)])
section
variable {P : Program} {w : World} {K : PySem.W.Frag} {mg : Str → Option Value} {base : Heap} {ad : Ad}
theorem ok_combine (T : Txt P K mg ad) : FnOk P w K mg base (L2N.CX P w) 3 ad.f_combine ad.d_combine ["columns", "goal"] (sp_combine K ad) := by
  refine okN T.F_combine sc_combine (fun vs H Q E h => spg_len (k := 2) (fun _ _ => rfl) h) (fun cdv A outer s H vs Q E hr h => ?_)
  have hu := hu_of hr
  refine ⟨_, (pss_cons (ps_set (i := 2) sc_combine.nd rfl (by first | exact Or.inl rfl | exact Or.inr rfl) (pe_callB (id := "len") (call_len_seqK (K := K) rfl) (by rfl) T.z_len PySem.boot_len (pa_cons (pv 0) pa_nil)))
      (pss_cons (ps_set (i := 3) sc_combine.nd rfl (by first | exact Or.inl rfl | exact Or.inr rfl) (pe_call (ok_first_table (P := P) (w := w) (K := K) (mg := mg) (base := base) T) (hr.mono (by decide)) (by rfl) T.g_first_table T.F_first_table.kp T.B_first_table .nil pass0 (pa_cons (pv 0) (pa_cons (pv 1) pa_nil))))
      (pss_cons (ps_setLc (i := 4) (own := [("k", 5)]) (g := gName 5) (tt := tYes) rfl sc_combine.nd rfl rfl (sw_true rfl rfl rfl (by decide +kernel)) (pi_range1 rfl T.z_range (pa_cons (pe_callB (id := "len") (call_len_seqK (K := K) rfl) (by rfl) T.z_len PySem.boot_len (pa_cons (pv 1) pa_nil)) pa_nil)) (blkOk_by (own := [("k", 5)]) (N := ["columns", "goal", "count", "table", "basis", "k", "scale", "column", "row", "costs", "weights", "cost", "a", "b", "multiples", "numbers"]) (sc := defScope s_combine) (by decide +kernel)) (fun _ _ _ _ _ => (pg_name (i := 5) sc_combine.nd rfl (by first | exact Or.inl rfl | exact Or.inr rfl))) (fun _ _ _ _ _ => pts_nil) (fun _ _ _ _ _ => (pe_op op_add (pv 2) (pv 5))))
      (pss_cons (ps_set (i := 6) sc_combine.nd rfl (by first | exact Or.inl rfl | exact Or.inr rfl) pe_int)
      (pss_cons (ps_set (i := 7) sc_combine.nd rfl (by first | exact Or.inl rfl | exact Or.inr rfl) (pe_call (ok_entering (P := P) (w := w) (K := K) (mg := mg) (base := base) T) (hr.mono (by decide)) (by rfl) T.g_entering T.F_entering.kp T.B_entering .nil pass0 (pa_cons (pe_ix (ix_listK (K := K) rfl) (pv 3) (pe_un un_neg pe_int) (fun _ _ => rfl)) (pa_cons (pv 2) pa_nil))))
      (pss_cons (ps_while (passes_of rfl) (pt_cmpR op_ge (pv 7) pe_int (nomark _)) (pss_cons (ps_set (i := 8) sc_combine.nd rfl (by first | exact Or.inl rfl | exact Or.inr rfl) (pe_call (ok_leaving (P := P) (w := w) (K := K) (mg := mg) (base := base) T) (hr.mono (by decide)) (by rfl) T.g_leaving T.F_leaving.kp T.B_leaving .nil pass0 (pa_cons (pv 3) (pa_cons (pv 4) (pa_cons (pv 7) pa_nil)))))
      (pss_cons (ps_set (i := 3) sc_combine.nd rfl (by first | exact Or.inl rfl | exact Or.inr rfl) (pe_call (ok_pivoted (P := P) (w := w) (K := K) (mg := mg) (base := base) T) (hr.mono (by decide)) (by rfl) T.g_pivoted T.F_pivoted.kp T.B_pivoted .nil pass0 (pa_cons (pv 3) (pa_cons (pv 8) (pa_cons (pv 7) (pa_cons (pv 6) pa_nil))))))
      (pss_cons (ps_set (i := 6) sc_combine.nd rfl (by first | exact Or.inl rfl | exact Or.inr rfl) (pe_ix (ix_listK (K := K) rfl) (pe_ix (ix_listK (K := K) rfl) (pv 3) (pv 8) (fun _ _ => rfl)) (pv 7) (fun _ _ => rfl)))
      (pss_cons (ps_asg (pv 7) (pg_sub (pv 4) (pv 8) set_list))
      (pss_one (ps_set (i := 7) sc_combine.nd rfl (by first | exact Or.inl rfl | exact Or.inr rfl) (pe_call (ok_entering (P := P) (w := w) (K := K) (mg := mg) (base := base) T) (hr.mono (by decide)) (by rfl) T.g_entering T.F_entering.kp T.B_entering .nil pass0 (pa_cons (pe_ix (ix_listK (K := K) rfl) (pv 3) (pe_un un_neg pe_int) (fun _ _ => rfl)) (pa_cons (pv 2) pa_nil))))))))))
      (pss_cons (ps_set (i := 9) sc_combine.nd rfl (by first | exact Or.inl rfl | exact Or.inr rfl) (pe_ix (ix_listK (K := K) rfl) (pv 3) (pe_un un_neg pe_int) (fun _ _ => rfl)))
      (pss_cons (ps_if (pt_cmpR op_lt (pe_ix (ix_listK (K := K) rfl) (pv 9) (pe_un un_neg pe_int) (fun _ _ => rfl)) pe_int (nomark _)) (pss_cons (ps_setLc (i := 10) (own := [("cost", 11)]) (g := gName 11) (tt := tYes) rfl sc_combine.nd rfl rfl (sw_true rfl rfl rfl (by decide +kernel)) (pi_listK (K := K) rfl (pe_slice (sl_listK (K := K) rfl) (pv 9) (po_some (pv 2)) (po_some (pe_un un_neg pe_int)))) (blkOk_by (own := [("cost", 11)]) (N := ["columns", "goal", "count", "table", "basis", "k", "scale", "column", "row", "costs", "weights", "cost", "a", "b", "multiples", "numbers"]) (sc := defScope s_combine) (by decide +kernel)) (fun _ _ _ _ _ => (pg_name (i := 11) sc_combine.nd rfl (by first | exact Or.inl rfl | exact Or.inr rfl))) (fun _ _ _ _ _ => pts_nil) (fun _ _ _ _ _ => (pe_op op_sub (pv 6) (pv 11))))
      (pss_one (L2N.ps_raise rfl (L2N.takes_of rfl rfl rfl rfl) (pmk_x T.xi_NoCombination hr (pa_cons (pe_call (ok_reduced (P := P) (w := w) (K := K) (mg := mg) (base := base) T) (hr.mono (by decide)) (by rfl) T.g_reduced T.F_reduced.kp T.B_reduced .nil pass0 (pa_cons (pe_lc (own := [("a", 12), ("b", 13)]) (tt := tYes) rfl sc_combine.nd (pi_zipK (K := K) rfl (by rfl) T.z_zip (pa_cons (pv 10) (pa_cons (pv 1) pa_nil))) (blkOk_by (own := [("a", 12), ("b", 13)]) (N := ["columns", "goal", "count", "table", "basis", "k", "scale", "column", "row", "costs", "weights", "cost", "a", "b", "multiples", "numbers"]) (sc := defScope s_combine) (by decide +kernel)) (fun _ _ _ _ _ => (pg_tupK (K := K) (n := 2) rfl rfl (pgs_cons (pg_name (i := 12) sc_combine.nd rfl (by first | exact Or.inl rfl | exact Or.inr rfl)) (pgs_cons (pg_name (i := 13) sc_combine.nd rfl (by first | exact Or.inl rfl | exact Or.inr rfl)) pgs_nil)))) (fun _ _ _ _ _ => pts_nil) (fun _ _ _ _ _ => (pe_ifExp (pt_cmpR op_lt (pv 13) pe_int (nomark _)) (pe_un un_neg (pv 12)) (pv 12)))) pa_nil)) pa_nil) (by rfl))))) pss_nil)
      (pss_cons (ps_set (i := 14) sc_combine.nd rfl (by first | exact Or.inl rfl | exact Or.inr rfl) (pe_op op_rep (pe_lst (pa_cons pe_int pa_nil)) (pv 2)))
      (pss_cons (ps_for (passes_of rfl) rfl (pi_enumK (K := K) rfl (by rfl) T.z_enumerate (pa_cons (pv 4) pa_nil)) (pg_tupK (K := K) (n := 2) rfl rfl (pgs_cons (pg_name (i := 8) sc_combine.nd rfl (by first | exact Or.inl rfl | exact Or.inr rfl)) (pgs_cons (pg_name (i := 7) sc_combine.nd rfl (by first | exact Or.inl rfl | exact Or.inr rfl)) pgs_nil)))
      (pss_one (ps_if (pt_cmpR op_lt (pv 7) (pv 2) (nomark _)) (pss_one (ps_asg (pe_ix (ix_listK (K := K) rfl) (pe_ix (ix_listK (K := K) rfl) (pv 3) (pv 8) (fun _ _ => rfl)) (pe_un un_neg pe_int) (fun _ _ => rfl)) (pg_sub (pv 14) (pv 7) set_list))) pss_nil)))
      (pss_cons (ps_set (i := 15) sc_combine.nd rfl (by first | exact Or.inl rfl | exact Or.inr rfl) (pe_call (ok_reduced (P := P) (w := w) (K := K) (mg := mg) (base := base) T) (hr.mono (by decide)) (by rfl) T.g_reduced T.F_reduced.kp T.B_reduced .nil pass0 (pa_cons (pe_op op_cat (pe_lst (pa_cons (pv 6) pa_nil)) (pv 14)) pa_nil)))
      (pss_one (ps_ret (pe_tup (pa_cons (pe_ix (ix_listK (K := K) rfl) (pv 15) pe_int (fun _ _ => rfl)) (pa_cons (pe_slice (sl_listK (K := K) rfl) (pv 15) (po_some pe_int) po_none) pa_nil)))))))))))))))), ?_⟩
  try simp only [cxK, cxK2]
  refine def_ret (n := 16) (γ := Empty) (δ := Empty) (body := b_combine) (Γn := fun _ _ _ _ => []) (Mn := fun _ _ _ _ => []) (Γl := fun _ _ _ _ => []) (Ml := fun _ _ _ _ => []) h rfl (fun _ _ => Nat.le_of_ble_eq_true rfl) (fun _ => rfl) (fun a qs M => ?_)
  unfold b_combine
  exact (sm_set (em_ev (β := Int) (D := dI) (ev_len (lv_dn (ev_var (i := 0) rfl)))) (by decide) (fun b1 ps2 => (sm_set (em_callP0 (a := (a.1, a.2)) (av_cons (ev_var (i := 0) rfl) (av_cons (ev_var (i := 1) rfl) av_nil)) rfl (fun _ _ => rfl)) (by decide) (fun b3 ps4 => (sm_set (em_lcP (η := Int) (M0 := M) (Γw := [(0, ((dL (α := (List Int))) a.1)), (1, ((dL (α := Int)) a.2)), (2, (dI b1)), (3, ((dL (α := (List Int))) b3))]) (adds := fun (x6 : Int) => [(5, (dI x6))]) (sl := [5]) (xs := fun (b5 : Unit) => (rng 0 ((List.length a.2 : Nat) : Int))) (ce := fun (b5 : Unit) (x6 : Int) => (True ∧ True)) (y := fun (b5 : Unit) (x6 : Int) => (b1 + x6)) (it_range1 (j := fun _ => ((List.length a.2 : Nat) : Int)) (am_av (β := Unit) (Ds := fun _ => [dI ((List.length a.2 : Nat) : Int)]) (x := ()) (av_cons (ev_len (lv_dn (ev_var (i := 1) rfl))) av_nil))) mk_nil ⟨rfl, by decide, rfl, by decide, rfl, by decide, rfl, by decide, trivial⟩ (fun x6 => (gt_name (by decide))) (by decide) (fun (b5 : Unit) (x6 : Int) => (ev_op (ev_var (i := 2) rfl) (ev_var (i := 5) rfl)))) (by decide) (fun b7 ps8 => (sm_set (em_ev (β := Int) (D := dI) ev_int) (by decide) (fun b9 ps10 => (sm_set (em_callP0 (a := ((getI b3 (-(1 : Int))), b1)) (av_cons (ev_ixL (lv_dn (ev_var (i := 3) rfl)) (ev_un ev_int)) (av_cons (ev_var (i := 2) rfl) av_nil)) rfl (fun _ _ => rfl)) (by decide) (fun b11 ps12 => (sm_while (γ' := ((List (List Int)) × (List Int) × Int × Int)) (Γl := fun g13 _ => [(0, ((dL (α := (List Int))) a.1)), (1, ((dL (α := Int)) a.2)), (2, (dI b1)), (3, ((dL (α := (List Int))) g13.1)), (4, dR (ps8 0)), (6, (dI g13.2.2.1)), (7, (dI g13.2.2.2))]) (Ml := fun g13 _ => (((ps8 0), cL (α := Int) g13.2.1) :: M)) (g0 := (b3, b7, b9, b11)) (cc := fun g13 => (True ∧ True)) (b := fun g13 => (decide ((0 : Int) ≤ g13.2.2.2))) (f := fun g13 => (R.bind (chk (True ∧ (True ∧ (True ∧ True))) (R.nx (m_leaving (g13.1, g13.2.1, g13.2.2.2)))) fun b14 => (R.bind (chk (True ∧ (True ∧ (True ∧ (True ∧ True)))) (R.nx (m_pivoted (g13.1, b14, g13.2.2.2, g13.2.2.1)))) fun b16 => (R.bind (chk ((True ∧ True ∧ inR b16 b14) ∧ True ∧ inR (getI b16 b14) g13.2.2.2) (.ok (getI (getI b16 b14) g13.2.2.2))) fun b18 => (R.bind (chk True (.ok g13.2.2.2)) fun b20 => chk (True ∧ inR g13.2.1 b14) (R.bind (chk ((True ∧ True ∧ inR b16 (-(1 : Int))) ∧ (True ∧ True)) (R.nx (m_entering ((getI b16 (-(1 : Int))), b1)))) fun b21 => (.ok (.nx (b16, (setI g13.2.1 b14 b20), b18, b21))))))))) (Lp.fu a) (fun _ => 0) ⟨rfl, rfl, rfl, rfl, rfl, rfl, rfl, trivial⟩ MLe.rfl (fun g13 _ => (tv_test (ev_cmp (ev_var (i := 7) rfl) ev_int))) (fun g13 _ _ => (sm_set (em_callB (a := (g13.1, g13.2.1, g13.2.2.2)) (Dr := dI) (bv_cons (ev_var (i := 3) rfl) (bv_lent (lv_own (p := (ps8 0)) 0 (ev_var (i := 4) rfl) rfl) (bv_cons (ev_var (i := 7) rfl) bv_nil))) rfl (fun _ _ => rfl) (fun _ => flat_I)) (by decide) (fun b14 ps15 => (sm_set (em_callP0 (a := (g13.1, b14, g13.2.2.2, g13.2.2.1)) (av_cons (ev_var (i := 3) rfl) (av_cons (ev_var (i := 8) rfl) (av_cons (ev_var (i := 7) rfl) (av_cons (ev_var (i := 6) rfl) av_nil)))) rfl (fun _ _ => rfl)) (by decide) (fun b16 ps17 => (sm_set (em_ev (β := Int) (D := dI) (ev_ixL (lv_dn (ev_ixL (lv_dn (ev_var (i := 3) rfl)) (ev_var (i := 8) rfl))) (ev_var (i := 7) rfl))) (by decide) (fun b18 ps19 => (sm_setL (α := Int) (xs := g13.2.1) (y := fun b20 => b20) (M1 := fun b20 => M) (i := fun b20 => b14) (em_ev (β := Int) (D := dI) (ev_var (i := 7) rfl)) (fun b20 => ev_var (i := 4) rfl) (fun b20 => (ev_var (i := 8) rfl)) (fun b20 => (sm_last (sm_set (em_callP0 (a := ((getI b16 (-(1 : Int))), b1)) (av_cons (ev_ixL (lv_dn (ev_var (i := 3) rfl)) (ev_un ev_int)) (av_cons (ev_var (i := 2) rfl) av_nil)) rfl (fun _ _ => rfl)) (by decide) (fun b21 ps22 => (sm_nil (fun _ => 0) ⟨rfl, rfl, rfl, rfl, rfl, rfl, rfl, trivial⟩ MLe.rfl))))))))))))) (fun g13 _ => (sm_set (em_ev (β := (List Int)) (D := (dL (α := Int))) (ev_ixL (lv_dn (ev_var (i := 3) rfl)) (ev_un ev_int))) (by decide) (fun b23 ps24 => (sm_seq (γ' := Unit) (Γ1 := fun g37 _ => [(0, ((dL (α := (List Int))) a.1)), (1, ((dL (α := Int)) a.2)), (2, (dI b1)), (3, ((dL (α := (List Int))) g13.1)), (4, dR (ps8 0)), (6, (dI g13.2.2.1)), (7, (dI g13.2.2.2)), (9, ((dL (α := Int)) b23))]) (M1 := fun g37 _ => (((ps8 0), cL (α := Int) g13.2.1) :: M)) (sm_if (tv_test (ev_cmp (ev_ixL (lv_dn (ev_var (i := 9) rfl)) (ev_un ev_int)) ev_int)) (fun _ => (sm_set (em_frz (α := Int) (f := fun (r : (List Int)) => r) (Mf := fun (r : (List Int)) => (((ps8 0), cL (α := Int) g13.2.1) :: M)) (em_lcP (η := Int) (M0 := (((ps8 0), cL (α := Int) g13.2.1) :: M)) (Γw := [(0, ((dL (α := (List Int))) a.1)), (1, ((dL (α := Int)) a.2)), (2, (dI b1)), (3, ((dL (α := (List Int))) g13.1)), (4, dR (ps8 0)), (6, (dI g13.2.2.1)), (7, (dI g13.2.2.2)), (9, ((dL (α := Int)) b23))]) (adds := fun (x27 : Int) => [(11, (dI x27))]) (sl := [11]) (xs := fun (b26 : (List Int)) => b26) (ce := fun (b26 : (List Int)) (x27 : Int) => (True ∧ True)) (y := fun (b26 : (List Int)) (x27 : Int) => (g13.2.2.1 - x27)) (it_list (α := Int) (β := (List Int)) (xs := fun (b : (List Int)) => b) (em_frz (α := Int) (f := fun (r : (List Int)) => r) (Mf := fun (r : (List Int)) => (((ps8 0), cL (α := Int) g13.2.1) :: M)) (em_slice (lv_dn (ev_var (i := 9) rfl)) (ov_some (ev_var (i := 2) rfl)) (ov_some (ev_un ev_int))))) mk_nil ⟨rfl, by decide, rfl, by decide, rfl, by decide, rfl, by decide, rfl, by decide, rfl, by decide, rfl, by decide, rfl, by decide, trivial⟩ (fun x27 => (gt_name (by decide))) (by decide) (fun (b26 : (List Int)) (x27 : Int) => (ev_op (ev_var (i := 6) rfl) (ev_var (i := 11) rfl))))) (by decide) (fun b28 ps29 => (sm_raiseX (y := fun (b36 : (List Int)) => XA.ints b36) (em_frz (α := Int) (f := fun (r : (List Int)) => r) (Mf := fun (r : (List Int)) => (((ps8 0), cL (α := Int) g13.2.1) :: M)) (em_callG (rfl : sp_reduced K ad = _) (a := fun (b34 : ((List Int) × Unit)) => b34.1) (qs := fun _ => 0) (g := fun _ r => r) (Dr := fun _ ps => dR (ps 0)) (Mr := fun (r : (List Int)) ps => (ps 0, cL (α := Int) r) :: (((ps8 0), cL (α := Int) g13.2.1) :: M)) (Mx := fun _ => (((ps8 0), cL (α := Int) g13.2.1) :: M)) (am_cons (g := fun (a : (List Int)) (b : Unit) => (a, b)) (Ds := fun (r : ((List Int) × Unit)) => [((dL (α := Int)) r.1)]) (Mf := fun (r : ((List Int) × Unit)) => (((ps8 0), cL (α := Int) g13.2.1) :: M)) (em_frz (α := Int) (f := fun (r : (List Int)) => r) (Mf := fun (r : (List Int)) => (((ps8 0), cL (α := Int) g13.2.1) :: M)) (em_lcP (η := Int) (M0 := (((ps8 0), cL (α := Int) g13.2.1) :: M)) (Γw := [(0, ((dL (α := (List Int))) a.1)), (1, ((dL (α := Int)) a.2)), (2, (dI b1)), (3, ((dL (α := (List Int))) g13.1)), (4, dR (ps8 0)), (6, (dI g13.2.2.1)), (7, (dI g13.2.2.2)), (9, ((dL (α := Int)) b23)), (10, ((dL (α := Int)) b28))]) (adds := fun (x31 : (Int × Int)) => ([(13, (dI x31.2))] ++ [(12, (dI x31.1))])) (sl := [12, 13]) (xs := fun (b30 : Unit) => (List.zip b28 a.2)) (ce := fun (b30 : Unit) (x31 : (Int × Int)) => ((True ∧ True) ∧ ((decide (x31.2 < (0 : Int))) = true → True) ∧ ((decide (x31.2 < (0 : Int))) = false → True))) (y := fun (b30 : Unit) (x31 : (Int × Int)) => (if (decide (x31.2 < (0 : Int))) = true then (-x31.1) else x31.1)) (it_zip (α := Int) (α' := Int) (β := Unit) (xs := fun _ => b28) (ys := fun _ => a.2) (am_av (β := Unit) (Ds := fun b => [((dL (α := Int)) b28), ((dL (α := Int)) a.2)]) (x := ()) (av_cons (ev_var (i := 10) rfl) (av_cons (ev_var (i := 1) rfl) av_nil)))) mk_nil ⟨rfl, by decide, rfl, by decide, rfl, by decide, rfl, by decide, rfl, by decide, rfl, by decide, rfl, by decide, rfl, by decide, rfl, by decide, trivial⟩ (fun x31 => (gt_tup2 (gt_name (by decide)) (gt_name (by decide)))) (by decide) (fun (b30 : Unit) (x31 : (Int × Int)) => (ev_if (α := Int) (x := (-x31.1)) (y := x31.1) (tv_test (ev_cmp (ev_var (i := 13) rfl) ev_int)) (ev_un (ev_var (i := 12) rfl)) (ev_var (i := 12) rfl))))) (fun (a32 : (List Int)) => am_nil) (fun _ _ => rfl) (fun _ _ => rfl)) (fun _ => rfl) (fun _ => MLe.rfl) (fun _ _ _ => rfl) (fun _ _ _ => MLe.rfl))) (fun _ => rfl) rfl (fun _ => (MLe.sbl (.cons _ (List.Sublist.refl _)))))))) (fun _ => (sm_nil (fun _ => 0) ⟨rfl, rfl, rfl, rfl, rfl, rfl, rfl, rfl, trivial⟩ MLe.rfl))) (fun g37 _ => (sm_set (em_rep (β := (List Int)) (g := fun (a38 : (List Int)) (b39 : Int) => (List.flatten (List.replicate (Int.toNat b39) a38))) (vr := fun (r : (List Int)) => r) (va := fun (a38 : (List Int)) => a38) (vb := fun (a38 : (List Int)) (b39 : Int) => b39) (Mg := fun (r : (List Int)) => (((ps8 0), cL (α := Int) g13.2.1) :: M)) (α := Int) (em_frz (α := Int) (f := fun (r : (List Int)) => r) (Mf := fun (r : (List Int)) => (((ps8 0), cL (α := Int) g13.2.1) :: M)) (em_lst0 (α := Int) (xs := ([(0 : Int)] : List Int)) (av_cons ev_int av_nil) (Nat.le_of_ble_eq_true rfl))) (fun (a38 : (List Int)) => (em_ev (β := Int) (D := dI) (ev_var (i := 2) rfl))) (fun _ _ => rfl) (fun _ _ => rfl)) (by decide) (fun b40 ps41 => (sm_in (MLe.front 1 rfl) (sm_frz 4 rfl (sm_for (γ' := ((List Int))) (Γl := fun g44 ps45 => [(0, ((dL (α := (List Int))) a.1)), (1, ((dL (α := Int)) a.2)), (2, (dI b1)), (3, ((dL (α := (List Int))) g13.1)), (6, (dI g13.2.2.1)), (9, ((dL (α := Int)) b23)), (14, dR (ps41 0)), (4, ((dL (α := Int)) g13.2.1))]) (Ml := fun g44 ps45 => (((ps41 0), cL (α := Int) g44) :: M)) (xs := fun b42 => (enumI b42)) (g0 := fun b42 => b40) (adds := fun x43 => ([(7, (dI x43.2))] ++ [(8, (dI x43.1))])) (sl := [8, 7]) (f := fun b42 x43 g44 => (seqO (γ := ((List Int))) (chk (True ∧ True) (if (decide (x43.2 < b1)) = true then (R.bind (chk ((True ∧ True ∧ inR g13.1 x43.1) ∧ True ∧ inR (getI g13.1 x43.1) (-(1 : Int))) (.ok (getI (getI g13.1 x43.1) (-(1 : Int))))) fun b47 => chk (True ∧ inR g44 x43.2) (.ok (.nx (setI g44 x43.2 b47)))) else (.ok (.nx g44)))) fun g48 => (.ok (.nx g48)))) (fun _ => (fun _ => 0)) (it_enum (α := Int) (β := (List Int)) (xs := fun b => b) (am_av (Ds := fun (b : (List Int)) => [((dL (α := Int)) b)]) (x := g13.2.1) (av_cons (ev_var (i := 4) rfl) av_nil))) (fun _ _ => mk_nil) (fun _ => ⟨rfl, rfl, rfl, rfl, rfl, rfl, rfl, rfl, trivial⟩) (fun _ => MLe.rfl) (fun x43 => (gt_tup2 (gt_name (by decide)) (gt_name (by decide)))) (fun b42 x43 g44 ps45 => (sm_last (sm_seq (γ' := ((List Int))) (Γ1 := fun g48 _ => [(0, ((dL (α := (List Int))) a.1)), (1, ((dL (α := Int)) a.2)), (2, (dI b1)), (3, ((dL (α := (List Int))) g13.1)), (6, (dI g13.2.2.1)), (9, ((dL (α := Int)) b23)), (14, dR (ps41 0)), (4, ((dL (α := Int)) g13.2.1)), (8, (dI x43.1)), (7, (dI x43.2))]) (M1 := fun g48 _ => (((ps41 0), cL (α := Int) g48) :: M)) (sm_if (tv_test (ev_cmp (ev_var (i := 7) rfl) (ev_var (i := 2) rfl))) (fun _ => (sm_last (sm_setL (α := Int) (xs := g44) (y := fun b47 => b47) (M1 := fun b47 => M) (i := fun b47 => x43.2) (em_ev (β := Int) (D := dI) (ev_ixL (lv_dn (ev_ixL (lv_dn (ev_var (i := 3) rfl)) (ev_var (i := 8) rfl))) (ev_un ev_int))) (fun b47 => ev_var (i := 14) rfl) (fun b47 => (ev_var (i := 7) rfl)) (fun b47 => (sm_nil (fun _ => 0) ⟨rfl, rfl, rfl, rfl, rfl, rfl, rfl, rfl, rfl, rfl, trivial⟩ MLe.rfl))))) (fun _ => (sm_nil (fun _ => 0) ⟨rfl, rfl, rfl, rfl, rfl, rfl, rfl, rfl, rfl, rfl, trivial⟩ MLe.rfl))) (fun g48 _ => (sm_nil (fun _ => 0) ⟨rfl, rfl, rfl, rfl, rfl, rfl, rfl, rfl, trivial⟩ MLe.rfl))))) (fun g44 ps45 => (sm_frz 14 rfl (sm_set (em_frz (α := Int) (f := fun (r : (List Int)) => r) (Mf := fun (r : (List Int)) => M) (em_callG (rfl : sp_reduced K ad = _) (a := fun (b53 : ((List Int) × Unit)) => b53.1) (qs := fun _ => 0) (g := fun _ r => r) (Dr := fun _ ps => dR (ps 0)) (Mr := fun (r : (List Int)) ps => (ps 0, cL (α := Int) r) :: M) (Mx := fun _ => M) (am_cons (g := fun (a : (List Int)) (b : Unit) => (a, b)) (Ds := fun (r : ((List Int) × Unit)) => [((dL (α := Int)) r.1)]) (Mf := fun (r : ((List Int) × Unit)) => M) (em_frz (α := Int) (f := fun (r : (List Int)) => r) (Mf := fun (r : (List Int)) => M) (em_cat (β := (List Int)) (g := fun (a49 : (List Int)) (b50 : (List Int)) => (a49 ++ b50)) (vr := fun (r : (List Int)) => r) (va := fun (a49 : (List Int)) => a49) (vb := fun (a49 : (List Int)) (b50 : (List Int)) => b50) (Mg := fun (r : (List Int)) => M) (α := Int) (em_frz (α := Int) (f := fun (r : (List Int)) => r) (Mf := fun (r : (List Int)) => M) (em_lst0 (α := Int) (xs := ([g13.2.2.1] : List Int)) (av_cons (ev_var (i := 6) rfl) av_nil) (Nat.le_of_ble_eq_true rfl))) (fun (a49 : (List Int)) => (em_ev (β := (List Int)) (D := (dL (α := Int))) (ev_var (i := 14) rfl))) (fun _ _ => rfl) (fun _ _ => rfl))) (fun (a51 : (List Int)) => am_nil) (fun _ _ => rfl) (fun _ _ => rfl)) (fun _ => rfl) (fun _ => MLe.rfl) (fun _ _ _ => rfl) (fun _ _ _ => MLe.rfl))) (by decide) (fun b55 ps56 => (sm_ret (g := fun b58 => b58) (em_tupO2 (D1 := dI) (x := (getI b55 (0 : Int))) (f := fun (r : (List Int)) => r) (ev_ixL (lv_dn (ev_var (i := 15) rfl)) ev_int) (em_slice (lv_dn (ev_var (i := 15) rfl)) (ov_some ev_int) ov_none)) (fun _ _ => rfl) (fun _ _ => MLe.rfl)))))))))))))))))))))))))))
end
noncomputable def b_signed_columns (a : ((List (List Int)) × (List Str))) : R (Out Empty Empty ((List (List Int)) × (List (Int × Int)))) :=
  (R.bind (chk True (.ok ([] : List (List Int)))) fun b1 => (R.bind (chk True (.ok ([] : List (Int × Int)))) fun b3 => (R.bind (chk (True ∧ True) (.ok a.2)) fun b5 => seqO (forR (γ := ((List (List Int)) × (List (Int × Int)))) (fun x6 g7 => (R.bind (R.bind (chk True (.ok a.1)) fun b9 => chk ((b9).length ≤ 16000000 ∧ ∀ x10 ∈ b9, (True ∧ True ∧ inR x10 x6.1)) (.ok (List.map (fun x10 => (getI x10 x6.1)) b9))) fun b11 => (seqO (γ := ((List (List Int)) × (List (Int × Int)))) (R.bind (chk (True ∧ (True ∧ (True ∧ True))) (.ok (decide (x6.2 ∈ ([("positive" : Str), ("free" : Str)] : List Str))))) fun r13 => if r13 = true then (R.bind (R.bind (chk True (.ok b11)) fun b14 => chk ((g7.1).length ≤ 16000000) (.ok b14)) fun b14 => (R.bind (R.bind (chk (True ∧ (True ∧ True)) (.ok (x6.1, (1 : Int)))) fun b15 => chk ((g7.2).length ≤ 16000000) (.ok b15)) fun b15 => (.ok (.nx ((g7.1 ++ [b14]), (g7.2 ++ [b15])))))) else (.ok (.nx (g7.1, g7.2)))) fun g16 => (seqO (γ := ((List (List Int)) × (List (Int × Int)))) (R.bind (chk (True ∧ (True ∧ (True ∧ True))) (.ok (decide (x6.2 ∈ ([("negative" : Str), ("free" : Str)] : List Str))))) fun r17 => if r17 = true then (R.bind (R.bind (R.bind (chk True (.ok b11)) fun b18 => chk ((b18).length ≤ 16000000 ∧ ∀ x19 ∈ b18, True) (.ok (List.map (fun x19 => (-x19)) b18))) fun b20 => chk ((g16.1).length ≤ 16000000) (.ok b20)) fun b20 => (R.bind (R.bind (chk (True ∧ (True ∧ True)) (.ok (x6.1, (-(1 : Int))))) fun b21 => chk ((g16.2).length ≤ 16000000) (.ok b21)) fun b21 => (.ok (.nx ((g16.1 ++ [b20]), (g16.2 ++ [b21])))))) else (.ok (.nx (g16.1, g16.2)))) fun g22 => (.ok (.nx (g22.1, g22.2))))))) (enumI b5) (b1, b3)) fun g7 => (R.bind (chk (True ∧ (True ∧ True)) (.ok (g7.1, g7.2))) fun b23 => .ok (.rt b23)))))
noncomputable def m_signed_columns (a : ((List (List Int)) × (List Str))) : R ((List (List Int)) × (List (Int × Int))) := runE (b_signed_columns a)
abbrev sp_signed_columns (K : PySem.W.Frag) (ad : Ad) : Sp := SpG (xd ad) (α := ((List (List Int)) × (List Str))) (β := ((List (List Int)) × (List (Int × Int)))) (fun a qs => [((dL (α := (List Int))) a.1), ((dL (α := Str)) a.2)]) (fun a qs => []) m_signed_columns (fun a qs r ps => ((dn (α := ((List (List Int)) × (List (Int × Int))))) r)) (fun a qs r ps => [])
section
variable {P : Program} {w : World} {K : PySem.W.Frag} {mg : Str → Option Value} {base : Heap} {ad : Ad}
theorem ok_signed_columns (T : Txt P K mg ad) : FnOk P w K mg base CX0 1 ad.f_signed_columns ad.d_signed_columns ["rows", "kinds"] (sp_signed_columns K ad) := by
  refine T.F_signed_columns.ok sc_signed_columns (fun vs H Q E h => spg_len (k := 2) (fun _ _ => rfl) h) (fun cdv A outer s H vs Q E hr h => ?_)
  have hu := hu_of hr
  refine ⟨_, (pss_cons (ps_set (i := 2) sc_signed_columns.nd rfl (by first | exact Or.inl rfl | exact Or.inr rfl) (pe_lst pa_nil))
      (pss_cons (ps_set (i := 3) sc_signed_columns.nd rfl (by first | exact Or.inl rfl | exact Or.inr rfl) (pe_lst pa_nil))
      (pss_cons (ps_for PassesOwn.never rfl (pi_enumK (K := K) rfl (by rfl) T.z_enumerate (pa_cons (pv 1) pa_nil)) (pg_tupK (K := K) (n := 2) rfl rfl (pgs_cons (pg_name (i := 4) sc_signed_columns.nd rfl (by first | exact Or.inl rfl | exact Or.inr rfl)) (pgs_cons (pg_name (i := 5) sc_signed_columns.nd rfl (by first | exact Or.inl rfl | exact Or.inr rfl)) pgs_nil)))
      (pss_cons (ps_setLc (i := 6) (own := [("row", 7)]) (g := gName 7) (tt := tYes) rfl sc_signed_columns.nd rfl rfl (sw_true rfl rfl rfl (by decide +kernel)) (pi_listK (K := K) rfl (pv 0)) (blkOk_by (own := [("row", 7)]) (N := ["rows", "kinds", "columns", "places", "index", "kind", "column", "row", "number"]) (sc := defScope s_signed_columns) (by decide +kernel)) (fun _ _ _ _ _ => (pg_name (i := 7) sc_signed_columns.nd rfl (by first | exact Or.inl rfl | exact Or.inr rfl))) (fun _ _ _ _ _ => pts_nil) (fun _ _ _ _ _ => (pe_ix (ix_listK (K := K) rfl) (pv 7) (pv 4) (fun _ _ => rfl))))
      (pss_cons (ps_if (pt_cmpR (op_in_seqK (K := K) rfl) (pv 5) (pe_tup (pa_cons pe_str (pa_cons pe_str pa_nil))) (by rfl)) (pss_cons (ps_expr (pe_bm PySem.F.plainAttrs_list PySem.F.slot_list_append PySem.F.type_list_append mt_append (pv 2) (pa_cons (pv 6) pa_nil)))
      (pss_one (ps_expr (pe_bm PySem.F.plainAttrs_list PySem.F.slot_list_append PySem.F.type_list_append mt_append (pv 3) (pa_cons (pe_tup (pa_cons (pv 4) (pa_cons pe_int pa_nil))) pa_nil))))) pss_nil)
      (pss_one (ps_if (pt_cmpR (op_in_seqK (K := K) rfl) (pv 5) (pe_tup (pa_cons pe_str (pa_cons pe_str pa_nil))) (by rfl)) (pss_cons (ps_expr (pe_bm PySem.F.plainAttrs_list PySem.F.slot_list_append PySem.F.type_list_append mt_append (pv 2) (pa_cons (pe_lc (own := [("number", 8)]) (g := gName 8) (tt := tYes) rfl sc_signed_columns.nd (pi_listK (K := K) rfl (pv 6)) (blkOk_by (own := [("number", 8)]) (N := ["rows", "kinds", "columns", "places", "index", "kind", "column", "row", "number"]) (sc := defScope s_signed_columns) (by decide +kernel)) (fun _ _ _ _ _ => (pg_name (i := 8) sc_signed_columns.nd rfl (by first | exact Or.inl rfl | exact Or.inr rfl))) (fun _ _ _ _ _ => pts_nil) (fun _ _ _ _ _ => (pe_un un_neg (pv 8)))) pa_nil)))
      (pss_one (ps_expr (pe_bm PySem.F.plainAttrs_list PySem.F.slot_list_append PySem.F.type_list_append mt_append (pv 3) (pa_cons (pe_tup (pa_cons (pv 4) (pa_cons (pe_un un_neg pe_int) pa_nil))) pa_nil))))) pss_nil)))))
      (pss_one (ps_ret (pe_tup (pa_cons (pv 2) (pa_cons (pv 3) pa_nil)))))))), ?_⟩
  try simp only [cxK, cxK2]
  refine def_ret (n := 9) (γ := Empty) (δ := Empty) (body := b_signed_columns) (Γn := fun _ _ _ _ => []) (Mn := fun _ _ _ _ => []) (Γl := fun _ _ _ _ => []) (Ml := fun _ _ _ _ => []) h rfl (fun _ _ => Nat.le_of_ble_eq_true rfl) (fun _ => rfl) (fun a qs M => ?_)
  unfold b_signed_columns
  exact (sm_set (em_lst0 (α := (List Int)) (xs := ([] : List (List Int))) av_nil (Nat.le_of_ble_eq_true rfl)) (by decide) (fun b1 ps2 => (sm_set (em_lst0 (α := (Int × Int)) (xs := ([] : List (Int × Int))) av_nil (Nat.le_of_ble_eq_true rfl)) (by decide) (fun b3 ps4 => (sm_for (γ' := ((List (List Int)) × (List (Int × Int)))) (Γl := fun g7 ps8 => [(0, ((dL (α := (List Int))) a.1)), (1, ((dL (α := Str)) a.2)), (2, dR (ps2 0)), (3, dR (ps4 0))]) (Ml := fun g7 ps8 => (((ps4 0), cL (α := (Int × Int)) g7.2) :: (((ps2 0), cL (α := (List Int)) g7.1) :: M))) (xs := fun b5 => (enumI b5)) (g0 := fun b5 => (b1, b3)) (adds := fun x6 => ([(5, (dS x6.2))] ++ [(4, (dI x6.1))])) (sl := [4, 5]) (f := fun b5 x6 g7 => (R.bind (R.bind (chk True (.ok a.1)) fun b9 => chk ((b9).length ≤ 16000000 ∧ ∀ x10 ∈ b9, (True ∧ True ∧ inR x10 x6.1)) (.ok (List.map (fun x10 => (getI x10 x6.1)) b9))) fun b11 => (seqO (γ := ((List (List Int)) × (List (Int × Int)))) (R.bind (chk (True ∧ (True ∧ (True ∧ True))) (.ok (decide (x6.2 ∈ ([("positive" : Str), ("free" : Str)] : List Str))))) fun r13 => if r13 = true then (R.bind (R.bind (chk True (.ok b11)) fun b14 => chk ((g7.1).length ≤ 16000000) (.ok b14)) fun b14 => (R.bind (R.bind (chk (True ∧ (True ∧ True)) (.ok (x6.1, (1 : Int)))) fun b15 => chk ((g7.2).length ≤ 16000000) (.ok b15)) fun b15 => (.ok (.nx ((g7.1 ++ [b14]), (g7.2 ++ [b15])))))) else (.ok (.nx (g7.1, g7.2)))) fun g16 => (seqO (γ := ((List (List Int)) × (List (Int × Int)))) (R.bind (chk (True ∧ (True ∧ (True ∧ True))) (.ok (decide (x6.2 ∈ ([("negative" : Str), ("free" : Str)] : List Str))))) fun r17 => if r17 = true then (R.bind (R.bind (R.bind (chk True (.ok b11)) fun b18 => chk ((b18).length ≤ 16000000 ∧ ∀ x19 ∈ b18, True) (.ok (List.map (fun x19 => (-x19)) b18))) fun b20 => chk ((g16.1).length ≤ 16000000) (.ok b20)) fun b20 => (R.bind (R.bind (chk (True ∧ (True ∧ True)) (.ok (x6.1, (-(1 : Int))))) fun b21 => chk ((g16.2).length ≤ 16000000) (.ok b21)) fun b21 => (.ok (.nx ((g16.1 ++ [b20]), (g16.2 ++ [b21])))))) else (.ok (.nx (g16.1, g16.2)))) fun g22 => (.ok (.nx (g22.1, g22.2))))))) (fun _ => (fun _ => 0)) (it_enum (α := Str) (β := (List Str)) (xs := fun b => b) (am_av (Ds := fun (b : (List Str)) => [((dL (α := Str)) b)]) (x := a.2) (av_cons (ev_var (i := 1) rfl) av_nil))) (fun _ _ => mk_nil) (fun _ => ⟨rfl, rfl, rfl, rfl, trivial⟩) (fun _ => MLe.rfl) (fun x6 => (gt_tup2 (gt_name (by decide)) (gt_name (by decide)))) (fun b5 x6 g7 ps8 => (sm_set (em_frz (α := Int) (f := fun (r : (List Int)) => r) (Mf := fun (r : (List Int)) => (((ps4 0), cL (α := (Int × Int)) g7.2) :: (((ps2 0), cL (α := (List Int)) g7.1) :: M))) (em_lcP (η := Int) (M0 := (((ps4 0), cL (α := (Int × Int)) g7.2) :: (((ps2 0), cL (α := (List Int)) g7.1) :: M))) (Γw := [(0, ((dL (α := (List Int))) a.1)), (1, ((dL (α := Str)) a.2)), (2, dR (ps2 0)), (3, dR (ps4 0)), (4, (dI x6.1)), (5, (dS x6.2))]) (adds := fun (x10 : (List Int)) => [(7, ((dL (α := Int)) x10))]) (sl := [7]) (xs := fun (b9 : (List (List Int))) => b9) (ce := fun (b9 : (List (List Int))) (x10 : (List Int)) => (True ∧ True ∧ inR x10 x6.1)) (y := fun (b9 : (List (List Int))) (x10 : (List Int)) => (getI x10 x6.1)) (it_list (α := (List Int)) (β := (List (List Int))) (xs := fun (b : (List (List Int))) => b) (em_ev (β := (List (List Int))) (D := (dL (α := (List Int)))) (ev_var (i := 0) rfl))) mk_nil ⟨rfl, by decide, rfl, by decide, rfl, by decide, rfl, by decide, rfl, by decide, rfl, by decide, trivial⟩ (fun x10 => (gt_name (by decide))) (by decide) (fun (b9 : (List (List Int))) (x10 : (List Int)) => (ev_ixL (lv_dn (ev_var (i := 7) rfl)) (ev_var (i := 4) rfl))))) (by decide) (fun b11 ps12 => (sm_seq (γ' := ((List (List Int)) × (List (Int × Int)))) (Γ1 := fun g16 _ => [(0, ((dL (α := (List Int))) a.1)), (1, ((dL (α := Str)) a.2)), (2, dR (ps2 0)), (3, dR (ps4 0)), (4, (dI x6.1)), (5, (dS x6.2)), (6, ((dL (α := Int)) b11))]) (M1 := fun g16 _ => (((ps4 0), cL (α := (Int × Int)) g16.2) :: (((ps2 0), cL (α := (List Int)) g16.1) :: M))) (sm_ifM (b := fun (r13 : Bool) => r13) (tm_em (b := fun (r : Bool) => r) (em_inT (x := x6.2) (ys := [("positive" : Str), ("free" : Str)]) (ev_var (i := 5) rfl) (av_cons ev_str (av_cons ev_str av_nil)) (Nat.le_of_ble_eq_true rfl))) (fun r13 _ _ => (sm_in (MLe.front 1 rfl) (sm_expr (em_append (α := (List Int)) (xs := g7.1) (fun _ _ h => h) (y := fun (b14 : (List Int)) => b14) (M1 := fun (b14 : (List Int)) => (((ps4 0), cL (α := (Int × Int)) g7.2) :: M)) (ev_var (i := 2) rfl) (em_ev (β := (List Int)) (D := (dL (α := Int))) (ev_var (i := 6) rfl))) (fun b14 _ => (sm_in (MLe.front 1 rfl) (sm_last (sm_expr (em_append (α := (Int × Int)) (xs := g7.2) (fun _ _ h => h) (y := fun (b15 : (Int × Int)) => b15) (M1 := fun (b15 : (Int × Int)) => (((ps2 0), cL (α := (List Int)) (g7.1 ++ [b14])) :: M)) (ev_var (i := 3) rfl) (em_tup0 (D := (dn (α := (Int × Int)))) (x := (x6.1, (1 : Int))) (av_cons (ev_var (i := 4) rfl) (av_cons ev_int av_nil)) rfl (Nat.le_of_ble_eq_true rfl))) (fun b15 _ => (sm_nil (fun _ => 0) ⟨rfl, rfl, rfl, rfl, rfl, rfl, rfl, trivial⟩ MLe.rfl))))))))) (fun r13 _ _ => (sm_nil (fun _ => 0) ⟨rfl, rfl, rfl, rfl, rfl, rfl, rfl, trivial⟩ MLe.rfl))) (fun g16 _ => (sm_last (sm_seq (γ' := ((List (List Int)) × (List (Int × Int)))) (Γ1 := fun g22 _ => [(0, ((dL (α := (List Int))) a.1)), (1, ((dL (α := Str)) a.2)), (2, dR (ps2 0)), (3, dR (ps4 0)), (4, (dI x6.1)), (5, (dS x6.2)), (6, ((dL (α := Int)) b11))]) (M1 := fun g22 _ => (((ps4 0), cL (α := (Int × Int)) g22.2) :: (((ps2 0), cL (α := (List Int)) g22.1) :: M))) (sm_ifM (b := fun (r17 : Bool) => r17) (tm_em (b := fun (r : Bool) => r) (em_inT (x := x6.2) (ys := [("negative" : Str), ("free" : Str)]) (ev_var (i := 5) rfl) (av_cons ev_str (av_cons ev_str av_nil)) (Nat.le_of_ble_eq_true rfl))) (fun r17 _ _ => (sm_in (MLe.front 1 rfl) (sm_expr (em_append (α := (List Int)) (xs := g16.1) (fun _ _ h => h) (y := fun (b20 : (List Int)) => b20) (M1 := fun (b20 : (List Int)) => (((ps4 0), cL (α := (Int × Int)) g16.2) :: M)) (ev_var (i := 2) rfl) (em_frz (α := Int) (f := fun (r : (List Int)) => r) (Mf := fun (r : (List Int)) => (((ps2 0), cL (α := (List Int)) g16.1) :: (((ps4 0), cL (α := (Int × Int)) g16.2) :: M))) (em_lcP (η := Int) (M0 := (((ps2 0), cL (α := (List Int)) g16.1) :: (((ps4 0), cL (α := (Int × Int)) g16.2) :: M))) (Γw := [(0, ((dL (α := (List Int))) a.1)), (1, ((dL (α := Str)) a.2)), (2, dR (ps2 0)), (3, dR (ps4 0)), (4, (dI x6.1)), (5, (dS x6.2)), (6, ((dL (α := Int)) b11))]) (adds := fun (x19 : Int) => [(8, (dI x19))]) (sl := [8]) (xs := fun (b18 : (List Int)) => b18) (ce := fun (b18 : (List Int)) (x19 : Int) => True) (y := fun (b18 : (List Int)) (x19 : Int) => (-x19)) (it_list (α := Int) (β := (List Int)) (xs := fun (b : (List Int)) => b) (em_ev (β := (List Int)) (D := (dL (α := Int))) (ev_var (i := 6) rfl))) mk_nil ⟨rfl, by decide, rfl, by decide, rfl, by decide, rfl, by decide, rfl, by decide, rfl, by decide, rfl, by decide, trivial⟩ (fun x19 => (gt_name (by decide))) (by decide) (fun (b18 : (List Int)) (x19 : Int) => (ev_un (ev_var (i := 8) rfl)))))) (fun b20 _ => (sm_in (MLe.front 1 rfl) (sm_last (sm_expr (em_append (α := (Int × Int)) (xs := g16.2) (fun _ _ h => h) (y := fun (b21 : (Int × Int)) => b21) (M1 := fun (b21 : (Int × Int)) => (((ps2 0), cL (α := (List Int)) (g16.1 ++ [b20])) :: M)) (ev_var (i := 3) rfl) (em_tup0 (D := (dn (α := (Int × Int)))) (x := (x6.1, (-(1 : Int)))) (av_cons (ev_var (i := 4) rfl) (av_cons (ev_un ev_int) av_nil)) rfl (Nat.le_of_ble_eq_true rfl))) (fun b21 _ => (sm_nil (fun _ => 0) ⟨rfl, rfl, rfl, rfl, rfl, rfl, rfl, trivial⟩ MLe.rfl))))))))) (fun r17 _ _ => (sm_nil (fun _ => 0) ⟨rfl, rfl, rfl, rfl, rfl, rfl, rfl, trivial⟩ MLe.rfl))) (fun g22 _ => (sm_nil (fun _ => 0) ⟨rfl, rfl, rfl, rfl, trivial⟩ MLe.rfl))))))))) (fun g7 ps8 => (sm_in (MLe.front 1 rfl) (sm_frz 2 rfl (sm_frz 3 rfl (sm_ret (g := fun b23 => b23) (em_tup0 (D := (dn (α := ((List (List Int)) × (List (Int × Int)))))) (x := (g7.1, g7.2)) (av_cons (ev_var (i := 2) rfl) (av_cons (ev_var (i := 3) rfl) av_nil)) rfl (Nat.le_of_ble_eq_true rfl)) (fun _ _ => rfl) (fun _ _ => MLe.rfl)))))))))))
end
noncomputable def b_solve (a : ((List (List Int)) × (List Str) × (List Int))) : R (Out Empty Empty ((Option (List Int)) × (List Int))) :=
  (R.bind (chk (True ∧ (True ∧ True)) (R.nx (m_signed_columns (a.1, a.2.1)))) fun b1 => (R.bind (R.bind (chk (True ∧ True) (.ok ([(0 : Int)] : List Int))) fun a3 => R.bind (chk True (.ok ((List.length a.1 : Nat) : Int))) fun b4 => chk (-1000000 ≤ b4 ∧ b4 ≤ 1000000 ∧ (a3).length * (Int.toNat b4) ≤ 16777216) (.ok (List.flatten (List.replicate (Int.toNat b4) a3)))) fun b5 => (R.bind (chk (True ∧ True ∧ True) (.ok ())) fun b7 => seqO (forR (γ := ((List Int))) (fun x8 g9 => (seqO (γ := ((List Int))) (chk (True ∧ True) (if (decide (x8.2.1 ∈ a.2.2)) = true then (R.bind (R.bind (chk (True ∧ True ∧ True) (.ok ())) fun b12 => chk (((List.zip g9 x8.1)).length ≤ 16000000 ∧ ∀ x13 ∈ (List.zip g9 x8.1), (True ∧ True)) (.ok (List.map (fun x13 => (x13.1 - x13.2)) (List.zip g9 x8.1)))) fun b14 => (.ok (.nx b14))) else (.ok (.nx g9)))) fun g16 => (.ok (.nx g16)))) (List.zip b1.1 b1.2) b5) fun g9 => (seqO (γ := (Int × (List Int))) (chk (True ∧ (True ∧ True)) (tryI 0 (m_combine (b1.1, g9)) (fun g24 => g24) (fun l17 => (R.bind (R.bind (chk True (.ok l17)) fun b21 => chk ((b21).length ≤ 16000000 ∧ ∀ x22 ∈ b21, True) (.ok (List.map (fun x22 => (-x22)) b21))) fun b23 => .ok (.rt (none, b23)))))) fun g24 => (R.bind (R.bind (chk (True ∧ True) (.ok ([(0 : Int)] : List Int))) fun a27 => R.bind (chk True (.ok ((List.length a.2.1 : Nat) : Int))) fun b28 => chk (-1000000 ≤ b28 ∧ b28 ≤ 1000000 ∧ (a27).length * (Int.toNat b28) ≤ 16777216) (.ok (List.flatten (List.replicate (Int.toNat b28) a27)))) fun b29 => (R.bind (chk (True ∧ True ∧ True) (.ok ())) fun b31 => seqO (forR (γ := ((List Int))) (fun x32 g33 => (chk (True ∧ (True ∧ (True ∧ (True ∧ ((True ∧ True) ∧ True) ∧ (CMulW g24.1 (if (decide (x32.1.1 ∈ a.2.2)) = true then 1 else 0)))) ∧ (CMulW x32.1.2 (x32.2 + (g24.1 * (if (decide (x32.1.1 ∈ a.2.2)) = true then 1 else 0))))) ∧ inR g33 x32.1.1) (.ok (.nx (setI g33 x32.1.1 ((getI g33 x32.1.1) + (x32.1.2 * (x32.2 + (g24.1 * (if (decide (x32.1.1 ∈ a.2.2)) = true then 1 else 0)))))))))) (List.zip b1.2 g24.2) b29) fun g33 => (R.bind (chk (True ∧ True) (R.nx (m_reduced g33))) fun b35 => .ok (.rt (some b35, [])))))))))
noncomputable def m_solve (a : ((List (List Int)) × (List Str) × (List Int))) : R ((Option (List Int)) × (List Int)) := runE (b_solve a)
abbrev sp_solve (K : PySem.W.Frag) (ad : Ad) : Sp := SpG (xd ad) (α := ((List (List Int)) × (List Str) × (List Int))) (β := ((Option (List Int)) × (List Int))) (fun a qs => [((dL (α := (List Int))) a.1), ((dL (α := Str)) a.2.1), ((dL (α := Int)) a.2.2)]) (fun a qs => []) m_solve (fun a qs r ps => dT [dO r.1 (ps 0), ((dL (α := Int)) r.2)]) (fun a qs r ps => mO r.1 (ps 0))
section
variable {P : Program} {w : World} {K : PySem.W.Frag} {mg : Str → Option Value} {base : Heap} {ad : Ad}
theorem ok_solve (T : Txt P K mg ad) : FnOk P w K mg base CX0 4 ad.f_solve ad.d_solve ["rows", "kinds", "strict"] (sp_solve K ad) := by
  refine T.F_solve.ok sc_solve (fun vs H Q E h => spg_len (k := 3) (fun _ _ => rfl) h) (fun cdv A outer s H vs Q E hr h => ?_)
  have hu := hu_of hr
  refine ⟨_, (pss_cons (ps_asg (pe_call (ok_signed_columns (P := P) (w := w) (K := K) (mg := mg) (base := base) T) (hr.mono (by decide)) (by rfl) T.g_signed_columns T.F_signed_columns.kp T.B_signed_columns .nil pass0 (pa_cons (pv 0) (pa_cons (pv 1) pa_nil))) (pg_tupK (K := K) (n := 2) rfl rfl (pgs_cons (pg_name (i := 3) sc_solve.nd rfl (by first | exact Or.inl rfl | exact Or.inr rfl)) (pgs_cons (pg_name (i := 4) sc_solve.nd rfl (by first | exact Or.inl rfl | exact Or.inr rfl)) pgs_nil))))
      (pss_cons (ps_set (i := 5) sc_solve.nd rfl (by first | exact Or.inl rfl | exact Or.inr rfl) (pe_op op_rep (pe_lst (pa_cons pe_int pa_nil)) (pe_callB (id := "len") (call_len_seqK (K := K) rfl) (by rfl) T.z_len PySem.boot_len (pa_cons (pv 0) pa_nil))))
      (pss_cons (ps_for PassesOwn.never rfl (pi_zipK (K := K) rfl (by rfl) T.z_zip (pa_cons (pv 3) (pa_cons (pv 4) pa_nil))) (pg_tupK (K := K) (n := 2) rfl rfl (pgs_cons (pg_name (i := 6) sc_solve.nd rfl (by first | exact Or.inl rfl | exact Or.inr rfl)) (pgs_cons (pg_tupK (K := K) (n := 2) rfl rfl (pgs_cons (pg_name (i := 7) sc_solve.nd rfl (by first | exact Or.inl rfl | exact Or.inr rfl)) (pgs_cons (pg_name (i := 8) sc_solve.nd rfl (by first | exact Or.inl rfl | exact Or.inr rfl)) pgs_nil))) pgs_nil)))
      (pss_one (ps_if (pt_cmpR (op_in_seqK (K := K) rfl) (pv 7) (pv 2) (by rfl)) (pss_one (ps_setLc (i := 5) (own := [("a", 9), ("b", 10)]) (tt := tYes) rfl sc_solve.nd rfl rfl (sw_true rfl rfl rfl (by decide +kernel)) (pi_zipK (K := K) rfl (by rfl) T.z_zip (pa_cons (pv 5) (pa_cons (pv 6) pa_nil))) (blkOk_by (own := [("a", 9), ("b", 10)]) (N := ["rows", "kinds", "strict", "columns", "places", "goal", "column", "index", "sign", "a", "b", "scale", "multiples", "e", "weight", "numbers", "multiple"]) (sc := defScope s_solve) (by decide +kernel)) (fun _ _ _ _ _ => (pg_tupK (K := K) (n := 2) rfl rfl (pgs_cons (pg_name (i := 9) sc_solve.nd rfl (by first | exact Or.inl rfl | exact Or.inr rfl)) (pgs_cons (pg_name (i := 10) sc_solve.nd rfl (by first | exact Or.inl rfl | exact Or.inr rfl)) pgs_nil)))) (fun _ _ _ _ _ => pts_nil) (fun _ _ _ _ _ => (pe_op op_sub (pv 9) (pv 10))))) pss_nil)))
      (pss_cons (L2N.ps_try_as (i := 13) (c := .ref ad.c_NoCombination) (Wout := fun _ _ _ _ => False) rfl rfl sc_solve.nd rfl rfl ⟨rfl, by decide, .inl T.xi_NoCombination.gC⟩ takesN0
      (fun W pn xe tk _ => (pss_one (ps_asg (pe_callS (ok_combine (P := P) (w := w) (K := K) (mg := mg) (base := base) T) (hr.mono (by decide)) (by rfl) T.g_combine T.F_combine.kp T.B_combine (fun σ => L2N.passAt tk σ) (pa_cons (pv 3) (pa_cons (pv 5) pa_nil))) (pg_tupK (K := K) (n := 2) rfl rfl (pgs_cons (pg_name (i := 11) sc_solve.nd rfl (by first | exact Or.inl rfl | exact Or.inr rfl)) (pgs_cons (pg_name (i := 12) sc_solve.nd rfl (by first | exact Or.inl rfl | exact Or.inr rfl)) pgs_nil))))))
      (fun a oe cls d pn hz hf => (pss_one (ps_ret (pe_tup (pa_cons pe_non (pa_cons (Hx.pe_lcH (own := [("weight", 14)]) (g := gName 14) (tt := tYes) (hot_suite hz hf) sc_solve.nd (Hx.pi_listHK (K := K) rfl (pe_xf (xfc_of T.xi_NoCombination) T.xi_NoCombination.noN hz.zc hf (pv 13) (by rfl))) (blkOk_by (own := [("weight", 14)]) (N := ["rows", "kinds", "strict", "columns", "places", "goal", "column", "index", "sign", "a", "b", "scale", "multiples", "e", "weight", "numbers", "multiple"]) (sc := defScope s_solve) (by decide +kernel)) (fun _ _ _ _ _ => (pg_name (i := 14) sc_solve.nd rfl (by first | exact Or.inl rfl | exact Or.inr rfl))) (fun _ _ _ _ _ => pts_nil) (fun _ _ _ _ _ => (pe_un un_neg (pv 14)))) pa_nil)))))))
      (pss_cons (ps_set (i := 15) sc_solve.nd rfl (by first | exact Or.inl rfl | exact Or.inr rfl) (pe_op op_rep (pe_lst (pa_cons pe_int pa_nil)) (pe_callB (id := "len") (call_len_seqK (K := K) rfl) (by rfl) T.z_len PySem.boot_len (pa_cons (pv 1) pa_nil))))
      (pss_cons (ps_for PassesOwn.never rfl (pi_zipK (K := K) rfl (by rfl) T.z_zip (pa_cons (pv 4) (pa_cons (pv 12) pa_nil))) (pg_tupK (K := K) (n := 2) rfl rfl (pgs_cons (pg_tupK (K := K) (n := 2) rfl rfl (pgs_cons (pg_name (i := 7) sc_solve.nd rfl (by first | exact Or.inl rfl | exact Or.inr rfl)) (pgs_cons (pg_name (i := 8) sc_solve.nd rfl (by first | exact Or.inl rfl | exact Or.inr rfl)) pgs_nil))) (pgs_cons (pg_name (i := 16) sc_solve.nd rfl (by first | exact Or.inl rfl | exact Or.inr rfl)) pgs_nil)))
      (pss_one (ps_augS (pv 15) (pv 7) (get_listK (K := K) rfl) (pe_op op_mulW (pv 8) (pe_op op_add (pv 16) (pe_op op_mulW (pv 11) (pe_callTy call_int1 (by rfl) T.z_int (by decide +kernel) (pa_cons (pe_cmpR (op_in_seqK (K := K) rfl) (pv 7) (pv 2) (by rfl)) pa_nil))))) ip_add set_list)))
      (pss_one (ps_ret (pe_tup (pa_cons (pe_call (ok_reduced (P := P) (w := w) (K := K) (mg := mg) (base := base) T) (hr.mono (by decide)) (by rfl) T.g_reduced T.F_reduced.kp T.B_reduced .nil pass0 (pa_cons (pv 15) pa_nil)) (pa_cons (pe_lst pa_nil) pa_nil))))))))))), ?_⟩
  try simp only [cxK, cxK2]
  refine def_ret (n := 17) (γ := Empty) (δ := Empty) (body := b_solve) (Γn := fun _ _ _ _ => []) (Mn := fun _ _ _ _ => []) (Γl := fun _ _ _ _ => []) (Ml := fun _ _ _ _ => []) h rfl (fun _ _ => Nat.le_of_ble_eq_true rfl) (fun _ => rfl) (fun a qs M => ?_)
  unfold b_solve
  exact (sm_asg (adds := fun b1 ps2 => ([(4, ((dL (α := (Int × Int))) b1.2))] ++ [(3, ((dL (α := (List Int))) b1.1))])) (sl := [3, 4]) (em_callP0 (a := (a.1, a.2.1)) (av_cons (ev_var (i := 0) rfl) (av_cons (ev_var (i := 1) rfl) av_nil)) rfl (fun _ _ => rfl)) (fun b1 ps2 => (gt_tup2 (gt_name (by decide)) (gt_name (by decide)))) (fun b1 ps2 => (sm_set (em_frz (α := Int) (f := fun (r : (List Int)) => r) (Mf := fun (r : (List Int)) => M) (em_rep (β := (List Int)) (g := fun (a3 : (List Int)) (b4 : Int) => (List.flatten (List.replicate (Int.toNat b4) a3))) (vr := fun (r : (List Int)) => r) (va := fun (a3 : (List Int)) => a3) (vb := fun (a3 : (List Int)) (b4 : Int) => b4) (Mg := fun (r : (List Int)) => M) (α := Int) (em_frz (α := Int) (f := fun (r : (List Int)) => r) (Mf := fun (r : (List Int)) => M) (em_lst0 (α := Int) (xs := ([(0 : Int)] : List Int)) (av_cons ev_int av_nil) (Nat.le_of_ble_eq_true rfl))) (fun (a3 : (List Int)) => (em_ev (β := Int) (D := dI) (ev_len (lv_dn (ev_var (i := 0) rfl))))) (fun _ _ => rfl) (fun _ _ => rfl))) (by decide) (fun b5 ps6 => (sm_for (γ' := ((List Int))) (Γl := fun g9 ps10 => [(0, ((dL (α := (List Int))) a.1)), (1, ((dL (α := Str)) a.2.1)), (2, ((dL (α := Int)) a.2.2)), (3, ((dL (α := (List Int))) b1.1)), (4, ((dL (α := (Int × Int))) b1.2)), (5, ((dL (α := Int)) g9))]) (Ml := fun g9 ps10 => M) (xs := fun b7 => (List.zip b1.1 b1.2)) (g0 := fun b7 => b5) (adds := fun x8 => (([(8, (dI x8.2.2))] ++ [(7, (dI x8.2.1))]) ++ [(6, ((dL (α := Int)) x8.1))])) (sl := [6, 7, 8]) (f := fun b7 x8 g9 => (seqO (γ := ((List Int))) (chk (True ∧ True) (if (decide (x8.2.1 ∈ a.2.2)) = true then (R.bind (R.bind (chk (True ∧ True ∧ True) (.ok ())) fun b12 => chk (((List.zip g9 x8.1)).length ≤ 16000000 ∧ ∀ x13 ∈ (List.zip g9 x8.1), (True ∧ True)) (.ok (List.map (fun x13 => (x13.1 - x13.2)) (List.zip g9 x8.1)))) fun b14 => (.ok (.nx b14))) else (.ok (.nx g9)))) fun g16 => (.ok (.nx g16)))) (fun _ => (fun _ => 0)) (it_zip (α := (List Int)) (α' := (Int × Int)) (β := Unit) (xs := fun _ => b1.1) (ys := fun _ => b1.2) (am_av (β := Unit) (Ds := fun b => [((dL (α := (List Int))) b1.1), ((dL (α := (Int × Int))) b1.2)]) (x := ()) (av_cons (ev_var (i := 3) rfl) (av_cons (ev_var (i := 4) rfl) av_nil)))) (fun _ _ => mk_nil) (fun _ => ⟨rfl, rfl, rfl, rfl, rfl, rfl, trivial⟩) (fun _ => MLe.rfl) (fun x8 => (gt_tup2 (gt_name (by decide)) (gt_tup2 (gt_name (by decide)) (gt_name (by decide))))) (fun b7 x8 g9 ps10 => (sm_last (sm_seq (γ' := ((List Int))) (Γ1 := fun g16 _ => [(0, ((dL (α := (List Int))) a.1)), (1, ((dL (α := Str)) a.2.1)), (2, ((dL (α := Int)) a.2.2)), (3, ((dL (α := (List Int))) b1.1)), (4, ((dL (α := (Int × Int))) b1.2)), (5, ((dL (α := Int)) g16)), (6, ((dL (α := Int)) x8.1)), (7, (dI x8.2.1)), (8, (dI x8.2.2))]) (M1 := fun g16 _ => M) (sm_if (tv_test (ev_inI (ev_var (i := 7) rfl) (lv_dn (ev_var (i := 2) rfl)))) (fun _ => (sm_last (sm_set (em_frz (α := Int) (f := fun (r : (List Int)) => r) (Mf := fun (r : (List Int)) => M) (em_lcP (η := Int) (M0 := M) (Γw := [(0, ((dL (α := (List Int))) a.1)), (1, ((dL (α := Str)) a.2.1)), (2, ((dL (α := Int)) a.2.2)), (3, ((dL (α := (List Int))) b1.1)), (4, ((dL (α := (Int × Int))) b1.2)), (5, ((dL (α := Int)) g9)), (6, ((dL (α := Int)) x8.1)), (7, (dI x8.2.1)), (8, (dI x8.2.2))]) (adds := fun (x13 : (Int × Int)) => ([(10, (dI x13.2))] ++ [(9, (dI x13.1))])) (sl := [9, 10]) (xs := fun (b12 : Unit) => (List.zip g9 x8.1)) (ce := fun (b12 : Unit) (x13 : (Int × Int)) => (True ∧ True)) (y := fun (b12 : Unit) (x13 : (Int × Int)) => (x13.1 - x13.2)) (it_zip (α := Int) (α' := Int) (β := Unit) (xs := fun _ => g9) (ys := fun _ => x8.1) (am_av (β := Unit) (Ds := fun b => [((dL (α := Int)) g9), ((dL (α := Int)) x8.1)]) (x := ()) (av_cons (ev_var (i := 5) rfl) (av_cons (ev_var (i := 6) rfl) av_nil)))) mk_nil ⟨rfl, by decide, rfl, by decide, rfl, by decide, rfl, by decide, rfl, by decide, rfl, by decide, rfl, by decide, rfl, by decide, rfl, by decide, trivial⟩ (fun x13 => (gt_tup2 (gt_name (by decide)) (gt_name (by decide)))) (by decide) (fun (b12 : Unit) (x13 : (Int × Int)) => (ev_op (ev_var (i := 9) rfl) (ev_var (i := 10) rfl))))) (by decide) (fun b14 ps15 => (sm_nil (fun _ => 0) ⟨rfl, rfl, rfl, rfl, rfl, rfl, rfl, rfl, rfl, trivial⟩ MLe.rfl))))) (fun _ => (sm_nil (fun _ => 0) ⟨rfl, rfl, rfl, rfl, rfl, rfl, rfl, rfl, rfl, trivial⟩ MLe.rfl))) (fun g16 _ => (sm_nil (fun _ => 0) ⟨rfl, rfl, rfl, rfl, rfl, rfl, trivial⟩ MLe.rfl))))) (fun g9 ps10 => (sm_seq (γ' := (Int × (List Int))) (Γ1 := fun (g24 : (Int × (List Int))) ps25 => [(11, (dI g24.1)), (12, ((dL (α := Int)) g24.2)), (0, ((dL (α := (List Int))) a.1)), (1, ((dL (α := Str)) a.2.1)), (2, ((dL (α := Int)) a.2.2)), (3, ((dL (α := (List Int))) b1.1)), (4, ((dL (α := (Int × Int))) b1.2)), (5, ((dL (α := Int)) g9))]) (M1 := fun (g24 : (Int × (List Int))) ps25 => M) (sm_tryI (ki := 0) (a := (b1.1, g9)) (C := ad.c_NoCombination) (f := "weights") (j := 13) (gg := fun (r : (Int × (List Int))) => r) (adds := fun (g24 : (Int × (List Int))) ps25 => ([(12, ((dL (α := Int)) g24.2))] ++ [(11, (dI g24.1))])) (sl := [11, 12]) (fun _ => 0) M (fun (g24 : (Int × (List Int))) ps25 => ((dn (α := (Int × (List Int)))) g24)) (av_cons (ev_var (i := 3) rfl) (av_cons (ev_var (i := 5) rfl) av_nil)) MLe.rfl (fun _ _ => post_tup1) (fun g24 ps25 => (gt_tup2 (gt_name (by decide)) (gt_name (by decide)))) (fun _ _ => ⟨rfl, rfl, rfl, rfl, rfl, rfl, rfl, rfl, trivial⟩) T.xi_NoCombination.te rfl (by decide) (fun _ _ => rfl) (fun _ _ => rfl) (fun l17 p18 cl19 d20 => (sm_retN (f := fun (b23 : (List Int)) => b23) (em_frz (α := Int) (f := fun (r : (List Int)) => r) (Mf := fun (r : (List Int)) => M) (em_lcP (η := Int) (M0 := M) (Γw := [(0, ((dL (α := (List Int))) a.1)), (1, ((dL (α := Str)) a.2.1)), (2, ((dL (α := Int)) a.2.2)), (3, ((dL (α := (List Int))) b1.1)), (4, ((dL (α := (Int × Int))) b1.2)), (5, ((dL (α := Int)) g9)), (13, (dE p18 cl19 d20 ad.c_NoCombination "weights" (.ints l17)))]) (adds := fun (x22 : Int) => [(14, (dI x22))]) (sl := [14]) (xs := fun (b21 : (List Int)) => b21) (ce := fun (b21 : (List Int)) (x22 : Int) => True) (y := fun (b21 : (List Int)) (x22 : Int) => (-x22)) (it_list (α := Int) (β := (List Int)) (xs := fun (b : (List Int)) => b) (em_ev (β := (List Int)) (D := (dL (α := Int))) (ev_xf (g := .ints l17) (ev_var (i := 13) rfl)))) mk_nil ⟨rfl, by decide, rfl, by decide, rfl, by decide, rfl, by decide, rfl, by decide, rfl, by decide, rfl, by decide, trivial⟩ (fun x22 => (gt_name (by decide))) (by decide) (fun (b21 : (List Int)) (x22 : Int) => (ev_un (ev_var (i := 14) rfl))))) (fun _ _ => rfl) (fun _ _ => MLe.rfl)))) (fun g24 ps25 => (sm_set (em_rep (β := (List Int)) (g := fun (a27 : (List Int)) (b28 : Int) => (List.flatten (List.replicate (Int.toNat b28) a27))) (vr := fun (r : (List Int)) => r) (va := fun (a27 : (List Int)) => a27) (vb := fun (a27 : (List Int)) (b28 : Int) => b28) (Mg := fun (r : (List Int)) => M) (α := Int) (em_frz (α := Int) (f := fun (r : (List Int)) => r) (Mf := fun (r : (List Int)) => M) (em_lst0 (α := Int) (xs := ([(0 : Int)] : List Int)) (av_cons ev_int av_nil) (Nat.le_of_ble_eq_true rfl))) (fun (a27 : (List Int)) => (em_ev (β := Int) (D := dI) (ev_len (lv_dn (ev_var (i := 1) rfl))))) (fun _ _ => rfl) (fun _ _ => rfl)) (by decide) (fun b29 ps30 => (sm_for (γ' := ((List Int))) (Γl := fun g33 ps34 => [(0, ((dL (α := (List Int))) a.1)), (1, ((dL (α := Str)) a.2.1)), (2, ((dL (α := Int)) a.2.2)), (3, ((dL (α := (List Int))) b1.1)), (4, ((dL (α := (Int × Int))) b1.2)), (5, ((dL (α := Int)) g9)), (11, (dI g24.1)), (12, ((dL (α := Int)) g24.2)), (15, dR (ps30 0))]) (Ml := fun g33 ps34 => (((ps30 0), cL (α := Int) g33) :: M)) (xs := fun b31 => (List.zip b1.2 g24.2)) (g0 := fun b31 => b29) (adds := fun x32 => ([(16, (dI x32.2))] ++ ([(8, (dI x32.1.2))] ++ [(7, (dI x32.1.1))]))) (sl := [7, 8, 16]) (f := fun b31 x32 g33 => (chk (True ∧ (True ∧ (True ∧ (True ∧ ((True ∧ True) ∧ True) ∧ (CMulW g24.1 (if (decide (x32.1.1 ∈ a.2.2)) = true then 1 else 0)))) ∧ (CMulW x32.1.2 (x32.2 + (g24.1 * (if (decide (x32.1.1 ∈ a.2.2)) = true then 1 else 0))))) ∧ inR g33 x32.1.1) (.ok (.nx (setI g33 x32.1.1 ((getI g33 x32.1.1) + (x32.1.2 * (x32.2 + (g24.1 * (if (decide (x32.1.1 ∈ a.2.2)) = true then 1 else 0)))))))))) (fun _ => (fun _ => 0)) (it_zip (α := (Int × Int)) (α' := Int) (β := Unit) (xs := fun _ => b1.2) (ys := fun _ => g24.2) (am_av (β := Unit) (Ds := fun b => [((dL (α := (Int × Int))) b1.2), ((dL (α := Int)) g24.2)]) (x := ()) (av_cons (ev_var (i := 4) rfl) (av_cons (ev_var (i := 12) rfl) av_nil)))) (fun _ _ => mk_nil) (fun _ => ⟨rfl, rfl, rfl, rfl, rfl, rfl, rfl, rfl, rfl, trivial⟩) (fun _ => MLe.rfl) (fun x32 => (gt_tup2 (gt_tup2 (gt_name (by decide)) (gt_name (by decide))) (gt_name (by decide)))) (fun b31 x32 g33 ps34 => (sm_last (sm_augL (xs := g33) (i := x32.1.1) (y := (x32.1.2 * (x32.2 + (g24.1 * (if (decide (x32.1.1 ∈ a.2.2)) = true then 1 else 0))))) (ev_var (i := 15) rfl) (ev_var (i := 7) rfl) (ev_opC (ev_var (i := 8) rfl) (ev_op (ev_var (i := 16) rfl) (ev_opC (ev_var (i := 11) rfl) (ev_int_b (av_cons (ev_inI (ev_var (i := 7) rfl) (lv_dn (ev_var (i := 2) rfl))) av_nil))))) (sm_nil (fun _ => 0) ⟨rfl, rfl, rfl, rfl, rfl, rfl, rfl, rfl, rfl, trivial⟩ MLe.rfl)))) (fun g33 ps34 => (sm_frz 15 rfl (sm_retS (f := fun (b35 : (List Int)) => b35) (em_callQ (rfl : sp_reduced K ad = _) (a := g33) (fun _ => 0) M (Mr := fun r ps => (ps 0, cL (α := Int) r) :: M) (av_cons (ev_var (i := 15) rfl) av_nil) MLe.rfl (fun _ _ => MLe.rfl)) (fun _ _ => rfl) (fun _ _ => (MLe.sbl (.cons₂ _ (List.Sublist.refl _))))))))))))))))))
end
noncomputable def b_balance (a : ((List (List Int)) × (List Str))) : R (Out Empty Empty (List Int)) :=
  (R.bind (R.bind (chk (True ∧ True) (.ok a.2)) fun b1 => chk (((enumI b1)).length ≤ 16000000 ∧ ∀ x2 ∈ (enumI b1), True ∧ ((decide (x2.2 ∈ ([("positive" : Str), ("negative" : Str)] : List Str))) = true → True)) (.ok (List.map (fun x2 => x2.1) (List.filter (fun x2 => (decide (x2.2 ∈ ([("positive" : Str), ("negative" : Str)] : List Str)))) (enumI b1))))) fun b3 => (R.bind (chk (True ∧ (True ∧ (True ∧ True))) (R.nx (m_solve (a.1, a.2, b3)))) fun b5 => (seqO (γ := (List Int)) (match b5.1 with | none => (R.bind (chk True (.ok b5.2)) fun b8 => .exc ⟨1, .ints b8⟩) | some l7 => .ok (.nx l7)) fun l7 => (R.bind (chk True (.ok l7)) fun b9 => .ok (.rt b9)))))
noncomputable def m_balance (a : ((List (List Int)) × (List Str))) : R (List Int) := runE (b_balance a)
abbrev sp_balance (K : PySem.W.Frag) (ad : Ad) : Sp := SpG (xd ad) (α := ((List (List Int)) × (List Str))) (β := (List Int)) (fun a qs => [((dL (α := (List Int))) a.1), ((dL (α := Str)) a.2)]) (fun a qs => []) m_balance (fun a qs r ps => dR (ps 0)) (fun a qs r ps => [(ps 0, cL (α := Int) r)])
section
variable {P : Program} {w : World} {K : PySem.W.Frag} {mg : Str → Option Value} {base : Heap} {ad : Ad}
theorem ok_balance (T : Txt P K mg ad) : FnOk P w K mg base (L2N.CX P w) 5 ad.f_balance ad.d_balance ["rows", "kinds"] (sp_balance K ad) := by
  refine okN T.F_balance sc_balance (fun vs H Q E h => spg_len (k := 2) (fun _ _ => rfl) h) (fun cdv A outer s H vs Q E hr h => ?_)
  have hu := hu_of hr
  refine ⟨_, (pss_cons (ps_setLc (i := 2) (own := [("index", 3), ("kind", 4)]) rfl sc_balance.nd rfl rfl (sw_true rfl rfl rfl (by decide +kernel)) (pi_enumK (K := K) rfl (by rfl) T.z_enumerate (pa_cons (pv 1) pa_nil)) (blkOk_by (own := [("index", 3), ("kind", 4)]) (N := ["rows", "kinds", "strict", "index", "kind", "numbers", "weights"]) (sc := defScope s_balance) (by decide +kernel)) (fun _ _ _ _ _ => (pg_tupK (K := K) (n := 2) rfl rfl (pgs_cons (pg_name (i := 3) sc_balance.nd rfl (by first | exact Or.inl rfl | exact Or.inr rfl)) (pgs_cons (pg_name (i := 4) sc_balance.nd rfl (by first | exact Or.inl rfl | exact Or.inr rfl)) pgs_nil)))) (fun _ _ _ _ _ => (pts_one (pt_cmpR (op_in_seqK (K := K) rfl) (pv 4) (pe_glob (v := .ref ad.t_SIGNED) (by rfl) T.g_SIGNED rfl) (by rfl)))) (fun _ _ _ _ _ => (pv 3)))
      (pss_cons (ps_asg (pe_call (ok_solve (P := P) (w := w) (K := K) (mg := mg) (base := base) T) (hr.mono (by decide)) (by rfl) T.g_solve T.F_solve.kp T.B_solve .nil pass0 (pa_cons (pv 0) (pa_cons (pv 1) (pa_cons (pv 2) pa_nil)))) (pg_tupK (K := K) (n := 2) rfl rfl (pgs_cons (pg_name (i := 5) sc_balance.nd rfl (by first | exact Or.inl rfl | exact Or.inr rfl)) (pgs_cons (pg_name (i := 6) sc_balance.nd rfl (by first | exact Or.inl rfl | exact Or.inr rfl)) pgs_nil))))
      (pss_cons (ps_if (pt_cmpR op_isN (pv 5) pe_non (nomark _)) (pss_one (L2N.ps_raise rfl (L2N.takes_of rfl rfl rfl rfl) (pmk_x T.xi_NoBalance hr (pa_cons (pv 6) pa_nil) (by rfl)))) pss_nil)
      (pss_one (ps_ret (pv 5)))))), ?_⟩
  try simp only [cxK, cxK2]
  refine def_ret (n := 7) (γ := Empty) (δ := Empty) (body := b_balance) (Γn := fun _ _ _ _ => []) (Mn := fun _ _ _ _ => []) (Γl := fun _ _ _ _ => []) (Ml := fun _ _ _ _ => []) h rfl (fun _ _ => Nat.le_of_ble_eq_true rfl) (fun _ => rfl) (fun a qs M => ?_)
  unfold b_balance
  exact (sm_set (em_frz (α := Int) (f := fun (r : (List Int)) => r) (Mf := fun (r : (List Int)) => M) (em_lcT (η := Int) (M0 := M) (Γw := [(0, ((dL (α := (List Int))) a.1)), (1, ((dL (α := Str)) a.2))]) (adds := fun (x2 : (Int × Str)) => ([(4, (dS x2.2))] ++ [(3, (dI x2.1))])) (sl := [3, 4]) (xs := fun (b1 : (List Str)) => (enumI b1)) (ct := fun (b1 : (List Str)) (x2 : (Int × Str)) => True) (bb := fun (b1 : (List Str)) (x2 : (Int × Str)) => (decide (x2.2 ∈ ([("positive" : Str), ("negative" : Str)] : List Str)))) (ce := fun (b1 : (List Str)) (x2 : (Int × Str)) => True) (y := fun (b1 : (List Str)) (x2 : (Int × Str)) => x2.1) (it_enum (α := Str) (β := (List Str)) (xs := fun b => b) (am_av (Ds := fun (b : (List Str)) => [((dL (α := Str)) b)]) (x := a.2) (av_cons (ev_var (i := 1) rfl) av_nil))) mk_nil ⟨rfl, by decide, rfl, by decide, trivial⟩ (fun x2 => (gt_tup2 (gt_name (by decide)) (gt_name (by decide)))) (by decide) (fun (b1 : (List Str)) (x2 : (Int × Str)) => (tv_test (ev_inK (ev_var (i := 4) rfl) T.tp_SIGNED))) (fun (b1 : (List Str)) (x2 : (Int × Str)) => (ev_var (i := 3) rfl)))) (by decide) (fun b3 ps4 => (sm_asg (adds := fun (b5 : ((Option (List Int)) × (List Int))) ps6 => [(6, ((dL (α := Int)) b5.2)), (5, dO b5.1 (ps6 0))]) (sl := [5, 6]) (em_callQ (rfl : sp_solve K ad = _) (a := (a.1, a.2, b3)) (fun _ => 0) M (Mr := fun (r : ((Option (List Int)) × (List Int))) ps => mO r.1 (ps 0) ++ M) (av_cons (ev_var (i := 0) rfl) (av_cons (ev_var (i := 1) rfl) (av_cons (ev_var (i := 2) rfl) av_nil))) MLe.rfl (fun _ _ => MLe.rfl)) (fun _ _ => gt_tup2 (gt_name (by decide)) (gt_name (by decide))) (fun b5 ps6 => (sm_seq (γ' := (List Int)) (Γ1 := fun (l7 : (List Int)) _ => [(0, ((dL (α := (List Int))) a.1)), (1, ((dL (α := Str)) a.2)), (2, ((dL (α := Int)) b3)), (6, ((dL (α := Int)) b5.2)), (5, dR (ps6 0))]) (M1 := fun (l7 : (List Int)) _ => (((ps6 0), cL (α := Int) l7) :: M)) (sm_ifN (o := b5.1) (m1 := (R.bind (chk True (.ok b5.2)) fun b8 => .exc ⟨1, .ints b8⟩)) (m2 := fun l7 => .ok (.nx l7)) rfl (fun _ => (sm_raiseX (y := fun (b8 : (List Int)) => XA.ints b8) (em_ev (β := (List Int)) (D := (dL (α := Int))) (ev_var (i := 6) rfl)) (fun _ => rfl) rfl (fun _ => MLe.rfl))) (fun l7 e_ => by rw [e_]; exact (sm_nil (fun _ => 0) ⟨rfl, rfl, rfl, rfl, rfl, trivial⟩ MLe.rfl))) (fun l7 _ => (sm_ret (g := fun b9 => b9) (em_ownVar (i := 5) rfl) (fun _ _ => rfl) (fun _ _ => (MLe.sbl (.cons₂ _ (List.Sublist.refl _)))))))))))
end
noncomputable def m_law_take (a : (List Int) × Int) : R (Int × List Int) := chk (Tr.PoolOk a.1 ∧ 0 < a.2) (.ok (Tr.tkv a.1 a.2, a.1.tail))
abbrev sp_law_take (K : PySem.W.Frag) (ad : Ad) : Sp := SpG (xd ad) (α := (List Int) × Int) (β := Int × List Int) (fun a qs => [dR (qs 0), dI a.2]) (fun a qs => [(qs 0, cL (α := Int) a.1)]) m_law_take (fun a qs r ps => dI r.1) (fun a qs r ps => [(qs 0, cL (α := Int) r.2)])
theorem eqv_nil : ∀ ms : List Int, PyData.eqv (.list (ms.map PyData.int)) (.list []) = ms.isEmpty
  | [] => rfl
  | _ :: _ => rfl
theorem dpI {K : PySem.W.Frag} {H : Hp} : ∀ ms : List Int, DpAll K H (ms.map V.int) (ms.map PyData.int)
  | [] => .nil
  | _ :: r => .cons (.int _) (dpI r)
theorem shapedI : ∀ ms : List Int, SeqAt.shaped (.list (ms.map PyData.int)) = true
  | [] => rfl
  | _ :: r => shapedI r
theorem pool_at {G : Hp} {M : Mm} {p : Addr} {ms : List Int} {H : Hp} (A : Mr.At G ((p, cL ms) :: M) H) : H p = some (pool ms) := by
  obtain ⟨o, h1, vs, rfl, d⟩ := A.hd
  rw [h1, dens_ints d]
theorem pool_to {G : Hp} {M : Mm} {p : Addr} {ms ns : List Int} {H H' : Hp} (A : Mr.At G ((p, cL ms) :: M) H) (c : Chg p H H') (h : H' p = some (pool ns)) : Mr.At G ((p, cL ns) :: M) H' :=
  A.chg (c' := cL ns) c h ⟨_, rfl, dens_of_ints ns⟩
theorem st_law_take (a0 a1 : V) : start ["_law_pool_here", "_law_many"] [a0, a1] = [some a0, some a1] := rfl
section
variable {P : Program} {w : World} {K : PySem.W.Frag} {mg : Str → Option Value} {base : Heap} {ad : Ad}
theorem ok_law_take (T : Txt P K mg ad) : FnOk P w K mg base CX0 1 ad.f_law_take ad.d_law_take ["_law_pool_here", "_law_many"] (sp_law_take K ad) := by
  refine T.F_law_take.ok sc_law_take (fun vs H Q E h => spg_len (k := 2) (fun _ _ => rfl) h) (fun cdv A outer s H vs Q E hr h => ?_)
  have hu := hu_of hr
  obtain ⟨G, M, a, qs, A, ⟨v1, r1, rfl, e1, v2, r2, rfl, e2, e3⟩, k⟩ := h
  obtain ⟨ms, m⟩ := a
  cases (show v1 = .ref (qs 0) from e1)
  cases (show v2 = .int m from e2)
  cases (show r2 = [] from e3)
  unfold m_law_take at k
  rw [wp_chk] at k
  obtain ⟨⟨ok, hm⟩, k⟩ := k
  have k : ∀ H', Chg (qs 0) H H' → H' (qs 0) = some (pool ms.tail) → Q (.int (tkv ms m)) H' := fun H' c h => k (fun _ => 0) G H' _ (Mr.Sub.refl _) (pool_to A c h) rfl
  have hp : H (qs 0) = some (pool ms) := pool_at A
  refine ⟨_, (pss_cons (ps_if (pt_cmpR (op_eqDK (K := K) rfl hr.units) (pv 0) (pe_lst pa_nil) (nomark _)) (pss_one (ps_ret pe_int)) pss_nil)
      (pss_one (ps_ret (pe_op op_modN (pe_callTy call_int1 (by rfl) T.z_int (by decide +kernel) (pa_cons (pe_bm PySem.F.plainAttrs_list PySem.F.slot_list_pop PySem.F.type_list_pop mt_popAt (pv 0) (pa_cons pe_int pa_nil)) pa_nil)) (pv 1))))), ?_⟩
  try simp only [cxK, cxK2]
  rw [st_law_take]
  refine ⟨_, rfl, Nat.zero_le _, fun o no => ?_⟩
  have hpo : qs 0 ≠ o := ne_of_none hp no
  have hp1 : (upd H o (.lst [])) (qs 0) = some (pool ms) := by rw [upd_ne hpo]; exact hp
  refine ⟨.list (ms.map PyData.int), .list [], .lst (SqL.of hp1) (dpI ms), .lst (SqL.of upd_same) .nil, shapedI ms, rfl, _, rfl, ?_⟩
  rw [eqv_nil]
  cases ms with
  | nil =>
    refine iteT ?_
    exact k _ (Chg.new no) hp1
  | cons n r =>
    refine iteF ?_
    refine ⟨_, rfl, .inl ⟨rfl, _, SqL.of hp1⟩, qs 0, _, 0, 0, _, rfl, rfl, hp1, by decide, by decide, (by simp [seqIndex?, List.length_cons] <;> omega), rfl, ?_⟩
    refine .inl ⟨n, rfl, _, rfl, _, _, rfl, rfl, by omega, ?_⟩
    exact k _ ((Chg.new no).trans Chg.put) upd_same
end
def m_law_whole (a : Int) : R Bool := .ok true
abbrev sp_law_whole (K : PySem.W.Frag) (ad : Ad) : Sp := SpG (xd ad) (α := Int) (β := Bool) (fun a qs => [dI a]) (fun a qs => []) m_law_whole (fun a qs r ps => dB r) (fun a qs r ps => [])
theorem kit_ii {K : PySem.W.Frag} : PySem.W.kitOne K (.type "int") (.type "int") = some true := kit_ty (by decide +kernel)
theorem kit_ib {K : PySem.W.Frag} : PySem.W.kitOne K (.type "int") (.type "bool") = some false := kit_ty (by decide +kernel)
theorem st_law_whole (a0 : V) : start ["_law_x"] [a0] = [some a0] := rfl
section
variable {P : Program} {w : World} {K : PySem.W.Frag} {mg : Str → Option Value} {base : Heap} {ad : Ad}
theorem ok_law_whole (T : Txt P K mg ad) : FnOk P w K mg base CX0 1 ad.f_law_whole ad.d_law_whole ["_law_x"] (sp_law_whole K ad) := by
  refine T.F_law_whole.ok sc_law_whole (fun vs H Q E h => spg_len (k := 1) (fun _ _ => rfl) h) (fun cdv A outer s H vs Q E hr h => ?_)
  have hu := hu_of hr
  obtain ⟨G, M, n, qs, A, ⟨v1, r1, rfl, e1, e2⟩, k⟩ := h
  cases (show v1 = .int n from e1)
  cases (show r1 = [] from e2)
  have k : Q (.bl true) H := k (fun _ => 0) G H _ (Mr.Sub.refl _) A rfl
  refine ⟨_, (pss_one (ps_ret (pe_and (pe_callB (id := "isinstance") (call_isiK (K := K) rfl) (by rfl) T.z_isinstance (by decide +kernel) (pa_cons (pv 0) (pa_cons (pe_bltn (v := .ty "int") (by rfl) T.z_int (by decide +kernel) rfl) pa_nil))) (pe_one (pe_not (pe_callB (id := "isinstance") (call_isiK (K := K) rfl) (by rfl) T.z_isinstance (by decide +kernel) (pa_cons (pv 0) (pa_cons (pe_bltn (v := .ty "bool") (by rfl) T.z_bool (by decide +kernel) rfl) pa_nil)))))))), ?_⟩
  try simp only [cxK, cxK2]
  rw [st_law_whole]
  refine ⟨_, rfl, .int n, .ty "int", _, _, true, rfl, .ty _, .base (.int n), kit_ii, true, rfl, iteT ?_⟩
  exact ⟨_, rfl, .int n, .ty "bool", _, _, false, rfl, .ty _, .base (.int n), kit_ib, false, rfl, k⟩
theorem okH_law_whole (T : Txt P K mg ad) : L2H.FnH P w K mg base CX0 1 ad.f_law_whole ad.d_law_whole ["_law_x"] (sp_law_whole K ad) := by
  refine okH T.F_law_whole sc_law_whole (fun vs H Q E h => spg_len (k := 1) (fun _ _ => rfl) h) (fun cdv A outer s H vs Q E p hc hr h => ?_)
  have hu := hu_ofH hr
  obtain ⟨G, M, n, qs, A, ⟨v1, r1, rfl, e1, e2⟩, k⟩ := h
  cases (show v1 = .int n from e1)
  cases (show r1 = [] from e2)
  have k : Q (.bl true) H := k (fun _ => 0) G H _ (Mr.Sub.refl _) A rfl
  refine ⟨_, (pss_one (ps_ret (pe_and (pe_callB (id := "isinstance") (call_isiK (K := K) rfl) (by rfl) T.z_isinstance (by decide +kernel) (pa_cons (pv 0) (pa_cons (pe_bltn (v := .ty "int") (by rfl) T.z_int (by decide +kernel) rfl) pa_nil))) (pe_one (pe_not (pe_callB (id := "isinstance") (call_isiK (K := K) rfl) (by rfl) T.z_isinstance (by decide +kernel) (pa_cons (pv 0) (pa_cons (pe_bltn (v := .ty "bool") (by rfl) T.z_bool (by decide +kernel) rfl) pa_nil)))))))), ?_⟩
  try simp only [cxK, cxK2]
  rw [st_law_whole]
  refine ⟨_, rfl, .int n, .ty "int", _, _, true, rfl, .ty _, .base (.int n), kit_ii, true, rfl, iteT ?_⟩
  exact ⟨_, rfl, .int n, .ty "bool", _, _, false, rfl, .ty _, .base (.int n), kit_ib, false, rfl, k⟩
end
noncomputable def b_law_dot (a : ((List Int) × (List Int))) : R (Out Empty Empty Int) :=
  (R.bind (chk True (.ok (0 : Int))) fun b1 => (R.bind (R.bind (chk (True ∧ True) (.ok ())) fun b => chk (-1000000000 ≤ ((List.length a.1 : Nat) : Int) ∧ ((List.length a.1 : Nat) : Int) ≤ 1000000000) (.ok b)) fun b3 => seqO (forR (γ := (Int)) (fun x4 g5 => (R.bind (chk (True ∧ ((True ∧ True ∧ inR a.1 x4) ∧ (True ∧ True ∧ inR a.2 x4) ∧ (CMulW (getI a.1 x4) (getI a.2 x4)))) (.ok (g5 + ((getI a.1 x4) * (getI a.2 x4))))) fun b7 => (.ok (.nx b7)))) (rng 0 ((List.length a.1 : Nat) : Int)) b1) fun g5 => (R.bind (chk True (.ok g5)) fun b9 => .ok (.rt b9))))
noncomputable def m_law_dot (a : ((List Int) × (List Int))) : R Int := runE (b_law_dot a)
abbrev sp_law_dot (K : PySem.W.Frag) (ad : Ad) : Sp := SpG (xd ad) (α := ((List Int) × (List Int))) (β := Int) (fun a qs => [((dL (α := Int)) a.1), ((dL (α := Int)) a.2)]) (fun a qs => []) m_law_dot (fun a qs r ps => (dI r)) (fun a qs r ps => [])
section
variable {P : Program} {w : World} {K : PySem.W.Frag} {mg : Str → Option Value} {base : Heap} {ad : Ad}
theorem ok_law_dot (T : Txt P K mg ad) : FnOk P w K mg base CX0 1 ad.f_law_dot ad.d_law_dot ["_law_one", "_law_two"] (sp_law_dot K ad) := by
  refine T.F_law_dot.ok sc_law_dot (fun vs H Q E h => spg_len (k := 2) (fun _ _ => rfl) h) (fun cdv A outer s H vs Q E hr h => ?_)
  have hu := hu_of hr
  refine ⟨_, (pss_cons (ps_set (i := 2) sc_law_dot.nd rfl (by first | exact Or.inl rfl | exact Or.inr rfl) pe_int)
      (pss_cons (ps_for PassesOwn.never rfl (pi_range1 rfl T.z_range (pa_cons (pe_callB (id := "len") (call_len_seqK (K := K) rfl) (by rfl) T.z_len PySem.boot_len (pa_cons (pv 0) pa_nil)) pa_nil)) (pg_name (i := 3) sc_law_dot.nd rfl (by first | exact Or.inl rfl | exact Or.inr rfl))
      (pss_one (ps_set (i := 2) sc_law_dot.nd rfl (by first | exact Or.inl rfl | exact Or.inr rfl) (pe_op op_add (pv 2) (pe_op op_mulW (pe_ix (ix_listK (K := K) rfl) (pv 0) (pv 3) (fun _ _ => rfl)) (pe_ix (ix_listK (K := K) rfl) (pv 1) (pv 3) (fun _ _ => rfl)))))))
      (pss_one (ps_ret (pv 2))))), ?_⟩
  try simp only [cxK, cxK2]
  refine def_ret (n := 4) (γ := Empty) (δ := Empty) (body := b_law_dot) (Γn := fun _ _ _ _ => []) (Mn := fun _ _ _ _ => []) (Γl := fun _ _ _ _ => []) (Ml := fun _ _ _ _ => []) h rfl (fun _ _ => Nat.le_of_ble_eq_true rfl) (fun _ => rfl) (fun a qs M => ?_)
  unfold b_law_dot
  exact (sm_set (em_ev (β := Int) (D := dI) ev_int) (by decide) (fun b1 ps2 => (sm_for (γ' := (Int)) (Γl := fun g5 ps6 => [(0, ((dL (α := Int)) a.1)), (1, ((dL (α := Int)) a.2)), (2, (dI g5))]) (Ml := fun g5 ps6 => M) (xs := fun b3 => (rng 0 ((List.length a.1 : Nat) : Int))) (g0 := fun b3 => b1) (adds := fun x4 => [(3, (dI x4))]) (sl := [3]) (f := fun b3 x4 g5 => (R.bind (chk (True ∧ ((True ∧ True ∧ inR a.1 x4) ∧ (True ∧ True ∧ inR a.2 x4) ∧ (CMulW (getI a.1 x4) (getI a.2 x4)))) (.ok (g5 + ((getI a.1 x4) * (getI a.2 x4))))) fun b7 => (.ok (.nx b7)))) (fun _ => (fun _ => 0)) (it_range1 (j := fun _ => ((List.length a.1 : Nat) : Int)) (am_av (β := Unit) (Ds := fun _ => [dI ((List.length a.1 : Nat) : Int)]) (x := ()) (av_cons (ev_len (lv_dn (ev_var (i := 0) rfl))) av_nil))) (fun _ _ => mk_nil) (fun _ => ⟨rfl, rfl, rfl, trivial⟩) (fun _ => MLe.rfl) (fun x4 => (gt_name (by decide))) (fun b3 x4 g5 ps6 => (sm_last (sm_set (em_ev (β := Int) (D := dI) (ev_op (ev_var (i := 2) rfl) (ev_opC (ev_ixL (lv_dn (ev_var (i := 0) rfl)) (ev_var (i := 3) rfl)) (ev_ixL (lv_dn (ev_var (i := 1) rfl)) (ev_var (i := 3) rfl))))) (by decide) (fun b7 ps8 => (sm_nil (fun _ => 0) ⟨rfl, rfl, rfl, trivial⟩ MLe.rfl))))) (fun g5 ps6 => (sm_ret (g := fun b9 => b9) (em_ev (β := Int) (D := dI) (ev_var (i := 2) rfl)) (fun _ _ => rfl) (fun _ _ => MLe.rfl))))))
theorem okH_law_dot (T : Txt P K mg ad) : L2H.FnH P w K mg base CX0 1 ad.f_law_dot ad.d_law_dot ["_law_one", "_law_two"] (sp_law_dot K ad) := by
  refine okH T.F_law_dot sc_law_dot (fun vs H Q E h => spg_len (k := 2) (fun _ _ => rfl) h) (fun cdv A outer s H vs Q E p hc hr h => ?_)
  have hu := hu_ofH hr
  refine ⟨_, (pss_cons (ps_set (i := 2) sc_law_dot.nd rfl (by first | exact Or.inl rfl | exact Or.inr rfl) pe_int)
      (pss_cons (L2H.ps_forH PassesOwn.never hc (L2H.pi_range1H (by rfl) T.z_range (pa_cons (pe_callB (id := "len") (call_len_seqK (K := K) rfl) (by rfl) T.z_len PySem.boot_len (pa_cons (pv 0) pa_nil)) pa_nil)) (pg_name (i := 3) sc_law_dot.nd rfl (by first | exact Or.inl rfl | exact Or.inr rfl))
      (pss_one (ps_set (i := 2) sc_law_dot.nd rfl (by first | exact Or.inl rfl | exact Or.inr rfl) (pe_op op_add (pv 2) (pe_op op_mulW (pe_ix (ix_listK (K := K) rfl) (pv 0) (pv 3) (fun _ _ => rfl)) (pe_ix (ix_listK (K := K) rfl) (pv 1) (pv 3) (fun _ _ => rfl)))))))
      (pss_one (ps_ret (pv 2))))), ?_⟩
  refine def_ret (n := 4) (γ := Empty) (δ := Empty) (body := b_law_dot) (Γn := fun _ _ _ _ => []) (Mn := fun _ _ _ _ => []) (Γl := fun _ _ _ _ => []) (Ml := fun _ _ _ _ => []) h rfl (fun _ _ => Nat.le_of_ble_eq_true rfl) (fun _ => rfl) (fun a qs M => ?_)
  unfold b_law_dot
  exact (sm_set (em_ev (β := Int) (D := dI) ev_int) (by decide) (fun b1 ps2 => (sm_for (γ' := (Int)) (Γl := fun g5 ps6 => [(0, ((dL (α := Int)) a.1)), (1, ((dL (α := Int)) a.2)), (2, (dI g5))]) (Ml := fun g5 ps6 => M) (xs := fun b3 => (rng 0 ((List.length a.1 : Nat) : Int))) (g0 := fun b3 => b1) (adds := fun x4 => [(3, (dI x4))]) (sl := [3]) (f := fun b3 x4 g5 => (R.bind (chk (True ∧ ((True ∧ True ∧ inR a.1 x4) ∧ (True ∧ True ∧ inR a.2 x4) ∧ (CMulW (getI a.1 x4) (getI a.2 x4)))) (.ok (g5 + ((getI a.1 x4) * (getI a.2 x4))))) fun b7 => (.ok (.nx b7)))) (fun _ => (fun _ => 0)) (it_range1 (j := fun _ => ((List.length a.1 : Nat) : Int)) (am_av (β := Unit) (Ds := fun _ => [dI ((List.length a.1 : Nat) : Int)]) (x := ()) (av_cons (ev_len (lv_dn (ev_var (i := 0) rfl))) av_nil))) (fun _ _ => mk_nil) (fun _ => ⟨rfl, rfl, rfl, trivial⟩) (fun _ => MLe.rfl) (fun x4 => (gt_name (by decide))) (fun b3 x4 g5 ps6 => (sm_last (sm_set (em_ev (β := Int) (D := dI) (ev_op (ev_var (i := 2) rfl) (ev_opC (ev_ixL (lv_dn (ev_var (i := 0) rfl)) (ev_var (i := 3) rfl)) (ev_ixL (lv_dn (ev_var (i := 1) rfl)) (ev_var (i := 3) rfl))))) (by decide) (fun b7 ps8 => (sm_nil (fun _ => 0) ⟨rfl, rfl, rfl, trivial⟩ MLe.rfl))))) (fun g5 ps6 => (sm_ret (g := fun b9 => b9) (em_ev (β := Int) (D := dI) (ev_var (i := 2) rfl)) (fun _ _ => rfl) (fun _ _ => MLe.rfl))))))
end
noncomputable def b_law_list_of (a : ((List Int) × Int)) : R (Out Empty Empty Bool) :=
  (seqO (γ := Unit) (chk (True ∧ ((!true) = false → (True ∧ True))) (if ((!true) || (!decide (((List.length a.1 : Nat) : Int) = a.2))) = true then (R.bind (chk True (.ok false)) fun b2 => .ok (.rt b2)) else (.ok (.nx ())))) fun g3 => (R.bind (R.bind (R.bind (chk True (.ok a.1)) fun b4 => lcT (fun x5 => (chk (True ∧ True) (R.nx (m_law_whole x5)))) (fun x5 r8 => (!r8)) (fun x5 => True) (fun x5 => x5) b4) fun a9 => R.bind (chk True (.ok ([] : List Int))) fun b10 => chk (DE.ok a9 ∧ DE.ok b10) (.ok (@decide (a9 = b10) (Classical.propDecidable _)))) fun b11 => .ok (.rt b11)))
noncomputable def m_law_list_of (a : ((List Int) × Int)) : R Bool := runE (b_law_list_of a)
abbrev sp_law_list_of (K : PySem.W.Frag) (ad : Ad) : Sp := SpG (xd ad) (α := ((List Int) × Int)) (β := Bool) (fun a qs => [((dL (α := Int)) a.1), (dI a.2)]) (fun a qs => []) m_law_list_of (fun a qs r ps => (dB r)) (fun a qs r ps => [])
section
variable {P : Program} {w : World} {K : PySem.W.Frag} {mg : Str → Option Value} {base : Heap} {ad : Ad}
theorem ok_law_list_of (T : Txt P K mg ad) : FnOk P w K mg base CX0 2 ad.f_law_list_of ad.d_law_list_of ["_law_told", "_law_count"] (sp_law_list_of K ad) := by
  refine T.F_law_list_of.ok sc_law_list_of (fun vs H Q E h => spg_len (k := 2) (fun _ _ => rfl) h) (fun cdv A outer s H vs Q E hr h => ?_)
  have hu := hu_of hr
  refine ⟨_, (pss_cons (ps_if (PW.pt (pw_or (pt_not (pt_val (pe_callB (id := "isinstance") (call_isiK (K := K) rfl) (by rfl) T.z_isinstance (by decide +kernel) (pa_cons (pv 0) (pa_cons (pe_bltn (v := .ty "list") (by rfl) T.z_list (by decide +kernel) rfl) pa_nil))))) (pw_or1 (pt_cmpR op_ne (pe_callB (id := "len") (call_len_seqK (K := K) rfl) (by rfl) T.z_len PySem.boot_len (pa_cons (pv 0) pa_nil)) (pv 1) (nomark _))))) (pss_one (ps_ret pe_bl)) pss_nil)
      (pss_one (ps_ret (pe_cmpR (op_eqDK (K := K) rfl hr.units) (pe_lc (own := [("_law_k", 2)]) (g := gName 2) rfl sc_law_list_of.nd (pi_listK (K := K) rfl (pv 0)) (blkOk_by (own := [("_law_k", 2)]) (N := ["_law_told", "_law_count", "_law_k"]) (sc := defScope s_law_list_of) (by decide +kernel)) (fun _ _ _ _ _ => (pg_name (i := 2) sc_law_list_of.nd rfl (by first | exact Or.inl rfl | exact Or.inr rfl))) (fun _ _ _ _ _ => (pts_one (pt_not (pt_val (pe_call (ok_law_whole (P := P) (w := w) (K := K) (mg := mg) (base := base) T) (hr.mono (by decide)) (by rfl) T.g_law_whole T.F_law_whole.kp T.B_law_whole .nil pass0 (pa_cons (pv 2) pa_nil)))))) (fun _ _ _ _ _ => (pv 2))) (pe_lst pa_nil) (nomark _))))), ?_⟩
  try simp only [cxK, cxK2]
  refine def_ret (n := 3) (γ := Empty) (δ := Empty) (body := b_law_list_of) (Γn := fun _ _ _ _ => []) (Mn := fun _ _ _ _ => []) (Γl := fun _ _ _ _ => []) (Ml := fun _ _ _ _ => []) h rfl (fun _ _ => Nat.le_of_ble_eq_true rfl) (fun _ => rfl) (fun a qs M => ?_)
  unfold b_law_list_of
  exact (sm_seq (γ' := Unit) (Γ1 := fun g3 _ => [(0, ((dL (α := Int)) a.1)), (1, (dI a.2))]) (M1 := fun g3 _ => M) (sm_if (tv_or (tv_not (tv_b (ev_isi (ev_var (i := 0) rfl) ty_L (kit_ty (by decide +kernel))))) (tv_test (ev_neI (ev_len (lv_dn (ev_var (i := 0) rfl))) (ev_var (i := 1) rfl)))) (fun _ => (sm_ret (g := fun b2 => b2) (em_ev (β := Bool) (D := dB) ev_bl) (fun _ _ => rfl) (fun _ _ => MLe.rfl))) (fun _ => (sm_nil (fun _ => 0) ⟨rfl, rfl, trivial⟩ MLe.rfl))) (fun g3 _ => (sm_ret (g := fun b11 => b11) (em_eqD (β := Bool) (g := fun (a9 : (List Int)) (b10 : (List Int)) => (@decide (a9 = b10) (Classical.propDecidable _))) (vr := fun (r : Bool) => r) (va := fun (a9 : (List Int)) => a9) (vb := fun (a9 : (List Int)) (b10 : (List Int)) => b10) (Mg := fun (r : Bool) => M) (α := (List Int)) (by decide) (em_frz (α := Int) (f := fun (r : (List Int)) => r) (Mf := fun (r : (List Int)) => M) (em_lcTM (η := Int) (M0 := M) (Γw := [(0, ((dL (α := Int)) a.1)), (1, (dI a.2))]) (adds := fun (x5 : Int) => [(2, (dI x5))]) (sl := [2]) (xs := fun (b4 : (List Int)) => b4) (mt := fun (b4 : (List Int)) (x5 : Int) => (chk (True ∧ True) (R.nx (m_law_whole x5)))) (bb := fun (b4 : (List Int)) (x5 : Int) (r8 : Bool) => (!r8)) (ce := fun (b4 : (List Int)) (x5 : Int) => True) (y := fun (b4 : (List Int)) (x5 : Int) => x5) (it_list (α := Int) (β := (List Int)) (xs := fun (b : (List Int)) => b) (em_ev (β := (List Int)) (D := (dL (α := Int))) (ev_var (i := 0) rfl))) mk_nil ⟨rfl, by decide, rfl, by decide, trivial⟩ (fun x5 => (gt_name (by decide))) (by decide) (fun (b4 : (List Int)) (x5 : Int) Dd6 cc7 => (tm_not (tm_emB (b := fun (r : Bool) => r) (em_callP0 (a := x5) (av_cons (ev_var (i := 2) rfl) av_nil) rfl (fun _ _ => rfl))))) (fun (b4 : (List Int)) (x5 : Int) => (ev_var (i := 2) rfl)))) (fun (a9 : (List Int)) => (em_frz (α := Int) (f := fun (r : (List Int)) => r) (Mf := fun (r : (List Int)) => M) (em_lst0 (α := Int) (xs := ([] : List Int)) av_nil (Nat.le_of_ble_eq_true rfl)))) (fun _ _ => rfl) (fun _ _ => rfl)) (fun _ _ => rfl) (fun _ _ => MLe.rfl))))
theorem okH_law_list_of (T : Txt P K mg ad) : L2H.FnH P w K mg base CX0 2 ad.f_law_list_of ad.d_law_list_of ["_law_told", "_law_count"] (sp_law_list_of K ad) := by
  refine okH T.F_law_list_of sc_law_list_of (fun vs H Q E h => spg_len (k := 2) (fun _ _ => rfl) h) (fun cdv A outer s H vs Q E p hc hr h => ?_)
  have hu := hu_ofH hr
  refine ⟨_, (pss_cons (ps_if (PW.pt (pw_or (pt_not (pt_val (pe_callB (id := "isinstance") (call_isiK (K := K) rfl) (by rfl) T.z_isinstance (by decide +kernel) (pa_cons (pv 0) (pa_cons (pe_bltn (v := .ty "list") (by rfl) T.z_list (by decide +kernel) rfl) pa_nil))))) (pw_or1 (pt_cmpR op_ne (pe_callB (id := "len") (call_len_seqK (K := K) rfl) (by rfl) T.z_len PySem.boot_len (pa_cons (pv 0) pa_nil)) (pv 1) (nomark _))))) (pss_one (ps_ret pe_bl)) pss_nil)
      (pss_one (ps_ret (pe_cmpR (op_eqDK (K := K) rfl hr.units) (Hx.pe_lcH (own := [("_law_k", 2)]) (g := gName 2) hc sc_law_list_of.nd (Hx.pi_listHK (K := K) rfl (pv 0)) (blkOk_by (own := [("_law_k", 2)]) (N := ["_law_told", "_law_count", "_law_k"]) (sc := defScope s_law_list_of) (by decide +kernel)) (fun _ _ _ _ _ => (pg_name (i := 2) sc_law_list_of.nd rfl (by first | exact Or.inl rfl | exact Or.inr rfl))) (fun _ _ _ _ _ => (pts_one (pt_not (pt_val (pe_callHT (okH_law_whole (P := P) (w := w) (K := K) (mg := mg) (base := base) T) (hr.mono (by decide)) (Hx.hblk_hot hc) (by rfl) T.g_law_whole T.F_law_whole.kp T.B_law_whole (pa_cons (pv 2) pa_nil)))))) (fun _ _ _ _ _ => (pv 2))) (pe_lst pa_nil) (nomark _))))), ?_⟩
  refine def_ret (n := 3) (γ := Empty) (δ := Empty) (body := b_law_list_of) (Γn := fun _ _ _ _ => []) (Mn := fun _ _ _ _ => []) (Γl := fun _ _ _ _ => []) (Ml := fun _ _ _ _ => []) h rfl (fun _ _ => Nat.le_of_ble_eq_true rfl) (fun _ => rfl) (fun a qs M => ?_)
  unfold b_law_list_of
  exact (sm_seq (γ' := Unit) (Γ1 := fun g3 _ => [(0, ((dL (α := Int)) a.1)), (1, (dI a.2))]) (M1 := fun g3 _ => M) (sm_if (tv_or (tv_not (tv_b (ev_isi (ev_var (i := 0) rfl) ty_L (kit_ty (by decide +kernel))))) (tv_test (ev_neI (ev_len (lv_dn (ev_var (i := 0) rfl))) (ev_var (i := 1) rfl)))) (fun _ => (sm_ret (g := fun b2 => b2) (em_ev (β := Bool) (D := dB) ev_bl) (fun _ _ => rfl) (fun _ _ => MLe.rfl))) (fun _ => (sm_nil (fun _ => 0) ⟨rfl, rfl, trivial⟩ MLe.rfl))) (fun g3 _ => (sm_ret (g := fun b11 => b11) (em_eqD (β := Bool) (g := fun (a9 : (List Int)) (b10 : (List Int)) => (@decide (a9 = b10) (Classical.propDecidable _))) (vr := fun (r : Bool) => r) (va := fun (a9 : (List Int)) => a9) (vb := fun (a9 : (List Int)) (b10 : (List Int)) => b10) (Mg := fun (r : Bool) => M) (α := (List Int)) (by decide) (em_frz (α := Int) (f := fun (r : (List Int)) => r) (Mf := fun (r : (List Int)) => M) (em_lcTM (η := Int) (M0 := M) (Γw := [(0, ((dL (α := Int)) a.1)), (1, (dI a.2))]) (adds := fun (x5 : Int) => [(2, (dI x5))]) (sl := [2]) (xs := fun (b4 : (List Int)) => b4) (mt := fun (b4 : (List Int)) (x5 : Int) => (chk (True ∧ True) (R.nx (m_law_whole x5)))) (bb := fun (b4 : (List Int)) (x5 : Int) (r8 : Bool) => (!r8)) (ce := fun (b4 : (List Int)) (x5 : Int) => True) (y := fun (b4 : (List Int)) (x5 : Int) => x5) (it_list (α := Int) (β := (List Int)) (xs := fun (b : (List Int)) => b) (em_ev (β := (List Int)) (D := (dL (α := Int))) (ev_var (i := 0) rfl))) mk_nil ⟨rfl, by decide, rfl, by decide, trivial⟩ (fun x5 => (gt_name (by decide))) (by decide) (fun (b4 : (List Int)) (x5 : Int) Dd6 cc7 => (tm_not (tm_emB (b := fun (r : Bool) => r) (em_callP0 (a := x5) (av_cons (ev_var (i := 2) rfl) av_nil) rfl (fun _ _ => rfl))))) (fun (b4 : (List Int)) (x5 : Int) => (ev_var (i := 2) rfl)))) (fun (a9 : (List Int)) => (em_frz (α := Int) (f := fun (r : (List Int)) => r) (Mf := fun (r : (List Int)) => M) (em_lst0 (α := Int) (xs := ([] : List Int)) av_nil (Nat.le_of_ble_eq_true rfl)))) (fun _ _ => rfl) (fun _ _ => rfl)) (fun _ _ => rfl) (fun _ _ => MLe.rfl))))
end
noncomputable def b_law_kinds (a : ((List Int) × Int)) : R (Out Empty Empty ((List Str) × (List Int))) :=
  (R.bind (chk (True ∧ (True ∧ (True ∧ (True ∧ (True ∧ True))))) (.ok ([("positive" : Str), ("negative" : Str), ("free" : Str), ("zero" : Str), ("positive" : Str)] : List Str))) fun b1 => (R.bind (R.bind (R.bind (chk (True ∧ True) (.ok ())) fun b => chk (-1000000000 ≤ a.2 ∧ a.2 ≤ 1000000000) (.ok b)) fun b3 => chk (((rng 0 a.2)).length ≤ 16000000) (R.nx (compR (fun x4 g10 => (R.bind (R.bind (chk True (.ok b1)) fun a11 => R.bind (chk (True ∧ (True ∧ True)) (R.nx (m_law_take (g10, (5 : Int))))) fun b12 => chk (inR a11 b12.1) (.ok ((getI a11 b12.1), b12.2))) fun r9 => .ok (some r9.1, r9.2))) (rng 0 a.2) a.1 []))) fun b13 => .ok (.rt (b13.1, b13.2))))
noncomputable def m_law_kinds (a : ((List Int) × Int)) : R ((List Str) × (List Int)) := runE (b_law_kinds a)
abbrev sp_law_kinds (K : PySem.W.Frag) (ad : Ad) : Sp := SpG (xd ad) (α := ((List Int) × Int)) (β := ((List Str) × (List Int))) (fun a qs => [dR (qs 0), (dI a.2)]) (fun a qs => [(qs 0, cL (α := Int) a.1)]) m_law_kinds (fun a qs r ps => ((dL (α := Str)) r.1)) (fun a qs r ps => [(qs 0, cL (α := Int) r.2)])
section
variable {P : Program} {w : World} {K : PySem.W.Frag} {mg : Str → Option Value} {base : Heap} {ad : Ad}
theorem ok_law_kinds (T : Txt P K mg ad) : FnOk P w K mg base CX0 2 ad.f_law_kinds ad.d_law_kinds ["_law_pool_here", "_law_count"] (sp_law_kinds K ad) := by
  refine T.F_law_kinds.ok sc_law_kinds (fun vs H Q E h => spg_len (k := 2) (fun _ _ => rfl) h) (fun cdv A outer s H vs Q E hr h => ?_)
  have hu := hu_of hr
  refine ⟨_, (pss_cons (ps_set (i := 2) sc_law_kinds.nd rfl (by first | exact Or.inl rfl | exact Or.inr rfl) (pe_lst (pa_cons pe_str (pa_cons pe_str (pa_cons pe_str (pa_cons pe_str (pa_cons pe_str pa_nil)))))))
      (pss_one (ps_ret (pe_lc (own := [("_law_k", 3)]) (g := gName 3) (tt := tYes) rfl sc_law_kinds.nd (pi_range1 rfl T.z_range (pa_cons (pv 1) pa_nil)) (blkOk_by (own := [("_law_k", 3)]) (N := ["_law_pool_here", "_law_count", "_law_words", "_law_k"]) (sc := defScope s_law_kinds) (by decide +kernel)) (fun _ _ _ _ _ => (pg_name (i := 3) sc_law_kinds.nd rfl (by first | exact Or.inl rfl | exact Or.inr rfl))) (fun _ _ _ _ _ => pts_nil) (fun _ _ _ _ _ => (pe_ix (ix_listK (K := K) rfl) (pv 2) (pe_call (ok_law_take (P := P) (w := w) (K := K) (mg := mg) (base := base) T) (hr.mono (by decide)) (by rfl) T.g_law_take T.F_law_take.kp T.B_law_take .nil pass0 (pa_cons (pv 0) (pa_cons pe_int pa_nil))) (fun _ _ => rfl))))))), ?_⟩
  try simp only [cxK, cxK2]
  refine def_ret (n := 4) (γ := Empty) (δ := Empty) (body := b_law_kinds) (Γn := fun _ _ _ _ => []) (Mn := fun _ _ _ _ => []) (Γl := fun _ _ _ _ => []) (Ml := fun _ _ _ _ => []) h rfl (fun _ _ => Nat.le_of_ble_eq_true rfl) (fun _ => rfl) (fun a qs M => ?_)
  unfold b_law_kinds
  exact (sm_set (em_frz (α := Str) (f := fun (r : (List Str)) => r) (Mf := fun (r : (List Str)) => (((qs 0), cL (α := Int) a.1) :: M)) (em_lst0 (α := Str) (xs := ([("positive" : Str), ("negative" : Str), ("free" : Str), ("zero" : Str), ("positive" : Str)] : List Str)) (av_cons ev_str (av_cons ev_str (av_cons ev_str (av_cons ev_str (av_cons ev_str av_nil))))) (Nat.le_of_ble_eq_true rfl))) (by decide) (fun b1 ps2 => (sm_ret (g := fun b13 => (b13.1, b13.2)) (em_frz (α := Str) (f := fun (r : (List Str × (List Int))) => r.1) (Mf := fun (r : (List Str × (List Int))) => (((qs 0), cL (α := Int) r.2) :: M)) (em_lcG (η := Str) (γ := (List Int)) (Mg := fun g10 => (((qs 0), cL (α := Int) g10) :: M)) (g0 := fun (b3 : Unit) => a.1) (Γw := [(0, dR (qs 0)), (1, (dI a.2)), (2, ((dL (α := Str)) b1))]) (adds := fun (x4 : Int) => [(3, (dI x4))]) (sl := [3]) (xs := fun (b3 : Unit) => (rng 0 a.2)) (f := fun (b3 : Unit) (x4 : Int) g10 => (R.bind (R.bind (chk True (.ok b1)) fun a11 => R.bind (chk (True ∧ (True ∧ True)) (R.nx (m_law_take (g10, (5 : Int))))) fun b12 => chk (inR a11 b12.1) (.ok ((getI a11 b12.1), b12.2))) fun r9 => .ok (some r9.1, r9.2))) (it_range1 (j := fun _ => a.2) (am_av (β := Unit) (Ds := fun _ => [dI a.2]) (x := ()) (av_cons (ev_var (i := 1) rfl) av_nil))) (fun _ => mk_nil) ⟨rfl, by decide, rfl, by decide, rfl, by decide, trivial⟩ (fun x4 => (gt_name (by decide))) (by decide) (fun (b3 : Unit) (x4 : Int) g10 => ie_m0 (va := fun (r9 : (Str × (List Int))) => r9.1) (gb := fun (r9 : (Str × (List Int))) => r9.2) (fun Dd5 cc6 => (em_ixL (β := (Str × (List Int))) (g := fun (a11 : (List Str)) (b12 : (Int × (List Int))) => ((getI a11 b12.1), b12.2)) (vr := fun (r : (Str × (List Int))) => r.1) (va := fun (a11 : (List Str)) => a11) (vb := fun (a11 : (List Str)) (b12 : (Int × (List Int))) => b12.1) (Mg := fun (r : (Str × (List Int))) => ((Dd5, cc6) :: (((qs 0), cL (α := Int) r.2) :: M))) (α := Str) (em_ev (β := (List Str)) (D := (dL (α := Str))) (ev_var (i := 2) rfl)) (fun (a11 : (List Str)) => (em_callQ (rfl : sp_law_take K ad = _) (a := (g10, (5 : Int))) (fun _ => (qs 0)) ((Dd5, cc6) :: M) (Mr := fun (r : Int × (List Int)) ps => ((Dd5, cc6) :: (((qs 0), cL (α := Int) r.2) :: M))) (av_cons (ev_var (i := 0) rfl) (av_cons ev_int av_nil)) (MLe.front 1 rfl) (fun (r : Int × (List Int)) _ => MLe.back (M := ((Dd5, cc6) :: (((qs 0), cL (α := Int) r.2) :: M))) 1 rfl))) (fun _ _ => rfl) (fun _ _ => rfl)))))) (fun _ _ => rfl) (fun _ _ => MLe.rfl))))
end
noncomputable def b_law_rows (a : ((List Int) × Int × Int)) : R (Out Empty Empty ((List (List Int)) × (List Int))) :=
  (R.bind (chk True (.ok ())) fun _ => (R.bind (R.bind (chk (True ∧ True) (.ok ())) fun b => chk (-1000000000 ≤ a.2.1 ∧ a.2.1 ≤ 1000000000) (.ok b)) fun b2 => seqO (forR (γ := ((List Int) × (List (List Int)))) (fun x3 g4 => (R.bind (R.bind (R.bind (R.bind (chk (True ∧ True) (.ok ())) fun b => chk (-1000000000 ≤ a.2.2 ∧ a.2.2 ≤ 1000000000) (.ok b)) fun b6 => chk (((rng 0 a.2.2)).length ≤ 16000000) (R.nx (compR (fun x7 g13 => (R.bind (R.bind (chk (True ∧ (True ∧ True)) (R.nx (m_law_take (g13, (7 : Int))))) fun a14 => R.bind (chk True (.ok (3 : Int))) fun b15 => chk True (.ok ((a14.1 - b15), a14.2))) fun r12 => .ok (some r12.1, r12.2))) (rng 0 a.2.2) g4.1 []))) fun b16 => chk ((List.length g4.2) ≤ 16000000 ∧ (List.length g4.2) = (List.length g4.2)) (.ok b16)) fun b16 => (.ok (.nx (b16.2, (g4.2 ++ [b16.1])))))) (rng 0 a.2.1) (a.1, ([] : List (List Int)))) fun g4 => (.ok (.rt (g4.2, g4.1)))))
noncomputable def m_law_rows (a : ((List Int) × Int × Int)) : R ((List (List Int)) × (List Int)) := runE (b_law_rows a)
abbrev sp_law_rows (K : PySem.W.Frag) (ad : Ad) : Sp := SpG (xd ad) (α := ((List Int) × Int × Int)) (β := ((List (List Int)) × (List Int))) (fun a qs => [dR (qs 0), (dI a.2.1), (dI a.2.2)]) (fun a qs => [(qs 0, cL (α := Int) a.1)]) m_law_rows (fun a qs r ps => dR (ps 0)) (fun a qs r ps => ([(qs 0, cL (α := Int) r.2)] ++ (nest (ps 0) (List.length r.1) (fun i => ps (i + 1)) r.1 [])))
section
variable {P : Program} {w : World} {K : PySem.W.Frag} {mg : Str → Option Value} {base : Heap} {ad : Ad}
theorem ok_law_rows (T : Txt P K mg ad) : FnOk P w K mg base CX0 2 ad.f_law_rows ad.d_law_rows ["_law_pool_here", "_law_many", "_law_count"] (sp_law_rows K ad) := by
  refine T.F_law_rows.ok sc_law_rows (fun vs H Q E h => spg_len (k := 3) (fun _ _ => rfl) h) (fun cdv A outer s H vs Q E hr h => ?_)
  have hu := hu_of hr
  refine ⟨_, (pss_cons (ps_set (i := 3) sc_law_rows.nd rfl (by first | exact Or.inl rfl | exact Or.inr rfl) (pe_lst pa_nil))
      (pss_cons (ps_for PassesOwn.never rfl (pi_range1 rfl T.z_range (pa_cons (pv 1) pa_nil)) (pg_name (i := 4) sc_law_rows.nd rfl (by first | exact Or.inl rfl | exact Or.inr rfl))
      (pss_one (ps_expr (pe_bm PySem.F.plainAttrs_list PySem.F.slot_list_append PySem.F.type_list_append mt_append (pv 3) (pa_cons (pe_lc (own := [("_law_k", 5)]) (g := gName 5) (tt := tYes) rfl sc_law_rows.nd (pi_range1 rfl T.z_range (pa_cons (pv 2) pa_nil)) (blkOk_by (own := [("_law_k", 5)]) (N := ["_law_pool_here", "_law_many", "_law_count", "_law_rows_here", "_law_j", "_law_k"]) (sc := defScope s_law_rows) (by decide +kernel)) (fun _ _ _ _ _ => (pg_name (i := 5) sc_law_rows.nd rfl (by first | exact Or.inl rfl | exact Or.inr rfl))) (fun _ _ _ _ _ => pts_nil) (fun _ _ _ _ _ => (pe_op op_sub (pe_call (ok_law_take (P := P) (w := w) (K := K) (mg := mg) (base := base) T) (hr.mono (by decide)) (by rfl) T.g_law_take T.F_law_take.kp T.B_law_take .nil pass0 (pa_cons (pv 0) (pa_cons pe_int pa_nil))) pe_int))) pa_nil)))))
      (pss_one (ps_ret (pv 3))))), ?_⟩
  try simp only [cxK, cxK2]
  refine def_ret (n := 6) (γ := Empty) (δ := Empty) (body := b_law_rows) (Γn := fun _ _ _ _ => []) (Mn := fun _ _ _ _ => []) (Γl := fun _ _ _ _ => []) (Ml := fun _ _ _ _ => []) h rfl (fun _ _ => Nat.le_of_ble_eq_true rfl) (fun _ => rfl) (fun a qs M => ?_)
  unfold b_law_rows
  exact (sm_set (em_out (fun _ _ => nl3 (L := [((qs 0), cL (α := Int) a.1)]) (M0 := M)) em_nest0) (by decide) (fun _ ps1 => (sm_for (γ' := ((List Int) × (List (List Int)))) (Γl := fun g4 ps5 => [(0, dR (qs 0)), (1, (dI a.2.1)), (2, (dI a.2.2)), (3, dR (ps1 0))]) (Ml := fun g4 ps5 => (((qs 0), cL (α := Int) g4.1) :: (nest (ps1 0) (List.length g4.2) ps5 g4.2 M))) (xs := fun b2 => (rng 0 a.2.1)) (g0 := fun b2 => (a.1, ([] : List (List Int)))) (adds := fun x3 => [(4, (dI x3))]) (sl := [4]) (f := fun b2 x3 g4 => (R.bind (R.bind (R.bind (R.bind (chk (True ∧ True) (.ok ())) fun b => chk (-1000000000 ≤ a.2.2 ∧ a.2.2 ≤ 1000000000) (.ok b)) fun b6 => chk (((rng 0 a.2.2)).length ≤ 16000000) (R.nx (compR (fun x7 g13 => (R.bind (R.bind (chk (True ∧ (True ∧ True)) (R.nx (m_law_take (g13, (7 : Int))))) fun a14 => R.bind (chk True (.ok (3 : Int))) fun b15 => chk True (.ok ((a14.1 - b15), a14.2))) fun r12 => .ok (some r12.1, r12.2))) (rng 0 a.2.2) g4.1 []))) fun b16 => chk ((List.length g4.2) ≤ 16000000 ∧ (List.length g4.2) = (List.length g4.2)) (.ok b16)) fun b16 => (.ok (.nx (b16.2, (g4.2 ++ [b16.1])))))) (fun _ => (fun _ => 0)) (it_range1 (j := fun _ => a.2.1) (am_av (β := Unit) (Ds := fun _ => [dI a.2.1]) (x := ()) (av_cons (ev_var (i := 1) rfl) av_nil))) (fun _ _ => mk_nil) (fun _ => ⟨rfl, rfl, rfl, rfl, trivial⟩) (fun _ => MLe.rfl) (fun x3 => (gt_name (by decide))) (fun b2 x3 g4 ps5 => (sm_last (sm_expr (em_appNL (L := [((qs 0), cL (α := Int) g4.1)]) (rows := g4.2) (k := (List.length g4.2)) (y := fun (b16 : (List Int × (List Int))) => b16.1) (L1 := fun (b16 : (List Int × (List Int))) => [((qs 0), cL (α := Int) b16.2)]) (ev_var (i := 3) rfl) (em_lcG (η := Int) (γ := (List Int)) (Mg := fun g13 => (((qs 0), cL (α := Int) g13) :: (nest (ps1 0) (List.length g4.2) ps5 g4.2 M))) (g0 := fun (b6 : Unit) => g4.1) (Γw := [(0, dR (qs 0)), (1, (dI a.2.1)), (2, (dI a.2.2)), (3, dR (ps1 0)), (4, (dI x3))]) (adds := fun (x7 : Int) => [(5, (dI x7))]) (sl := [5]) (xs := fun (b6 : Unit) => (rng 0 a.2.2)) (f := fun (b6 : Unit) (x7 : Int) g13 => (R.bind (R.bind (chk (True ∧ (True ∧ True)) (R.nx (m_law_take (g13, (7 : Int))))) fun a14 => R.bind (chk True (.ok (3 : Int))) fun b15 => chk True (.ok ((a14.1 - b15), a14.2))) fun r12 => .ok (some r12.1, r12.2))) (it_range1 (j := fun _ => a.2.2) (am_av (β := Unit) (Ds := fun _ => [dI a.2.2]) (x := ()) (av_cons (ev_var (i := 2) rfl) av_nil))) (fun _ => mk_nil) ⟨rfl, by decide, rfl, by decide, rfl, by decide, rfl, by decide, rfl, by decide, trivial⟩ (fun x7 => (gt_name (by decide))) (by decide) (fun (b6 : Unit) (x7 : Int) g13 => ie_m0 (va := fun (r12 : (Int × (List Int))) => r12.1) (gb := fun (r12 : (Int × (List Int))) => r12.2) (fun Dd8 cc9 => (em_op (β := (Int × (List Int))) (g := fun (a14 : (Int × (List Int))) (b15 : Int) => ((a14.1 - b15), a14.2)) (vr := fun (r : (Int × (List Int))) => r.1) (va := fun (a14 : (Int × (List Int))) => a14.1) (vb := fun (a14 : (Int × (List Int))) (b15 : Int) => b15) (Mg := fun (r : (Int × (List Int))) => ((Dd8, cc9) :: (((qs 0), cL (α := Int) r.2) :: (nest (ps1 0) (List.length g4.2) ps5 g4.2 M)))) (em_callQ (rfl : sp_law_take K ad = _) (a := (g13, (7 : Int))) (fun _ => (qs 0)) ((Dd8, cc9) :: (nest (ps1 0) (List.length g4.2) ps5 g4.2 M)) (Mr := fun (r : Int × (List Int)) ps => ((Dd8, cc9) :: (((qs 0), cL (α := Int) r.2) :: (nest (ps1 0) (List.length g4.2) ps5 g4.2 M)))) (av_cons (ev_var (i := 0) rfl) (av_cons ev_int av_nil)) (MLe.front 1 rfl) (fun (r : Int × (List Int)) _ => MLe.back (M := ((Dd8, cc9) :: (((qs 0), cL (α := Int) r.2) :: (nest (ps1 0) (List.length g4.2) ps5 g4.2 M)))) 1 rfl)) (fun (a14 : (Int × (List Int))) => (em_ev (β := Int) (D := dI) ev_int)) (fun _ _ => rfl) (fun _ _ => rfl)))))) (fun b16 ps17 => (sm_nil (fun i => if i < (List.length g4.2) then ps5 i else ps17 0) ⟨rfl, rfl, rfl, rfl, trivial⟩ (nl_k (L := [((qs 0), cL (α := Int) b16.2)]) (p := (ps1 0)) (k := (List.length (g4.2 ++ [b16.1]))) (k2 := ((List.length g4.2) + 1)) (qs := (fun i => if i < (List.length g4.2) then ps5 i else ps17 0)) (rows := (g4.2 ++ [b16.1])) (M := M) List.length_append)))))) (fun g4 ps5 => (sm_retV (b := (g4.2, g4.1)) (ps := (adR (ps1 0) ps5)) (i := 3) rfl rfl (nlX (L := [((qs 0), cL (α := Int) g4.1)])))))))
end
noncomputable def b_law_solved_rows (a : ((List Int) × (List (List Int)) × (List Str) × Nat)) : R (Out Empty Empty ((List Int) × (List (List Int)))) :=
  (R.bind (chk True (.ok ([] : List Int))) fun b1 => (R.bind (chk True (.ok a.2.2.1)) fun b3 => seqO (forR (γ := ((List Int) × (List Int))) (fun x4 g5 => (R.bind (R.bind (chk (True ∧ (True ∧ True)) (R.nx (m_law_take (g5.1, (3 : Int))))) fun a7 => R.bind (chk True (.ok (1 : Int))) fun b8 => chk True (.ok ((a7.1 + b8), a7.2))) fun b9 => (seqO (γ := (Int × (List Int))) (R.bind (chk (True ∧ True) (if (decide (x4 = ("negative" : Str))) = true then .ok (true, b9.2) else R.bind (chk (True ∧ True) (if (decide (x4 = ("free" : Str))) = true then R.bind (R.bind (chk (True ∧ (True ∧ True)) (R.nx (m_law_take (b9.2, (2 : Int))))) fun a11 => R.bind (chk True (.ok (1 : Int))) fun b12 => chk True (.ok ((decide (a11.1 = b12)), a11.2))) fun b13 => .ok (b13.1, b13.2) else .ok (false, b9.2))) fun b14 => .ok (b14.1, b14.2))) fun r15 => if r15.1 = true then (R.bind (chk True (.ok (-b9.1))) fun b16 => (.ok (.nx (b16, r15.2)))) else (.ok (.nx (b9.1, r15.2)))) fun g18 => (R.bind (R.bind (chk (True ∧ ((True ∧ True) ∧ True) ∧ (CMulW g18.1 (if (!decide (x4 = ("zero" : Str))) = true then 1 else 0))) (.ok (g18.1 * (if (!decide (x4 = ("zero" : Str))) = true then 1 else 0)))) fun b19 => chk ((g5.2).length ≤ 16000000) (.ok b19)) fun b19 => (.ok (.nx (g18.2, (g5.2 ++ [b19])))))))) b3 (a.1, b1)) fun g5 => (R.bind (R.bind (R.bind (chk (True ∧ True) (.ok ())) fun b => chk (-1000000000 ≤ ((List.length a.2.2.1 : Nat) : Int) ∧ ((List.length a.2.2.1 : Nat) : Int) ≤ 1000000000) (.ok b)) fun b20 => chk (((rng 0 ((List.length a.2.2.1 : Nat) : Int))).length ≤ 16000000 ∧ ∀ x21 ∈ (rng 0 ((List.length a.2.2.1 : Nat) : Int)), ((True ∧ True ∧ inR a.2.2.1 x21) ∧ True) ∧ ((!decide ((getI a.2.2.1 x21) = ("zero" : Str))) = true → True)) (.ok (List.map (fun x21 => x21) (List.filter (fun x21 => (!decide ((getI a.2.2.1 x21) = ("zero" : Str)))) (rng 0 ((List.length a.2.2.1 : Nat) : Int)))))) fun b22 => (seqO (γ := Unit) (R.bind (R.bind (chk True (.ok b22)) fun a24 => R.bind (chk True (.ok ([] : List Int))) fun b25 => chk (DE.ok a24 ∧ DE.ok b25) (.ok (@decide (a24 = b25) (Classical.propDecidable _)))) fun r26 => if r26 = true then (.ok (.rt (g5.1, a.2.1))) else (.ok (.nx ()))) fun g27 => (R.bind (R.bind (chk True (.ok b22)) fun a28 => R.bind (chk (True ∧ (True ∧ True)) (R.nx (m_law_take (g5.1, ((List.length b22 : Nat) : Int))))) fun b29 => chk (inR a28 b29.1) (.ok ((getI a28 b29.1), b29.2))) fun b30 => (R.bind (chk (True ∧ (True ∧ (((True ∧ True ∧ inR g5.2 b30.1) ∧ True) ∧ True) ∧ (CMulW (2 : Int) (if (decide ((getI g5.2 b30.1) < (0 : Int))) = true then 1 else 0)))) (.ok ((1 : Int) - ((2 : Int) * (if (decide ((getI g5.2 b30.1) < (0 : Int))) = true then 1 else 0))))) fun b32 => chk (True ∧ inR g5.2 b30.1) (R.bind (chk True (.ok ())) fun b33 => seqO (forR (γ := ((List (List Int)))) (fun x34 g35 => (R.bind (chk True (.ok (0 : Int))) fun b37 => chk (True ∧ True ∧ x34 < a.2.2.2 ∧ x34 < (List.length g35) ∧ inR (List.getD g35 x34 []) b30.1) (R.bind (R.bind (chk ((True ∧ x34 < a.2.2.2) ∧ (True ∧ True)) (R.nx (m_law_dot ((List.getD (List.set g35 x34 (setI (List.getD g35 x34 []) b30.1 b37)) x34 []), (setI g5.2 b30.1 b32))))) fun a38 => R.bind (chk (True ∧ True ∧ inR (setI g5.2 b30.1 b32) b30.1) (.ok (getI (setI g5.2 b30.1 b32) b30.1))) fun b39 => chk (CMulW (-a38) b39) (.ok ((-a38) * b39))) fun b40 => chk (True ∧ True ∧ x34 < a.2.2.2 ∧ x34 < (List.length (List.set g35 x34 (setI (List.getD g35 x34 []) b30.1 b37))) ∧ inR (List.getD (List.set g35 x34 (setI (List.getD g35 x34 []) b30.1 b37)) x34 []) b30.1) (.ok (.nx (List.set (List.set g35 x34 (setI (List.getD g35 x34 []) b30.1 b37)) x34 (setI (List.getD (List.set g35 x34 (setI (List.getD g35 x34 []) b30.1 b37)) x34 []) b30.1 b40))))))) (List.range a.2.2.2) a.2.1) fun g35 => (.ok (.rt (b30.2, g35))))))))))
noncomputable def m_law_solved_rows (a : ((List Int) × (List (List Int)) × (List Str) × Nat)) : R ((List Int) × (List (List Int))) := runE (b_law_solved_rows a)
abbrev sp_law_solved_rows (K : PySem.W.Frag) (ad : Ad) : Sp := SpG (xd ad) (α := ((List Int) × (List (List Int)) × (List Str) × Nat)) (β := ((List Int) × (List (List Int)))) (fun a qs => [dR (qs 0), dR (qs 1), ((dL (α := Str)) a.2.2.1)]) (fun a qs => ([(qs 0, cL (α := Int) a.1)] ++ (nest (qs 1) a.2.2.2 (fun i => qs (i + 2)) a.2.1 []))) m_law_solved_rows (fun a qs r ps => dR (qs 1)) (fun a qs r ps => ([(qs 0, cL (α := Int) r.1)] ++ (nest (qs 1) a.2.2.2 (fun i => qs (i + 2)) r.2 [])))
section
variable {P : Program} {w : World} {K : PySem.W.Frag} {mg : Str → Option Value} {base : Heap} {ad : Ad}
theorem ok_law_solved_rows (T : Txt P K mg ad) : FnOk P w K mg base CX0 2 ad.f_law_solved_rows ad.d_law_solved_rows ["_law_pool_here", "_law_rows_here", "_law_kinds_here"] (sp_law_solved_rows K ad) := by
  refine T.F_law_solved_rows.ok sc_law_solved_rows (fun vs H Q E h => spg_len (k := 3) (fun _ _ => rfl) h) (fun cdv A outer s H vs Q E hr h => ?_)
  have hu := hu_of hr
  refine ⟨_, (pss_cons (ps_set (i := 3) sc_law_solved_rows.nd rfl (by first | exact Or.inl rfl | exact Or.inr rfl) (pe_lst pa_nil))
      (pss_cons (ps_for PassesOwn.never rfl (pi_listK (K := K) rfl (pv 2)) (pg_name (i := 4) sc_law_solved_rows.nd rfl (by first | exact Or.inl rfl | exact Or.inr rfl))
      (pss_cons (ps_set (i := 5) sc_law_solved_rows.nd rfl (by first | exact Or.inl rfl | exact Or.inr rfl) (pe_op op_add (pe_call (ok_law_take (P := P) (w := w) (K := K) (mg := mg) (base := base) T) (hr.mono (by decide)) (by rfl) T.g_law_take T.F_law_take.kp T.B_law_take .nil pass0 (pa_cons (pv 0) (pa_cons pe_int pa_nil))) pe_int))
      (pss_cons (ps_if (PW.pt (pw_or (pt_cmpR op_eq (pv 4) pe_str (nomark _)) (pw_or1 (PW.pt (pw_and (pt_cmpR op_eq (pv 4) pe_str (nomark _)) (pw_and1 (pt_cmpR op_eq (pe_call (ok_law_take (P := P) (w := w) (K := K) (mg := mg) (base := base) T) (hr.mono (by decide)) (by rfl) T.g_law_take T.F_law_take.kp T.B_law_take .nil pass0 (pa_cons (pv 0) (pa_cons pe_int pa_nil))) pe_int (nomark _)))))))) (pss_one (ps_set (i := 5) sc_law_solved_rows.nd rfl (by first | exact Or.inl rfl | exact Or.inr rfl) (pe_un un_neg (pv 5)))) pss_nil)
      (pss_one (ps_expr (pe_bm PySem.F.plainAttrs_list PySem.F.slot_list_append PySem.F.type_list_append mt_append (pv 3) (pa_cons (pe_op op_mulW (pv 5) (pe_callTy call_int1 (by rfl) T.z_int (by decide +kernel) (pa_cons (pe_cmpR op_ne (pv 4) pe_str (nomark _)) pa_nil))) pa_nil)))))))
      (pss_cons (ps_setLc (i := 6) (own := [("_law_k", 7)]) (g := gName 7) rfl sc_law_solved_rows.nd rfl rfl (sw_true rfl rfl rfl (by decide +kernel)) (pi_range1 rfl T.z_range (pa_cons (pe_callB (id := "len") (call_len_seqK (K := K) rfl) (by rfl) T.z_len PySem.boot_len (pa_cons (pv 2) pa_nil)) pa_nil)) (blkOk_by (own := [("_law_k", 7)]) (N := ["_law_pool_here", "_law_rows_here", "_law_kinds_here", "_law_numbers", "_law_kind", "_law_number", "_law_places", "_law_k", "_law_at", "_law_row"]) (sc := defScope s_law_solved_rows) (by decide +kernel)) (fun _ _ _ _ _ => (pg_name (i := 7) sc_law_solved_rows.nd rfl (by first | exact Or.inl rfl | exact Or.inr rfl))) (fun _ _ _ _ _ => (pts_one (pt_cmpR op_ne (pe_ix (ix_listK (K := K) rfl) (pv 2) (pv 7) (fun _ _ => rfl)) pe_str (nomark _)))) (fun _ _ _ _ _ => (pv 7)))
      (pss_cons (ps_if (pt_cmpR (op_eqDK (K := K) rfl hr.units) (pv 6) (pe_lst pa_nil) (nomark _)) (pss_one (ps_ret (pv 1))) pss_nil)
      (pss_cons (ps_set (i := 8) sc_law_solved_rows.nd rfl (by first | exact Or.inl rfl | exact Or.inr rfl) (pe_ix (ix_listK (K := K) rfl) (pv 6) (pe_call (ok_law_take (P := P) (w := w) (K := K) (mg := mg) (base := base) T) (hr.mono (by decide)) (by rfl) T.g_law_take T.F_law_take.kp T.B_law_take .nil pass0 (pa_cons (pv 0) (pa_cons (pe_callB (id := "len") (call_len_seqK (K := K) rfl) (by rfl) T.z_len PySem.boot_len (pa_cons (pv 6) pa_nil)) pa_nil))) (fun _ _ => rfl)))
      (pss_cons (ps_asg (pe_op op_sub pe_int (pe_op op_mulW pe_int (pe_callTy call_int1 (by rfl) T.z_int (by decide +kernel) (pa_cons (pe_cmpR op_lt (pe_ix (ix_listK (K := K) rfl) (pv 3) (pv 8) (fun _ _ => rfl)) pe_int (nomark _)) pa_nil)))) (pg_sub (pv 3) (pv 8) set_list))
      (pss_cons (ps_for PassesOwn.never rfl (pi_listK (K := K) rfl (pv 1)) (pg_name (i := 9) sc_law_solved_rows.nd rfl (by first | exact Or.inl rfl | exact Or.inr rfl))
      (pss_cons (ps_asg pe_int (pg_sub (pv 9) (pv 8) set_list))
      (pss_one (ps_asg (pe_op op_mulW (pe_un un_neg (pe_call (ok_law_dot (P := P) (w := w) (K := K) (mg := mg) (base := base) T) (hr.mono (by decide)) (by rfl) T.g_law_dot T.F_law_dot.kp T.B_law_dot .nil pass0 (pa_cons (pv 9) (pa_cons (pv 3) pa_nil)))) (pe_ix (ix_listK (K := K) rfl) (pv 3) (pv 8) (fun _ _ => rfl))) (pg_sub (pv 9) (pv 8) set_list)))))
      (pss_one (ps_ret (pv 1)))))))))), ?_⟩
  try simp only [cxK, cxK2]
  refine def_ret (n := 10) (γ := Empty) (δ := Empty) (body := b_law_solved_rows) (Γn := fun _ _ _ _ => []) (Mn := fun _ _ _ _ => []) (Γl := fun _ _ _ _ => []) (Ml := fun _ _ _ _ => []) h rfl (fun _ _ => Nat.le_of_ble_eq_true rfl) (fun _ => rfl) (fun a qs M => ?_)
  unfold b_law_solved_rows
  exact (sm_in (nlE (L := [(qs 0, cL (α := Int) a.1)])) (sm_set (em_lst0 (α := Int) (xs := ([] : List Int)) av_nil (Nat.le_of_ble_eq_true rfl)) (by decide) (fun b1 ps2 => (sm_for (γ' := ((List Int) × (List Int))) (Γl := fun g5 ps6 => [(0, dR (qs 0)), (1, dR (qs 1)), (2, ((dL (α := Str)) a.2.2.1)), (3, dR (ps2 0))]) (Ml := fun g5 ps6 => (((ps2 0), cL (α := Int) g5.2) :: (((qs 0), cL (α := Int) g5.1) :: (nest (qs 1) a.2.2.2 (fun i => qs (i + 2)) a.2.1 M)))) (xs := fun b3 => b3) (g0 := fun b3 => (a.1, b1)) (adds := fun x4 => [(4, (dS x4))]) (sl := [4]) (f := fun b3 x4 g5 => (R.bind (R.bind (chk (True ∧ (True ∧ True)) (R.nx (m_law_take (g5.1, (3 : Int))))) fun a7 => R.bind (chk True (.ok (1 : Int))) fun b8 => chk True (.ok ((a7.1 + b8), a7.2))) fun b9 => (seqO (γ := (Int × (List Int))) (R.bind (chk (True ∧ True) (if (decide (x4 = ("negative" : Str))) = true then .ok (true, b9.2) else R.bind (chk (True ∧ True) (if (decide (x4 = ("free" : Str))) = true then R.bind (R.bind (chk (True ∧ (True ∧ True)) (R.nx (m_law_take (b9.2, (2 : Int))))) fun a11 => R.bind (chk True (.ok (1 : Int))) fun b12 => chk True (.ok ((decide (a11.1 = b12)), a11.2))) fun b13 => .ok (b13.1, b13.2) else .ok (false, b9.2))) fun b14 => .ok (b14.1, b14.2))) fun r15 => if r15.1 = true then (R.bind (chk True (.ok (-b9.1))) fun b16 => (.ok (.nx (b16, r15.2)))) else (.ok (.nx (b9.1, r15.2)))) fun g18 => (R.bind (R.bind (chk (True ∧ ((True ∧ True) ∧ True) ∧ (CMulW g18.1 (if (!decide (x4 = ("zero" : Str))) = true then 1 else 0))) (.ok (g18.1 * (if (!decide (x4 = ("zero" : Str))) = true then 1 else 0)))) fun b19 => chk ((g5.2).length ≤ 16000000) (.ok b19)) fun b19 => (.ok (.nx (g18.2, (g5.2 ++ [b19])))))))) (fun _ => (fun _ => 0)) (it_list (α := Str) (β := (List Str)) (xs := fun (b : (List Str)) => b) (em_ev (β := (List Str)) (D := (dL (α := Str))) (ev_var (i := 2) rfl))) (fun _ _ => mk_nil) (fun _ => ⟨rfl, rfl, rfl, rfl, trivial⟩) (fun _ => MLe.rfl) (fun x4 => (gt_name (by decide))) (fun b3 x4 g5 ps6 => (sm_set (em_op (β := (Int × (List Int))) (g := fun (a7 : (Int × (List Int))) (b8 : Int) => ((a7.1 + b8), a7.2)) (vr := fun (r : (Int × (List Int))) => r.1) (va := fun (a7 : (Int × (List Int))) => a7.1) (vb := fun (a7 : (Int × (List Int))) (b8 : Int) => b8) (Mg := fun (r : (Int × (List Int))) => (((ps2 0), cL (α := Int) g5.2) :: (((qs 0), cL (α := Int) r.2) :: (nest (qs 1) a.2.2.2 (fun i => qs (i + 2)) a.2.1 M)))) (em_callQ (rfl : sp_law_take K ad = _) (a := (g5.1, (3 : Int))) (fun _ => (qs 0)) (((ps2 0), cL (α := Int) g5.2) :: (nest (qs 1) a.2.2.2 (fun i => qs (i + 2)) a.2.1 M)) (Mr := fun (r : Int × (List Int)) ps => (((ps2 0), cL (α := Int) g5.2) :: (((qs 0), cL (α := Int) r.2) :: (nest (qs 1) a.2.2.2 (fun i => qs (i + 2)) a.2.1 M)))) (av_cons (ev_var (i := 0) rfl) (av_cons ev_int av_nil)) (MLe.front 1 rfl) (fun (r : Int × (List Int)) _ => MLe.back (M := (((ps2 0), cL (α := Int) g5.2) :: (((qs 0), cL (α := Int) r.2) :: (nest (qs 1) a.2.2.2 (fun i => qs (i + 2)) a.2.1 M)))) 1 rfl)) (fun (a7 : (Int × (List Int))) => (em_ev (β := Int) (D := dI) ev_int)) (fun _ _ => rfl) (fun _ _ => rfl)) (by decide) (fun b9 ps10 => (sm_seq (γ' := (Int × (List Int))) (Γ1 := fun g18 _ => [(0, dR (qs 0)), (1, dR (qs 1)), (2, ((dL (α := Str)) a.2.2.1)), (3, dR (ps2 0)), (4, (dS x4)), (5, (dI g18.1))]) (M1 := fun g18 _ => (((ps2 0), cL (α := Int) g5.2) :: (((qs 0), cL (α := Int) g18.2) :: (nest (qs 1) a.2.2.2 (fun i => qs (i + 2)) a.2.1 M)))) (sm_ifM (b := fun (r15 : (Bool × (List Int))) => r15.1) (tm_orS (g := fun (b14 : (Bool × (List Int))) => (b14.1, b14.2)) (g0 := (true, b9.2)) (bb := fun (r : (Bool × (List Int))) => r.1) (Mo := fun (r : (Bool × (List Int))) _ => (((ps2 0), cL (α := Int) g5.2) :: (((qs 0), cL (α := Int) r.2) :: (nest (qs 1) a.2.2.2 (fun i => qs (i + 2)) a.2.1 M)))) (tv_test (ev_eqS (ev_var (i := 4) rfl) ev_str)) (tm_andS (g := fun (b13 : (Bool × (List Int))) => (b13.1, b13.2)) (g0 := (false, b9.2)) (bb := fun (r : (Bool × (List Int))) => r.1) (Mo := fun (r : (Bool × (List Int))) _ => (((ps2 0), cL (α := Int) g5.2) :: (((qs 0), cL (α := Int) r.2) :: (nest (qs 1) a.2.2.2 (fun i => qs (i + 2)) a.2.1 M)))) (tv_test (ev_eqS (ev_var (i := 4) rfl) ev_str)) (tm_em (b := fun (r : (Bool × (List Int))) => r.1) (em_eqI (β := (Bool × (List Int))) (g := fun (a11 : (Int × (List Int))) (b12 : Int) => ((decide (a11.1 = b12)), a11.2)) (vr := fun (r : (Bool × (List Int))) => r.1) (va := fun (a11 : (Int × (List Int))) => a11.1) (vb := fun (a11 : (Int × (List Int))) (b12 : Int) => b12) (Mg := fun (r : (Bool × (List Int))) => (((ps2 0), cL (α := Int) g5.2) :: (((qs 0), cL (α := Int) r.2) :: (nest (qs 1) a.2.2.2 (fun i => qs (i + 2)) a.2.1 M)))) (em_callQ (rfl : sp_law_take K ad = _) (a := (b9.2, (2 : Int))) (fun _ => (qs 0)) (((ps2 0), cL (α := Int) g5.2) :: (nest (qs 1) a.2.2.2 (fun i => qs (i + 2)) a.2.1 M)) (Mr := fun (r : Int × (List Int)) ps => (((ps2 0), cL (α := Int) g5.2) :: (((qs 0), cL (α := Int) r.2) :: (nest (qs 1) a.2.2.2 (fun i => qs (i + 2)) a.2.1 M)))) (av_cons (ev_var (i := 0) rfl) (av_cons ev_int av_nil)) (MLe.front 1 rfl) (fun (r : Int × (List Int)) _ => MLe.back (M := (((ps2 0), cL (α := Int) g5.2) :: (((qs 0), cL (α := Int) r.2) :: (nest (qs 1) a.2.2.2 (fun i => qs (i + 2)) a.2.1 M)))) 1 rfl)) (fun (a11 : (Int × (List Int))) => (em_ev (β := Int) (D := dI) ev_int)) (fun _ _ => rfl) (fun _ _ => rfl))) (fun _ => rfl) rfl (fun _ _ => rfl) (fun _ => rfl)) (fun _ => rfl) rfl (fun _ _ => rfl) (fun _ => rfl)) (fun r15 _ _ => (sm_last (sm_set (em_ev (β := Int) (D := dI) (ev_un (ev_var (i := 5) rfl))) (by decide) (fun b16 ps17 => (sm_nil (fun _ => 0) ⟨rfl, rfl, rfl, rfl, rfl, rfl, trivial⟩ MLe.rfl))))) (fun r15 _ _ => (sm_nil (fun _ => 0) ⟨rfl, rfl, rfl, rfl, rfl, rfl, trivial⟩ MLe.rfl))) (fun g18 _ => (sm_last (sm_expr (em_append (α := Int) (xs := g5.2) (fun _ _ h => h) (y := fun (b19 : Int) => b19) (M1 := fun (b19 : Int) => (((qs 0), cL (α := Int) g18.2) :: (nest (qs 1) a.2.2.2 (fun i => qs (i + 2)) a.2.1 M))) (ev_var (i := 3) rfl) (em_ev (β := Int) (D := dI) (ev_opC (ev_var (i := 5) rfl) (ev_int_b (av_cons (ev_neS (ev_var (i := 4) rfl) ev_str) av_nil))))) (fun b19 _ => (sm_nil (fun _ => 0) ⟨rfl, rfl, rfl, rfl, trivial⟩ MLe.rfl))))))))) (fun g5 ps6 => (sm_set (em_frz (α := Int) (f := fun (r : (List Int)) => r) (Mf := fun (r : (List Int)) => (((ps2 0), cL (α := Int) g5.2) :: (((qs 0), cL (α := Int) g5.1) :: (nest (qs 1) a.2.2.2 (fun i => qs (i + 2)) a.2.1 M)))) (em_lcT (η := Int) (M0 := (((ps2 0), cL (α := Int) g5.2) :: (((qs 0), cL (α := Int) g5.1) :: (nest (qs 1) a.2.2.2 (fun i => qs (i + 2)) a.2.1 M)))) (Γw := [(0, dR (qs 0)), (1, dR (qs 1)), (2, ((dL (α := Str)) a.2.2.1)), (3, dR (ps2 0))]) (adds := fun (x21 : Int) => [(7, (dI x21))]) (sl := [7]) (xs := fun (b20 : Unit) => (rng 0 ((List.length a.2.2.1 : Nat) : Int))) (ct := fun (b20 : Unit) (x21 : Int) => ((True ∧ True ∧ inR a.2.2.1 x21) ∧ True)) (bb := fun (b20 : Unit) (x21 : Int) => (!decide ((getI a.2.2.1 x21) = ("zero" : Str)))) (ce := fun (b20 : Unit) (x21 : Int) => True) (y := fun (b20 : Unit) (x21 : Int) => x21) (it_range1 (j := fun _ => ((List.length a.2.2.1 : Nat) : Int)) (am_av (β := Unit) (Ds := fun _ => [dI ((List.length a.2.2.1 : Nat) : Int)]) (x := ()) (av_cons (ev_len (lv_dn (ev_var (i := 2) rfl))) av_nil))) mk_nil ⟨rfl, by decide, rfl, by decide, rfl, by decide, rfl, by decide, trivial⟩ (fun x21 => (gt_name (by decide))) (by decide) (fun (b20 : Unit) (x21 : Int) => (tv_test (ev_neS (ev_ixL (lv_dn (ev_var (i := 2) rfl)) (ev_var (i := 7) rfl)) ev_str))) (fun (b20 : Unit) (x21 : Int) => (ev_var (i := 7) rfl)))) (by decide) (fun b22 ps23 => (sm_seq (γ' := Unit) (Γ1 := fun g27 _ => [(0, dR (qs 0)), (1, dR (qs 1)), (2, ((dL (α := Str)) a.2.2.1)), (3, dR (ps2 0)), (6, ((dL (α := Int)) b22))]) (M1 := fun g27 _ => (((ps2 0), cL (α := Int) g5.2) :: (((qs 0), cL (α := Int) g5.1) :: (nest (qs 1) a.2.2.2 (fun i => qs (i + 2)) a.2.1 M)))) (sm_ifM (b := fun (r26 : Bool) => r26) (tm_em (b := fun (r : Bool) => r) (em_eqD (β := Bool) (g := fun (a24 : (List Int)) (b25 : (List Int)) => (@decide (a24 = b25) (Classical.propDecidable _))) (vr := fun (r : Bool) => r) (va := fun (a24 : (List Int)) => a24) (vb := fun (a24 : (List Int)) (b25 : (List Int)) => b25) (Mg := fun (r : Bool) => (((ps2 0), cL (α := Int) g5.2) :: (((qs 0), cL (α := Int) g5.1) :: (nest (qs 1) a.2.2.2 (fun i => qs (i + 2)) a.2.1 M)))) (α := (List Int)) (by decide) (em_ev (β := (List Int)) (D := (dL (α := Int))) (ev_var (i := 6) rfl)) (fun (a24 : (List Int)) => (em_frz (α := Int) (f := fun (r : (List Int)) => r) (Mf := fun (r : (List Int)) => (((ps2 0), cL (α := Int) g5.2) :: (((qs 0), cL (α := Int) g5.1) :: (nest (qs 1) a.2.2.2 (fun i => qs (i + 2)) a.2.1 M)))) (em_lst0 (α := Int) (xs := ([] : List Int)) av_nil (Nat.le_of_ble_eq_true rfl)))) (fun _ _ => rfl) (fun _ _ => rfl))) (fun r26 _ _ => (sm_retV (b := (g5.1, a.2.1)) (ps := (fun _ => 0)) (i := 1) rfl rfl (MLe.trans (nlX (L := [((qs 0), cL (α := Int) g5.1)])) (MLe.sbl (.cons _ (List.Sublist.refl _)))))) (fun r26 _ _ => (sm_nil (fun _ => 0) ⟨rfl, rfl, rfl, rfl, rfl, trivial⟩ MLe.rfl))) (fun g27 _ => (sm_set (em_ixL (β := (Int × (List Int))) (g := fun (a28 : (List Int)) (b29 : (Int × (List Int))) => ((getI a28 b29.1), b29.2)) (vr := fun (r : (Int × (List Int))) => r.1) (va := fun (a28 : (List Int)) => a28) (vb := fun (a28 : (List Int)) (b29 : (Int × (List Int))) => b29.1) (Mg := fun (r : (Int × (List Int))) => (((ps2 0), cL (α := Int) g5.2) :: (((qs 0), cL (α := Int) r.2) :: (nest (qs 1) a.2.2.2 (fun i => qs (i + 2)) a.2.1 M)))) (α := Int) (em_ev (β := (List Int)) (D := (dL (α := Int))) (ev_var (i := 6) rfl)) (fun (a28 : (List Int)) => (em_callQ (rfl : sp_law_take K ad = _) (a := (g5.1, ((List.length b22 : Nat) : Int))) (fun _ => (qs 0)) (((ps2 0), cL (α := Int) g5.2) :: (nest (qs 1) a.2.2.2 (fun i => qs (i + 2)) a.2.1 M)) (Mr := fun (r : Int × (List Int)) ps => (((ps2 0), cL (α := Int) g5.2) :: (((qs 0), cL (α := Int) r.2) :: (nest (qs 1) a.2.2.2 (fun i => qs (i + 2)) a.2.1 M)))) (av_cons (ev_var (i := 0) rfl) (av_cons (ev_len (lv_dn (ev_var (i := 6) rfl))) av_nil)) (MLe.front 1 rfl) (fun (r : Int × (List Int)) _ => MLe.back (M := (((ps2 0), cL (α := Int) g5.2) :: (((qs 0), cL (α := Int) r.2) :: (nest (qs 1) a.2.2.2 (fun i => qs (i + 2)) a.2.1 M)))) 1 rfl))) (fun _ _ => rfl) (fun _ _ => rfl)) (by decide) (fun b30 ps31 => (sm_setL (α := Int) (xs := g5.2) (y := fun b32 => b32) (M1 := fun b32 => (((qs 0), cL (α := Int) b30.2) :: (nest (qs 1) a.2.2.2 (fun i => qs (i + 2)) a.2.1 M))) (i := fun b32 => b30.1) (em_ev (β := Int) (D := dI) (ev_op ev_int (ev_opC ev_int (ev_int_b (av_cons (ev_cmp (ev_ixL (lv_own (p := (ps2 0)) 0 (ev_var (i := 3) rfl) rfl) (ev_var (i := 8) rfl)) ev_int) av_nil))))) (fun b32 => ev_var (i := 3) rfl) (fun b32 => (ev_var (i := 8) rfl)) (fun b32 => (sm_for (γ' := ((List (List Int)))) (Γl := fun g35 ps36 => [(0, dR (qs 0)), (1, dR (qs 1)), (2, ((dL (α := Str)) a.2.2.1)), (3, dR (ps2 0)), (6, ((dL (α := Int)) b22)), (8, (dI b30.1))]) (Ml := fun g35 ps36 => (((ps2 0), cL (α := Int) (setI g5.2 b30.1 b32)) :: (((qs 0), cL (α := Int) b30.2) :: (nest (qs 1) a.2.2.2 (fun i => qs (i + 2)) g35 M)))) (xs := fun b33 => (List.range a.2.2.2)) (g0 := fun b33 => a.2.1) (adds := fun x34 => [(9, dR ((fun i => qs (i + 2)) x34))]) (sl := [9]) (f := fun b33 x34 g35 => (R.bind (chk True (.ok (0 : Int))) fun b37 => chk (True ∧ True ∧ x34 < a.2.2.2 ∧ x34 < (List.length g35) ∧ inR (List.getD g35 x34 []) b30.1) (R.bind (R.bind (chk ((True ∧ x34 < a.2.2.2) ∧ (True ∧ True)) (R.nx (m_law_dot ((List.getD (List.set g35 x34 (setI (List.getD g35 x34 []) b30.1 b37)) x34 []), (setI g5.2 b30.1 b32))))) fun a38 => R.bind (chk (True ∧ True ∧ inR (setI g5.2 b30.1 b32) b30.1) (.ok (getI (setI g5.2 b30.1 b32) b30.1))) fun b39 => chk (CMulW (-a38) b39) (.ok ((-a38) * b39))) fun b40 => chk (True ∧ True ∧ x34 < a.2.2.2 ∧ x34 < (List.length (List.set g35 x34 (setI (List.getD g35 x34 []) b30.1 b37))) ∧ inR (List.getD (List.set g35 x34 (setI (List.getD g35 x34 []) b30.1 b37)) x34 []) b30.1) (.ok (.nx (List.set (List.set g35 x34 (setI (List.getD g35 x34 []) b30.1 b37)) x34 (setI (List.getD (List.set g35 x34 (setI (List.getD g35 x34 []) b30.1 b37)) x34 []) b30.1 b40))))))) (fun _ => (fun _ => 0)) (it_NL (L := [((ps2 0), cL (α := Int) (setI g5.2 b30.1 b32)), ((qs 0), cL (α := Int) b30.2)]) (ev_var (i := 1) rfl)) (fun _ _ => (mk_one 2 rfl)) (fun _ => ⟨rfl, rfl, rfl, rfl, rfl, rfl, trivial⟩) (fun _ => MLe.rfl) (fun x34 => (gt_name (by decide))) (fun b33 x34 g35 ps36 => (sm_setNL (L := [((ps2 0), cL (α := Int) (setI g5.2 b30.1 b32)), ((qs 0), cL (α := Int) b30.2)]) (rows := g35) (k := a.2.2.2) (i := x34) (cto := True) (y := fun (b37 : Int) => b37) (ci := fun (b37 : Int) => True) (j := fun (b37 : Int) => b30.1) (em_ev (β := Int) (D := dI) ev_int) (ev_var (i := 9) rfl) (fun (b37 : Int) => (ev_var (i := 8) rfl)) (fun (b37 : Int) => (sm_last (sm_setNL (L := [((ps2 0), cL (α := Int) (setI g5.2 b30.1 b32)), ((qs 0), cL (α := Int) b30.2)]) (rows := (List.set g35 x34 (setI (List.getD g35 x34 []) b30.1 b37))) (k := a.2.2.2) (i := x34) (cto := True) (y := fun (b40 : Int) => b40) (ci := fun (b40 : Int) => True) (j := fun (b40 : Int) => b30.1) (em_opC (β := Int) (g := fun (a38 : Int) (b39 : Int) => ((-a38) * b39)) (vr := fun (r : Int) => r) (va := fun (a38 : Int) => (-a38)) (vb := fun (a38 : Int) (b39 : Int) => b39) (Mg := fun (r : Int) => (((ps2 0), cL (α := Int) (setI g5.2 b30.1 b32)) :: (((qs 0), cL (α := Int) b30.2) :: (nest (qs 1) a.2.2.2 (fun i => qs (i + 2)) (List.set g35 x34 (setI (List.getD g35 x34 []) b30.1 b37)) M)))) (em_un (v := fun (r : Int) => r) (em_callB (a := ((List.getD (List.set g35 x34 (setI (List.getD g35 x34 []) b30.1 b37)) x34 []), (setI g5.2 b30.1 b32))) (Dr := dI) (bv_lent (lv_rowL (L := [((ps2 0), cL (α := Int) (setI g5.2 b30.1 b32)), ((qs 0), cL (α := Int) b30.2)]) (ev_var (i := 9) rfl)) (bv_lent (lv_own (p := (ps2 0)) 0 (ev_var (i := 3) rfl) rfl) bv_nil)) rfl (fun _ _ => rfl) (fun _ => flat_I))) (fun (a38 : Int) => (em_ev (β := Int) (D := dI) (ev_ixL (lv_own (p := (ps2 0)) 0 (ev_var (i := 3) rfl) rfl) (ev_var (i := 8) rfl)))) (fun _ _ => rfl) (fun _ _ => rfl)) (ev_var (i := 9) rfl) (fun (b40 : Int) => (ev_var (i := 8) rfl)) (fun (b40 : Int) => (sm_nil (fun _ => 0) ⟨rfl, rfl, rfl, rfl, rfl, rfl, trivial⟩ MLe.rfl))))))) (fun g35 ps36 => (sm_retV (b := (b30.2, g35)) (ps := (fun _ => 0)) (i := 1) rfl rfl (MLe.trans (nlX (L := [((qs 0), cL (α := Int) b30.2)])) (MLe.sbl (.cons _ (List.Sublist.refl _))))))))))))))))))))
end
noncomputable def b_law_barred_rows (a : ((List Int) × (List (List Int)) × (List Str) × Nat)) : R (Out Empty Empty ((List Int) × (List (List Int)))) :=
  (seqO (γ := Unit) (R.bind (chk (True ∧ (List.length a.2.1) = a.2.2.2) (.ok (List.isEmpty a.2.1))) fun r1 => if r1 = true then (.ok (.rt (a.1, a.2.1))) else (.ok (.nx ()))) fun g2 => (R.bind (R.bind (chk True (.ok ())) fun b3 => chk (((List.range a.2.2.2)).length ≤ 16000000) (R.nx (compR (fun x4 g10 => (R.bind (R.bind (chk (True ∧ (True ∧ True)) (R.nx (m_law_take (g10, (5 : Int))))) fun a11 => R.bind (chk True (.ok (2 : Int))) fun b12 => chk True (.ok ((a11.1 - b12), a11.2))) fun r9 => .ok (some r9.1, r9.2))) (List.range a.2.2.2) a.1 []))) fun b13 => (R.bind (chk (True ∧ (True ∧ True)) (R.nx (m_law_take (b13.2, ((a.2.2.2 : Nat) : Int))))) fun b15 => (R.bind (R.bind (chk True (.ok (1 : Int))) fun a17 => R.bind (R.bind (chk True (.ok (2 : Int))) fun a19 => R.bind (chk (True ∧ (True ∧ True)) (R.nx (m_law_take (b15.2, (2 : Int))))) fun b20 => chk (CMulW a19 b20.1) (.ok ((a19 * b20.1), b20.2))) fun b18 => chk True (.ok ((a17 - b18.1), b18.2))) fun b21 => chk (True ∧ inR b13.1 b15.1) (R.bind (R.bind (chk (True ∧ True) (.ok ())) fun b => chk (-1000000000 ≤ ((List.length a.2.2.1 : Nat) : Int) ∧ ((List.length a.2.2.1 : Nat) : Int) ≤ 1000000000) (.ok b)) fun b22 => seqO (forR (γ := ((List Int) × (List (List Int)))) (fun x23 g24 => (R.bind (chk (True ∧ (True ∧ True)) (R.nx (m_law_take (g24.1, (3 : Int))))) fun b26 => (seqO (γ := (Int)) (chk ((True ∧ True ∧ inR a.2.2.1 x23) ∧ True) (if (decide ((getI a.2.2.1 x23) = ("negative" : Str))) = true then (R.bind (chk True (.ok (-b26.1))) fun b29 => (.ok (.nx b29))) else (.ok (.nx b26.1)))) fun g31 => (seqO (γ := (Int)) (chk ((True ∧ True ∧ inR a.2.2.1 x23) ∧ True) (if (decide ((getI a.2.2.1 x23) = ("free" : Str))) = true then (R.bind (chk True (.ok (0 : Int))) fun b33 => (.ok (.nx b33))) else (.ok (.nx g31)))) fun g35 => (R.bind (chk True (.ok (0 : Int))) fun b36 => chk ((True ∧ True ∧ 0 ≤ b15.1 ∧ b15.1 < (a.2.2.2 : Nat)) ∧ True ∧ (Int.toNat b15.1) < a.2.2.2 ∧ (Int.toNat b15.1) < (List.length g24.2) ∧ inR (List.getD g24.2 (Int.toNat b15.1) []) x23) (R.bind (R.bind (chk True (.ok ())) fun b37 => chk (((List.range a.2.2.2)).length ≤ 16000000 ∧ ∀ x38 ∈ (List.range a.2.2.2), ((True ∧ x38 < a.2.2.2) ∧ True ∧ inR (List.getD (List.set g24.2 (Int.toNat b15.1) (setI (List.getD g24.2 (Int.toNat b15.1) []) x23 b36)) x38 []) x23)) (.ok (List.map (fun x38 => (getI (List.getD (List.set g24.2 (Int.toNat b15.1) (setI (List.getD g24.2 (Int.toNat b15.1) []) x23 b36)) x38 []) x23)) (List.range a.2.2.2)))) fun b39 => (R.bind (R.bind (R.bind (chk True (.ok g35)) fun a41 => R.bind (chk (True ∧ (True ∧ True)) (R.nx (m_law_dot (b39, (setI b13.1 b15.1 b21.1))))) fun b42 => chk True (.ok (a41 - b42))) fun a43 => R.bind (chk (True ∧ True ∧ inR (setI b13.1 b15.1 b21.1) b15.1) (.ok (getI (setI b13.1 b15.1 b21.1) b15.1))) fun b44 => chk (CMulW a43 b44) (.ok (a43 * b44))) fun b45 => chk ((True ∧ True ∧ 0 ≤ b15.1 ∧ b15.1 < (a.2.2.2 : Nat)) ∧ True ∧ (Int.toNat b15.1) < a.2.2.2 ∧ (Int.toNat b15.1) < (List.length (List.set g24.2 (Int.toNat b15.1) (setI (List.getD g24.2 (Int.toNat b15.1) []) x23 b36))) ∧ inR (List.getD (List.set g24.2 (Int.toNat b15.1) (setI (List.getD g24.2 (Int.toNat b15.1) []) x23 b36)) (Int.toNat b15.1) []) x23) (.ok (.nx (b26.2, (List.set (List.set g24.2 (Int.toNat b15.1) (setI (List.getD g24.2 (Int.toNat b15.1) []) x23 b36)) (Int.toNat b15.1) (setI (List.getD (List.set g24.2 (Int.toNat b15.1) (setI (List.getD g24.2 (Int.toNat b15.1) []) x23 b36)) (Int.toNat b15.1) []) x23 b45)))))))))))) (rng 0 ((List.length a.2.2.1 : Nat) : Int)) (b21.2, a.2.1)) fun g24 => (.ok (.rt (g24.1, g24.2))))))))
noncomputable def m_law_barred_rows (a : ((List Int) × (List (List Int)) × (List Str) × Nat)) : R ((List Int) × (List (List Int))) := runE (b_law_barred_rows a)
abbrev sp_law_barred_rows (K : PySem.W.Frag) (ad : Ad) : Sp := SpG (xd ad) (α := ((List Int) × (List (List Int)) × (List Str) × Nat)) (β := ((List Int) × (List (List Int)))) (fun a qs => [dR (qs 0), dR (qs 1), ((dL (α := Str)) a.2.2.1)]) (fun a qs => ([(qs 0, cL (α := Int) a.1)] ++ (nest (qs 1) a.2.2.2 (fun i => qs (i + 2)) a.2.1 []))) m_law_barred_rows (fun a qs r ps => dR (qs 1)) (fun a qs r ps => ([(qs 0, cL (α := Int) r.1)] ++ (nest (qs 1) a.2.2.2 (fun i => qs (i + 2)) r.2 [])))
section
variable {P : Program} {w : World} {K : PySem.W.Frag} {mg : Str → Option Value} {base : Heap} {ad : Ad}
theorem ok_law_barred_rows (T : Txt P K mg ad) : FnOk P w K mg base CX0 2 ad.f_law_barred_rows ad.d_law_barred_rows ["_law_pool_here", "_law_rows_here", "_law_kinds_here"] (sp_law_barred_rows K ad) := by
  refine T.F_law_barred_rows.ok sc_law_barred_rows (fun vs H Q E h => spg_len (k := 3) (fun _ _ => rfl) h) (fun cdv A outer s H vs Q E hr h => ?_)
  have hu := hu_of hr
  refine ⟨_, (pss_cons (ps_if (pt_cmpR (op_eqDK (K := K) rfl hr.units) (pv 1) (pe_lst pa_nil) (nomark _)) (pss_one (ps_ret (pv 1))) pss_nil)
      (pss_cons (ps_setLc (i := 3) (own := [("_law_row", 4)]) (g := gName 4) (tt := tYes) rfl sc_law_barred_rows.nd rfl rfl (sw_true rfl rfl rfl (by decide +kernel)) (pi_listK (K := K) rfl (pv 1)) (blkOk_by (own := [("_law_row", 4)]) (N := ["_law_pool_here", "_law_rows_here", "_law_kinds_here", "_law_weights", "_law_row", "_law_at", "_law_k", "_law_due", "_law_column"]) (sc := defScope s_law_barred_rows) (by decide +kernel)) (fun _ _ _ _ _ => (pg_name (i := 4) sc_law_barred_rows.nd rfl (by first | exact Or.inl rfl | exact Or.inr rfl))) (fun _ _ _ _ _ => pts_nil) (fun _ _ _ _ _ => (pe_op op_sub (pe_call (ok_law_take (P := P) (w := w) (K := K) (mg := mg) (base := base) T) (hr.mono (by decide)) (by rfl) T.g_law_take T.F_law_take.kp T.B_law_take .nil pass0 (pa_cons (pv 0) (pa_cons pe_int pa_nil))) pe_int)))
      (pss_cons (ps_set (i := 5) sc_law_barred_rows.nd rfl (by first | exact Or.inl rfl | exact Or.inr rfl) (pe_call (ok_law_take (P := P) (w := w) (K := K) (mg := mg) (base := base) T) (hr.mono (by decide)) (by rfl) T.g_law_take T.F_law_take.kp T.B_law_take .nil pass0 (pa_cons (pv 0) (pa_cons (pe_callB (id := "len") (call_len_seqK (K := K) rfl) (by rfl) T.z_len PySem.boot_len (pa_cons (pv 1) pa_nil)) pa_nil))))
      (pss_cons (ps_asg (pe_op op_sub pe_int (pe_op op_mulW pe_int (pe_call (ok_law_take (P := P) (w := w) (K := K) (mg := mg) (base := base) T) (hr.mono (by decide)) (by rfl) T.g_law_take T.F_law_take.kp T.B_law_take .nil pass0 (pa_cons (pv 0) (pa_cons pe_int pa_nil))))) (pg_sub (pv 3) (pv 5) set_list))
      (pss_cons (ps_for PassesOwn.never rfl (pi_range1 rfl T.z_range (pa_cons (pe_callB (id := "len") (call_len_seqK (K := K) rfl) (by rfl) T.z_len PySem.boot_len (pa_cons (pv 2) pa_nil)) pa_nil)) (pg_name (i := 6) sc_law_barred_rows.nd rfl (by first | exact Or.inl rfl | exact Or.inr rfl))
      (pss_cons (ps_set (i := 7) sc_law_barred_rows.nd rfl (by first | exact Or.inl rfl | exact Or.inr rfl) (pe_call (ok_law_take (P := P) (w := w) (K := K) (mg := mg) (base := base) T) (hr.mono (by decide)) (by rfl) T.g_law_take T.F_law_take.kp T.B_law_take .nil pass0 (pa_cons (pv 0) (pa_cons pe_int pa_nil))))
      (pss_cons (ps_if (pt_cmpR op_eq (pe_ix (ix_listK (K := K) rfl) (pv 2) (pv 6) (fun _ _ => rfl)) pe_str (nomark _)) (pss_one (ps_set (i := 7) sc_law_barred_rows.nd rfl (by first | exact Or.inl rfl | exact Or.inr rfl) (pe_un un_neg (pv 7)))) pss_nil)
      (pss_cons (ps_if (pt_cmpR op_eq (pe_ix (ix_listK (K := K) rfl) (pv 2) (pv 6) (fun _ _ => rfl)) pe_str (nomark _)) (pss_one (ps_set (i := 7) sc_law_barred_rows.nd rfl (by first | exact Or.inl rfl | exact Or.inr rfl) pe_int)) pss_nil)
      (pss_cons (ps_asg pe_int (pg_sub (pe_ix (ix_listK (K := K) rfl) (pv 1) (pv 5) (fun _ _ => rfl)) (pv 6) set_list))
      (pss_cons (ps_setLc (i := 8) (own := [("_law_row", 4)]) (g := gName 4) (tt := tYes) rfl sc_law_barred_rows.nd rfl rfl (sw_true rfl rfl rfl (by decide +kernel)) (pi_listK (K := K) rfl (pv 1)) (blkOk_by (own := [("_law_row", 4)]) (N := ["_law_pool_here", "_law_rows_here", "_law_kinds_here", "_law_weights", "_law_row", "_law_at", "_law_k", "_law_due", "_law_column"]) (sc := defScope s_law_barred_rows) (by decide +kernel)) (fun _ _ _ _ _ => (pg_name (i := 4) sc_law_barred_rows.nd rfl (by first | exact Or.inl rfl | exact Or.inr rfl))) (fun _ _ _ _ _ => pts_nil) (fun _ _ _ _ _ => (pe_ix (ix_listK (K := K) rfl) (pv 4) (pv 6) (fun _ _ => rfl))))
      (pss_one (ps_asg (pe_op op_mulW (pe_op op_sub (pv 7) (pe_call (ok_law_dot (P := P) (w := w) (K := K) (mg := mg) (base := base) T) (hr.mono (by decide)) (by rfl) T.g_law_dot T.F_law_dot.kp T.B_law_dot .nil pass0 (pa_cons (pv 8) (pa_cons (pv 3) pa_nil)))) (pe_ix (ix_listK (K := K) rfl) (pv 3) (pv 5) (fun _ _ => rfl))) (pg_sub (pe_ix (ix_listK (K := K) rfl) (pv 1) (pv 5) (fun _ _ => rfl)) (pv 6) set_list)))))))))
      (pss_one (ps_ret (pv 1)))))))), ?_⟩
  try simp only [cxK, cxK2]
  refine def_ret (n := 9) (γ := Empty) (δ := Empty) (body := b_law_barred_rows) (Γn := fun _ _ _ _ => []) (Mn := fun _ _ _ _ => []) (Γl := fun _ _ _ _ => []) (Ml := fun _ _ _ _ => []) h rfl (fun _ _ => Nat.le_of_ble_eq_true rfl) (fun _ => rfl) (fun a qs M => ?_)
  unfold b_law_barred_rows
  exact (sm_in (nlE (L := [(qs 0, cL (α := Int) a.1)])) (sm_seq (γ' := Unit) (Γ1 := fun g2 _ => [(0, dR (qs 0)), (1, dR (qs 1)), (2, ((dL (α := Str)) a.2.2.1))]) (M1 := fun g2 _ => (((qs 0), cL (α := Int) a.1) :: (nest (qs 1) a.2.2.2 (fun i => qs (i + 2)) a.2.1 M))) (sm_ifM (b := fun (r1 : Bool) => r1) (tm_em (b := fun (r : Bool) => r) (em_eqNL (L := [((qs 0), cL (α := Int) a.1)]) (ev_var (i := 1) rfl))) (fun r1 _ _ => (sm_retV (b := (a.1, a.2.1)) (ps := (fun _ => 0)) (i := 1) rfl rfl (nlX (L := [((qs 0), cL (α := Int) a.1)])))) (fun r1 _ _ => (sm_nil (fun _ => 0) ⟨rfl, rfl, rfl, trivial⟩ MLe.rfl))) (fun g2 _ => (sm_set (em_lcG (η := Int) (γ := (List Int)) (Mg := fun g10 => (((qs 0), cL (α := Int) g10) :: (nest (qs 1) a.2.2.2 (fun i => qs (i + 2)) a.2.1 M))) (g0 := fun (b3 : Unit) => a.1) (Γw := [(0, dR (qs 0)), (1, dR (qs 1)), (2, ((dL (α := Str)) a.2.2.1))]) (adds := fun (x4 : Nat) => [(4, dR ((fun i => qs (i + 2)) x4))]) (sl := [4]) (xs := fun (b3 : Unit) => (List.range a.2.2.2)) (f := fun (b3 : Unit) (x4 : Nat) g10 => (R.bind (R.bind (chk (True ∧ (True ∧ True)) (R.nx (m_law_take (g10, (5 : Int))))) fun a11 => R.bind (chk True (.ok (2 : Int))) fun b12 => chk True (.ok ((a11.1 - b12), a11.2))) fun r9 => .ok (some r9.1, r9.2))) (it_NL (L := [((qs 0), cL (α := Int) a.1)]) (ev_var (i := 1) rfl)) (fun _ => (mk_one 1 rfl)) ⟨rfl, by decide, rfl, by decide, rfl, by decide, trivial⟩ (fun x4 => (gt_name (by decide))) (by decide) (fun (b3 : Unit) (x4 : Nat) g10 => ie_m0 (va := fun (r9 : (Int × (List Int))) => r9.1) (gb := fun (r9 : (Int × (List Int))) => r9.2) (fun Dd5 cc6 => (em_op (β := (Int × (List Int))) (g := fun (a11 : (Int × (List Int))) (b12 : Int) => ((a11.1 - b12), a11.2)) (vr := fun (r : (Int × (List Int))) => r.1) (va := fun (a11 : (Int × (List Int))) => a11.1) (vb := fun (a11 : (Int × (List Int))) (b12 : Int) => b12) (Mg := fun (r : (Int × (List Int))) => ((Dd5, cc6) :: (((qs 0), cL (α := Int) r.2) :: (nest (qs 1) a.2.2.2 (fun i => qs (i + 2)) a.2.1 M)))) (em_callQ (rfl : sp_law_take K ad = _) (a := (g10, (5 : Int))) (fun _ => (qs 0)) ((Dd5, cc6) :: (nest (qs 1) a.2.2.2 (fun i => qs (i + 2)) a.2.1 M)) (Mr := fun (r : Int × (List Int)) ps => ((Dd5, cc6) :: (((qs 0), cL (α := Int) r.2) :: (nest (qs 1) a.2.2.2 (fun i => qs (i + 2)) a.2.1 M)))) (av_cons (ev_var (i := 0) rfl) (av_cons ev_int av_nil)) (MLe.front 1 rfl) (fun (r : Int × (List Int)) _ => MLe.back (M := ((Dd5, cc6) :: (((qs 0), cL (α := Int) r.2) :: (nest (qs 1) a.2.2.2 (fun i => qs (i + 2)) a.2.1 M)))) 1 rfl)) (fun (a11 : (Int × (List Int))) => (em_ev (β := Int) (D := dI) ev_int)) (fun _ _ => rfl) (fun _ _ => rfl))))) (by decide) (fun b13 ps14 => (sm_set (em_callQ (rfl : sp_law_take K ad = _) (a := (b13.2, ((a.2.2.2 : Nat) : Int))) (fun _ => (qs 0)) (((ps14 0), cL (α := Int) b13.1) :: (nest (qs 1) a.2.2.2 (fun i => qs (i + 2)) a.2.1 M)) (Mr := fun (r : Int × (List Int)) ps => (((ps14 0), cL (α := Int) b13.1) :: (((qs 0), cL (α := Int) r.2) :: (nest (qs 1) a.2.2.2 (fun i => qs (i + 2)) a.2.1 M)))) (av_cons (ev_var (i := 0) rfl) (av_cons (ev_lenNL (L := [((ps14 0), cL (α := Int) b13.1), ((qs 0), cL (α := Int) b13.2)]) (ev_var (i := 1) rfl)) av_nil)) (MLe.front 1 rfl) (fun (r : Int × (List Int)) _ => MLe.back (M := (((ps14 0), cL (α := Int) b13.1) :: (((qs 0), cL (α := Int) r.2) :: (nest (qs 1) a.2.2.2 (fun i => qs (i + 2)) a.2.1 M)))) 1 rfl)) (by decide) (fun b15 ps16 => (sm_setL (α := Int) (xs := b13.1) (y := fun b21 => b21.1) (M1 := fun b21 => (((qs 0), cL (α := Int) b21.2) :: (nest (qs 1) a.2.2.2 (fun i => qs (i + 2)) a.2.1 M))) (i := fun b21 => b15.1) (em_op (β := (Int × (List Int))) (g := fun (a17 : Int) (b18 : (Int × (List Int))) => ((a17 - b18.1), b18.2)) (vr := fun (r : (Int × (List Int))) => r.1) (va := fun (a17 : Int) => a17) (vb := fun (a17 : Int) (b18 : (Int × (List Int))) => b18.1) (Mg := fun (r : (Int × (List Int))) => (((ps14 0), cL (α := Int) b13.1) :: (((qs 0), cL (α := Int) r.2) :: (nest (qs 1) a.2.2.2 (fun i => qs (i + 2)) a.2.1 M)))) (em_ev (β := Int) (D := dI) ev_int) (fun (a17 : Int) => (em_opC (β := (Int × (List Int))) (g := fun (a19 : Int) (b20 : (Int × (List Int))) => ((a19 * b20.1), b20.2)) (vr := fun (r : (Int × (List Int))) => r.1) (va := fun (a19 : Int) => a19) (vb := fun (a19 : Int) (b20 : (Int × (List Int))) => b20.1) (Mg := fun (r : (Int × (List Int))) => (((ps14 0), cL (α := Int) b13.1) :: (((qs 0), cL (α := Int) r.2) :: (nest (qs 1) a.2.2.2 (fun i => qs (i + 2)) a.2.1 M)))) (em_ev (β := Int) (D := dI) ev_int) (fun (a19 : Int) => (em_callQ (rfl : sp_law_take K ad = _) (a := (b15.2, (2 : Int))) (fun _ => (qs 0)) (((ps14 0), cL (α := Int) b13.1) :: (nest (qs 1) a.2.2.2 (fun i => qs (i + 2)) a.2.1 M)) (Mr := fun (r : Int × (List Int)) ps => (((ps14 0), cL (α := Int) b13.1) :: (((qs 0), cL (α := Int) r.2) :: (nest (qs 1) a.2.2.2 (fun i => qs (i + 2)) a.2.1 M)))) (av_cons (ev_var (i := 0) rfl) (av_cons ev_int av_nil)) (MLe.front 1 rfl) (fun (r : Int × (List Int)) _ => MLe.back (M := (((ps14 0), cL (α := Int) b13.1) :: (((qs 0), cL (α := Int) r.2) :: (nest (qs 1) a.2.2.2 (fun i => qs (i + 2)) a.2.1 M)))) 1 rfl))) (fun _ _ => rfl) (fun _ _ => rfl))) (fun _ _ => rfl) (fun _ _ => rfl)) (fun b21 => ev_var (i := 3) rfl) (fun b21 => (ev_var (i := 5) rfl)) (fun b21 => (sm_for (γ' := ((List Int) × (List (List Int)))) (Γl := fun g24 ps25 => [(0, dR (qs 0)), (1, dR (qs 1)), (2, ((dL (α := Str)) a.2.2.1)), (3, dR (ps14 0)), (5, (dI b15.1))]) (Ml := fun g24 ps25 => (((ps14 0), cL (α := Int) (setI b13.1 b15.1 b21.1)) :: (((qs 0), cL (α := Int) g24.1) :: (nest (qs 1) a.2.2.2 (fun i => qs (i + 2)) g24.2 M)))) (xs := fun b22 => (rng 0 ((List.length a.2.2.1 : Nat) : Int))) (g0 := fun b22 => (b21.2, a.2.1)) (adds := fun x23 => [(6, (dI x23))]) (sl := [6]) (f := fun b22 x23 g24 => (R.bind (chk (True ∧ (True ∧ True)) (R.nx (m_law_take (g24.1, (3 : Int))))) fun b26 => (seqO (γ := (Int)) (chk ((True ∧ True ∧ inR a.2.2.1 x23) ∧ True) (if (decide ((getI a.2.2.1 x23) = ("negative" : Str))) = true then (R.bind (chk True (.ok (-b26.1))) fun b29 => (.ok (.nx b29))) else (.ok (.nx b26.1)))) fun g31 => (seqO (γ := (Int)) (chk ((True ∧ True ∧ inR a.2.2.1 x23) ∧ True) (if (decide ((getI a.2.2.1 x23) = ("free" : Str))) = true then (R.bind (chk True (.ok (0 : Int))) fun b33 => (.ok (.nx b33))) else (.ok (.nx g31)))) fun g35 => (R.bind (chk True (.ok (0 : Int))) fun b36 => chk ((True ∧ True ∧ 0 ≤ b15.1 ∧ b15.1 < (a.2.2.2 : Nat)) ∧ True ∧ (Int.toNat b15.1) < a.2.2.2 ∧ (Int.toNat b15.1) < (List.length g24.2) ∧ inR (List.getD g24.2 (Int.toNat b15.1) []) x23) (R.bind (R.bind (chk True (.ok ())) fun b37 => chk (((List.range a.2.2.2)).length ≤ 16000000 ∧ ∀ x38 ∈ (List.range a.2.2.2), ((True ∧ x38 < a.2.2.2) ∧ True ∧ inR (List.getD (List.set g24.2 (Int.toNat b15.1) (setI (List.getD g24.2 (Int.toNat b15.1) []) x23 b36)) x38 []) x23)) (.ok (List.map (fun x38 => (getI (List.getD (List.set g24.2 (Int.toNat b15.1) (setI (List.getD g24.2 (Int.toNat b15.1) []) x23 b36)) x38 []) x23)) (List.range a.2.2.2)))) fun b39 => (R.bind (R.bind (R.bind (chk True (.ok g35)) fun a41 => R.bind (chk (True ∧ (True ∧ True)) (R.nx (m_law_dot (b39, (setI b13.1 b15.1 b21.1))))) fun b42 => chk True (.ok (a41 - b42))) fun a43 => R.bind (chk (True ∧ True ∧ inR (setI b13.1 b15.1 b21.1) b15.1) (.ok (getI (setI b13.1 b15.1 b21.1) b15.1))) fun b44 => chk (CMulW a43 b44) (.ok (a43 * b44))) fun b45 => chk ((True ∧ True ∧ 0 ≤ b15.1 ∧ b15.1 < (a.2.2.2 : Nat)) ∧ True ∧ (Int.toNat b15.1) < a.2.2.2 ∧ (Int.toNat b15.1) < (List.length (List.set g24.2 (Int.toNat b15.1) (setI (List.getD g24.2 (Int.toNat b15.1) []) x23 b36))) ∧ inR (List.getD (List.set g24.2 (Int.toNat b15.1) (setI (List.getD g24.2 (Int.toNat b15.1) []) x23 b36)) (Int.toNat b15.1) []) x23) (.ok (.nx (b26.2, (List.set (List.set g24.2 (Int.toNat b15.1) (setI (List.getD g24.2 (Int.toNat b15.1) []) x23 b36)) (Int.toNat b15.1) (setI (List.getD (List.set g24.2 (Int.toNat b15.1) (setI (List.getD g24.2 (Int.toNat b15.1) []) x23 b36)) (Int.toNat b15.1) []) x23 b45)))))))))))) (fun _ => (fun _ => 0)) (it_range1 (j := fun _ => ((List.length a.2.2.1 : Nat) : Int)) (am_av (β := Unit) (Ds := fun _ => [dI ((List.length a.2.2.1 : Nat) : Int)]) (x := ()) (av_cons (ev_len (lv_dn (ev_var (i := 2) rfl))) av_nil))) (fun _ _ => mk_nil) (fun _ => ⟨rfl, rfl, rfl, rfl, rfl, trivial⟩) (fun _ => MLe.rfl) (fun x23 => (gt_name (by decide))) (fun b22 x23 g24 ps25 => (sm_set (em_callQ (rfl : sp_law_take K ad = _) (a := (g24.1, (3 : Int))) (fun _ => (qs 0)) (((ps14 0), cL (α := Int) (setI b13.1 b15.1 b21.1)) :: (nest (qs 1) a.2.2.2 (fun i => qs (i + 2)) g24.2 M)) (Mr := fun (r : Int × (List Int)) ps => (((ps14 0), cL (α := Int) (setI b13.1 b15.1 b21.1)) :: (((qs 0), cL (α := Int) r.2) :: (nest (qs 1) a.2.2.2 (fun i => qs (i + 2)) g24.2 M)))) (av_cons (ev_var (i := 0) rfl) (av_cons ev_int av_nil)) (MLe.front 1 rfl) (fun (r : Int × (List Int)) _ => MLe.back (M := (((ps14 0), cL (α := Int) (setI b13.1 b15.1 b21.1)) :: (((qs 0), cL (α := Int) r.2) :: (nest (qs 1) a.2.2.2 (fun i => qs (i + 2)) g24.2 M)))) 1 rfl)) (by decide) (fun b26 ps27 => (sm_seq (γ' := (Int)) (Γ1 := fun g31 _ => [(0, dR (qs 0)), (1, dR (qs 1)), (2, ((dL (α := Str)) a.2.2.1)), (3, dR (ps14 0)), (5, (dI b15.1)), (6, (dI x23)), (7, (dI g31))]) (M1 := fun g31 _ => (((ps14 0), cL (α := Int) (setI b13.1 b15.1 b21.1)) :: (((qs 0), cL (α := Int) b26.2) :: (nest (qs 1) a.2.2.2 (fun i => qs (i + 2)) g24.2 M)))) (sm_if (tv_test (ev_eqS (ev_ixL (lv_dn (ev_var (i := 2) rfl)) (ev_var (i := 6) rfl)) ev_str)) (fun _ => (sm_last (sm_set (em_ev (β := Int) (D := dI) (ev_un (ev_var (i := 7) rfl))) (by decide) (fun b29 ps30 => (sm_nil (fun _ => 0) ⟨rfl, rfl, rfl, rfl, rfl, rfl, rfl, trivial⟩ MLe.rfl))))) (fun _ => (sm_nil (fun _ => 0) ⟨rfl, rfl, rfl, rfl, rfl, rfl, rfl, trivial⟩ MLe.rfl))) (fun g31 _ => (sm_seq (γ' := (Int)) (Γ1 := fun g35 _ => [(0, dR (qs 0)), (1, dR (qs 1)), (2, ((dL (α := Str)) a.2.2.1)), (3, dR (ps14 0)), (5, (dI b15.1)), (6, (dI x23)), (7, (dI g35))]) (M1 := fun g35 _ => (((ps14 0), cL (α := Int) (setI b13.1 b15.1 b21.1)) :: (((qs 0), cL (α := Int) b26.2) :: (nest (qs 1) a.2.2.2 (fun i => qs (i + 2)) g24.2 M)))) (sm_if (tv_test (ev_eqS (ev_ixL (lv_dn (ev_var (i := 2) rfl)) (ev_var (i := 6) rfl)) ev_str)) (fun _ => (sm_last (sm_set (em_ev (β := Int) (D := dI) ev_int) (by decide) (fun b33 ps34 => (sm_nil (fun _ => 0) ⟨rfl, rfl, rfl, rfl, rfl, rfl, rfl, trivial⟩ MLe.rfl))))) (fun _ => (sm_nil (fun _ => 0) ⟨rfl, rfl, rfl, rfl, rfl, rfl, rfl, trivial⟩ MLe.rfl))) (fun g35 _ => (sm_setNL (L := [((ps14 0), cL (α := Int) (setI b13.1 b15.1 b21.1)), ((qs 0), cL (α := Int) b26.2)]) (rows := g24.2) (k := a.2.2.2) (i := (Int.toNat b15.1)) (cto := (True ∧ True ∧ 0 ≤ b15.1 ∧ b15.1 < (a.2.2.2 : Nat))) (y := fun (b36 : Int) => b36) (ci := fun (b36 : Int) => True) (j := fun (b36 : Int) => x23) (em_ev (β := Int) (D := dI) ev_int) (ev_ixNL (L := [((ps14 0), cL (α := Int) (setI b13.1 b15.1 b21.1)), ((qs 0), cL (α := Int) b26.2)]) (ev_var (i := 1) rfl) (ev_var (i := 5) rfl)) (fun (b36 : Int) => (ev_var (i := 6) rfl)) (fun (b36 : Int) => (sm_set (em_frz (α := Int) (f := fun (r : (List Int)) => r) (Mf := fun (r : (List Int)) => (((ps14 0), cL (α := Int) (setI b13.1 b15.1 b21.1)) :: (((qs 0), cL (α := Int) b26.2) :: (nest (qs 1) a.2.2.2 (fun i => qs (i + 2)) (List.set g24.2 (Int.toNat b15.1) (setI (List.getD g24.2 (Int.toNat b15.1) []) x23 b36)) M)))) (em_lcP (η := Int) (M0 := (((ps14 0), cL (α := Int) (setI b13.1 b15.1 b21.1)) :: (((qs 0), cL (α := Int) b26.2) :: (nest (qs 1) a.2.2.2 (fun i => qs (i + 2)) (List.set g24.2 (Int.toNat b15.1) (setI (List.getD g24.2 (Int.toNat b15.1) []) x23 b36)) M)))) (Γw := [(0, dR (qs 0)), (1, dR (qs 1)), (2, ((dL (α := Str)) a.2.2.1)), (3, dR (ps14 0)), (5, (dI b15.1)), (6, (dI x23)), (7, (dI g35))]) (adds := fun (x38 : Nat) => [(4, dR ((fun i => qs (i + 2)) x38))]) (sl := [4]) (xs := fun (b37 : Unit) => (List.range a.2.2.2)) (ce := fun (b37 : Unit) (x38 : Nat) => ((True ∧ x38 < a.2.2.2) ∧ True ∧ inR (List.getD (List.set g24.2 (Int.toNat b15.1) (setI (List.getD g24.2 (Int.toNat b15.1) []) x23 b36)) x38 []) x23)) (y := fun (b37 : Unit) (x38 : Nat) => (getI (List.getD (List.set g24.2 (Int.toNat b15.1) (setI (List.getD g24.2 (Int.toNat b15.1) []) x23 b36)) x38 []) x23)) (it_NL (L := [((ps14 0), cL (α := Int) (setI b13.1 b15.1 b21.1)), ((qs 0), cL (α := Int) b26.2)]) (ev_var (i := 1) rfl)) (mk_one 2 rfl) ⟨rfl, by decide, rfl, by decide, rfl, by decide, rfl, by decide, rfl, by decide, rfl, by decide, rfl, by decide, trivial⟩ (fun x38 => (gt_name (by decide))) (by decide) (fun (b37 : Unit) (x38 : Nat) => (ev_ixL (lv_rowL (L := [((ps14 0), cL (α := Int) (setI b13.1 b15.1 b21.1)), ((qs 0), cL (α := Int) b26.2)]) (ev_var (i := 4) rfl)) (ev_var (i := 6) rfl))))) (by decide) (fun b39 ps40 => (sm_last (sm_setNL (L := [((ps14 0), cL (α := Int) (setI b13.1 b15.1 b21.1)), ((qs 0), cL (α := Int) b26.2)]) (rows := (List.set g24.2 (Int.toNat b15.1) (setI (List.getD g24.2 (Int.toNat b15.1) []) x23 b36))) (k := a.2.2.2) (i := (Int.toNat b15.1)) (cto := (True ∧ True ∧ 0 ≤ b15.1 ∧ b15.1 < (a.2.2.2 : Nat))) (y := fun (b45 : Int) => b45) (ci := fun (b45 : Int) => True) (j := fun (b45 : Int) => x23) (em_opC (β := Int) (g := fun (a43 : Int) (b44 : Int) => (a43 * b44)) (vr := fun (r : Int) => r) (va := fun (a43 : Int) => a43) (vb := fun (a43 : Int) (b44 : Int) => b44) (Mg := fun (r : Int) => (((ps14 0), cL (α := Int) (setI b13.1 b15.1 b21.1)) :: (((qs 0), cL (α := Int) b26.2) :: (nest (qs 1) a.2.2.2 (fun i => qs (i + 2)) (List.set g24.2 (Int.toNat b15.1) (setI (List.getD g24.2 (Int.toNat b15.1) []) x23 b36)) M)))) (em_op (β := Int) (g := fun (a41 : Int) (b42 : Int) => (a41 - b42)) (vr := fun (r : Int) => r) (va := fun (a41 : Int) => a41) (vb := fun (a41 : Int) (b42 : Int) => b42) (Mg := fun (r : Int) => (((ps14 0), cL (α := Int) (setI b13.1 b15.1 b21.1)) :: (((qs 0), cL (α := Int) b26.2) :: (nest (qs 1) a.2.2.2 (fun i => qs (i + 2)) (List.set g24.2 (Int.toNat b15.1) (setI (List.getD g24.2 (Int.toNat b15.1) []) x23 b36)) M)))) (em_ev (β := Int) (D := dI) (ev_var (i := 7) rfl)) (fun (a41 : Int) => (em_callB (a := (b39, (setI b13.1 b15.1 b21.1))) (Dr := dI) (bv_cons (ev_var (i := 8) rfl) (bv_lent (lv_own (p := (ps14 0)) 0 (ev_var (i := 3) rfl) rfl) bv_nil)) rfl (fun _ _ => rfl) (fun _ => flat_I))) (fun _ _ => rfl) (fun _ _ => rfl)) (fun (a43 : Int) => (em_ev (β := Int) (D := dI) (ev_ixL (lv_own (p := (ps14 0)) 0 (ev_var (i := 3) rfl) rfl) (ev_var (i := 5) rfl)))) (fun _ _ => rfl) (fun _ _ => rfl)) (ev_ixNL (L := [((ps14 0), cL (α := Int) (setI b13.1 b15.1 b21.1)), ((qs 0), cL (α := Int) b26.2)]) (ev_var (i := 1) rfl) (ev_var (i := 5) rfl)) (fun (b45 : Int) => (ev_var (i := 6) rfl)) (fun (b45 : Int) => (sm_nil (fun _ => 0) ⟨rfl, rfl, rfl, rfl, rfl, trivial⟩ MLe.rfl))))))))))))))) (fun g24 ps25 => (sm_retV (b := (g24.1, g24.2)) (ps := (fun _ => 0)) (i := 1) rfl rfl (MLe.trans (nlX (L := [((qs 0), cL (α := Int) g24.1)])) (MLe.sbl (.cons _ (List.Sublist.refl _))))))))))))))))
end
noncomputable def b_law_drawn_task (a : ((List Int))) : R (Out Empty Empty (((List (List Int)) × (List Str)) × (List Int))) :=
  (R.bind (R.bind (R.bind (chk True (.ok ())) fun a1 => R.bind (R.bind (R.bind (chk (True ∧ (True ∧ (True ∧ (True ∧ True)))) (.ok ([(5 : Int), (9 : Int), (5 : Int), (13 : Int)] : List Int))) fun a3 => R.bind (chk (True ∧ (True ∧ True)) (R.nx (m_law_take (a, (4 : Int))))) fun b4 => chk (inR a3 b4.1) (.ok ((getI a3 b4.1), b4.2))) fun a5 => R.bind (.ok ()) fun b6 => .ok (a5, b6)) fun b2 => .ok (a1, b2)) fun b7 => R.bind (R.nx (m_law_take (b7.2.1.2, b7.2.1.1))) fun r8 => .ok r8) fun b9 => (R.bind (R.bind (R.bind (chk True (.ok ())) fun a11 => R.bind (R.bind (R.bind (chk (True ∧ (True ∧ (True ∧ (True ∧ True)))) (.ok ([(7 : Int), (11 : Int), (7 : Int), (17 : Int)] : List Int))) fun a13 => R.bind (chk (True ∧ (True ∧ True)) (R.nx (m_law_take (b9.2, (4 : Int))))) fun b14 => chk (inR a13 b14.1) (.ok ((getI a13 b14.1), b14.2))) fun a15 => R.bind (.ok ()) fun b16 => .ok (a15, b16)) fun b12 => .ok (a11, b12)) fun b17 => R.bind (R.nx (m_law_take (b17.2.1.2, b17.2.1.1))) fun r18 => .ok r18) fun b19 => (R.bind (chk (True ∧ (True ∧ True)) (R.nx (m_law_kinds (b19.2, b19.1)))) fun b21 => (R.bind (chk (True ∧ (True ∧ (True ∧ True))) (R.nx (m_law_rows (b21.2, b9.1, ((List.length b21.1 : Nat) : Int))))) fun b23 => (R.bind (chk (True ∧ (True ∧ True)) (R.nx (m_law_take (b23.2, (3 : Int))))) fun b25 => (seqO (γ := ((List Int) × (List (List Int)))) (chk (True ∧ True) (if (decide (b25.1 = (1 : Int))) = true then (R.bind (chk (True ∧ (True ∧ (True ∧ True))) (R.nx (m_law_solved_rows (b25.2, b23.1, b21.1, (List.length b23.1))))) fun b28 => (.ok (.nx (b28.1, b28.2)))) else (.ok (.nx (b25.2, b23.1))))) fun g30 => (seqO (γ := ((List Int) × (List (List Int)))) (chk (True ∧ True) (if (decide (b25.1 = (2 : Int))) = true then (R.bind (chk (True ∧ (True ∧ (True ∧ True))) (R.nx (m_law_barred_rows (g30.1, g30.2, b21.1, (List.length b23.1))))) fun b32 => (.ok (.nx (b32.1, b32.2)))) else (.ok (.nx (g30.1, g30.2))))) fun g34 => (chk ((List.length g34.2) = (List.length b23.1)) (R.bind (chk (True ∧ (True ∧ True)) (R.nx (m_law_take (g34.1, (5 : Int))))) fun b35 => (seqO (γ := ((List (List Int)))) (chk (True ∧ True) (if (decide (b35.1 = (1 : Int))) = true then (R.bind (R.bind (chk True (.ok g34.2)) fun b38 => lcM (fun x39 => (R.bind (R.bind (chk True (.ok x39)) fun b42 => chk ((b42).length ≤ 16000000 ∧ ∀ x43 ∈ b42, (True ∧ True ∧ (CMulW x43 (1000 : Int)))) (.ok (List.map (fun x43 => (x43 * (1000 : Int))) b42))) fun r44 => .ok r44)) b38) fun b45 => (.ok (.nx b45))) else (.ok (.nx g34.2)))) fun g47 => (R.bind (chk (True ∧ (True ∧ True)) (.ok (g47, b21.1))) fun b48 => .ok (.rt (b48, b35.2)))))))))))))
noncomputable def m_law_drawn_task (a : ((List Int))) : R (((List (List Int)) × (List Str)) × (List Int)) := runE (b_law_drawn_task a)
abbrev sp_law_drawn_task (K : PySem.W.Frag) (ad : Ad) : Sp := SpG (xd ad) (α := ((List Int))) (β := (((List (List Int)) × (List Str)) × (List Int))) (fun a qs => [dR (qs 0)]) (fun a qs => [(qs 0, cL (α := Int) a)]) m_law_drawn_task (fun a qs r ps => ((dn (α := ((List (List Int)) × (List Str)))) r.1)) (fun a qs r ps => [(qs 0, cL (α := Int) r.2)])
section
variable {P : Program} {w : World} {K : PySem.W.Frag} {mg : Str → Option Value} {base : Heap} {ad : Ad}
theorem ok_law_drawn_task (T : Txt P K mg ad) : FnOk P w K mg base CX0 3 ad.f_law_drawn_task ad.d_law_drawn_task ["_law_pool_here"] (sp_law_drawn_task K ad) := by
  refine T.F_law_drawn_task.ok sc_law_drawn_task (fun vs H Q E h => spg_len (k := 1) (fun _ _ => rfl) h) (fun cdv A outer s H vs Q E hr h => ?_)
  have hu := hu_of hr
  refine ⟨_, (pss_cons (ps_set (i := 1) sc_law_drawn_task.nd rfl (by first | exact Or.inl rfl | exact Or.inr rfl) (pe_call (ok_law_take (P := P) (w := w) (K := K) (mg := mg) (base := base) T) (hr.mono (by decide)) (by rfl) T.g_law_take T.F_law_take.kp T.B_law_take .nil pass0 (pa_cons (pv 0) (pa_cons (pe_ix (ix_listK (K := K) rfl) (pe_lst (pa_cons pe_int (pa_cons pe_int (pa_cons pe_int (pa_cons pe_int pa_nil))))) (pe_call (ok_law_take (P := P) (w := w) (K := K) (mg := mg) (base := base) T) (hr.mono (by decide)) (by rfl) T.g_law_take T.F_law_take.kp T.B_law_take .nil pass0 (pa_cons (pv 0) (pa_cons pe_int pa_nil))) (fun _ _ => rfl)) pa_nil))))
      (pss_cons (ps_set (i := 2) sc_law_drawn_task.nd rfl (by first | exact Or.inl rfl | exact Or.inr rfl) (pe_call (ok_law_take (P := P) (w := w) (K := K) (mg := mg) (base := base) T) (hr.mono (by decide)) (by rfl) T.g_law_take T.F_law_take.kp T.B_law_take .nil pass0 (pa_cons (pv 0) (pa_cons (pe_ix (ix_listK (K := K) rfl) (pe_lst (pa_cons pe_int (pa_cons pe_int (pa_cons pe_int (pa_cons pe_int pa_nil))))) (pe_call (ok_law_take (P := P) (w := w) (K := K) (mg := mg) (base := base) T) (hr.mono (by decide)) (by rfl) T.g_law_take T.F_law_take.kp T.B_law_take .nil pass0 (pa_cons (pv 0) (pa_cons pe_int pa_nil))) (fun _ _ => rfl)) pa_nil))))
      (pss_cons (ps_set (i := 3) sc_law_drawn_task.nd rfl (by first | exact Or.inl rfl | exact Or.inr rfl) (pe_call (ok_law_kinds (P := P) (w := w) (K := K) (mg := mg) (base := base) T) (hr.mono (by decide)) (by rfl) T.g_law_kinds T.F_law_kinds.kp T.B_law_kinds .nil pass0 (pa_cons (pv 0) (pa_cons (pv 2) pa_nil))))
      (pss_cons (ps_set (i := 4) sc_law_drawn_task.nd rfl (by first | exact Or.inl rfl | exact Or.inr rfl) (pe_call (ok_law_rows (P := P) (w := w) (K := K) (mg := mg) (base := base) T) (hr.mono (by decide)) (by rfl) T.g_law_rows T.F_law_rows.kp T.B_law_rows .nil pass0 (pa_cons (pv 0) (pa_cons (pv 1) (pa_cons (pe_callB (id := "len") (call_len_seqK (K := K) rfl) (by rfl) T.z_len PySem.boot_len (pa_cons (pv 3) pa_nil)) pa_nil)))))
      (pss_cons (ps_set (i := 5) sc_law_drawn_task.nd rfl (by first | exact Or.inl rfl | exact Or.inr rfl) (pe_call (ok_law_take (P := P) (w := w) (K := K) (mg := mg) (base := base) T) (hr.mono (by decide)) (by rfl) T.g_law_take T.F_law_take.kp T.B_law_take .nil pass0 (pa_cons (pv 0) (pa_cons pe_int pa_nil))))
      (pss_cons (ps_if (pt_cmpR op_eq (pv 5) pe_int (nomark _)) (pss_one (ps_set (i := 4) sc_law_drawn_task.nd rfl (by first | exact Or.inl rfl | exact Or.inr rfl) (pe_call (ok_law_solved_rows (P := P) (w := w) (K := K) (mg := mg) (base := base) T) (hr.mono (by decide)) (by rfl) T.g_law_solved_rows T.F_law_solved_rows.kp T.B_law_solved_rows .nil pass0 (pa_cons (pv 0) (pa_cons (pv 4) (pa_cons (pv 3) pa_nil)))))) pss_nil)
      (pss_cons (ps_if (pt_cmpR op_eq (pv 5) pe_int (nomark _)) (pss_one (ps_set (i := 4) sc_law_drawn_task.nd rfl (by first | exact Or.inl rfl | exact Or.inr rfl) (pe_call (ok_law_barred_rows (P := P) (w := w) (K := K) (mg := mg) (base := base) T) (hr.mono (by decide)) (by rfl) T.g_law_barred_rows T.F_law_barred_rows.kp T.B_law_barred_rows .nil pass0 (pa_cons (pv 0) (pa_cons (pv 4) (pa_cons (pv 3) pa_nil)))))) pss_nil)
      (pss_cons (ps_set (i := 6) sc_law_drawn_task.nd rfl (by first | exact Or.inl rfl | exact Or.inr rfl) (pe_call (ok_law_take (P := P) (w := w) (K := K) (mg := mg) (base := base) T) (hr.mono (by decide)) (by rfl) T.g_law_take T.F_law_take.kp T.B_law_take .nil pass0 (pa_cons (pv 0) (pa_cons pe_int pa_nil))))
      (pss_cons (ps_if (pt_cmpR op_eq (pv 6) pe_int (nomark _)) (pss_one (ps_setLc (i := 4) (own := [("_law_row", 8)]) (g := gName 8) (tt := tYes) rfl sc_law_drawn_task.nd rfl rfl (sw_true rfl rfl rfl (by decide +kernel)) (pi_listK (K := K) rfl (pv 4)) (blkOk_by (own := [("_law_row", 8)]) (N := ["_law_pool_here", "_law_many", "_law_count", "_law_kinds_here", "_law_rows_here", "_law_mode", "_law_big", "_law_k", "_law_row"]) (sc := defScope s_law_drawn_task) (by decide +kernel)) (fun _ _ _ _ _ => (pg_name (i := 8) sc_law_drawn_task.nd rfl (by first | exact Or.inl rfl | exact Or.inr rfl))) (fun _ _ _ _ _ => pts_nil) (fun _ _ _ _ _ => (pe_lc (own := [("_law_k", 7)]) (g := gName 7) (tt := tYes) rfl sc_law_drawn_task.nd (pi_listK (K := K) rfl (pv 8)) (blkOk_by (own := [("_law_k", 7)]) (N := ["_law_pool_here", "_law_many", "_law_count", "_law_kinds_here", "_law_rows_here", "_law_mode", "_law_big", "_law_k", "_law_row"]) (by rfl)) (fun _ _ _ _ _ => (pg_name (i := 7) sc_law_drawn_task.nd rfl (by first | exact Or.inl rfl | exact Or.inr rfl))) (fun _ _ _ _ _ => pts_nil) (fun _ _ _ _ _ => (pe_op op_mulW (pv 7) pe_int)))))) pss_nil)
      (pss_one (ps_ret (pe_tup (pa_cons (pv 4) (pa_cons (pv 3) pa_nil)))))))))))))), ?_⟩
  try simp only [cxK, cxK2]
  refine def_ret (n := 9) (γ := Empty) (δ := Empty) (body := b_law_drawn_task) (Γn := fun _ _ _ _ => []) (Mn := fun _ _ _ _ => []) (Γl := fun _ _ _ _ => []) (Ml := fun _ _ _ _ => []) h rfl (fun _ _ => Nat.le_of_ble_eq_true rfl) (fun _ => rfl) (fun a qs M => ?_)
  unfold b_law_drawn_task
  exact (sm_set (em_callG (rfl : sp_law_take K ad = _) (a := fun (b7 : (Unit × ((Int × (List Int)) × Unit))) => (b7.2.1.2, b7.2.1.1)) (qs := fun _ => (qs 0)) (g := fun _ r => r) (Dr := fun (r : (Int × (List Int))) _ => (dI r.1)) (Mr := fun (r : (Int × (List Int))) _ => (((qs 0), cL (α := Int) r.2) :: M)) (Mx := fun _ => M) (am_cons (g := fun (a : Unit) (b : ((Int × (List Int)) × Unit)) => (a, b)) (Ds := fun (r : (Unit × ((Int × (List Int)) × Unit))) => [dR (qs 0), (dI r.2.1.1)]) (Mf := fun (r : (Unit × ((Int × (List Int)) × Unit))) => (((qs 0), cL (α := Int) r.2.1.2) :: M)) (em_ev (β := Unit) (D := fun _ => dR (qs 0)) (x := ()) (ev_var (i := 0) rfl)) (fun (a1 : Unit) => (am_cons (g := fun (a : (Int × (List Int))) (b : Unit) => (a, b)) (Ds := fun (r : ((Int × (List Int)) × Unit)) => [(dI r.1.1)]) (Mf := fun (r : ((Int × (List Int)) × Unit)) => (((qs 0), cL (α := Int) r.1.2) :: M)) (em_ixL (β := (Int × (List Int))) (g := fun (a3 : (List Int)) (b4 : (Int × (List Int))) => ((getI a3 b4.1), b4.2)) (vr := fun (r : (Int × (List Int))) => r.1) (va := fun (a3 : (List Int)) => a3) (vb := fun (a3 : (List Int)) (b4 : (Int × (List Int))) => b4.1) (Mg := fun (r : (Int × (List Int))) => (((qs 0), cL (α := Int) r.2) :: M)) (α := Int) (em_frz (α := Int) (f := fun (r : (List Int)) => r) (Mf := fun (r : (List Int)) => (((qs 0), cL (α := Int) a) :: M)) (em_lst0 (α := Int) (xs := ([(5 : Int), (9 : Int), (5 : Int), (13 : Int)] : List Int)) (av_cons ev_int (av_cons ev_int (av_cons ev_int (av_cons ev_int av_nil)))) (Nat.le_of_ble_eq_true rfl))) (fun (a3 : (List Int)) => (em_callQ (rfl : sp_law_take K ad = _) (a := (a, (4 : Int))) (fun _ => (qs 0)) M (Mr := fun (r : Int × (List Int)) ps => (((qs 0), cL (α := Int) r.2) :: M)) (av_cons (ev_var (i := 0) rfl) (av_cons ev_int av_nil)) MLe.rfl (fun _ _ => MLe.rfl))) (fun _ _ => rfl) (fun _ _ => rfl)) (fun (a5 : (Int × (List Int))) => am_nil) (fun _ _ => rfl) (fun _ _ => rfl))) (fun _ _ => rfl) (fun _ _ => rfl)) (fun _ => rfl) (fun _ => MLe.rfl) (fun _ _ _ => rfl) (fun _ _ _ => MLe.rfl)) (by decide) (fun b9 ps10 => (sm_set (em_callG (rfl : sp_law_take K ad = _) (a := fun (b17 : (Unit × ((Int × (List Int)) × Unit))) => (b17.2.1.2, b17.2.1.1)) (qs := fun _ => (qs 0)) (g := fun _ r => r) (Dr := fun (r : (Int × (List Int))) _ => (dI r.1)) (Mr := fun (r : (Int × (List Int))) _ => (((qs 0), cL (α := Int) r.2) :: M)) (Mx := fun _ => M) (am_cons (g := fun (a : Unit) (b : ((Int × (List Int)) × Unit)) => (a, b)) (Ds := fun (r : (Unit × ((Int × (List Int)) × Unit))) => [dR (qs 0), (dI r.2.1.1)]) (Mf := fun (r : (Unit × ((Int × (List Int)) × Unit))) => (((qs 0), cL (α := Int) r.2.1.2) :: M)) (em_ev (β := Unit) (D := fun _ => dR (qs 0)) (x := ()) (ev_var (i := 0) rfl)) (fun (a11 : Unit) => (am_cons (g := fun (a : (Int × (List Int))) (b : Unit) => (a, b)) (Ds := fun (r : ((Int × (List Int)) × Unit)) => [(dI r.1.1)]) (Mf := fun (r : ((Int × (List Int)) × Unit)) => (((qs 0), cL (α := Int) r.1.2) :: M)) (em_ixL (β := (Int × (List Int))) (g := fun (a13 : (List Int)) (b14 : (Int × (List Int))) => ((getI a13 b14.1), b14.2)) (vr := fun (r : (Int × (List Int))) => r.1) (va := fun (a13 : (List Int)) => a13) (vb := fun (a13 : (List Int)) (b14 : (Int × (List Int))) => b14.1) (Mg := fun (r : (Int × (List Int))) => (((qs 0), cL (α := Int) r.2) :: M)) (α := Int) (em_frz (α := Int) (f := fun (r : (List Int)) => r) (Mf := fun (r : (List Int)) => (((qs 0), cL (α := Int) b9.2) :: M)) (em_lst0 (α := Int) (xs := ([(7 : Int), (11 : Int), (7 : Int), (17 : Int)] : List Int)) (av_cons ev_int (av_cons ev_int (av_cons ev_int (av_cons ev_int av_nil)))) (Nat.le_of_ble_eq_true rfl))) (fun (a13 : (List Int)) => (em_callQ (rfl : sp_law_take K ad = _) (a := (b9.2, (4 : Int))) (fun _ => (qs 0)) M (Mr := fun (r : Int × (List Int)) ps => (((qs 0), cL (α := Int) r.2) :: M)) (av_cons (ev_var (i := 0) rfl) (av_cons ev_int av_nil)) MLe.rfl (fun _ _ => MLe.rfl))) (fun _ _ => rfl) (fun _ _ => rfl)) (fun (a15 : (Int × (List Int))) => am_nil) (fun _ _ => rfl) (fun _ _ => rfl))) (fun _ _ => rfl) (fun _ _ => rfl)) (fun _ => rfl) (fun _ => MLe.rfl) (fun _ _ _ => rfl) (fun _ _ _ => MLe.rfl)) (by decide) (fun b19 ps20 => (sm_set (em_callQ (rfl : sp_law_kinds K ad = _) (a := (b19.2, b19.1)) (fun _ => (qs 0)) M (Mr := fun (r : (List Str) × (List Int)) ps => (((qs 0), cL (α := Int) r.2) :: M)) (av_cons (ev_var (i := 0) rfl) (av_cons (ev_var (i := 2) rfl) av_nil)) MLe.rfl (fun _ _ => MLe.rfl)) (by decide) (fun b21 ps22 => (sm_set (em_callQ (rfl : sp_law_rows K ad = _) (a := (b21.2, b9.1, ((List.length b21.1 : Nat) : Int))) (fun _ => (qs 0)) M (Mr := fun (r : (List (List Int) × List Int)) ps => (((qs 0), cL (α := Int) r.2) :: (nest (ps 0) (List.length r.1) (fun i => ps (i + 1)) r.1 M))) (av_cons (ev_var (i := 0) rfl) (av_cons (ev_var (i := 1) rfl) (av_cons (ev_len (lv_dn (ev_var (i := 3) rfl))) av_nil))) MLe.rfl (fun r ps => nlE (L := [((qs 0), cL (α := Int) r.2)]))) (by decide) (fun b23 ps24 => (sm_set (em_callQ (rfl : sp_law_take K ad = _) (a := (b23.2, (3 : Int))) (fun _ => (qs 0)) (nest (ps24 0) (List.length b23.1) (fun i => ps24 (i + 1)) b23.1 M) (Mr := fun (r : Int × (List Int)) ps => (((qs 0), cL (α := Int) r.2) :: (nest (ps24 0) (List.length b23.1) (fun i => ps24 (i + 1)) b23.1 M))) (av_cons (ev_var (i := 0) rfl) (av_cons ev_int av_nil)) MLe.rfl (fun _ _ => MLe.rfl)) (by decide) (fun b25 ps26 => (sm_seq (γ' := ((List Int) × (List (List Int)))) (Γ1 := fun g30 _ => [(0, dR (qs 0)), (1, (dI b9.1)), (2, (dI b19.1)), (3, ((dL (α := Str)) b21.1)), (4, dR (ps24 0)), (5, (dI b25.1))]) (M1 := fun g30 _ => (((qs 0), cL (α := Int) g30.1) :: (nest (ps24 0) (List.length b23.1) (fun i => ps24 (i + 1)) g30.2 M))) (sm_if (tv_test (ev_eqI (ev_var (i := 5) rfl) ev_int)) (fun _ => (sm_last (sm_set (em_callQ (rfl : sp_law_solved_rows K ad = _) (a := (b25.2, b23.1, b21.1, (List.length b23.1))) (adN (qs 0) (ps24 0) (fun i => ps24 (i + 1))) M (Mr := fun (r : (List Int × List (List Int))) ps => (((qs 0), cL (α := Int) r.1) :: (nest (ps24 0) (List.length b23.1) (fun i => ps24 (i + 1)) r.2 M))) (av_cons (ev_var (i := 0) rfl) (av_cons (ev_var (i := 4) rfl) (av_cons (ev_var (i := 3) rfl) av_nil))) (nlX (L := [((qs 0), cL (α := Int) b25.2)])) (fun r ps => nlE (L := [((qs 0), cL (α := Int) r.1)]))) (by decide) (fun b28 ps29 => (sm_nil (fun _ => 0) ⟨rfl, rfl, rfl, rfl, rfl, rfl, trivial⟩ MLe.rfl))))) (fun _ => (sm_nil (fun _ => 0) ⟨rfl, rfl, rfl, rfl, rfl, rfl, trivial⟩ MLe.rfl))) (fun g30 _ => (sm_seq (γ' := ((List Int) × (List (List Int)))) (Γ1 := fun g34 _ => [(0, dR (qs 0)), (1, (dI b9.1)), (2, (dI b19.1)), (3, ((dL (α := Str)) b21.1)), (4, dR (ps24 0)), (5, (dI b25.1))]) (M1 := fun g34 _ => (((qs 0), cL (α := Int) g34.1) :: (nest (ps24 0) (List.length b23.1) (fun i => ps24 (i + 1)) g34.2 M))) (sm_if (tv_test (ev_eqI (ev_var (i := 5) rfl) ev_int)) (fun _ => (sm_last (sm_set (em_callQ (rfl : sp_law_barred_rows K ad = _) (a := (g30.1, g30.2, b21.1, (List.length b23.1))) (adN (qs 0) (ps24 0) (fun i => ps24 (i + 1))) M (Mr := fun (r : (List Int × List (List Int))) ps => (((qs 0), cL (α := Int) r.1) :: (nest (ps24 0) (List.length b23.1) (fun i => ps24 (i + 1)) r.2 M))) (av_cons (ev_var (i := 0) rfl) (av_cons (ev_var (i := 4) rfl) (av_cons (ev_var (i := 3) rfl) av_nil))) (nlX (L := [((qs 0), cL (α := Int) g30.1)])) (fun r ps => nlE (L := [((qs 0), cL (α := Int) r.1)]))) (by decide) (fun b32 ps33 => (sm_nil (fun _ => 0) ⟨rfl, rfl, rfl, rfl, rfl, rfl, trivial⟩ MLe.rfl))))) (fun _ => (sm_nil (fun _ => 0) ⟨rfl, rfl, rfl, rfl, rfl, rfl, trivial⟩ MLe.rfl))) (fun g34 _ => (sm_frzNL (L := [((qs 0), cL (α := Int) g34.1)]) (M := M) (rows := g34.2) (k := (List.length b23.1)) 4 rfl (sm_set (em_callQ (rfl : sp_law_take K ad = _) (a := (g34.1, (5 : Int))) (fun _ => (qs 0)) M (Mr := fun (r : Int × (List Int)) ps => (((qs 0), cL (α := Int) r.2) :: M)) (av_cons (ev_var (i := 0) rfl) (av_cons ev_int av_nil)) MLe.rfl (fun _ _ => MLe.rfl)) (by decide) (fun b35 ps36 => (sm_seq (γ' := ((List (List Int)))) (Γ1 := fun g47 _ => [(0, dR (qs 0)), (1, (dI b9.1)), (2, (dI b19.1)), (3, ((dL (α := Str)) b21.1)), (5, (dI b25.1)), (4, ((dL (α := (List Int))) g47)), (6, (dI b35.1))]) (M1 := fun g47 _ => (((qs 0), cL (α := Int) b35.2) :: M)) (sm_if (tv_test (ev_eqI (ev_var (i := 6) rfl) ev_int)) (fun _ => (sm_last (sm_set (em_frz (α := (List Int)) (f := fun (r : (List (List Int))) => r) (Mf := fun (r : (List (List Int))) => (((qs 0), cL (α := Int) b35.2) :: M)) (em_lcM (η := (List Int)) (M0 := (((qs 0), cL (α := Int) b35.2) :: M)) (Γw := [(0, dR (qs 0)), (1, (dI b9.1)), (2, (dI b19.1)), (3, ((dL (α := Str)) b21.1)), (5, (dI b25.1)), (4, ((dL (α := (List Int))) g34.2)), (6, (dI b35.1))]) (adds := fun (x39 : (List Int)) => [(8, ((dL (α := Int)) x39))]) (sl := [8]) (xs := fun (b38 : (List (List Int))) => b38) (f := fun (b38 : (List (List Int))) (x39 : (List Int)) => (R.bind (R.bind (chk True (.ok x39)) fun b42 => chk ((b42).length ≤ 16000000 ∧ ∀ x43 ∈ b42, (True ∧ True ∧ (CMulW x43 (1000 : Int)))) (.ok (List.map (fun x43 => (x43 * (1000 : Int))) b42))) fun r44 => .ok r44)) (it_list (α := (List Int)) (β := (List (List Int))) (xs := fun (b : (List (List Int))) => b) (em_ev (β := (List (List Int))) (D := (dL (α := (List Int)))) (ev_var (i := 4) rfl))) mk_nil ⟨rfl, by decide, rfl, by decide, rfl, by decide, rfl, by decide, rfl, by decide, rfl, by decide, rfl, by decide, trivial⟩ (fun x39 => (gt_name (by decide))) (by decide) (fun (b38 : (List (List Int))) (x39 : (List Int)) Dd40 cc41 => em_map (h := fun (r44 : (List Int)) => r44) (em_frz (α := Int) (f := fun (r : (List Int)) => r) (Mf := fun (r : (List Int)) => ((Dd40, cc41) :: (((qs 0), cL (α := Int) b35.2) :: M))) (em_lcP (η := Int) (M0 := ((Dd40, cc41) :: (((qs 0), cL (α := Int) b35.2) :: M))) (Γw := [(0, dR (qs 0)), (1, (dI b9.1)), (2, (dI b19.1)), (3, ((dL (α := Str)) b21.1)), (5, (dI b25.1)), (4, ((dL (α := (List Int))) g34.2)), (6, (dI b35.1)), (8, ((dL (α := Int)) x39))]) (adds := fun (x43 : Int) => [(7, (dI x43))]) (sl := [7]) (xs := fun (b42 : (List Int)) => b42) (ce := fun (b42 : (List Int)) (x43 : Int) => (True ∧ True ∧ (CMulW x43 (1000 : Int)))) (y := fun (b42 : (List Int)) (x43 : Int) => (x43 * (1000 : Int))) (it_list (α := Int) (β := (List Int)) (xs := fun (b : (List Int)) => b) (em_ev (β := (List Int)) (D := (dL (α := Int))) (ev_var (i := 8) rfl))) mk_nil ⟨rfl, by decide, rfl, by decide, rfl, by decide, rfl, by decide, rfl, by decide, rfl, by decide, rfl, by decide, rfl, by decide, trivial⟩ (fun x43 => (gt_name (by decide))) (by decide) (fun (b42 : (List Int)) (x43 : Int) => (ev_opC (ev_var (i := 7) rfl) ev_int)))) (fun _ _ => rfl) (fun _ _ => MLe.rfl)))) (by decide) (fun b45 ps46 => (sm_nil (fun _ => 0) ⟨rfl, rfl, rfl, rfl, rfl, rfl, rfl, trivial⟩ MLe.rfl))))) (fun _ => (sm_nil (fun _ => 0) ⟨rfl, rfl, rfl, rfl, rfl, rfl, rfl, trivial⟩ MLe.rfl))) (fun g47 _ => (sm_ret (g := fun b48 => (b48, b35.2)) (em_tup0 (D := (dn (α := ((List (List Int)) × (List Str))))) (x := (g47, b21.1)) (av_cons (ev_var (i := 4) rfl) (av_cons (ev_var (i := 3) rfl) av_nil)) rfl (Nat.le_of_ble_eq_true rfl)) (fun _ _ => rfl) (fun _ _ => MLe.rfl)))))))))))))))))))))
end
noncomputable def b_law_sign_right (a : (Str × Int × Bool)) : R (Out Empty Empty Bool) :=
  (seqO (γ := Unit) (chk (True ∧ True) (if (decide (a.1 = ("free" : Str))) = true then (R.bind (chk True (.ok true)) fun b2 => .ok (.rt b2)) else (.ok (.nx ())))) fun g3 => (seqO (γ := Unit) (chk (True ∧ True) (if (decide (a.2.1 = (0 : Int))) = true then (R.bind (chk ((True ∧ True) ∧ ((decide (a.1 = ("zero" : Str))) = false → True)) (.ok ((decide (a.1 = ("zero" : Str))) || (!a.2.2)))) fun b5 => .ok (.rt b5)) else (.ok (.nx ())))) fun g6 => (R.bind (chk (((True ∧ True) ∧ ((decide (a.1 = ("positive" : Str))) = true → (True ∧ True))) ∧ (((decide (a.1 = ("positive" : Str))) && (decide ((0 : Int) < a.2.1))) = false → ((True ∧ True) ∧ ((decide (a.1 = ("negative" : Str))) = true → (True ∧ True))))) (.ok (((decide (a.1 = ("positive" : Str))) && (decide ((0 : Int) < a.2.1))) || ((decide (a.1 = ("negative" : Str))) && (decide (a.2.1 < (0 : Int))))))) fun b7 => .ok (.rt b7))))
noncomputable def m_law_sign_right (a : (Str × Int × Bool)) : R Bool := runE (b_law_sign_right a)
abbrev sp_law_sign_right (K : PySem.W.Frag) (ad : Ad) : Sp := SpG (xd ad) (α := (Str × Int × Bool)) (β := Bool) (fun a qs => [(dS a.1), (dI a.2.1), (dB a.2.2)]) (fun a qs => []) m_law_sign_right (fun a qs r ps => (dB r)) (fun a qs r ps => [])
section
variable {P : Program} {w : World} {K : PySem.W.Frag} {mg : Str → Option Value} {base : Heap} {ad : Ad}
theorem ok_law_sign_right (T : Txt P K mg ad) : FnOk P w K mg base CX0 1 ad.f_law_sign_right ad.d_law_sign_right ["_law_kind", "_law_number", "_law_strict"] (sp_law_sign_right K ad) := by
  refine T.F_law_sign_right.ok sc_law_sign_right (fun vs H Q E h => spg_len (k := 3) (fun _ _ => rfl) h) (fun cdv A outer s H vs Q E hr h => ?_)
  have hu := hu_of hr
  refine ⟨_, (pss_cons (ps_if (pt_cmpR op_eq (pv 0) pe_str (nomark _)) (pss_one (ps_ret pe_bl)) pss_nil)
      (pss_cons (ps_if (pt_cmpR op_eq (pv 1) pe_int (nomark _)) (pss_one (ps_ret (pe_or (pe_cmpR op_eq (pv 0) pe_str (nomark _)) (pe_one (pe_not (pv 2)))))) pss_nil)
      (pss_one (ps_ret (pe_or (pe_and (pe_cmpR op_eq (pv 0) pe_str (nomark _)) (pe_one (pe_cmpR op_gt (pv 1) pe_int (nomark _)))) (pe_one (pe_and (pe_cmpR op_eq (pv 0) pe_str (nomark _)) (pe_one (pe_cmpR op_lt (pv 1) pe_int (nomark _)))))))))), ?_⟩
  try simp only [cxK, cxK2]
  refine def_ret (n := 3) (γ := Empty) (δ := Empty) (body := b_law_sign_right) (Γn := fun _ _ _ _ => []) (Mn := fun _ _ _ _ => []) (Γl := fun _ _ _ _ => []) (Ml := fun _ _ _ _ => []) h rfl (fun _ _ => Nat.le_of_ble_eq_true rfl) (fun _ => rfl) (fun a qs M => ?_)
  unfold b_law_sign_right
  exact (sm_seq (γ' := Unit) (Γ1 := fun g3 _ => [(0, (dS a.1)), (1, (dI a.2.1)), (2, (dB a.2.2))]) (M1 := fun g3 _ => M) (sm_if (tv_test (ev_eqS (ev_var (i := 0) rfl) ev_str)) (fun _ => (sm_ret (g := fun b2 => b2) (em_ev (β := Bool) (D := dB) ev_bl) (fun _ _ => rfl) (fun _ _ => MLe.rfl))) (fun _ => (sm_nil (fun _ => 0) ⟨rfl, rfl, rfl, trivial⟩ MLe.rfl))) (fun g3 _ => (sm_seq (γ' := Unit) (Γ1 := fun g6 _ => [(0, (dS a.1)), (1, (dI a.2.1)), (2, (dB a.2.2))]) (M1 := fun g6 _ => M) (sm_if (tv_test (ev_eqI (ev_var (i := 1) rfl) ev_int)) (fun _ => (sm_ret (g := fun b5 => b5) (em_ev (β := Bool) (D := dB) (ev_or (ev_eqS (ev_var (i := 0) rfl) ev_str) (ev_not (ev_var (i := 2) rfl)))) (fun _ _ => rfl) (fun _ _ => MLe.rfl))) (fun _ => (sm_nil (fun _ => 0) ⟨rfl, rfl, rfl, trivial⟩ MLe.rfl))) (fun g6 _ => (sm_ret (g := fun b7 => b7) (em_ev (β := Bool) (D := dB) (ev_or (ev_and (ev_eqS (ev_var (i := 0) rfl) ev_str) (ev_cmp (ev_var (i := 1) rfl) ev_int)) (ev_and (ev_eqS (ev_var (i := 0) rfl) ev_str) (ev_cmp (ev_var (i := 1) rfl) ev_int)))) (fun _ _ => rfl) (fun _ _ => MLe.rfl))))))
end
noncomputable def b_law_numbers_right (a : ((List (List Int)) × (List Str) × (List Int) × Bool)) : R (Out Empty Empty Bool) :=
  (seqO (γ := Unit) (R.bind (chk (True ∧ (True ∧ True)) (R.nx (m_law_list_of (a.2.2.1, ((List.length a.2.1 : Nat) : Int))))) fun r1 => if (!r1) = true then (R.bind (chk True (.ok false)) fun b2 => .ok (.rt b2)) else (.ok (.nx ()))) fun g3 => (R.bind (R.bind (chk (True ∧ True) (.ok ())) fun b => chk (-1000000000 ≤ ((List.length a.2.1 : Nat) : Int) ∧ ((List.length a.2.1 : Nat) : Int) ≤ 1000000000) (.ok b)) fun b4 => seqO (forR (γ := Unit) (fun x5 g6 => (seqO (γ := Unit) (R.bind (chk ((True ∧ True ∧ inR a.2.1 x5) ∧ ((True ∧ True ∧ inR a.2.2.1 x5) ∧ (True ∧ True))) (R.nx (m_law_sign_right ((getI a.2.1 x5), (getI a.2.2.1 x5), a.2.2.2)))) fun r8 => if (!r8) = true then (R.bind (chk True (.ok false)) fun b9 => .ok (.rt b9)) else (.ok (.nx ()))) fun g10 => (.ok (.nx ())))) (rng 0 ((List.length a.2.1 : Nat) : Int)) ()) fun g6 => (R.bind (R.bind (R.bind (chk True (.ok a.1)) fun b11 => lcT (fun x12 => (R.bind (chk (True ∧ (True ∧ True)) (R.nx (m_law_dot (x12, a.2.2.1)))) fun a17 => R.bind (chk True (.ok (0 : Int))) fun b18 => chk True (.ok (!decide (a17 = b18))))) (fun x12 r19 => r19) (fun x12 => True) (fun x12 => x12) b11) fun a20 => R.bind (chk True (.ok ([] : List (List Int)))) fun b21 => chk (DE.ok a20 ∧ DE.ok b21) (.ok (@decide (a20 = b21) (Classical.propDecidable _)))) fun b22 => .ok (.rt b22))))
noncomputable def m_law_numbers_right (a : ((List (List Int)) × (List Str) × (List Int) × Bool)) : R Bool := runE (b_law_numbers_right a)
abbrev sp_law_numbers_right (K : PySem.W.Frag) (ad : Ad) : Sp := SpG (xd ad) (α := ((List (List Int)) × (List Str) × (List Int) × Bool)) (β := Bool) (fun a qs => [((dL (α := (List Int))) a.1), ((dL (α := Str)) a.2.1), ((dL (α := Int)) a.2.2.1), (dB a.2.2.2)]) (fun a qs => []) m_law_numbers_right (fun a qs r ps => (dB r)) (fun a qs r ps => [])
section
variable {P : Program} {w : World} {K : PySem.W.Frag} {mg : Str → Option Value} {base : Heap} {ad : Ad}
theorem ok_law_numbers_right (T : Txt P K mg ad) : FnOk P w K mg base CX0 3 ad.f_law_numbers_right ad.d_law_numbers_right ["_law_rows_here", "_law_kinds_here", "_law_numbers", "_law_strict"] (sp_law_numbers_right K ad) := by
  refine T.F_law_numbers_right.ok sc_law_numbers_right (fun vs H Q E h => spg_len (k := 4) (fun _ _ => rfl) h) (fun cdv A outer s H vs Q E hr h => ?_)
  have hu := hu_of hr
  refine ⟨_, (pss_cons (ps_if (pt_not (pt_val (pe_call (ok_law_list_of (P := P) (w := w) (K := K) (mg := mg) (base := base) T) (hr.mono (by decide)) (by rfl) T.g_law_list_of T.F_law_list_of.kp T.B_law_list_of .nil pass0 (pa_cons (pv 2) (pa_cons (pe_callB (id := "len") (call_len_seqK (K := K) rfl) (by rfl) T.z_len PySem.boot_len (pa_cons (pv 1) pa_nil)) pa_nil))))) (pss_one (ps_ret pe_bl)) pss_nil)
      (pss_cons (ps_for PassesOwn.never rfl (pi_range1 rfl T.z_range (pa_cons (pe_callB (id := "len") (call_len_seqK (K := K) rfl) (by rfl) T.z_len PySem.boot_len (pa_cons (pv 1) pa_nil)) pa_nil)) (pg_name (i := 4) sc_law_numbers_right.nd rfl (by first | exact Or.inl rfl | exact Or.inr rfl))
      (pss_one (ps_if (pt_not (pt_val (pe_call (ok_law_sign_right (P := P) (w := w) (K := K) (mg := mg) (base := base) T) (hr.mono (by decide)) (by rfl) T.g_law_sign_right T.F_law_sign_right.kp T.B_law_sign_right .nil pass0 (pa_cons (pe_ix (ix_listK (K := K) rfl) (pv 1) (pv 4) (fun _ _ => rfl)) (pa_cons (pe_ix (ix_listK (K := K) rfl) (pv 2) (pv 4) (fun _ _ => rfl)) (pa_cons (pv 3) pa_nil)))))) (pss_one (ps_ret pe_bl)) pss_nil)))
      (pss_one (ps_ret (pe_cmpR (op_eqDK (K := K) rfl hr.units) (pe_lc (own := [("_law_row", 5)]) (g := gName 5) rfl sc_law_numbers_right.nd (pi_listK (K := K) rfl (pv 0)) (blkOk_by (own := [("_law_row", 5)]) (N := ["_law_rows_here", "_law_kinds_here", "_law_numbers", "_law_strict", "_law_k", "_law_row"]) (sc := defScope s_law_numbers_right) (by decide +kernel)) (fun _ _ _ _ _ => (pg_name (i := 5) sc_law_numbers_right.nd rfl (by first | exact Or.inl rfl | exact Or.inr rfl))) (fun _ _ _ _ _ => (pts_one (pt_cmpR op_ne (pe_call (ok_law_dot (P := P) (w := w) (K := K) (mg := mg) (base := base) T) (hr.mono (by decide)) (by rfl) T.g_law_dot T.F_law_dot.kp T.B_law_dot .nil pass0 (pa_cons (pv 5) (pa_cons (pv 2) pa_nil))) pe_int (nomark _)))) (fun _ _ _ _ _ => (pv 5))) (pe_lst pa_nil) (nomark _)))))), ?_⟩
  try simp only [cxK, cxK2]
  refine def_ret (n := 6) (γ := Empty) (δ := Empty) (body := b_law_numbers_right) (Γn := fun _ _ _ _ => []) (Mn := fun _ _ _ _ => []) (Γl := fun _ _ _ _ => []) (Ml := fun _ _ _ _ => []) h rfl (fun _ _ => Nat.le_of_ble_eq_true rfl) (fun _ => rfl) (fun a qs M => ?_)
  unfold b_law_numbers_right
  exact (sm_seq (γ' := Unit) (Γ1 := fun g3 _ => [(0, ((dL (α := (List Int))) a.1)), (1, ((dL (α := Str)) a.2.1)), (2, ((dL (α := Int)) a.2.2.1)), (3, (dB a.2.2.2))]) (M1 := fun g3 _ => M) (sm_ifM (b := fun (r1 : Bool) => (!r1)) (tm_not (tm_emB (b := fun (r : Bool) => r) (em_callP0 (a := (a.2.2.1, ((List.length a.2.1 : Nat) : Int))) (av_cons (ev_var (i := 2) rfl) (av_cons (ev_len (lv_dn (ev_var (i := 1) rfl))) av_nil)) rfl (fun _ _ => rfl)))) (fun r1 _ _ => (sm_ret (g := fun b2 => b2) (em_ev (β := Bool) (D := dB) ev_bl) (fun _ _ => rfl) (fun _ _ => MLe.rfl))) (fun r1 _ _ => (sm_nil (fun _ => 0) ⟨rfl, rfl, rfl, rfl, trivial⟩ MLe.rfl))) (fun g3 _ => (sm_for (γ' := Unit) (Γl := fun g6 ps7 => [(0, ((dL (α := (List Int))) a.1)), (1, ((dL (α := Str)) a.2.1)), (2, ((dL (α := Int)) a.2.2.1)), (3, (dB a.2.2.2))]) (Ml := fun g6 ps7 => M) (xs := fun b4 => (rng 0 ((List.length a.2.1 : Nat) : Int))) (g0 := fun b4 => ()) (adds := fun x5 => [(4, (dI x5))]) (sl := [4]) (f := fun b4 x5 g6 => (seqO (γ := Unit) (R.bind (chk ((True ∧ True ∧ inR a.2.1 x5) ∧ ((True ∧ True ∧ inR a.2.2.1 x5) ∧ (True ∧ True))) (R.nx (m_law_sign_right ((getI a.2.1 x5), (getI a.2.2.1 x5), a.2.2.2)))) fun r8 => if (!r8) = true then (R.bind (chk True (.ok false)) fun b9 => .ok (.rt b9)) else (.ok (.nx ()))) fun g10 => (.ok (.nx ())))) (fun _ => (fun _ => 0)) (it_range1 (j := fun _ => ((List.length a.2.1 : Nat) : Int)) (am_av (β := Unit) (Ds := fun _ => [dI ((List.length a.2.1 : Nat) : Int)]) (x := ()) (av_cons (ev_len (lv_dn (ev_var (i := 1) rfl))) av_nil))) (fun _ _ => mk_nil) (fun _ => ⟨rfl, rfl, rfl, rfl, trivial⟩) (fun _ => MLe.rfl) (fun x5 => (gt_name (by decide))) (fun b4 x5 g6 ps7 => (sm_last (sm_seq (γ' := Unit) (Γ1 := fun g10 _ => [(0, ((dL (α := (List Int))) a.1)), (1, ((dL (α := Str)) a.2.1)), (2, ((dL (α := Int)) a.2.2.1)), (3, (dB a.2.2.2)), (4, (dI x5))]) (M1 := fun g10 _ => M) (sm_ifM (b := fun (r8 : Bool) => (!r8)) (tm_not (tm_emB (b := fun (r : Bool) => r) (em_callP0 (a := ((getI a.2.1 x5), (getI a.2.2.1 x5), a.2.2.2)) (av_cons (ev_ixL (lv_dn (ev_var (i := 1) rfl)) (ev_var (i := 4) rfl)) (av_cons (ev_ixL (lv_dn (ev_var (i := 2) rfl)) (ev_var (i := 4) rfl)) (av_cons (ev_var (i := 3) rfl) av_nil))) rfl (fun _ _ => rfl)))) (fun r8 _ _ => (sm_ret (g := fun b9 => b9) (em_ev (β := Bool) (D := dB) ev_bl) (fun _ _ => rfl) (fun _ _ => MLe.rfl))) (fun r8 _ _ => (sm_nil (fun _ => 0) ⟨rfl, rfl, rfl, rfl, rfl, trivial⟩ MLe.rfl))) (fun g10 _ => (sm_nil (fun _ => 0) ⟨rfl, rfl, rfl, rfl, trivial⟩ MLe.rfl))))) (fun g6 ps7 => (sm_ret (g := fun b22 => b22) (em_eqD (β := Bool) (g := fun (a20 : (List (List Int))) (b21 : (List (List Int))) => (@decide (a20 = b21) (Classical.propDecidable _))) (vr := fun (r : Bool) => r) (va := fun (a20 : (List (List Int))) => a20) (vb := fun (a20 : (List (List Int))) (b21 : (List (List Int))) => b21) (Mg := fun (r : Bool) => M) (α := (List (List Int))) (by decide) (em_frz (α := (List Int)) (f := fun (r : (List (List Int))) => r) (Mf := fun (r : (List (List Int))) => M) (em_lcTM (η := (List Int)) (M0 := M) (Γw := [(0, ((dL (α := (List Int))) a.1)), (1, ((dL (α := Str)) a.2.1)), (2, ((dL (α := Int)) a.2.2.1)), (3, (dB a.2.2.2))]) (adds := fun (x12 : (List Int)) => [(5, ((dL (α := Int)) x12))]) (sl := [5]) (xs := fun (b11 : (List (List Int))) => b11) (mt := fun (b11 : (List (List Int))) (x12 : (List Int)) => (R.bind (chk (True ∧ (True ∧ True)) (R.nx (m_law_dot (x12, a.2.2.1)))) fun a17 => R.bind (chk True (.ok (0 : Int))) fun b18 => chk True (.ok (!decide (a17 = b18))))) (bb := fun (b11 : (List (List Int))) (x12 : (List Int)) (r19 : Bool) => r19) (ce := fun (b11 : (List (List Int))) (x12 : (List Int)) => True) (y := fun (b11 : (List (List Int))) (x12 : (List Int)) => x12) (it_list (α := (List Int)) (β := (List (List Int))) (xs := fun (b : (List (List Int))) => b) (em_ev (β := (List (List Int))) (D := (dL (α := (List Int)))) (ev_var (i := 0) rfl))) mk_nil ⟨rfl, by decide, rfl, by decide, rfl, by decide, rfl, by decide, trivial⟩ (fun x12 => (gt_name (by decide))) (by decide) (fun (b11 : (List (List Int))) (x12 : (List Int)) Dd15 cc16 => (tm_em (b := fun (r : Bool) => r) (em_neI (β := Bool) (g := fun (a17 : Int) (b18 : Int) => (!decide (a17 = b18))) (vr := fun (r : Bool) => r) (va := fun (a17 : Int) => a17) (vb := fun (a17 : Int) (b18 : Int) => b18) (Mg := fun (r : Bool) => ((Dd15, cc16) :: M)) (em_callP0 (a := (x12, a.2.2.1)) (av_cons (ev_var (i := 5) rfl) (av_cons (ev_var (i := 2) rfl) av_nil)) rfl (fun _ _ => rfl)) (fun (a17 : Int) => (em_ev (β := Int) (D := dI) ev_int)) (fun _ _ => rfl) (fun _ _ => rfl)))) (fun (b11 : (List (List Int))) (x12 : (List Int)) => (ev_var (i := 5) rfl)))) (fun (a20 : (List (List Int))) => (em_frz (α := (List Int)) (f := fun (r : (List (List Int))) => r) (Mf := fun (r : (List (List Int))) => M) (em_lst0 (α := (List Int)) (xs := ([] : List (List Int))) av_nil (Nat.le_of_ble_eq_true rfl)))) (fun _ _ => rfl) (fun _ _ => rfl)) (fun _ _ => rfl) (fun _ _ => MLe.rfl))))))
end
noncomputable def b_law_totals (a : ((List (List Int)) × Int × (List Int))) : R (Out Empty Empty (List Int)) :=
  (R.bind (chk True (.ok ([] : List Int))) fun b1 => (R.bind (R.bind (chk (True ∧ True) (.ok ())) fun b => chk (-1000000000 ≤ a.2.1 ∧ a.2.1 ≤ 1000000000) (.ok b)) fun b3 => seqO (forR (γ := ((List Int))) (fun x4 g5 => (R.bind (R.bind (R.bind (R.bind (R.bind (chk True (.ok a.1)) fun b7 => chk ((b7).length ≤ 16000000 ∧ ∀ x8 ∈ b7, (True ∧ True ∧ inR x8 x4)) (.ok (List.map (fun x8 => (getI x8 x4)) b7))) fun a9 => R.bind (R.bind (chk True (.ok a.2.2)) fun a11 => R.bind (.ok ()) fun b12 => .ok (a11, b12)) fun b10 => .ok (a9, b10)) fun b13 => R.bind (R.nx (m_law_dot (b13.1, b13.2.1))) fun r14 => .ok r14) fun b15 => chk ((g5).length ≤ 16000000) (.ok b15)) fun b15 => (.ok (.nx (g5 ++ [b15]))))) (rng 0 a.2.1) b1) fun g5 => (R.bind (chk True (.ok g5)) fun b16 => .ok (.rt b16))))
noncomputable def m_law_totals (a : ((List (List Int)) × Int × (List Int))) : R (List Int) := runE (b_law_totals a)
abbrev sp_law_totals (K : PySem.W.Frag) (ad : Ad) : Sp := SpG (xd ad) (α := ((List (List Int)) × Int × (List Int))) (β := (List Int)) (fun a qs => [((dL (α := (List Int))) a.1), (dI a.2.1), ((dL (α := Int)) a.2.2)]) (fun a qs => []) m_law_totals (fun a qs r ps => ((dL (α := Int)) r)) (fun a qs r ps => [])
section
variable {P : Program} {w : World} {K : PySem.W.Frag} {mg : Str → Option Value} {base : Heap} {ad : Ad}
theorem ok_law_totals (T : Txt P K mg ad) : FnOk P w K mg base CX0 2 ad.f_law_totals ad.d_law_totals ["_law_rows_here", "_law_count", "_law_weights"] (sp_law_totals K ad) := by
  refine T.F_law_totals.ok sc_law_totals (fun vs H Q E h => spg_len (k := 3) (fun _ _ => rfl) h) (fun cdv A outer s H vs Q E hr h => ?_)
  have hu := hu_of hr
  refine ⟨_, (pss_cons (ps_set (i := 3) sc_law_totals.nd rfl (by first | exact Or.inl rfl | exact Or.inr rfl) (pe_lst pa_nil))
      (pss_cons (ps_for PassesOwn.never rfl (pi_range1 rfl T.z_range (pa_cons (pv 1) pa_nil)) (pg_name (i := 4) sc_law_totals.nd rfl (by first | exact Or.inl rfl | exact Or.inr rfl))
      (pss_one (ps_expr (pe_bm PySem.F.plainAttrs_list PySem.F.slot_list_append PySem.F.type_list_append mt_append (pv 3) (pa_cons (pe_call (ok_law_dot (P := P) (w := w) (K := K) (mg := mg) (base := base) T) (hr.mono (by decide)) (by rfl) T.g_law_dot T.F_law_dot.kp T.B_law_dot .nil pass0 (pa_cons (pe_lc (own := [("_law_row", 5)]) (g := gName 5) (tt := tYes) rfl sc_law_totals.nd (pi_listK (K := K) rfl (pv 0)) (blkOk_by (own := [("_law_row", 5)]) (N := ["_law_rows_here", "_law_count", "_law_weights", "_law_totals_here", "_law_k", "_law_row"]) (sc := defScope s_law_totals) (by decide +kernel)) (fun _ _ _ _ _ => (pg_name (i := 5) sc_law_totals.nd rfl (by first | exact Or.inl rfl | exact Or.inr rfl))) (fun _ _ _ _ _ => pts_nil) (fun _ _ _ _ _ => (pe_ix (ix_listK (K := K) rfl) (pv 5) (pv 4) (fun _ _ => rfl)))) (pa_cons (pv 2) pa_nil))) pa_nil)))))
      (pss_one (ps_ret (pv 3))))), ?_⟩
  try simp only [cxK, cxK2]
  refine def_ret (n := 6) (γ := Empty) (δ := Empty) (body := b_law_totals) (Γn := fun _ _ _ _ => []) (Mn := fun _ _ _ _ => []) (Γl := fun _ _ _ _ => []) (Ml := fun _ _ _ _ => []) h rfl (fun _ _ => Nat.le_of_ble_eq_true rfl) (fun _ => rfl) (fun a qs M => ?_)
  unfold b_law_totals
  exact (sm_set (em_lst0 (α := Int) (xs := ([] : List Int)) av_nil (Nat.le_of_ble_eq_true rfl)) (by decide) (fun b1 ps2 => (sm_for (γ' := ((List Int))) (Γl := fun g5 ps6 => [(0, ((dL (α := (List Int))) a.1)), (1, (dI a.2.1)), (2, ((dL (α := Int)) a.2.2)), (3, dR (ps2 0))]) (Ml := fun g5 ps6 => (((ps2 0), cL (α := Int) g5) :: M)) (xs := fun b3 => (rng 0 a.2.1)) (g0 := fun b3 => b1) (adds := fun x4 => [(4, (dI x4))]) (sl := [4]) (f := fun b3 x4 g5 => (R.bind (R.bind (R.bind (R.bind (R.bind (chk True (.ok a.1)) fun b7 => chk ((b7).length ≤ 16000000 ∧ ∀ x8 ∈ b7, (True ∧ True ∧ inR x8 x4)) (.ok (List.map (fun x8 => (getI x8 x4)) b7))) fun a9 => R.bind (R.bind (chk True (.ok a.2.2)) fun a11 => R.bind (.ok ()) fun b12 => .ok (a11, b12)) fun b10 => .ok (a9, b10)) fun b13 => R.bind (R.nx (m_law_dot (b13.1, b13.2.1))) fun r14 => .ok r14) fun b15 => chk ((g5).length ≤ 16000000) (.ok b15)) fun b15 => (.ok (.nx (g5 ++ [b15]))))) (fun _ => (fun _ => 0)) (it_range1 (j := fun _ => a.2.1) (am_av (β := Unit) (Ds := fun _ => [dI a.2.1]) (x := ()) (av_cons (ev_var (i := 1) rfl) av_nil))) (fun _ _ => mk_nil) (fun _ => ⟨rfl, rfl, rfl, rfl, trivial⟩) (fun _ => MLe.rfl) (fun x4 => (gt_name (by decide))) (fun b3 x4 g5 ps6 => (sm_last (sm_expr (em_append (α := Int) (xs := g5) (fun _ _ h => h) (y := fun (b15 : Int) => b15) (M1 := fun (b15 : Int) => M) (ev_var (i := 3) rfl) (em_callG (rfl : sp_law_dot K ad = _) (a := fun (b13 : ((List Int) × ((List Int) × Unit))) => (b13.1, b13.2.1)) (qs := fun _ => 0) (g := fun _ r => r) (Dr := fun (r : Int) _ => (dI r)) (Mr := fun (r : Int) _ => (((ps2 0), cL (α := Int) g5) :: M)) (Mx := fun _ => (((ps2 0), cL (α := Int) g5) :: M)) (am_cons (g := fun (a : (List Int)) (b : ((List Int) × Unit)) => (a, b)) (Ds := fun (r : ((List Int) × ((List Int) × Unit))) => [((dL (α := Int)) r.1), ((dL (α := Int)) r.2.1)]) (Mf := fun (r : ((List Int) × ((List Int) × Unit))) => (((ps2 0), cL (α := Int) g5) :: M)) (em_frz (α := Int) (f := fun (r : (List Int)) => r) (Mf := fun (r : (List Int)) => (((ps2 0), cL (α := Int) g5) :: M)) (em_lcP (η := Int) (M0 := (((ps2 0), cL (α := Int) g5) :: M)) (Γw := [(0, ((dL (α := (List Int))) a.1)), (1, (dI a.2.1)), (2, ((dL (α := Int)) a.2.2)), (3, dR (ps2 0)), (4, (dI x4))]) (adds := fun (x8 : (List Int)) => [(5, ((dL (α := Int)) x8))]) (sl := [5]) (xs := fun (b7 : (List (List Int))) => b7) (ce := fun (b7 : (List (List Int))) (x8 : (List Int)) => (True ∧ True ∧ inR x8 x4)) (y := fun (b7 : (List (List Int))) (x8 : (List Int)) => (getI x8 x4)) (it_list (α := (List Int)) (β := (List (List Int))) (xs := fun (b : (List (List Int))) => b) (em_ev (β := (List (List Int))) (D := (dL (α := (List Int)))) (ev_var (i := 0) rfl))) mk_nil ⟨rfl, by decide, rfl, by decide, rfl, by decide, rfl, by decide, rfl, by decide, trivial⟩ (fun x8 => (gt_name (by decide))) (by decide) (fun (b7 : (List (List Int))) (x8 : (List Int)) => (ev_ixL (lv_dn (ev_var (i := 5) rfl)) (ev_var (i := 4) rfl))))) (fun (a9 : (List Int)) => (am_cons (g := fun (a : (List Int)) (b : Unit) => (a, b)) (Ds := fun (r : ((List Int) × Unit)) => [((dL (α := Int)) r.1)]) (Mf := fun (r : ((List Int) × Unit)) => (((ps2 0), cL (α := Int) g5) :: M)) (em_ev (β := (List Int)) (D := (dL (α := Int))) (ev_var (i := 2) rfl)) (fun (a11 : (List Int)) => am_nil) (fun _ _ => rfl) (fun _ _ => rfl))) (fun _ _ => rfl) (fun _ _ => rfl)) (fun _ => rfl) (fun _ => MLe.rfl) (fun _ _ _ => rfl) (fun _ _ _ => MLe.rfl))) (fun b15 _ => (sm_nil (fun _ => 0) ⟨rfl, rfl, rfl, rfl, trivial⟩ MLe.rfl))))) (fun g5 ps6 => (sm_frz 3 rfl (sm_ret (g := fun b16 => b16) (em_ev (β := (List Int)) (D := (dL (α := Int))) (ev_var (i := 3) rfl)) (fun _ _ => rfl) (fun _ _ => MLe.rfl)))))))
theorem okH_law_totals (T : Txt P K mg ad) : L2H.FnH P w K mg base CX0 2 ad.f_law_totals ad.d_law_totals ["_law_rows_here", "_law_count", "_law_weights"] (sp_law_totals K ad) := by
  refine okH T.F_law_totals sc_law_totals (fun vs H Q E h => spg_len (k := 3) (fun _ _ => rfl) h) (fun cdv A outer s H vs Q E p hc hr h => ?_)
  have hu := hu_ofH hr
  refine ⟨_, (pss_cons (ps_set (i := 3) sc_law_totals.nd rfl (by first | exact Or.inl rfl | exact Or.inr rfl) (pe_lst pa_nil))
      (pss_cons (L2H.ps_forH PassesOwn.never hc (L2H.pi_range1H (by rfl) T.z_range (pa_cons (pv 1) pa_nil)) (pg_name (i := 4) sc_law_totals.nd rfl (by first | exact Or.inl rfl | exact Or.inr rfl))
      (pss_one (ps_expr (pe_bm PySem.F.plainAttrs_list PySem.F.slot_list_append PySem.F.type_list_append mt_append (pv 3) (pa_cons (pe_callHT (okH_law_dot (P := P) (w := w) (K := K) (mg := mg) (base := base) T) (hr.mono (by decide)) hc (by rfl) T.g_law_dot T.F_law_dot.kp T.B_law_dot (pa_cons (Hx.pe_lcH (own := [("_law_row", 5)]) (g := gName 5) (tt := tYes) hc sc_law_totals.nd (Hx.pi_listHK (K := K) rfl (pv 0)) (blkOk_by (own := [("_law_row", 5)]) (N := ["_law_rows_here", "_law_count", "_law_weights", "_law_totals_here", "_law_k", "_law_row"]) (sc := defScope s_law_totals) (by decide +kernel)) (fun _ _ _ _ _ => (pg_name (i := 5) sc_law_totals.nd rfl (by first | exact Or.inl rfl | exact Or.inr rfl))) (fun _ _ _ _ _ => pts_nil) (fun _ _ _ _ _ => (pe_ix (ix_listK (K := K) rfl) (pv 5) (pv 4) (fun _ _ => rfl)))) (pa_cons (pv 2) pa_nil))) pa_nil)))))
      (pss_one (ps_ret (pv 3))))), ?_⟩
  refine def_ret (n := 6) (γ := Empty) (δ := Empty) (body := b_law_totals) (Γn := fun _ _ _ _ => []) (Mn := fun _ _ _ _ => []) (Γl := fun _ _ _ _ => []) (Ml := fun _ _ _ _ => []) h rfl (fun _ _ => Nat.le_of_ble_eq_true rfl) (fun _ => rfl) (fun a qs M => ?_)
  unfold b_law_totals
  exact (sm_set (em_lst0 (α := Int) (xs := ([] : List Int)) av_nil (Nat.le_of_ble_eq_true rfl)) (by decide) (fun b1 ps2 => (sm_for (γ' := ((List Int))) (Γl := fun g5 ps6 => [(0, ((dL (α := (List Int))) a.1)), (1, (dI a.2.1)), (2, ((dL (α := Int)) a.2.2)), (3, dR (ps2 0))]) (Ml := fun g5 ps6 => (((ps2 0), cL (α := Int) g5) :: M)) (xs := fun b3 => (rng 0 a.2.1)) (g0 := fun b3 => b1) (adds := fun x4 => [(4, (dI x4))]) (sl := [4]) (f := fun b3 x4 g5 => (R.bind (R.bind (R.bind (R.bind (R.bind (chk True (.ok a.1)) fun b7 => chk ((b7).length ≤ 16000000 ∧ ∀ x8 ∈ b7, (True ∧ True ∧ inR x8 x4)) (.ok (List.map (fun x8 => (getI x8 x4)) b7))) fun a9 => R.bind (R.bind (chk True (.ok a.2.2)) fun a11 => R.bind (.ok ()) fun b12 => .ok (a11, b12)) fun b10 => .ok (a9, b10)) fun b13 => R.bind (R.nx (m_law_dot (b13.1, b13.2.1))) fun r14 => .ok r14) fun b15 => chk ((g5).length ≤ 16000000) (.ok b15)) fun b15 => (.ok (.nx (g5 ++ [b15]))))) (fun _ => (fun _ => 0)) (it_range1 (j := fun _ => a.2.1) (am_av (β := Unit) (Ds := fun _ => [dI a.2.1]) (x := ()) (av_cons (ev_var (i := 1) rfl) av_nil))) (fun _ _ => mk_nil) (fun _ => ⟨rfl, rfl, rfl, rfl, trivial⟩) (fun _ => MLe.rfl) (fun x4 => (gt_name (by decide))) (fun b3 x4 g5 ps6 => (sm_last (sm_expr (em_append (α := Int) (xs := g5) (fun _ _ h => h) (y := fun (b15 : Int) => b15) (M1 := fun (b15 : Int) => M) (ev_var (i := 3) rfl) (em_callG (rfl : sp_law_dot K ad = _) (a := fun (b13 : ((List Int) × ((List Int) × Unit))) => (b13.1, b13.2.1)) (qs := fun _ => 0) (g := fun _ r => r) (Dr := fun (r : Int) _ => (dI r)) (Mr := fun (r : Int) _ => (((ps2 0), cL (α := Int) g5) :: M)) (Mx := fun _ => (((ps2 0), cL (α := Int) g5) :: M)) (am_cons (g := fun (a : (List Int)) (b : ((List Int) × Unit)) => (a, b)) (Ds := fun (r : ((List Int) × ((List Int) × Unit))) => [((dL (α := Int)) r.1), ((dL (α := Int)) r.2.1)]) (Mf := fun (r : ((List Int) × ((List Int) × Unit))) => (((ps2 0), cL (α := Int) g5) :: M)) (em_frz (α := Int) (f := fun (r : (List Int)) => r) (Mf := fun (r : (List Int)) => (((ps2 0), cL (α := Int) g5) :: M)) (em_lcP (η := Int) (M0 := (((ps2 0), cL (α := Int) g5) :: M)) (Γw := [(0, ((dL (α := (List Int))) a.1)), (1, (dI a.2.1)), (2, ((dL (α := Int)) a.2.2)), (3, dR (ps2 0)), (4, (dI x4))]) (adds := fun (x8 : (List Int)) => [(5, ((dL (α := Int)) x8))]) (sl := [5]) (xs := fun (b7 : (List (List Int))) => b7) (ce := fun (b7 : (List (List Int))) (x8 : (List Int)) => (True ∧ True ∧ inR x8 x4)) (y := fun (b7 : (List (List Int))) (x8 : (List Int)) => (getI x8 x4)) (it_list (α := (List Int)) (β := (List (List Int))) (xs := fun (b : (List (List Int))) => b) (em_ev (β := (List (List Int))) (D := (dL (α := (List Int)))) (ev_var (i := 0) rfl))) mk_nil ⟨rfl, by decide, rfl, by decide, rfl, by decide, rfl, by decide, rfl, by decide, trivial⟩ (fun x8 => (gt_name (by decide))) (by decide) (fun (b7 : (List (List Int))) (x8 : (List Int)) => (ev_ixL (lv_dn (ev_var (i := 5) rfl)) (ev_var (i := 4) rfl))))) (fun (a9 : (List Int)) => (am_cons (g := fun (a : (List Int)) (b : Unit) => (a, b)) (Ds := fun (r : ((List Int) × Unit)) => [((dL (α := Int)) r.1)]) (Mf := fun (r : ((List Int) × Unit)) => (((ps2 0), cL (α := Int) g5) :: M)) (em_ev (β := (List Int)) (D := (dL (α := Int))) (ev_var (i := 2) rfl)) (fun (a11 : (List Int)) => am_nil) (fun _ _ => rfl) (fun _ _ => rfl))) (fun _ _ => rfl) (fun _ _ => rfl)) (fun _ => rfl) (fun _ => MLe.rfl) (fun _ _ _ => rfl) (fun _ _ _ => MLe.rfl))) (fun b15 _ => (sm_nil (fun _ => 0) ⟨rfl, rfl, rfl, rfl, trivial⟩ MLe.rfl))))) (fun g5 ps6 => (sm_frz 3 rfl (sm_ret (g := fun b16 => b16) (em_ev (β := (List Int)) (D := (dL (α := Int))) (ev_var (i := 3) rfl)) (fun _ _ => rfl) (fun _ _ => MLe.rfl)))))))
end
noncomputable def b_law_weights_right (a : ((List (List Int)) × (List Str) × (List Int) × Bool)) : R (Out Empty Empty Bool) :=
  (seqO (γ := Unit) (R.bind (chk (True ∧ (True ∧ True)) (R.nx (m_law_list_of (a.2.2.1, ((List.length a.1 : Nat) : Int))))) fun r1 => if (!r1) = true then (R.bind (chk True (.ok false)) fun b2 => .ok (.rt b2)) else (.ok (.nx ()))) fun g3 => (R.bind (chk (True ∧ (True ∧ (True ∧ True))) (R.nx (m_law_totals (a.1, ((List.length a.2.1 : Nat) : Int), a.2.2.1)))) fun b4 => (R.bind (chk True (.ok false)) fun b6 => (R.bind (R.bind (chk (True ∧ True) (.ok ())) fun b => chk (-1000000000 ≤ ((List.length a.2.1 : Nat) : Int) ∧ ((List.length a.2.1 : Nat) : Int) ≤ 1000000000) (.ok b)) fun b8 => seqO (forR (γ := (Bool)) (fun x9 g10 => (seqO (γ := Unit) (chk (((True ∧ True ∧ inR a.2.1 x9) ∧ True) ∧ ((decide ((getI a.2.1 x9) = ("free" : Str))) = true → ((True ∧ True ∧ inR b4 x9) ∧ True))) (if ((decide ((getI a.2.1 x9) = ("free" : Str))) && (!decide ((getI b4 x9) = (0 : Int)))) = true then (R.bind (chk True (.ok false)) fun b13 => .ok (.rt b13)) else (.ok (.nx ())))) fun g14 => (seqO (γ := Unit) (chk (((True ∧ True ∧ inR a.2.1 x9) ∧ True) ∧ ((decide ((getI a.2.1 x9) = ("positive" : Str))) = true → ((True ∧ True ∧ inR b4 x9) ∧ True))) (if ((decide ((getI a.2.1 x9) = ("positive" : Str))) && (decide ((getI b4 x9) < (0 : Int)))) = true then (R.bind (chk True (.ok false)) fun b16 => .ok (.rt b16)) else (.ok (.nx ())))) fun g17 => (seqO (γ := Unit) (chk (((True ∧ True ∧ inR a.2.1 x9) ∧ True) ∧ ((decide ((getI a.2.1 x9) = ("negative" : Str))) = true → ((True ∧ True ∧ inR b4 x9) ∧ True))) (if ((decide ((getI a.2.1 x9) = ("negative" : Str))) && (decide ((0 : Int) < (getI b4 x9)))) = true then (R.bind (chk True (.ok false)) fun b19 => .ok (.rt b19)) else (.ok (.nx ())))) fun g20 => (seqO (γ := (Bool)) (R.bind (R.bind (chk ((True ∧ True ∧ inR a.2.1 x9) ∧ (True ∧ (True ∧ True))) (.ok (decide ((getI a.2.1 x9) ∈ ([("positive" : Str), ("negative" : Str)] : List Str))))) fun a21 => if a21 = true then R.bind (chk ((True ∧ True ∧ inR b4 x9) ∧ True) (.ok (!decide ((getI b4 x9) = (0 : Int))))) fun b22 => .ok b22 else .ok false) fun r23 => if r23 = true then (R.bind (chk True (.ok true)) fun b24 => (.ok (.nx b24))) else (.ok (.nx g10))) fun g26 => (.ok (.nx g26))))))) (rng 0 ((List.length a.2.1 : Nat) : Int)) b6) fun g10 => (R.bind (chk (True ∧ (g10 = false → True)) (.ok (g10 || (!a.2.2.2)))) fun b27 => .ok (.rt b27))))))
noncomputable def m_law_weights_right (a : ((List (List Int)) × (List Str) × (List Int) × Bool)) : R Bool := runE (b_law_weights_right a)
abbrev sp_law_weights_right (K : PySem.W.Frag) (ad : Ad) : Sp := SpG (xd ad) (α := ((List (List Int)) × (List Str) × (List Int) × Bool)) (β := Bool) (fun a qs => [((dL (α := (List Int))) a.1), ((dL (α := Str)) a.2.1), ((dL (α := Int)) a.2.2.1), (dB a.2.2.2)]) (fun a qs => []) m_law_weights_right (fun a qs r ps => (dB r)) (fun a qs r ps => [])
section
variable {P : Program} {w : World} {K : PySem.W.Frag} {mg : Str → Option Value} {base : Heap} {ad : Ad}
theorem ok_law_weights_right (T : Txt P K mg ad) : FnOk P w K mg base CX0 3 ad.f_law_weights_right ad.d_law_weights_right ["_law_rows_here", "_law_kinds_here", "_law_weights", "_law_strict"] (sp_law_weights_right K ad) := by
  refine T.F_law_weights_right.ok sc_law_weights_right (fun vs H Q E h => spg_len (k := 4) (fun _ _ => rfl) h) (fun cdv A outer s H vs Q E hr h => ?_)
  have hu := hu_of hr
  refine ⟨_, (pss_cons (ps_if (pt_not (pt_val (pe_call (ok_law_list_of (P := P) (w := w) (K := K) (mg := mg) (base := base) T) (hr.mono (by decide)) (by rfl) T.g_law_list_of T.F_law_list_of.kp T.B_law_list_of .nil pass0 (pa_cons (pv 2) (pa_cons (pe_callB (id := "len") (call_len_seqK (K := K) rfl) (by rfl) T.z_len PySem.boot_len (pa_cons (pv 0) pa_nil)) pa_nil))))) (pss_one (ps_ret pe_bl)) pss_nil)
      (pss_cons (ps_set (i := 4) sc_law_weights_right.nd rfl (by first | exact Or.inl rfl | exact Or.inr rfl) (pe_call (ok_law_totals (P := P) (w := w) (K := K) (mg := mg) (base := base) T) (hr.mono (by decide)) (by rfl) T.g_law_totals T.F_law_totals.kp T.B_law_totals .nil pass0 (pa_cons (pv 0) (pa_cons (pe_callB (id := "len") (call_len_seqK (K := K) rfl) (by rfl) T.z_len PySem.boot_len (pa_cons (pv 1) pa_nil)) (pa_cons (pv 2) pa_nil)))))
      (pss_cons (ps_set (i := 5) sc_law_weights_right.nd rfl (by first | exact Or.inl rfl | exact Or.inr rfl) pe_bl)
      (pss_cons (ps_for PassesOwn.never rfl (pi_range1 rfl T.z_range (pa_cons (pe_callB (id := "len") (call_len_seqK (K := K) rfl) (by rfl) T.z_len PySem.boot_len (pa_cons (pv 1) pa_nil)) pa_nil)) (pg_name (i := 6) sc_law_weights_right.nd rfl (by first | exact Or.inl rfl | exact Or.inr rfl))
      (pss_cons (ps_if (PW.pt (pw_and (pt_cmpR op_eq (pe_ix (ix_listK (K := K) rfl) (pv 1) (pv 6) (fun _ _ => rfl)) pe_str (nomark _)) (pw_and1 (pt_cmpR op_ne (pe_ix (ix_listK (K := K) rfl) (pv 4) (pv 6) (fun _ _ => rfl)) pe_int (nomark _))))) (pss_one (ps_ret pe_bl)) pss_nil)
      (pss_cons (ps_if (PW.pt (pw_and (pt_cmpR op_eq (pe_ix (ix_listK (K := K) rfl) (pv 1) (pv 6) (fun _ _ => rfl)) pe_str (nomark _)) (pw_and1 (pt_cmpR op_lt (pe_ix (ix_listK (K := K) rfl) (pv 4) (pv 6) (fun _ _ => rfl)) pe_int (nomark _))))) (pss_one (ps_ret pe_bl)) pss_nil)
      (pss_cons (ps_if (PW.pt (pw_and (pt_cmpR op_eq (pe_ix (ix_listK (K := K) rfl) (pv 1) (pv 6) (fun _ _ => rfl)) pe_str (nomark _)) (pw_and1 (pt_cmpR op_gt (pe_ix (ix_listK (K := K) rfl) (pv 4) (pv 6) (fun _ _ => rfl)) pe_int (nomark _))))) (pss_one (ps_ret pe_bl)) pss_nil)
      (pss_one (ps_if (PW.pt (pw_and (pt_cmpR (op_in_seqK (K := K) rfl) (pe_ix (ix_listK (K := K) rfl) (pv 1) (pv 6) (fun _ _ => rfl)) (pe_tup (pa_cons pe_str (pa_cons pe_str pa_nil))) (by rfl)) (pw_and1 (pt_cmpR op_ne (pe_ix (ix_listK (K := K) rfl) (pv 4) (pv 6) (fun _ _ => rfl)) pe_int (nomark _))))) (pss_one (ps_set (i := 5) sc_law_weights_right.nd rfl (by first | exact Or.inl rfl | exact Or.inr rfl) pe_bl)) pss_nil))))))
      (pss_one (ps_ret (pe_or (pv 5) (pe_one (pe_not (pv 3)))))))))), ?_⟩
  try simp only [cxK, cxK2]
  refine def_ret (n := 7) (γ := Empty) (δ := Empty) (body := b_law_weights_right) (Γn := fun _ _ _ _ => []) (Mn := fun _ _ _ _ => []) (Γl := fun _ _ _ _ => []) (Ml := fun _ _ _ _ => []) h rfl (fun _ _ => Nat.le_of_ble_eq_true rfl) (fun _ => rfl) (fun a qs M => ?_)
  unfold b_law_weights_right
  exact (sm_seq (γ' := Unit) (Γ1 := fun g3 _ => [(0, ((dL (α := (List Int))) a.1)), (1, ((dL (α := Str)) a.2.1)), (2, ((dL (α := Int)) a.2.2.1)), (3, (dB a.2.2.2))]) (M1 := fun g3 _ => M) (sm_ifM (b := fun (r1 : Bool) => (!r1)) (tm_not (tm_emB (b := fun (r : Bool) => r) (em_callP0 (a := (a.2.2.1, ((List.length a.1 : Nat) : Int))) (av_cons (ev_var (i := 2) rfl) (av_cons (ev_len (lv_dn (ev_var (i := 0) rfl))) av_nil)) rfl (fun _ _ => rfl)))) (fun r1 _ _ => (sm_ret (g := fun b2 => b2) (em_ev (β := Bool) (D := dB) ev_bl) (fun _ _ => rfl) (fun _ _ => MLe.rfl))) (fun r1 _ _ => (sm_nil (fun _ => 0) ⟨rfl, rfl, rfl, rfl, trivial⟩ MLe.rfl))) (fun g3 _ => (sm_set (em_callP0 (a := (a.1, ((List.length a.2.1 : Nat) : Int), a.2.2.1)) (av_cons (ev_var (i := 0) rfl) (av_cons (ev_len (lv_dn (ev_var (i := 1) rfl))) (av_cons (ev_var (i := 2) rfl) av_nil))) rfl (fun _ _ => rfl)) (by decide) (fun b4 ps5 => (sm_set (em_ev (β := Bool) (D := dB) ev_bl) (by decide) (fun b6 ps7 => (sm_for (γ' := (Bool)) (Γl := fun g10 ps11 => [(0, ((dL (α := (List Int))) a.1)), (1, ((dL (α := Str)) a.2.1)), (2, ((dL (α := Int)) a.2.2.1)), (3, (dB a.2.2.2)), (4, ((dL (α := Int)) b4)), (5, (dB g10))]) (Ml := fun g10 ps11 => M) (xs := fun b8 => (rng 0 ((List.length a.2.1 : Nat) : Int))) (g0 := fun b8 => b6) (adds := fun x9 => [(6, (dI x9))]) (sl := [6]) (f := fun b8 x9 g10 => (seqO (γ := Unit) (chk (((True ∧ True ∧ inR a.2.1 x9) ∧ True) ∧ ((decide ((getI a.2.1 x9) = ("free" : Str))) = true → ((True ∧ True ∧ inR b4 x9) ∧ True))) (if ((decide ((getI a.2.1 x9) = ("free" : Str))) && (!decide ((getI b4 x9) = (0 : Int)))) = true then (R.bind (chk True (.ok false)) fun b13 => .ok (.rt b13)) else (.ok (.nx ())))) fun g14 => (seqO (γ := Unit) (chk (((True ∧ True ∧ inR a.2.1 x9) ∧ True) ∧ ((decide ((getI a.2.1 x9) = ("positive" : Str))) = true → ((True ∧ True ∧ inR b4 x9) ∧ True))) (if ((decide ((getI a.2.1 x9) = ("positive" : Str))) && (decide ((getI b4 x9) < (0 : Int)))) = true then (R.bind (chk True (.ok false)) fun b16 => .ok (.rt b16)) else (.ok (.nx ())))) fun g17 => (seqO (γ := Unit) (chk (((True ∧ True ∧ inR a.2.1 x9) ∧ True) ∧ ((decide ((getI a.2.1 x9) = ("negative" : Str))) = true → ((True ∧ True ∧ inR b4 x9) ∧ True))) (if ((decide ((getI a.2.1 x9) = ("negative" : Str))) && (decide ((0 : Int) < (getI b4 x9)))) = true then (R.bind (chk True (.ok false)) fun b19 => .ok (.rt b19)) else (.ok (.nx ())))) fun g20 => (seqO (γ := (Bool)) (R.bind (R.bind (chk ((True ∧ True ∧ inR a.2.1 x9) ∧ (True ∧ (True ∧ True))) (.ok (decide ((getI a.2.1 x9) ∈ ([("positive" : Str), ("negative" : Str)] : List Str))))) fun a21 => if a21 = true then R.bind (chk ((True ∧ True ∧ inR b4 x9) ∧ True) (.ok (!decide ((getI b4 x9) = (0 : Int))))) fun b22 => .ok b22 else .ok false) fun r23 => if r23 = true then (R.bind (chk True (.ok true)) fun b24 => (.ok (.nx b24))) else (.ok (.nx g10))) fun g26 => (.ok (.nx g26))))))) (fun _ => (fun _ => 0)) (it_range1 (j := fun _ => ((List.length a.2.1 : Nat) : Int)) (am_av (β := Unit) (Ds := fun _ => [dI ((List.length a.2.1 : Nat) : Int)]) (x := ()) (av_cons (ev_len (lv_dn (ev_var (i := 1) rfl))) av_nil))) (fun _ _ => mk_nil) (fun _ => ⟨rfl, rfl, rfl, rfl, rfl, rfl, trivial⟩) (fun _ => MLe.rfl) (fun x9 => (gt_name (by decide))) (fun b8 x9 g10 ps11 => (sm_seq (γ' := Unit) (Γ1 := fun g14 _ => [(0, ((dL (α := (List Int))) a.1)), (1, ((dL (α := Str)) a.2.1)), (2, ((dL (α := Int)) a.2.2.1)), (3, (dB a.2.2.2)), (4, ((dL (α := Int)) b4)), (5, (dB g10)), (6, (dI x9))]) (M1 := fun g14 _ => M) (sm_if (tv_and (tv_test (ev_eqS (ev_ixL (lv_dn (ev_var (i := 1) rfl)) (ev_var (i := 6) rfl)) ev_str)) (tv_test (ev_neI (ev_ixL (lv_dn (ev_var (i := 4) rfl)) (ev_var (i := 6) rfl)) ev_int))) (fun _ => (sm_ret (g := fun b13 => b13) (em_ev (β := Bool) (D := dB) ev_bl) (fun _ _ => rfl) (fun _ _ => MLe.rfl))) (fun _ => (sm_nil (fun _ => 0) ⟨rfl, rfl, rfl, rfl, rfl, rfl, rfl, trivial⟩ MLe.rfl))) (fun g14 _ => (sm_seq (γ' := Unit) (Γ1 := fun g17 _ => [(0, ((dL (α := (List Int))) a.1)), (1, ((dL (α := Str)) a.2.1)), (2, ((dL (α := Int)) a.2.2.1)), (3, (dB a.2.2.2)), (4, ((dL (α := Int)) b4)), (5, (dB g10)), (6, (dI x9))]) (M1 := fun g17 _ => M) (sm_if (tv_and (tv_test (ev_eqS (ev_ixL (lv_dn (ev_var (i := 1) rfl)) (ev_var (i := 6) rfl)) ev_str)) (tv_test (ev_cmp (ev_ixL (lv_dn (ev_var (i := 4) rfl)) (ev_var (i := 6) rfl)) ev_int))) (fun _ => (sm_ret (g := fun b16 => b16) (em_ev (β := Bool) (D := dB) ev_bl) (fun _ _ => rfl) (fun _ _ => MLe.rfl))) (fun _ => (sm_nil (fun _ => 0) ⟨rfl, rfl, rfl, rfl, rfl, rfl, rfl, trivial⟩ MLe.rfl))) (fun g17 _ => (sm_seq (γ' := Unit) (Γ1 := fun g20 _ => [(0, ((dL (α := (List Int))) a.1)), (1, ((dL (α := Str)) a.2.1)), (2, ((dL (α := Int)) a.2.2.1)), (3, (dB a.2.2.2)), (4, ((dL (α := Int)) b4)), (5, (dB g10)), (6, (dI x9))]) (M1 := fun g20 _ => M) (sm_if (tv_and (tv_test (ev_eqS (ev_ixL (lv_dn (ev_var (i := 1) rfl)) (ev_var (i := 6) rfl)) ev_str)) (tv_test (ev_cmp (ev_ixL (lv_dn (ev_var (i := 4) rfl)) (ev_var (i := 6) rfl)) ev_int))) (fun _ => (sm_ret (g := fun b19 => b19) (em_ev (β := Bool) (D := dB) ev_bl) (fun _ _ => rfl) (fun _ _ => MLe.rfl))) (fun _ => (sm_nil (fun _ => 0) ⟨rfl, rfl, rfl, rfl, rfl, rfl, rfl, trivial⟩ MLe.rfl))) (fun g20 _ => (sm_last (sm_seq (γ' := (Bool)) (Γ1 := fun g26 _ => [(0, ((dL (α := (List Int))) a.1)), (1, ((dL (α := Str)) a.2.1)), (2, ((dL (α := Int)) a.2.2.1)), (3, (dB a.2.2.2)), (4, ((dL (α := Int)) b4)), (5, (dB g26)), (6, (dI x9))]) (M1 := fun g26 _ => M) (sm_ifM (b := fun (r23 : Bool) => r23) (tm_and (b1 := fun (r : Bool) => r) (b2 := fun (r : Bool) => r) (tm_em (b := fun (r : Bool) => r) (em_inT (x := (getI a.2.1 x9)) (ys := [("positive" : Str), ("negative" : Str)]) (ev_ixL (lv_dn (ev_var (i := 1) rfl)) (ev_var (i := 6) rfl)) (av_cons ev_str (av_cons ev_str av_nil)) (Nat.le_of_ble_eq_true rfl))) (tm_tv (tv_test (ev_neI (ev_ixL (lv_dn (ev_var (i := 4) rfl)) (ev_var (i := 6) rfl)) ev_int)))) (fun r23 _ _ => (sm_last (sm_set (em_ev (β := Bool) (D := dB) ev_bl) (by decide) (fun b24 ps25 => (sm_nil (fun _ => 0) ⟨rfl, rfl, rfl, rfl, rfl, rfl, rfl, trivial⟩ MLe.rfl))))) (fun r23 _ _ => (sm_nil (fun _ => 0) ⟨rfl, rfl, rfl, rfl, rfl, rfl, rfl, trivial⟩ MLe.rfl))) (fun g26 _ => (sm_nil (fun _ => 0) ⟨rfl, rfl, rfl, rfl, rfl, rfl, trivial⟩ MLe.rfl))))))))))) (fun g10 ps11 => (sm_ret (g := fun b27 => b27) (em_ev (β := Bool) (D := dB) (ev_or (ev_var (i := 5) rfl) (ev_not (ev_var (i := 3) rfl)))) (fun _ _ => rfl) (fun _ _ => MLe.rfl))))))))))
theorem okH_law_weights_right (T : Txt P K mg ad) : L2H.FnH P w K mg base CX0 3 ad.f_law_weights_right ad.d_law_weights_right ["_law_rows_here", "_law_kinds_here", "_law_weights", "_law_strict"] (sp_law_weights_right K ad) := by
  refine okH T.F_law_weights_right sc_law_weights_right (fun vs H Q E h => spg_len (k := 4) (fun _ _ => rfl) h) (fun cdv A outer s H vs Q E p hc hr h => ?_)
  have hu := hu_ofH hr
  refine ⟨_, (pss_cons (ps_if (pt_not (pt_val (pe_callHT (okH_law_list_of (P := P) (w := w) (K := K) (mg := mg) (base := base) T) (hr.mono (by decide)) hc (by rfl) T.g_law_list_of T.F_law_list_of.kp T.B_law_list_of (pa_cons (pv 2) (pa_cons (pe_callB (id := "len") (call_len_seqK (K := K) rfl) (by rfl) T.z_len PySem.boot_len (pa_cons (pv 0) pa_nil)) pa_nil))))) (pss_one (ps_ret pe_bl)) pss_nil)
      (pss_cons (ps_set (i := 4) sc_law_weights_right.nd rfl (by first | exact Or.inl rfl | exact Or.inr rfl) (pe_callHT (okH_law_totals (P := P) (w := w) (K := K) (mg := mg) (base := base) T) (hr.mono (by decide)) hc (by rfl) T.g_law_totals T.F_law_totals.kp T.B_law_totals (pa_cons (pv 0) (pa_cons (pe_callB (id := "len") (call_len_seqK (K := K) rfl) (by rfl) T.z_len PySem.boot_len (pa_cons (pv 1) pa_nil)) (pa_cons (pv 2) pa_nil)))))
      (pss_cons (ps_set (i := 5) sc_law_weights_right.nd rfl (by first | exact Or.inl rfl | exact Or.inr rfl) pe_bl)
      (pss_cons (L2H.ps_forH PassesOwn.never hc (L2H.pi_range1H (by rfl) T.z_range (pa_cons (pe_callB (id := "len") (call_len_seqK (K := K) rfl) (by rfl) T.z_len PySem.boot_len (pa_cons (pv 1) pa_nil)) pa_nil)) (pg_name (i := 6) sc_law_weights_right.nd rfl (by first | exact Or.inl rfl | exact Or.inr rfl))
      (pss_cons (ps_if (PW.pt (pw_and (pt_cmpR op_eq (pe_ix (ix_listK (K := K) rfl) (pv 1) (pv 6) (fun _ _ => rfl)) pe_str (nomark _)) (pw_and1 (pt_cmpR op_ne (pe_ix (ix_listK (K := K) rfl) (pv 4) (pv 6) (fun _ _ => rfl)) pe_int (nomark _))))) (pss_one (ps_ret pe_bl)) pss_nil)
      (pss_cons (ps_if (PW.pt (pw_and (pt_cmpR op_eq (pe_ix (ix_listK (K := K) rfl) (pv 1) (pv 6) (fun _ _ => rfl)) pe_str (nomark _)) (pw_and1 (pt_cmpR op_lt (pe_ix (ix_listK (K := K) rfl) (pv 4) (pv 6) (fun _ _ => rfl)) pe_int (nomark _))))) (pss_one (ps_ret pe_bl)) pss_nil)
      (pss_cons (ps_if (PW.pt (pw_and (pt_cmpR op_eq (pe_ix (ix_listK (K := K) rfl) (pv 1) (pv 6) (fun _ _ => rfl)) pe_str (nomark _)) (pw_and1 (pt_cmpR op_gt (pe_ix (ix_listK (K := K) rfl) (pv 4) (pv 6) (fun _ _ => rfl)) pe_int (nomark _))))) (pss_one (ps_ret pe_bl)) pss_nil)
      (pss_one (ps_if (PW.pt (pw_and (pt_cmpR (op_in_seqK (K := K) rfl) (pe_ix (ix_listK (K := K) rfl) (pv 1) (pv 6) (fun _ _ => rfl)) (pe_tup (pa_cons pe_str (pa_cons pe_str pa_nil))) (by rfl)) (pw_and1 (pt_cmpR op_ne (pe_ix (ix_listK (K := K) rfl) (pv 4) (pv 6) (fun _ _ => rfl)) pe_int (nomark _))))) (pss_one (ps_set (i := 5) sc_law_weights_right.nd rfl (by first | exact Or.inl rfl | exact Or.inr rfl) pe_bl)) pss_nil))))))
      (pss_one (ps_ret (pe_or (pv 5) (pe_one (pe_not (pv 3)))))))))), ?_⟩
  refine def_ret (n := 7) (γ := Empty) (δ := Empty) (body := b_law_weights_right) (Γn := fun _ _ _ _ => []) (Mn := fun _ _ _ _ => []) (Γl := fun _ _ _ _ => []) (Ml := fun _ _ _ _ => []) h rfl (fun _ _ => Nat.le_of_ble_eq_true rfl) (fun _ => rfl) (fun a qs M => ?_)
  unfold b_law_weights_right
  exact (sm_seq (γ' := Unit) (Γ1 := fun g3 _ => [(0, ((dL (α := (List Int))) a.1)), (1, ((dL (α := Str)) a.2.1)), (2, ((dL (α := Int)) a.2.2.1)), (3, (dB a.2.2.2))]) (M1 := fun g3 _ => M) (sm_ifM (b := fun (r1 : Bool) => (!r1)) (tm_not (tm_emB (b := fun (r : Bool) => r) (em_callP0 (a := (a.2.2.1, ((List.length a.1 : Nat) : Int))) (av_cons (ev_var (i := 2) rfl) (av_cons (ev_len (lv_dn (ev_var (i := 0) rfl))) av_nil)) rfl (fun _ _ => rfl)))) (fun r1 _ _ => (sm_ret (g := fun b2 => b2) (em_ev (β := Bool) (D := dB) ev_bl) (fun _ _ => rfl) (fun _ _ => MLe.rfl))) (fun r1 _ _ => (sm_nil (fun _ => 0) ⟨rfl, rfl, rfl, rfl, trivial⟩ MLe.rfl))) (fun g3 _ => (sm_set (em_callP0 (a := (a.1, ((List.length a.2.1 : Nat) : Int), a.2.2.1)) (av_cons (ev_var (i := 0) rfl) (av_cons (ev_len (lv_dn (ev_var (i := 1) rfl))) (av_cons (ev_var (i := 2) rfl) av_nil))) rfl (fun _ _ => rfl)) (by decide) (fun b4 ps5 => (sm_set (em_ev (β := Bool) (D := dB) ev_bl) (by decide) (fun b6 ps7 => (sm_for (γ' := (Bool)) (Γl := fun g10 ps11 => [(0, ((dL (α := (List Int))) a.1)), (1, ((dL (α := Str)) a.2.1)), (2, ((dL (α := Int)) a.2.2.1)), (3, (dB a.2.2.2)), (4, ((dL (α := Int)) b4)), (5, (dB g10))]) (Ml := fun g10 ps11 => M) (xs := fun b8 => (rng 0 ((List.length a.2.1 : Nat) : Int))) (g0 := fun b8 => b6) (adds := fun x9 => [(6, (dI x9))]) (sl := [6]) (f := fun b8 x9 g10 => (seqO (γ := Unit) (chk (((True ∧ True ∧ inR a.2.1 x9) ∧ True) ∧ ((decide ((getI a.2.1 x9) = ("free" : Str))) = true → ((True ∧ True ∧ inR b4 x9) ∧ True))) (if ((decide ((getI a.2.1 x9) = ("free" : Str))) && (!decide ((getI b4 x9) = (0 : Int)))) = true then (R.bind (chk True (.ok false)) fun b13 => .ok (.rt b13)) else (.ok (.nx ())))) fun g14 => (seqO (γ := Unit) (chk (((True ∧ True ∧ inR a.2.1 x9) ∧ True) ∧ ((decide ((getI a.2.1 x9) = ("positive" : Str))) = true → ((True ∧ True ∧ inR b4 x9) ∧ True))) (if ((decide ((getI a.2.1 x9) = ("positive" : Str))) && (decide ((getI b4 x9) < (0 : Int)))) = true then (R.bind (chk True (.ok false)) fun b16 => .ok (.rt b16)) else (.ok (.nx ())))) fun g17 => (seqO (γ := Unit) (chk (((True ∧ True ∧ inR a.2.1 x9) ∧ True) ∧ ((decide ((getI a.2.1 x9) = ("negative" : Str))) = true → ((True ∧ True ∧ inR b4 x9) ∧ True))) (if ((decide ((getI a.2.1 x9) = ("negative" : Str))) && (decide ((0 : Int) < (getI b4 x9)))) = true then (R.bind (chk True (.ok false)) fun b19 => .ok (.rt b19)) else (.ok (.nx ())))) fun g20 => (seqO (γ := (Bool)) (R.bind (R.bind (chk ((True ∧ True ∧ inR a.2.1 x9) ∧ (True ∧ (True ∧ True))) (.ok (decide ((getI a.2.1 x9) ∈ ([("positive" : Str), ("negative" : Str)] : List Str))))) fun a21 => if a21 = true then R.bind (chk ((True ∧ True ∧ inR b4 x9) ∧ True) (.ok (!decide ((getI b4 x9) = (0 : Int))))) fun b22 => .ok b22 else .ok false) fun r23 => if r23 = true then (R.bind (chk True (.ok true)) fun b24 => (.ok (.nx b24))) else (.ok (.nx g10))) fun g26 => (.ok (.nx g26))))))) (fun _ => (fun _ => 0)) (it_range1 (j := fun _ => ((List.length a.2.1 : Nat) : Int)) (am_av (β := Unit) (Ds := fun _ => [dI ((List.length a.2.1 : Nat) : Int)]) (x := ()) (av_cons (ev_len (lv_dn (ev_var (i := 1) rfl))) av_nil))) (fun _ _ => mk_nil) (fun _ => ⟨rfl, rfl, rfl, rfl, rfl, rfl, trivial⟩) (fun _ => MLe.rfl) (fun x9 => (gt_name (by decide))) (fun b8 x9 g10 ps11 => (sm_seq (γ' := Unit) (Γ1 := fun g14 _ => [(0, ((dL (α := (List Int))) a.1)), (1, ((dL (α := Str)) a.2.1)), (2, ((dL (α := Int)) a.2.2.1)), (3, (dB a.2.2.2)), (4, ((dL (α := Int)) b4)), (5, (dB g10)), (6, (dI x9))]) (M1 := fun g14 _ => M) (sm_if (tv_and (tv_test (ev_eqS (ev_ixL (lv_dn (ev_var (i := 1) rfl)) (ev_var (i := 6) rfl)) ev_str)) (tv_test (ev_neI (ev_ixL (lv_dn (ev_var (i := 4) rfl)) (ev_var (i := 6) rfl)) ev_int))) (fun _ => (sm_ret (g := fun b13 => b13) (em_ev (β := Bool) (D := dB) ev_bl) (fun _ _ => rfl) (fun _ _ => MLe.rfl))) (fun _ => (sm_nil (fun _ => 0) ⟨rfl, rfl, rfl, rfl, rfl, rfl, rfl, trivial⟩ MLe.rfl))) (fun g14 _ => (sm_seq (γ' := Unit) (Γ1 := fun g17 _ => [(0, ((dL (α := (List Int))) a.1)), (1, ((dL (α := Str)) a.2.1)), (2, ((dL (α := Int)) a.2.2.1)), (3, (dB a.2.2.2)), (4, ((dL (α := Int)) b4)), (5, (dB g10)), (6, (dI x9))]) (M1 := fun g17 _ => M) (sm_if (tv_and (tv_test (ev_eqS (ev_ixL (lv_dn (ev_var (i := 1) rfl)) (ev_var (i := 6) rfl)) ev_str)) (tv_test (ev_cmp (ev_ixL (lv_dn (ev_var (i := 4) rfl)) (ev_var (i := 6) rfl)) ev_int))) (fun _ => (sm_ret (g := fun b16 => b16) (em_ev (β := Bool) (D := dB) ev_bl) (fun _ _ => rfl) (fun _ _ => MLe.rfl))) (fun _ => (sm_nil (fun _ => 0) ⟨rfl, rfl, rfl, rfl, rfl, rfl, rfl, trivial⟩ MLe.rfl))) (fun g17 _ => (sm_seq (γ' := Unit) (Γ1 := fun g20 _ => [(0, ((dL (α := (List Int))) a.1)), (1, ((dL (α := Str)) a.2.1)), (2, ((dL (α := Int)) a.2.2.1)), (3, (dB a.2.2.2)), (4, ((dL (α := Int)) b4)), (5, (dB g10)), (6, (dI x9))]) (M1 := fun g20 _ => M) (sm_if (tv_and (tv_test (ev_eqS (ev_ixL (lv_dn (ev_var (i := 1) rfl)) (ev_var (i := 6) rfl)) ev_str)) (tv_test (ev_cmp (ev_ixL (lv_dn (ev_var (i := 4) rfl)) (ev_var (i := 6) rfl)) ev_int))) (fun _ => (sm_ret (g := fun b19 => b19) (em_ev (β := Bool) (D := dB) ev_bl) (fun _ _ => rfl) (fun _ _ => MLe.rfl))) (fun _ => (sm_nil (fun _ => 0) ⟨rfl, rfl, rfl, rfl, rfl, rfl, rfl, trivial⟩ MLe.rfl))) (fun g20 _ => (sm_last (sm_seq (γ' := (Bool)) (Γ1 := fun g26 _ => [(0, ((dL (α := (List Int))) a.1)), (1, ((dL (α := Str)) a.2.1)), (2, ((dL (α := Int)) a.2.2.1)), (3, (dB a.2.2.2)), (4, ((dL (α := Int)) b4)), (5, (dB g26)), (6, (dI x9))]) (M1 := fun g26 _ => M) (sm_ifM (b := fun (r23 : Bool) => r23) (tm_and (b1 := fun (r : Bool) => r) (b2 := fun (r : Bool) => r) (tm_em (b := fun (r : Bool) => r) (em_inT (x := (getI a.2.1 x9)) (ys := [("positive" : Str), ("negative" : Str)]) (ev_ixL (lv_dn (ev_var (i := 1) rfl)) (ev_var (i := 6) rfl)) (av_cons ev_str (av_cons ev_str av_nil)) (Nat.le_of_ble_eq_true rfl))) (tm_tv (tv_test (ev_neI (ev_ixL (lv_dn (ev_var (i := 4) rfl)) (ev_var (i := 6) rfl)) ev_int)))) (fun r23 _ _ => (sm_last (sm_set (em_ev (β := Bool) (D := dB) ev_bl) (by decide) (fun b24 ps25 => (sm_nil (fun _ => 0) ⟨rfl, rfl, rfl, rfl, rfl, rfl, rfl, trivial⟩ MLe.rfl))))) (fun r23 _ _ => (sm_nil (fun _ => 0) ⟨rfl, rfl, rfl, rfl, rfl, rfl, rfl, trivial⟩ MLe.rfl))) (fun g26 _ => (sm_nil (fun _ => 0) ⟨rfl, rfl, rfl, rfl, rfl, rfl, trivial⟩ MLe.rfl))))))))))) (fun g10 ps11 => (sm_ret (g := fun b27 => b27) (em_ev (β := Bool) (D := dB) (ev_or (ev_var (i := 5) rfl) (ev_not (ev_var (i := 3) rfl)))) (fun _ _ => rfl) (fun _ _ => MLe.rfl))))))))))
end
noncomputable def b_law_right (a : ((List (List Int)) × (List Str))) : R (Out Empty Empty Bool) :=
  (R.bind (R.bind (chk True (.ok a.1)) fun b1 => lcM (fun x2 => (R.bind (chk True (.ok x2)) fun r5 => .ok r5)) b1) fun b6 => (R.bind (chk True (.ok a.2)) fun b8 => (seqO (γ := (List Int)) (chk (True ∧ (True ∧ True)) (tryI 1 (m_balance (b6, b8)) (fun g19 => g19) (fun l10 => (R.bind (chk (True ∧ (true = true → ((True ∧ True ∧ (DE.ok b6 ∧ DE.ok a.1)) ∧ ((@decide (b6 = a.1) (Classical.propDecidable _)) = true → (True ∧ True ∧ (DE.ok b8 ∧ DE.ok a.2)))))) (.ok (true && ((@decide (b6 = a.1) (Classical.propDecidable _)) && (@decide (b8 = a.2) (Classical.propDecidable _)))))) fun b14 => (R.bind (R.bind (chk True (.ok b14)) fun a16 => if a16 = true then R.bind (chk (True ∧ (True ∧ (True ∧ (True ∧ True)))) (R.nx (m_law_weights_right (a.1, a.2, l10, true)))) fun b17 => .ok b17 else .ok false) fun b18 => .ok (.rt b18)))))) fun g19 => (seqO (γ := Unit) (R.bind (chk (True ∧ (True ∧ (True ∧ (True ∧ True)))) (R.nx (m_law_numbers_right (a.1, a.2, g19, true)))) fun r22 => if (!r22) = true then (R.bind (chk True (.ok false)) fun b23 => .ok (.rt b23)) else (.ok (.nx ()))) fun g24 => (R.bind (R.bind (chk True (.ok (7 : Int))) fun b25 => chk ((g19).length ≤ 16000000) (.ok b25)) fun b25 => (R.bind (chk ((True ∧ True ∧ (DE.ok b6 ∧ DE.ok a.1)) ∧ ((@decide (b6 = a.1) (Classical.propDecidable _)) = true → (True ∧ True ∧ (DE.ok b8 ∧ DE.ok a.2)))) (.ok ((@decide (b6 = a.1) (Classical.propDecidable _)) && (@decide (b8 = a.2) (Classical.propDecidable _))))) fun b26 => .ok (.rt b26)))))))
noncomputable def m_law_right (a : ((List (List Int)) × (List Str))) : R Bool := runE (b_law_right a)
abbrev sp_law_right (K : PySem.W.Frag) (ad : Ad) : Sp := SpG (xd ad) (α := ((List (List Int)) × (List Str))) (β := Bool) (fun a qs => [((dL (α := (List Int))) a.1), ((dL (α := Str)) a.2)]) (fun a qs => []) m_law_right (fun a qs r ps => (dB r)) (fun a qs r ps => [])
section
variable {P : Program} {w : World} {K : PySem.W.Frag} {mg : Str → Option Value} {base : Heap} {ad : Ad}
theorem ok_law_right (T : Txt P K mg ad) : FnOk P w K mg base CX0 6 ad.f_law_right ad.d_law_right ["_law_rows_here", "_law_kinds_here"] (sp_law_right K ad) := by
  refine T.F_law_right.ok sc_law_right (fun vs H Q E h => spg_len (k := 2) (fun _ _ => rfl) h) (fun cdv A outer s H vs Q E hr h => ?_)
  have hu := hu_of hr
  refine ⟨_, (pss_cons (ps_setLc (i := 2) (own := [("_law_row", 3)]) (g := gName 3) (tt := tYes) rfl sc_law_right.nd rfl rfl (sw_true rfl rfl rfl (by decide +kernel)) (pi_listK (K := K) rfl (pv 0)) (blkOk_by (own := [("_law_row", 3)]) (N := ["_law_rows_here", "_law_kinds_here", "_law_handed", "_law_row", "_law_words", "_law_told", "e", "_law_fine"]) (sc := defScope s_law_right) (by decide +kernel)) (fun _ _ _ _ _ => (pg_name (i := 3) sc_law_right.nd rfl (by first | exact Or.inl rfl | exact Or.inr rfl))) (fun _ _ _ _ _ => pts_nil) (fun _ _ _ _ _ => (pe_callTy (call_list_ofK (K := K) rfl) (by rfl) T.z_list (by decide +kernel) (pa_cons (pv 3) pa_nil))))
      (pss_cons (ps_set (i := 4) sc_law_right.nd rfl (by first | exact Or.inl rfl | exact Or.inr rfl) (pe_callTy (call_list_ofK (K := K) rfl) (by rfl) T.z_list (by decide +kernel) (pa_cons (pv 1) pa_nil)))
      (pss_cons (L2N.ps_try_as (i := 6) (c := .ref ad.c_NoBalance) (Wout := fun _ _ _ _ => False) rfl rfl sc_law_right.nd rfl rfl ⟨rfl, by decide, .inl T.xi_NoBalance.gC⟩ takesN0
      (fun W pn xe tk _ => (pss_one (ps_set (i := 5) sc_law_right.nd rfl (by first | exact Or.inl rfl | exact Or.inr rfl) (pe_callS (ok_balance (P := P) (w := w) (K := K) (mg := mg) (base := base) T) (hr.mono (by decide)) (by rfl) T.g_balance T.F_balance.kp T.B_balance (fun σ => L2N.passAt tk σ) (pa_cons (pv 2) (pa_cons (pv 4) pa_nil))))))
      (fun a oe cls d pn hz hf => (pss_cons (ps_set (i := 7) sc_law_right.nd rfl (by first | exact Or.inl rfl | exact Or.inr rfl) (pe_and (pe_callB (id := "isinstance") (call_isX (K := K) rfl T.ec_NoBalance hz.zc hf) (by rfl) T.z_isinstance (by decide +kernel) (pa_cons (pv 6) (pa_cons (pe_glob (v := .ref ad.c_PlanError) (by rfl) T.g_PlanError rfl) pa_nil))) (pe_and (pe_cmpR (op_eqDK (K := K) rfl hr.units) (pv 2) (pv 0) (nomark _)) (pe_one (pe_cmpR (op_eqDK (K := K) rfl hr.units) (pv 4) (pv 1) (nomark _))))))
      (pss_one (ps_ret (pe_and (pv 7) (pe_one (pe_callHT (okH_law_weights_right (P := P) (w := w) (K := K) (mg := mg) (base := base) T) ((roomH_suite hr).mono (by decide)) (hot_suite hz hf) (by rfl) T.g_law_weights_right T.F_law_weights_right.kp T.B_law_weights_right (pa_cons (pv 0) (pa_cons (pv 1) (pa_cons (pe_xf (xfc_of T.xi_NoBalance) T.xi_NoBalance.noN hz.zc hf (pv 6) (by rfl)) (pa_cons pe_bl pa_nil))))))))))))
      (pss_cons (ps_if (pt_not (pt_val (pe_call (ok_law_numbers_right (P := P) (w := w) (K := K) (mg := mg) (base := base) T) (hr.mono (by decide)) (by rfl) T.g_law_numbers_right T.F_law_numbers_right.kp T.B_law_numbers_right .nil pass0 (pa_cons (pv 0) (pa_cons (pv 1) (pa_cons (pv 5) (pa_cons pe_bl pa_nil))))))) (pss_one (ps_ret pe_bl)) pss_nil)
      (pss_cons (ps_expr (pe_bm PySem.F.plainAttrs_list PySem.F.slot_list_append PySem.F.type_list_append mt_append (pv 5) (pa_cons pe_int pa_nil)))
      (pss_one (ps_ret (pe_and (pe_cmpR (op_eqDK (K := K) rfl hr.units) (pv 2) (pv 0) (nomark _)) (pe_one (pe_cmpR (op_eqDK (K := K) rfl hr.units) (pv 4) (pv 1) (nomark _))))))))))), ?_⟩
  try simp only [cxK, cxK2]
  refine def_ret (n := 8) (γ := Empty) (δ := Empty) (body := b_law_right) (Γn := fun _ _ _ _ => []) (Mn := fun _ _ _ _ => []) (Γl := fun _ _ _ _ => []) (Ml := fun _ _ _ _ => []) h rfl (fun _ _ => Nat.le_of_ble_eq_true rfl) (fun _ => rfl) (fun a qs M => ?_)
  unfold b_law_right
  exact (sm_set (em_frz (α := (List Int)) (f := fun (r : (List (List Int))) => r) (Mf := fun (r : (List (List Int))) => M) (em_lcM (η := (List Int)) (M0 := M) (Γw := [(0, ((dL (α := (List Int))) a.1)), (1, ((dL (α := Str)) a.2))]) (adds := fun (x2 : (List Int)) => [(3, ((dL (α := Int)) x2))]) (sl := [3]) (xs := fun (b1 : (List (List Int))) => b1) (f := fun (b1 : (List (List Int))) (x2 : (List Int)) => (R.bind (chk True (.ok x2)) fun r5 => .ok r5)) (it_list (α := (List Int)) (β := (List (List Int))) (xs := fun (b : (List (List Int))) => b) (em_ev (β := (List (List Int))) (D := (dL (α := (List Int)))) (ev_var (i := 0) rfl))) mk_nil ⟨rfl, by decide, rfl, by decide, trivial⟩ (fun x2 => (gt_name (by decide))) (by decide) (fun (b1 : (List (List Int))) (x2 : (List Int)) Dd3 cc4 => em_map (h := fun (r5 : (List Int)) => r5) (em_frz (α := Int) (f := fun (r : (List Int)) => r) (Mf := fun (r : (List Int)) => ((Dd3, cc4) :: M)) (em_listof (lv_dn (ev_var (i := 3) rfl)))) (fun _ _ => rfl) (fun _ _ => MLe.rfl)))) (by decide) (fun b6 ps7 => (sm_set (em_frz (α := Str) (f := fun (r : (List Str)) => r) (Mf := fun (r : (List Str)) => M) (em_listof (lv_dn (ev_var (i := 1) rfl)))) (by decide) (fun b8 ps9 => (sm_seq (γ' := (List Int)) (Γ1 := fun (g19 : (List Int)) ps20 => [(5, dR (ps20 0)), (0, ((dL (α := (List Int))) a.1)), (1, ((dL (α := Str)) a.2)), (2, ((dL (α := (List Int))) b6)), (4, ((dL (α := Str)) b8))]) (M1 := fun (g19 : (List Int)) ps20 => (((ps20 0), cL (α := Int) g19) :: M)) (sm_tryI (ki := 1) (a := (b6, b8)) (C := ad.c_NoBalance) (f := "weights") (j := 6) (gg := fun (r : (List Int)) => r) (adds := fun (g19 : (List Int)) ps20 => [(5, dR (ps20 0))]) (sl := [5]) (fun _ => 0) M (fun (g19 : (List Int)) ps20 => dR (ps20 0)) (av_cons (ev_var (i := 2) rfl) (av_cons (ev_var (i := 4) rfl) av_nil)) MLe.rfl (fun _ _ => post_same MLe.rfl) (fun g19 ps20 => (gt_name (by decide))) (fun _ _ => ⟨rfl, rfl, rfl, rfl, rfl, trivial⟩) T.xi_NoBalance.te rfl (by decide) (fun _ _ => rfl) (fun _ _ => rfl) (fun l10 p11 cl12 d13 => (sm_set (em_ev (β := Bool) (D := dB) (ev_and (ev_isX (ev_var (i := 6) rfl) ev_cls T.kt_NoBalance_PlanError) (ev_and (ev_eqD (by decide) (ev_var (i := 2) rfl) (ev_var (i := 0) rfl)) (ev_eqD (by decide) (ev_var (i := 4) rfl) (ev_var (i := 1) rfl))))) (by decide) (fun b14 ps15 => (sm_ret (g := fun b18 => b18) (em_and (b1 := fun (r : Bool) => r) (b2 := fun (r : Bool) => r) (em_ev (β := Bool) (D := dB) (ev_var (i := 7) rfl)) (em_callP0 (a := (a.1, a.2, l10, true)) (av_cons (ev_var (i := 0) rfl) (av_cons (ev_var (i := 1) rfl) (av_cons (ev_xf (g := .ints l10) (ev_var (i := 6) rfl)) (av_cons ev_bl av_nil)))) rfl (fun _ _ => rfl))) (fun _ _ => rfl) (fun _ _ => MLe.rfl)))))) (fun g19 ps20 => (sm_seq (γ' := Unit) (Γ1 := fun g24 _ => [(0, ((dL (α := (List Int))) a.1)), (1, ((dL (α := Str)) a.2)), (2, ((dL (α := (List Int))) b6)), (4, ((dL (α := Str)) b8)), (5, dR (ps20 0))]) (M1 := fun g24 _ => (((ps20 0), cL (α := Int) g19) :: M)) (sm_ifM (b := fun (r22 : Bool) => (!r22)) (tm_not (tm_emB (b := fun (r : Bool) => r) (em_callB (a := (a.1, a.2, g19, true)) (Dr := dB) (bv_cons (ev_var (i := 0) rfl) (bv_cons (ev_var (i := 1) rfl) (bv_lent (lv_own (p := (ps20 0)) 0 (ev_var (i := 5) rfl) rfl) (bv_cons ev_bl bv_nil)))) rfl (fun _ _ => rfl) (fun _ => flat_B)))) (fun r22 _ _ => (sm_ret (g := fun b23 => b23) (em_ev (β := Bool) (D := dB) ev_bl) (fun _ _ => rfl) (fun _ _ => (MLe.sbl (.cons _ (List.Sublist.refl _)))))) (fun r22 _ _ => (sm_nil (fun _ => 0) ⟨rfl, rfl, rfl, rfl, rfl, trivial⟩ MLe.rfl))) (fun g24 _ => (sm_expr (em_append (α := Int) (xs := g19) (fun _ _ h => h) (y := fun (b25 : Int) => b25) (M1 := fun (b25 : Int) => M) (ev_var (i := 5) rfl) (em_ev (β := Int) (D := dI) ev_int)) (fun b25 _ => (sm_ret (g := fun b26 => b26) (em_ev (β := Bool) (D := dB) (ev_and (ev_eqD (by decide) (ev_var (i := 2) rfl) (ev_var (i := 0) rfl)) (ev_eqD (by decide) (ev_var (i := 4) rfl) (ev_var (i := 1) rfl)))) (fun _ _ => rfl) (fun _ _ => (MLe.sbl (.cons _ (List.Sublist.refl _)))))))))))))))
end
def sp_law_pool (K : PySem.W.Frag) (ad : Ad) : Sp := fun vs H Q _ => ∃ (a : Addr) (ns : List Int), vs = [.ref a] ∧ SqL K H a (ns.map V.int) ∧ ns.length ≤ 63 ∧
  ∀ p ms H', H p = none → Tr.Sub H H' → H' p = some (pool ms) → PoolOk ms → Q (.ref p) H'
/-- what the pool's list holds between two turns -/
structure PlAt (H : Hp) (o : Addr) (n : Nat) (ms : List Int) (H' : Hp) : Prop where
  sub : Tr.Sub H H'
  at_ : H' o = some (pool ms)
  len : ms.length ≤ n
  rng : ∀ x ∈ ms, 0 ≤ x ∧ x < 4096
theorem PlAt.add {H H' : Hp} {o : Addr} {n : Nat} {ms : List Int} {x : Int} (h : PlAt H o n ms H') (no : H o = none) (h0 : 0 ≤ x) (h1 : x < 4096) : PlAt H o (n + 1) (ms ++ [x]) (upd H' o (.lst (ms.map V.int ++ [V.int x]))) := by
  refine ⟨fun a u e => ?_, ?_, ?_, fun y hy => ?_⟩
  · rw [upd_ne (ne_of_none e no)]; exact h.sub a u e
  · rw [upd_same]
    show some (HO.lst (List.map V.int ms ++ [V.int x])) = some (HO.lst ((ms ++ [x]).map V.int))
    rw [List.map_append]; rfl
  · have := h.len; rw [List.length_append, List.length_singleton]; omega
  · rcases List.mem_append.mp hy with hy | hy
    · exact h.rng y hy
    · rw [List.mem_singleton] at hy; subst hy; exact ⟨h0, h1⟩
theorem PlAt.mono {H H' : Hp} {o : Addr} {n m : Nat} {ms : List Int} (h : PlAt H o n ms H') (l : n ≤ m) : PlAt H o m ms H' := ⟨h.sub, h.at_, Nat.le_trans h.len l, h.rng⟩
theorem PlAt.ne {H H' : Hp} {o c : Addr} {n : Nat} {ms : List Int} (h : PlAt H o n ms H') (no : H o = none) {xs : List V} (e : H c = some (.lst xs)) : c ≠ o := ne_of_none e no
theorem fmod_rng (x m : Int) (hm : 0 < m) : 0 ≤ x.fmod m ∧ x.fmod m < m := by
  rw [Int.fmod_eq_emod_of_nonneg _ (by omega)]
  exact ⟨Int.emod_nonneg _ (by omega), Int.emod_lt_of_pos _ hm⟩
theorem nab62 {x : Int} (h0 : 0 ≤ x) (h1 : x < 4611686018427387904) : x.natAbs < 2 ^ 62 := by
  have e : (2 : Nat) ^ 62 = 4611686018427387904 := by decide
  rw [e]; omega
theorem st_law_pool (a0 : V) : start ["_law_script", "_law_pool_here", "_law_cell", "_law_rest", "_law_k", "_law_mixed"] [a0] = [some a0, none, none, none, none, none] := rfl
section
variable {P : Program} {w : World} {K : PySem.W.Frag} {mg : Str → Option Value} {base : Heap} {ad : Ad}
theorem ok_law_pool (T : Txt P K mg ad) : FnOk P w K mg base CX0 1 ad.f_law_pool ad.d_law_pool ["_law_script"] (sp_law_pool K ad) := by
  refine T.F_law_pool.ok sc_law_pool (fun vs H Q E h => by obtain ⟨a, ns, rfl, _⟩ := h; rfl) (fun cdv A outer s H vs Q E hr h => ?_)
  have hu := hu_of hr
  obtain ⟨a, ns, rfl, hS, hlen, k⟩ := h
  refine ⟨_, (pss_cons (ps_set (i := 1) sc_law_pool.nd rfl (by first | exact Or.inl rfl | exact Or.inr rfl) (pe_lst pa_nil))
      (pss_cons (ps_for PassesOwn.never rfl (pi_listK (K := K) rfl (pe_slice (sl_listK (K := K) rfl) (pv 0) po_none (po_some pe_int))) (pg_name (i := 2) sc_law_pool.nd rfl (by first | exact Or.inl rfl | exact Or.inr rfl))
      (pss_cons (ps_set (i := 3) sc_law_pool.nd rfl (by first | exact Or.inl rfl | exact Or.inr rfl) (pe_callB call_abs (by rfl) T.z_abs (by decide +kernel) (pa_cons (pv 2) pa_nil)))
      (pss_one (ps_if (pt_cmpR op_lt (pv 3) (pe_op op_pow pe_int pe_int) (nomark _)) (pss_one (ps_for PassesOwn.never rfl (pi_range1 rfl T.z_range (pa_cons pe_int pa_nil)) (pg_name (i := 4) sc_law_pool.nd rfl (by first | exact Or.inl rfl | exact Or.inr rfl))
      (pss_cons (ps_set (i := 5) sc_law_pool.nd rfl (by first | exact Or.inl rfl | exact Or.inr rfl) (pe_op op_modN (pe_op op_mulW (pe_op op_mulW (pe_op op_add (pv 3) pe_int) (pe_op op_add (pv 4) pe_int)) pe_int) pe_int))
      (pss_one (ps_expr (pe_bm PySem.F.plainAttrs_list PySem.F.slot_list_append PySem.F.type_list_append mt_append (pv 1) (pa_cons (pe_op op_modN (pe_op op_fdivW (pe_op op_modN (pe_op op_mulW (pv 5) pe_int) pe_int) pe_int) pe_int) pa_nil))))))) (pss_one (ps_for PassesOwn.never rfl (pi_range1 rfl T.z_range (pa_cons pe_int pa_nil)) (pg_name (i := 4) sc_law_pool.nd rfl (by first | exact Or.inl rfl | exact Or.inr rfl))
      (pss_one (ps_if (pt_cmpR op_gt (pv 3) pe_int (nomark _)) (pss_cons (ps_expr (pe_bm PySem.F.plainAttrs_list PySem.F.slot_list_append PySem.F.type_list_append mt_append (pv 1) (pa_cons (pe_op op_modN (pe_callTy call_int1 (by rfl) T.z_int (by decide +kernel) (pa_cons (pv 3) pa_nil)) pe_int) pa_nil)))
      (pss_one (ps_set (i := 3) sc_law_pool.nd rfl (by first | exact Or.inl rfl | exact Or.inr rfl) (pe_op op_fdivW (pv 3) pe_int)))) pss_nil))))))))
      (pss_one (ps_ret (pv 1))))), ?_⟩
  try simp only [cxK, cxK2]
  rw [st_law_pool]
  -- _law_pool_here = []
  refine ⟨Nat.zero_le _, fun o no => ?_⟩
  have s1 : Tr.Sub H (upd H o (.lst [])) := Tr.Sub.new no
  -- for _law_cell in _law_script[:63]
  refine ⟨.ref a, rfl, 63, rfl, a, ns.map V.int, rfl, s1.seq hS, fun c nc => ?_⟩
  have hco : c ≠ o := fun e => by rw [e, upd_same] at nc; cases nc
  have nc0 : H c = none := by rw [upd_ne hco] at nc; exact nc
  have ecut : cutV (ns.map V.int) none (some 63) = ns.map V.int := by
    unfold cutV
    rw [HT.sIx_none, show HT.sIx (ns.map V.int).length (ns.map V.int).length (some 63) = min 63 (ns.map V.int).length from HT.sIx_nat _ _ 63, List.drop_zero, Nat.sub_zero]
    exact List.take_of_length_le (by rw [List.length_map]; omega)
  rw [ecut]
  refine ⟨c, rfl, ⟨_, .inl (.inl upd_same)⟩, for_list (xs := ns.map V.int) (fun i σ H' => ∃ y2 y3 y4 y5 ms, σ = [some (.ref a), some (.ref o), y2, y3, y4, y5] ∧ H' c = some (.lst (ns.map V.int)) ∧ PlAt H o (60 * i) ms H') ?_ (fun i σ H' _ hW => ?_) (fun i x σ H' hx hW => ?_) (fun σ H' hW => ?_)⟩
  · refine ⟨none, none, none, none, [], rfl, upd_same, ⟨s1.trans (Tr.Sub.new nc), ?_, Nat.zero_le _, fun x hx => nomatch hx⟩⟩
    rw [upd_ne hco.symm, upd_same]; rfl
  · obtain ⟨_, _, _, _, _, _, ec, _⟩ := hW
    exact .inl (.inl ec)
  · obtain ⟨y2, y3, y4, y5, ms, rfl, ec, W⟩ := hW
    obtain ⟨z, rfl⟩ : ∃ z, x = .int z := by
      rw [List.getElem?_map] at hx
      cases e : ns[i]? with
      | none => rw [e] at hx; cases hx
      | some z => rw [e] at hx; cases hx; exact ⟨z, rfl⟩
    -- _law_rest = abs(_law_cell)
    refine ⟨_, rfl, z, rfl, ?_⟩
    generalize hr0 : (if z < 0 then -z else z) = r
    have r0 : 0 ≤ r := by rw [← hr0]; split <;> omega
    -- if _law_rest < 10 ** 18
    refine ⟨_, rfl, _, _, rfl, rfl, ⟨by decide, by decide, by decide⟩, _, _, rfl, rfl, _, rfl, ite2 (fun e => ?_) (fun e => ?_)⟩
    · have r1 : r < 10 ^ 18 := of_decide_eq_true e
      -- for _law_k in range(40)
      refine ⟨40, rfl, by decide, by decide, for_range (lo := 0) (n := 40) (fun j σ H' => ∃ y4 y5 ms, σ = [some (.ref a), some (.ref o), some (.int z), some (.int r), y4, y5] ∧ H' c = some (.lst (ns.map V.int)) ∧ PlAt H o (60 * i + j) ms H') ?_ (fun j σ H' hj hW => ?_) (fun σ H' hW => ?_)⟩
      · exact ⟨y4, y5, ms, rfl, ec, W⟩
      · obtain ⟨y4, y5, ms, rfl, ec, W⟩ := hW
        -- _law_mixed = ..
        refine ⟨_, rfl, _, _, rfl, rfl, _, rfl, _, _, rfl, rfl, _, _, rfl, rfl, ?_, ?_⟩
        · exact wide_mul (a := 62) (b := 62) (nab62 (by omega) (by omega)) (nab62 (by omega) (by omega)) (by decide) (by decide) (by decide)
        refine ⟨_, _, rfl, rfl, ?_, ?_⟩
        · exact wide_mul (a := 124) (b := 62) (wide_lt (nab62 (by omega) (by omega)) (nab62 (by omega) (by omega))) (by decide) (by decide) (by decide) (by decide)
        refine ⟨_, _, rfl, rfl, (by show (2147483647 : Int) ≠ 0; decide), ?_⟩
        have q0 := fmod_rng ((r + 1) * ((0 : Int) + j + 3) * 48271) 2147483647 (by decide)
        -- _law_pool_here.append(..)
        refine ⟨_, rfl, .inl ⟨rfl, _, SqL.of W.at_⟩, _, rfl, _, _, rfl, rfl, ?_, _, _, rfl, rfl, (by show (2147483629 : Int) ≠ 0; decide), _, _, rfl, rfl, ⟨(by show (0 : Int) < 5; decide), (by show (5 : Int).natAbs.log2 < 9000; decide)⟩, _, _, rfl, rfl, (by show (4096 : Int) ≠ 0; decide), ?_⟩
        · exact wide_mul (a := 62) (b := 62) (nab62 q0.1 (Int.lt_trans q0.2 (by decide))) (by decide) (by decide) (by decide) (by decide)
        have vr := fmod_rng (((((r + 1) * ((0 : Int) + j + 3) * 48271).fmod 2147483647) * 69621).fmod 2147483629 / 5) 4096 (by decide)
        refine ⟨o, _, _, rfl, rfl, W.at_, ?_, ?_⟩
        · rw [List.length_map]; exact Nat.lt_of_le_of_lt W.len (by have : i < (ns.map V.int).length := (List.getElem?_eq_some_iff.mp hx).1; rw [List.length_map] at this; exact Nat.lt_of_lt_of_le (show 60 * i + j < 10000 by omega) (by decide))
        · refine ⟨_, _, _, rfl, ?_, W.add no vr.1 vr.2⟩
          rw [upd_ne hco]; exact ec
      · obtain ⟨y4, y5, ms, rfl, ec, W⟩ := hW
        exact ⟨_, _, y4, y5, ms, rfl, ec, W.mono (by omega)⟩
    · -- for _law_k in range(60)
      refine ⟨60, rfl, by decide, by decide, for_range (lo := 0) (n := 60) (fun j σ H' => ∃ r y4 y5 ms, σ = [some (.ref a), some (.ref o), some (.int z), some (.int r), y4, y5] ∧ H' c = some (.lst (ns.map V.int)) ∧ PlAt H o (60 * i + j) ms H') ?_ (fun j σ H' hj hW => ?_) (fun σ H' hW => ?_)⟩
      · exact ⟨r, y4, y5, ms, rfl, ec, W⟩
      · obtain ⟨r, y4, y5, ms, rfl, ec, W⟩ := hW
        refine ⟨_, rfl, _, _, rfl, rfl, _, rfl, ite2 (fun e => ?_) (fun e => ?_)⟩
        · refine ⟨_, rfl, .inl ⟨rfl, _, SqL.of W.at_⟩, _, rfl, .inl ⟨_, rfl, _, _, rfl, rfl, (by show (4096 : Int) ≠ 0; decide), ?_⟩⟩
          have vr := fmod_rng r 4096 (by decide)
          refine ⟨o, _, _, rfl, rfl, W.at_, ?_, ?_⟩
          · rw [List.length_map]; exact Nat.lt_of_le_of_lt W.len (by have : i < (ns.map V.int).length := (List.getElem?_eq_some_iff.mp hx).1; rw [List.length_map] at this; exact Nat.lt_of_lt_of_le (show 60 * i + j < 10000 by omega) (by decide))
          · refine ⟨_, rfl, _, _, rfl, rfl, ⟨(by show (0 : Int) < 4096; decide), (by show (4096 : Int).natAbs.log2 < 9000; decide)⟩, ?_⟩
            refine ⟨_, _, _, _, rfl, ?_, W.add no vr.1 vr.2⟩
            rw [upd_ne hco]; exact ec
        · exact ⟨r, _, y5, ms, rfl, ec, W.mono (by omega)⟩
      · obtain ⟨r, y4, y5, ms, rfl, ec, W⟩ := hW
        exact ⟨_, _, y4, y5, ms, rfl, ec, W.mono (by omega)⟩
  · obtain ⟨y2, y3, y4, y5, ms, rfl, ec, W⟩ := hW
    rw [List.length_map] at W
    refine ⟨.ref o, rfl, k o ms H' no W.sub W.at_ ⟨?_, W.rng⟩⟩
    have := W.len
    omega
end
noncomputable def b_law (a : List Int) : R (Out Empty Empty Bool) :=
  (R.bind (chk (True ∧ True) (R.nx (m_law_drawn_task a))) fun b1 => (R.bind (R.bind (chk (True ∧ (True ∧ True)) (R.nx (m_law_right (b1.1.1, b1.1.2)))) fun a3 => if a3 = true then R.bind (chk (True ∧ (True ∧ True)) (R.nx (m_law_right (b1.1.1, b1.1.2)))) fun b4 => .ok b4 else .ok false) fun b5 => .ok (.rt b5)))
section
open Wd Lp
variable {m n : Nat} {c : Nat → Nat → Int} {go : Nat → Int}
theorem dec_sgn (x : Int) : (if decide (x < 0) = true then (-1 : Int) else 1) = sgn x := by
  unfold sgn
  by_cases h : x < 0
  · rw [if_pos h, if_pos (decide_eq_true h)]
  · rw [if_neg h, if_neg (by rw [decide_eq_false h]; decide)]
theorem cm_le {x y : Int} {a b : Nat} (hx : x.natAbs ≤ 2 ^ a) (hy : y.natAbs ≤ 2 ^ b) (h : a + b ≤ 999998) : CMulW x y := by
  refine wide_mul (a := a + 1) (b := b + 1) (Nat.lt_of_le_of_lt hx (Nat.pow_lt_pow_right (by decide) (by omega))) (Nat.lt_of_le_of_lt hy (Nat.pow_lt_pow_right (by decide) (by omega))) (by omega) (by omega) (by omega)
theorem sgn_le (x : Int) : (sgn x).natAbs ≤ 2 ^ 0 := by unfold sgn; split <;> decide
theorem mk_sum {f : Nat → Int} : ∀ n, (mk n f).sum = sm n f
  | 0 => rfl
  | n + 1 => by
    rw [← mk_snoc, List.sum_append, mk_sum n]
    show _ + (f n + 0) = sm n f + f n
    omega
theorem first_table_ok (h : Few m n c go) : m_first_table (mk n (fun j => mk m (c j)), mk m go) = .ok (tabl m n (t0 m n c go)) := by
  have hm := h.1
  have hn := h.2.1
  apply wp_eq
  unfold m_first_table
  refine run_wp ?_
  unfold b_first_table
  simp only [wp_bind, wp_chk, wp_ok, seq_wp, true_and, and_true, mk_len]
  refine for_nx (fun i g => g = mk i fun k => mk (n + m + 1) fun j => LA m n c go j k) rfl (fun i x g hx hg => ?_) (fun g hg => ?_)
  · rw [enum_mk] at hx
    obtain ⟨hi, rfl⟩ := mk_at hx
    subst hg
    simp only [wp_bind, wp_chk, wp_ok, true_and, and_true, mk_len, nxp, rng_mk, mk_map, implies_true, dec_sgn, List.length_append, List.length_singleton]
    refine ⟨by omega, by omega, ⟨by omega, fun x hx => ?_⟩, by omega, cm_le (sgn_le _) (few_go h hi) (by decide), by omega, by omega, ?_⟩
    · obtain ⟨j, hj, rfl⟩ := mk_mem hx
      exact ⟨inR_mk hi, by rw [get_mk hi]; exact cm_le (sgn_le _) (few_c h hj hi) (by decide)⟩
    · rw [← mk_snoc (f := fun k => mk (n + m + 1) fun j => LA m n c go j k)]
      congr 2
      rw [mk_app, mk_single, mk_app]
      refine mk_congr fun j hj => ?_
      unfold LA
      by_cases h1 : j < n
      · rw [if_pos (by omega), if_pos h1, if_pos h1, get_mk hi]
      · by_cases h2 : j < n + m
        · rw [if_pos h2, if_neg h1, if_neg h1, if_pos h2]
          unfold un
          by_cases h3 : i = j - n
          · rw [if_pos h3, if_pos (decide_eq_true (by omega))]
          · rw [if_neg h3, if_neg (by rw [decide_eq_false (by omega)]; decide)]
        · rw [if_neg h2, if_neg h1, if_neg h2]
  · subst hg
    simp only [go_nx, wp_bind, wp_chk, wp_ok, true_and, and_true, mk_len, nxp, rng_mk, mk_map, implies_true, rtp, enum_length]
    refine ⟨by omega, lcM_wp (fun x => - sm m fun i => LA m n c go x.toNat i) (by rw [mk_len]; omega) (fun x hx => ?_) ?_⟩
    · obtain ⟨j, hj, rfl⟩ := mk_mem hx
      simp only [wp_bind, wp_chk, wp_ok, true_and, and_true]
      refine ⟨⟨by omega, fun y hy => ?_⟩, ?_⟩
      · obtain ⟨k, hk, rfl⟩ := mk_mem hy
        exact inR_mk (by omega)
      · rw [mk_sum, Int.toNat_natCast]
        exact congrArg Neg.neg (sm_congr fun i hi => get_mk (by omega))
    · simp only [mk_map, Int.toNat_natCast, rep_mk, List.length_append, List.length_singleton, mk_len]
      refine ⟨by omega, by omega, ⟨by omega, fun y hy => ?_⟩, by omega, by omega, ?_⟩
      · obtain ⟨k, hk, rfl⟩ := mk_mem hy
        exact inR_last
      · unfold tabl
        rw [← mk_snoc (n := m)]
        congr 1
        · refine mk_congr fun i hi => mk_congr fun j hj => ?_
          unfold tr
          rw [if_pos hi]; rfl
        · congr 1
          rw [mk_app, mk_single, mk_app, mk_sum]
          refine mk_congr fun j hj => ?_
          have hz : rcS m (Lw m n) (t0 m n c go) j = Lw m n j - sm m fun i => LA m n c go j i := by
            show (1 : Int) * Lw m n j - (sm m fun i => Lw m n (n + i) * LA m n c go j i) = _
            rw [Int.one_mul]
            congr 1
            exact sm_congr fun i hi => by rw [w_unit i hi, Int.one_mul]
          have htr : tr m (Lw m n) (t0 m n c go) m j = rcS m (Lw m n) (t0 m n c go) j := if_neg (Nat.lt_irrefl m)
          rw [htr, hz]
          by_cases h1 : j < n
          · rw [if_pos (by omega), if_pos h1, w_low j h1]; omega
          · by_cases h2 : j < n + m
            · rw [if_pos h2, if_neg h1]
              have e : (sm m fun i => LA m n c go j i) = 1 := by
                have e2 := sm_un (m := m) (fun _ => (1 : Int)) (j - n) (by omega)
                rw [← e2]
                refine sm_congr fun i hi => ?_
                unfold LA un
                rw [if_neg h1, if_pos h2, Int.one_mul]
                by_cases h3 : i = j - n
                · rw [if_pos h3, if_pos h3.symm]
                · rw [if_neg h3, if_neg (Ne.symm h3)]
              have e3 := w_unit (m := m) (n := n) (j - n) (by omega)
              rw [show n + (j - n) = j by omega] at e3
              rw [e, e3]; rfl
            · have h4 : j = n + m := by omega
              subst h4
              rw [if_neg (by omega), w_goal]
              have e : (sm m fun i => getI (mk (n + m + 1) fun j => LA m n c go j i) (-1)) = sm m fun i => LA m n c go (n + m) i := sm_congr fun i hi => get_last
              rw [e]; omega
end
section
open Wd Lp
variable {m n : Nat} {c : Nat → Nat → Int} {go : Nat → Int}
theorem turnp_nx {γ δ β : Type} {J : γ → Prop} {Q : Out γ δ β → Prop} {g : γ} : TurnP J Q (.nx g) = J g := rfl
theorem turnp_rt {γ δ β : Type} {J : γ → Prop} {Q : Out γ δ β → Prop} {b : β} : TurnP J Q (.rt b) = Q (.rt b) := rfl
theorem entering_ok {k : Nat} {f : Nat → Int} (hn : n ≤ 100) (hk : n ≤ k) : (m_entering (mk k f, (n : Int))).wp (fun r => (r = -1 ∧ ∀ j, j < n → 0 ≤ f j) ∨ ∃ q : Nat, q < n ∧ r = q ∧ f q < 0 ∧ ∀ j, j < q → 0 ≤ f j) (fun _ => False) := by
  unfold m_entering
  refine run_wp ?_
  unfold b_entering
  simp only [wp_bind, wp_chk, wp_ok, seq_wp, true_and, and_true, rng_mk]
  refine ⟨by omega, for_wp (fun i _ => ∀ j, j < i → 0 ≤ f j) (fun j hj => by omega) (fun i x g hx hg => ?_) (fun g hg => ?_)⟩
  · obtain ⟨hi, rfl⟩ := mk_at hx
    rw [seq_wp, wp_chk, get_mk (show i < k by omega)]
    refine ⟨inR_mk (by omega), ?_⟩
    by_cases z : f i < 0
    · rw [if_pos (decide_eq_true z)]
      simp only [wp_bind, wp_chk, wp_ok, true_and, go_rt, turnp_rt, rtp]
      exact .inr ⟨i, hi, rfl, z, hg⟩
    · rw [if_neg (by rw [decide_eq_false z]; decide)]
      simp only [wp_ok, go_nx, turnp_nx]
      intro j hj
      by_cases e : j = i
      · subst e; omega
      · exact hg j (by omega)
  · simp only [go_nx, wp_bind, wp_chk, wp_ok, true_and, rtp]
    rw [mk_len] at hg
    exact .inl hg
section
variable {t : Wd.TS}
theorem tr_low {i j : Nat} {w : Nat → Int} (hi : i < m) : tr m w t i j = t.T i j := if_pos hi
theorem tight_ok (h : Few m n c go) (G : Good m n (n + m) (LA m n c go) t) {q one other : Nat} (hq : q < n) (h1 : one < m) (h2 : other < m) :
    (m_is_tighter (tabl m n t, basl m t, (q : Int), (one : Int), (other : Int))).wp (fun r => r = true ↔ Tighter (n + m) t q one other) (fun _ => False) := by
  unfold m_is_tighter
  refine run_wp ?_
  unfold b_is_tighter
  have g1 : getI (tabl m n t) (one : Int) = mk (n + m + 1) (tr m (Lw m n) t one) := get_mk (by omega)
  have g2 : getI (tabl m n t) (other : Int) = mk (n + m + 1) (tr m (Lw m n) t other) := get_mk (by omega)
  have b1 : getI (basl m t) (one : Int) = t.b one := get_mk h1
  have b2 : getI (basl m t) (other : Int) = t.b other := get_mk h2
  have r1 : inR (tabl m n t) (one : Int) := inR_mk (by omega)
  have r2 : inR (tabl m n t) (other : Int) := inR_mk (by omega)
  have k1 : ∀ i, inR (mk (n + m + 1) (tr m (Lw m n) t i)) (-1) := fun i => inR_last
  have k2 : ∀ i, inR (mk (n + m + 1) (tr m (Lw m n) t i)) (q : Int) := fun i => inR_mk (by omega)
  have e1 : ∀ i, getI (mk (n + m + 1) (tr m (Lw m n) t i)) (-1) = tr m (Lw m n) t i (n + m) := fun i => get_last
  have e2 : ∀ i, getI (mk (n + m + 1) (tr m (Lw m n) t i)) (q : Int) = tr m (Lw m n) t i q := fun i => get_mk (by omega)
  have s1 : inR (basl m t) (one : Int) := inR_mk h1
  have s2 : inR (basl m t) (other : Int) := inR_mk h2
  have T1 : ∀ j, tr m (Lw m n) t one j = t.T one j := fun j => tr_low h1
  have T2 : ∀ j, tr m (Lw m n) t other j = t.T other j := fun j => tr_low h2
  have C : ∀ i k j l, i < m → k < m → j < n + m + 1 → l < n + m + 1 → CMulW (t.T i j) (t.T k l) := fun i k j l hi hk hj hl => cm_le (T_abs h G hi hj) (T_abs h G hk hl) (by decide)
  simp only [wp_bind, wp_chk, wp_ok, true_and, and_true, g1, g2, b1, b2, r1, r2, k1, k2, e1, e2, s1, s2, T1, T2, rtp, implies_true]
  refine ⟨C _ _ _ _ h1 h2 (by omega) (by omega), C _ _ _ _ h2 h1 (by omega) (by omega), ?_⟩
  unfold Tighter
  rw [Bool.or_eq_true, Bool.and_eq_true, decide_eq_true_iff, decide_eq_true_iff, decide_eq_true_iff]
  omega
theorem leaving_ok (h : Few m n c go) (G : Good m n (n + m) (LA m n c go) t) {q : Nat} (hq : q < n) :
    (m_leaving (tabl m n t, basl m t, (q : Int))).wp (fun r => (r = -1 ∧ ∀ i, i < m → ¬ 0 < t.T i q) ∨ ∃ k : Nat, r = k ∧ LvK m (n + m) t q k) (fun _ => False) := by
  have hm := h.1
  unfold m_leaving
  refine run_wp ?_
  unfold b_leaving
  simp only [wp_bind, wp_chk, wp_ok, seq_wp, true_and, and_true, rng_mk, mk_len]
  refine ⟨by omega, for_nx (fun i g => (g = -1 ∧ ∀ j, j < i → ¬ 0 < t.T j q) ∨ ∃ k : Nat, g = k ∧ LvK i (n + m) t q k) (.inl ⟨rfl, fun j hj => by omega⟩) (fun i x g hx hg => ?_) (fun g hg => ?_)⟩
  · obtain ⟨hi, rfl⟩ := mk_at hx
    have g1 : getI (tabl m n t) (i : Int) = mk (n + m + 1) (tr m (Lw m n) t i) := get_mk (by omega)
    have r1 : inR (tabl m n t) (i : Int) := inR_mk (by omega)
    have k2 : inR (mk (n + m + 1) (tr m (Lw m n) t i)) (q : Int) := inR_mk (by omega)
    have e2 : getI (mk (n + m + 1) (tr m (Lw m n) t i)) (q : Int) = t.T i q := (get_mk (by omega)).trans (tr_low hi)
    simp only [wp_bind, wp_chk, wp_ok, seq_wp, true_and, and_true, g1, r1, k2, e2, wp_ite]
    by_cases p : 0 < t.T i q
    · rw [if_pos (decide_eq_true p)]
      rcases hg with ⟨rfl, hg⟩ | ⟨k, rfl, hg⟩
      · rw [if_pos (by decide)]
        simp only [wp_bind, wp_chk, wp_ok, true_and, go_nx, nxp, if_true]
        exact .inr ⟨i, rfl, .first hg p⟩
      · rw [if_neg (by rw [decide_eq_false (by omega)]; decide)]
        simp only [wp_nx]
        refine (tight_ok h G hq hi (show k < m by have := hg.lt; omega)).mono (fun r hr => ?_) fun _ z => z
        cases r with
        | true =>
          simp only [wp_bind, wp_chk, wp_ok, true_and, go_nx, nxp, if_true]
          exact .inr ⟨i, rfl, hg.take p (hr.mp rfl)⟩
        | false =>
          simp only [wp_bind, wp_chk, wp_ok, true_and, go_nx, nxp, Bool.false_eq_true, if_false]
          exact .inr ⟨k, rfl, hg.keep fun z => Bool.false_ne_true (hr.mpr z)⟩
    · rw [if_neg (by rw [decide_eq_false p]; decide)]
      simp only [wp_ok, go_nx, nxp, Bool.false_eq_true, if_false]
      rcases hg with ⟨rfl, hg⟩ | ⟨k, rfl, hg⟩
      · refine .inl ⟨rfl, fun j hj => ?_⟩
        by_cases e : j = i
        · subst e; exact p
        · exact hg j (by omega)
      · exact .inr ⟨k, rfl, hg.skip p⟩
  · simp only [go_nx, wp_bind, wp_chk, wp_ok, true_and, rtp]
    rw [mk_len] at hg
    exact hg
theorem pivoted_ok (h : Few m n c go) (G : Good m n (n + m) (LA m n c go) t) {q r : Nat} (hq : q < n) (hr : r < m) (hp : 0 < t.T r q) :
    m_pivoted (tabl m n t, (r : Int), (q : Int), t.s) = .ok (tabl m n (pv m (LA m n c go) t r q)) := by
  have hm := h.1
  have hn := h.2.1
  apply wp_eq
  unfold m_pivoted
  refine run_wp ?_
  unfold b_pivoted
  have g1 : ∀ i, i < m + 1 → getI (tabl m n t) (i : Int) = mk (n + m + 1) (tr m (Lw m n) t i) := fun i hi => get_mk hi
  have r1 : inR (tabl m n t) (r : Int) := inR_mk (by omega)
  have k2 : ∀ i, inR (mk (n + m + 1) (tr m (Lw m n) t i)) (q : Int) := fun i => inR_mk (by omega)
  have e2 : ∀ i, getI (mk (n + m + 1) (tr m (Lw m n) t i)) (q : Int) = tr m (Lw m n) t i q := fun i => get_mk (by omega)
  have hs : Tr.CDivS 0 t.s ∧ ∀ x, Tr.CDivS x t.s := by
    have z : ∀ x, Tr.CDivS x t.s := fun x => Tr.wide_divS (b := 313) (by have := G.sp; omega) (Nat.lt_of_le_of_lt (s_abs h G) (Nat.pow_lt_pow_right (by decide) (by decide))) (by decide) (by decide)
    exact ⟨z 0, z⟩
  simp only [wp_bind, wp_chk, wp_ok, seq_wp, true_and, and_true, g1 r (by omega), r1, mk_len]
  refine for_nx (fun i g => g = mk i fun k => mk (n + m + 1) (tr m (Lw m n) (pv m (LA m n c go) t r q) k)) rfl (fun i x g hx hg => ?_) (fun g hg => ?_)
  · rw [enum_mk] at hx
    obtain ⟨hi, rfl⟩ := mk_at hx
    subst hg
    simp only [wp_bind, wp_chk, wp_ok, seq_wp, true_and, and_true, wp_ite, k2, e2, mk_zip, mk_len, mk_map]
    by_cases e : i = r
    · subst e
      rw [if_pos (decide_eq_true rfl)]
      simp only [go_nx, wp_bind, wp_chk, wp_ok, true_and, nxp, mk_len]
      refine ⟨by omega, ?_⟩
      rw [← mk_snoc (n := i)]
      congr 2
      refine mk_congr fun j hj => ?_
      rw [tr_low hr, tr_low hr]
      exact (nxt_row G.tab hr j).symm
    · rw [if_neg (by rw [decide_eq_false (by omega)]; decide)]
      simp only [go_nx, wp_bind, wp_chk, wp_ok, true_and, nxp, mk_len]
      refine ⟨⟨by omega, fun x hx => ?_⟩, by omega, ?_⟩
      · obtain ⟨j, hj, rfl⟩ := mk_mem hx
        exact ⟨⟨cm_le (tr_abs h G r (by omega)) (tr_abs h G i hj) (by decide), cm_le (tr_abs h G i (by omega)) (tr_abs h G r hj) (by decide)⟩, hs.2 _⟩
      · rw [← mk_snoc (n := i)]
        congr 2
        refine mk_congr fun j hj => ?_
        rw [tr_low hr, tr_low hr]
        by_cases hi2 : i < m
        · rw [tr_low hi2, tr_low hi2, tr_low hi2]
          exact pivot_div G.tab hr hi2 e j
        · have x1 : ∀ (t : Wd.TS) j, tr m (Lw m n) t i j = rcS m (Lw m n) t j := fun t j => if_neg hi2
          rw [x1, x1, x1]
          have z := rc_pivot (w := Lw m n) G.tab hr (c := q) j
          have z2 : t.T r q * rcS m (Lw m n) t j - rcS m (Lw m n) t q * t.T r j = t.s * rcS m (Lw m n) (pv m (LA m n c go) t r q) j := z.symm
          rw [z2, Int.mul_comm t.s, Int.mul_fdiv_cancel _ (by have := G.sp; omega)]
  · subst hg
    simp only [go_nx, wp_bind, wp_chk, wp_ok, true_and, rtp, enum_length, mk_len]
end
end
section
open Wd Lp
theorem reduced_ok {k B : Nat} {f : Nat → Int} (hk : k ≤ 100000) (hB : B ≤ 8000) (hf : ∀ i, i < k → (f i).natAbs ≤ 2 ^ B) :
    (m_reduced (mk k f)).wp (fun r => ∃ (d : Int) (q : Nat → Int), 1 ≤ d ∧ r = mk k q ∧ ∀ i, i < k → f i = d * q i) (fun _ => False) := by
  unfold m_reduced
  refine run_wp ?_
  unfold b_reduced
  simp only [wp_bind, wp_chk, wp_ok, seq_wp, true_and, and_true, mk_len, mk_map]
  refine for_nx (fun i (g : Int) => 0 ≤ g ∧ g.natAbs ≤ 2 ^ B ∧ ∀ j, j < i → g ∣ f j) ⟨by decide, Nat.zero_le _, fun j hj => by omega⟩ (fun i x g hx hg => ?_) (fun g hg => ?_)
  · obtain ⟨hi, rfl⟩ := mk_at hx
    simp only [wp_bind, wp_chk, wp_ok, seq_wp, true_and, and_true, nxp]
    obtain ⟨h0, h1, h2⟩ := hg
    have d1 : ((Nat.gcd g.natAbs (f i).natAbs : Nat) : Int) ∣ g := Int.ofNat_dvd_left.mpr (Nat.gcd_dvd_left _ _)
    have d2 : ((Nat.gcd g.natAbs (f i).natAbs : Nat) : Int) ∣ f i := Int.ofNat_dvd_left.mpr (Nat.gcd_dvd_right _ _)
    refine ⟨by omega, ?_, fun j hj => ?_⟩
    · rw [Int.natAbs_natCast]
      by_cases z : g.natAbs = 0
      · rw [z, Nat.gcd_zero_left]; exact hf i hi
      · exact Nat.le_trans (Nat.gcd_le_left _ (by omega)) h1
    · by_cases e : j = i
      · subst e; exact d2
      · exact Int.dvd_trans d1 (h2 j (by omega))
  · rw [mk_len] at hg
    obtain ⟨h0, h1, h2⟩ := hg
    simp only [go_nx, wp_bind, wp_chk, wp_ok, true_and, rtp, mk_len, and_true]
    have m1 : (1 : Int) ≤ max 1 g := Int.le_max_left _ _
    have mb : (max 1 g).natAbs ≤ 2 ^ B := by
      have p1 : 1 ≤ 2 ^ B := Nat.one_le_two_pow
      rw [Int.max_def]
      split
      · exact h1
      · exact p1
    refine ⟨⟨by omega, fun x hx => ?_⟩, ⟨max 1 g, _, m1, mk_map, fun i hi => ?_⟩⟩
    · exact Tr.wide_divS (b := B + 1) (by omega) (Nat.lt_of_le_of_lt mb (Nat.pow_lt_pow_right (by decide) (by omega))) (by omega) (by omega)
    · have dv : max 1 g ∣ f i := by
        rw [Int.max_def]
        split
        · exact h2 i hi
        · exact Int.one_dvd _
      obtain ⟨z, hz⟩ := dv
      rw [hz, Int.mul_fdiv_cancel_left _ (by omega)]
end
section
open Wd Lp
variable {m n : Nat} {c : Nat → Nat → Int} {go : Nat → Int}
/-- the answers that are asked -/
structure Comb (m n : Nat) (c : Nat → Nat → Int) (go : Nat → Int) (r : Int × List Int) : Prop where
  ex : ∃ u : Nat → Int, r.2 = mk n u ∧ 1 ≤ r.1 ∧ (∀ j, j < n → 0 ≤ u j) ∧ (∀ x, x < m → sm n (fun j => c j x * u j) = r.1 * go x) ∧ r.1.natAbs ≤ 2 ^ 316 ∧ ∀ j, j < n → (u j).natAbs ≤ 2 ^ 316
structure Barr (m n : Nat) (c : Nat → Nat → Int) (go : Nat → Int) (l : List Int) : Prop where
  ex : ∃ v : Nat → Int, l = mk m v ∧ (∀ j, j < n → sm m (fun k => c j k * v k) ≤ 0) ∧ 0 < sm m (fun k => go k * v k) ∧ ∀ k, k < m → (v k).natAbs ≤ 2 ^ 317
theorem sgn_sgn (x : Int) : sgn x * sgn x = 1 := by unfold sgn; split <;> rfl
theorem div_le {d q x : Int} {B : Nat} (h : x = d * q) (hd : 1 ≤ d) (hx : x.natAbs ≤ B) : q.natAbs ≤ B := by
  have e := congrArg Int.natAbs h
  rw [Int.natAbs_mul] at e
  have h1 : 1 * q.natAbs ≤ d.natAbs * q.natAbs := Nat.mul_le_mul_right _ (by omega)
  omega
theorem pow316 : (2 : Nat) ^ 312 ≤ 2 ^ 316 := Nat.pow_le_pow_right (by decide) (by decide)
/-- the state of the while loop -/
structure Lst (m n : Nat) (c : Nat → Nat → Int) (go : Nat → Int) (i : Nat) (g : List (List Int) × List Int × Int × Int) : Prop where
  ex : ∃ t : Wd.TS, t = iter (stp m n c go) i (t0 m n c go) ∧ Good m n (n + m) (LA m n c go) t ∧ g.1 = tabl m n t ∧ g.2.1 = basl m t ∧ g.2.2.1 = t.s ∧
    ((g.2.2.2 = -1 ∧ ¬ ∃ q, EnOk m n (Lw m n) t q) ∨ ∃ q : Nat, g.2.2.2 = q ∧ EnOk m n (Lw m n) t q)
theorem no_en {t : Wd.TS} (h : ∀ j, j < n → 0 ≤ rcS m (Lw m n) t j) : ¬ ∃ q, EnOk m n (Lw m n) t q := fun ⟨q, hq⟩ => by
  have h1 := h q hq.lt
  have h2 := hq.neg
  omega
/-- the entering column of a state -/
theorem enter_ok (h : Few m n c go) (t : Wd.TS) : (m_entering (getI (tabl m n t) (-1), (n : Int))).wp (fun r => (r = -1 ∧ ¬ ∃ q, EnOk m n (Lw m n) t q) ∨ ∃ q : Nat, r = q ∧ EnOk m n (Lw m n) t q) (fun _ => False) := by
  rw [show getI (tabl m n t) (-1) = mk (n + m + 1) (tr m (Lw m n) t m) from get_last]
  have x1 : ∀ j, tr m (Lw m n) t m j = rcS m (Lw m n) t j := fun j => if_neg (Nat.lt_irrefl m)
  refine (entering_ok (Nat.le_trans h.2.1 (by decide)) (by omega)).mono (fun r hr => ?_) fun _ z => z
  rcases hr with ⟨rfl, hr⟩ | ⟨q, hq, rfl, h1, h2⟩
  · exact .inl ⟨rfl, no_en fun j hj => by rw [← x1]; exact hr j hj⟩
  · exact .inr ⟨q, rfl, hq, by rw [← x1]; exact h1, fun j hj => by rw [← x1]; exact h2 j hj⟩
theorem combine_ok (h : Few m n c go) {cols : List (List Int)} {goal : List Int} (hc : cols = mk n (fun j => mk m (c j))) (hg : goal = mk m go) (hf : fu (cols, goal) = fuN m n c go) :
    (m_combine (cols, goal)).wp (Comb m n c go) (fun e => ∃ l, e = ⟨0, .ints l⟩ ∧ Barr m n c go l) := by
  have hm := h.1
  have hn := h.2.1
  unfold m_combine
  refine run_wp ?_
  unfold b_combine
  simp only [hf]
  subst hc hg
  simp only [wp_bind, wp_chk, wp_ok, wp_nx, seq_wp, true_and, and_true, mk_len, first_table_ok h, rng_mk, mk_map]
  refine ⟨by omega, ⟨by omega, fun _ _ => trivial⟩, inR_last, ?_⟩
  refine (enter_ok h (t0 m n c go)).mono (fun q0 hq0 => ?_) fun _ z => z.elim
  have ex : ∃ k, ¬ ∃ q, EnOk m n (Lw m n) (iter (stp m n c go) k (t0 m n c go)) q := fuel_of w_nn w_low good0
  have hfu : fuN m n c go = ex.choose + 1 := by unfold fuN; rw [dif_pos ex]
  have hK := ex.choose_spec
  generalize ex.choose = K at hfu hK
  rw [hfu]
  refine while_nx (fun k g => ∃ i, i + k = K + 1 ∧ i ≤ K ∧ Lst m n c go i g) (K + 1) _ ⟨0, by omega, Nat.zero_le _, ⟨t0 m n c go, rfl, good0, rfl, mk_congr fun i hi => ?_, rfl, hq0⟩⟩ ?_ ?_ ?_
  · show (n : Int) + (i : Int) = ((n + i : Nat) : Int)
    omega
  · rintro g ⟨i, h1, h2, _⟩
    omega
  · -- a turn
    rintro k ⟨tb, bs, sc, q⟩ ⟨i, h1, h2, ⟨t, ht, G, e1, e2, e3, e4⟩⟩ hb
    dsimp only at e1 e2 e3 e4 hb
    subst e1 e2 e3
    rcases e4 with ⟨rfl, _⟩ | ⟨q, rfl, hq⟩
    · cases hb
    simp only [wp_bind, wp_chk, wp_ok, wp_nx, true_and, and_true]
    refine (leaving_ok h G hq.lt).mono (fun r hr => ?_) fun _ z => z.elim
    have hr2 : ∃ k : Nat, r = k ∧ LvOk m (n + m) t q k := by
      rcases hr with ⟨_, hr⟩ | ⟨k, rfl, hr⟩
      · obtain ⟨i, hi, p⟩ := G.row w_nn hq (w_low q hq.lt)
        exact absurd p (hr i hi)
      · exact ⟨k, rfl, hr.all⟩
    obtain ⟨r, rfl, hv⟩ := hr2
    clear hr
    have hr := hv
    clear hv
    rw [pivoted_ok h G hq.lt hr.lt hr.pos]
    have G' := G.step hq.lt hr
    have st : pv m (LA m n c go) t r q = iter (stp m n c go) (i + 1) (t0 m n c go) := by
      rw [iter, ← ht]
      exact (nextS_eq G hq hr).symm
    have hrm := hr.lt
    have hqn := hq.lt
    have g1 : getI (tabl m n (pv m (LA m n c go) t r q)) (r : Int) = mk (n + m + 1) (tr m (Lw m n) (pv m (LA m n c go) t r q) r) := get_mk (by omega)
    have g2 : getI (mk (n + m + 1) (tr m (Lw m n) (pv m (LA m n c go) t r q) r)) (q : Int) = t.T r q := by
      rw [get_mk (by omega), tr_low hr.lt]
      exact nxt_row G.tab hr.lt q
    simp only [wp_bind, wp_chk, wp_ok, wp_nx, true_and, and_true, g1, g2]
    refine ⟨⟨inR_mk (by omega), inR_mk (by omega)⟩, inR_mk hr.lt, inR_last, ?_⟩
    refine (enter_ok h (pv m (LA m n c go) t r q)).mono (fun q1 hq1 => ?_) fun _ z => z.elim
    have iK : i < K := by
      refine Nat.lt_of_le_of_ne h2 fun z => ?_
      subst z
      exact hK ⟨q, ht ▸ hq⟩
    refine ⟨i + 1, by omega, by omega, ⟨pv m (LA m n c go) t r q, st, G', rfl, ?_, rfl, hq1⟩⟩
    show setI (basl m t) (r : Int) (q : Int) = basl m (pv m (LA m n c go) t r q)
    rw [set_mk hr.lt]
    refine mk_congr fun k hk => ?_
    show _ = ((upN t.b r q k : Nat) : Int)
    unfold upN
    split <;> rfl
  · -- the end
    rintro k ⟨tb, bs, sc, q⟩ ⟨i, h1, h2, ⟨t, ht, G, e1, e2, e3, e4⟩⟩ hb
    dsimp only at e1 e2 e3 e4 hb
    subst e1 e2 e3
    have e5 : q = -1 ∧ ¬ ∃ q, EnOk m n (Lw m n) t q := by
      rcases e4 with e4 | ⟨q, rfl, hq⟩
      · exact e4
      · rw [decide_eq_false_iff_not] at hb; omega
    obtain ⟨rfl, done⟩ := e5
    clear ht h1 h2 hK hfu hf hq0 e4
    refine ⟨trivial, ?_⟩
    have g1 : getI (tabl m n t) (-1) = mk (n + m + 1) (rcS m (Lw m n) t) := get_last.trans (mk_congr fun j hj => if_neg (Nat.lt_irrefl m))
    have r1 : inR (tabl m n t) (-1) := inR_last
    have r2 : inR (mk (n + m + 1) (rcS m (Lw m n) t)) (-1) := inR_last
    have g2 : getI (mk (n + m + 1) (rcS m (Lw m n) t)) (-1) = rcS m (Lw m n) t (n + m) := get_last
    simp only [go_nx, wp_bind, wp_chk, wp_ok, wp_nx, seq_wp, true_and, and_true, g1, r1, r2, g2, wp_ite, cut_mk, mk_map, mk_zip, mk_len]
    by_cases neg : rcS m (Lw m n) t (n + m) < 0
    · rw [if_pos (decide_eq_true neg)]
      refine ⟨⟨by omega, fun _ _ => trivial⟩, ⟨by omega, fun _ _ => ⟨fun _ => trivial, fun _ => trivial⟩⟩, ?_⟩
      rw [show (mk m fun i => if decide (go i < 0) = true then -(t.s - rcS m (Lw m n) t (n + i)) else t.s - rcS m (Lw m n) t (n + i)) = mk m (fun i => sgn (go i) * (t.s - rcS m (Lw m n) t (n + i))) from mk_congr fun i hi => by
        unfold sgn
        by_cases z : go i < 0
        · rw [if_pos (decide_eq_true z), if_pos z]; omega
        · rw [if_neg (by rw [decide_eq_false z]; decide), if_neg z]; omega]
      have hb : ∀ i, i < m → (sgn (go i) * (t.s - rcS m (Lw m n) t (n + i))).natAbs ≤ 2 ^ 317 := fun i hi => by
        rw [sgn_abs]
        have a1 := Nat.le_trans (s_abs h G) pow316
        have a2 := rc_abs h G (show n + i < n + m + 1 by omega)
        rw [show (2 : Nat) ^ 317 = 2 * 2 ^ 316 by rw [show (317 : Nat) = 316 + 1 from rfl, Nat.pow_succ, Nat.mul_comm]]
        generalize (2 : Nat) ^ 316 = z at a1 a2 ⊢
        omega
      refine (reduced_ok (B := 317) (by omega) (by decide) hb).mono (fun a ha => ?_) fun _ z => z.elim
      obtain ⟨d, v, hd, rfl, hv⟩ := ha
      have B := barred G units w_low w_goal w_unit done neg
      have key : ∀ (f : Nat → Int) (A : Nat → Int), (∀ k, k < m → A k = sgn (go k) * f k) → sm m (fun k => (t.s - rcS m (Lw m n) t (n + k)) * A k) = d * sm m (fun k => f k * v k) := fun f A hA => by
        rw [← sm_mul]
        refine sm_congr fun k hk => ?_
        have e := hv k hk
        rw [hA k hk]
        generalize sgn (go k) = z1 at e ⊢
        generalize t.s - rcS m (Lw m n) t (n + k) = z2 at e ⊢
        have e2 : d * (f k * v k) = f k * (d * v k) := by grind
        rw [e2, ← e]
        grind
      show ∃ l, _
      refine ⟨_, rfl, ⟨v, rfl, fun j hj => ?_, ?_, fun k hk => div_le (hv k hk) hd (hb k hk)⟩⟩
      · have e := B.1 j hj
        rw [key (c j) _ (fun k hk => by unfold LA; rw [if_pos hj])] at e
        refine Int.not_lt.mp fun z => ?_
        have := Int.mul_pos (show 0 < d by omega) z
        omega
      · have e := B.2
        rw [key go _ (fun k hk => by unfold LA; rw [if_neg (by omega), if_neg (by omega)])] at e
        refine Int.not_le.mp fun z => ?_
        have z2 : d * (sm m fun k => go k * v k) ≤ d * 0 := Int.mul_le_mul_of_nonneg_left z (by omega)
        rw [Int.mul_zero] at z2
        omega
    · rw [if_neg (by rw [decide_eq_false neg]; decide)]
      simp only [go_nx, wp_bind, wp_chk, wp_ok, wp_nx, seq_wp, true_and, and_true, Int.toNat_natCast, rep_mk, List.length_singleton]
      refine ⟨by omega, ?_⟩
      refine for_nx (fun i g => g = mk n fun j => sm i fun k => if t.b k = j then t.T k (n + m) else 0) (mk_congr fun j hj => rfl) (fun i x g hx hg => ?_) (fun g hg => ?_)
      · rw [enum_mk] at hx
        obtain ⟨hi, rfl⟩ := mk_at hx
        subst hg
        have g3 : getI (tabl m n t) (i : Int) = mk (n + m + 1) (tr m (Lw m n) t i) := get_mk (by omega)
        have g4 : getI (mk (n + m + 1) (tr m (Lw m n) t i)) (-1) = t.T i (n + m) := get_last.trans (tr_low hi)
        simp only [go_nx, wp_bind, wp_chk, wp_ok, wp_nx, seq_wp, true_and, and_true, wp_ite, g3, g4]
        by_cases z : t.b i < n
        · rw [if_pos (decide_eq_true (by omega))]
          simp only [go_nx, wp_ok, nxp]
          refine ⟨⟨inR_mk (by omega), inR_last⟩, inR_mk z, ?_⟩
          rw [set_mk z]
          refine mk_congr fun j hj => ?_
          rw [sm]
          by_cases e : j = t.b i
          · rw [if_pos e, if_pos e.symm, sm_congr (g := fun _ => 0) (fun k hk => if_neg fun y => ?_), sm_zero, Int.zero_add]
            have := G.tab.inj (show k < m by omega) hi (y.trans e)
            omega
          · rw [if_neg e, if_neg (Ne.symm e), Int.add_zero]
        · rw [if_neg (by rw [decide_eq_false (by omega)]; decide)]
          simp only [go_nx, wp_ok, nxp]
          refine mk_congr fun j hj => ?_
          rw [sm, if_neg (by omega), Int.add_zero]
      · rw [enum_length, mk_len] at hg
        subst hg
        simp only [go_nx, wp_bind, wp_chk, wp_ok, wp_nx, true_and, and_true, mk_len, mk_single, mk_app]
        have hmu : ∀ j, (sm m fun k => if t.b k = j then t.T k (n + m) else 0) = mult m (n + m) t j := fun j => rfl
        simp only [hmu]
        have CB := combined G w_nn w_goal w_unit (by omega)
        have hb : ∀ i, i < 1 + n → (if i < 1 then t.s else mult m (n + m) t (i - 1)).natAbs ≤ 2 ^ 316 := fun i hi => by
          split
          · exact Nat.le_trans (s_abs h G) pow316
          · unfold mult
            refine Nat.le_trans (sm_abs (K := 2 ^ 312) fun k hk => ?_) ?_
            · split
              · exact T_abs h G hk (by omega)
              · exact Nat.zero_le _
            · rw [show (2 : Nat) ^ 316 = 16 * 2 ^ 312 by rw [show (316 : Nat) = 4 + 312 from rfl, Nat.pow_add]]
              exact Nat.mul_le_mul_right _ (by omega)
        refine ⟨by omega, (reduced_ok (B := 316) (by omega) (by decide) hb).mono (fun a ha => ?_) fun _ z => z.elim⟩
        obtain ⟨d, v, hd, rfl, hv⟩ := ha
        have g5 : getI (mk (1 + n) v) (0 : Int) = v 0 := get_mk (i := 0) (by omega)
        have r5 : inR (mk (1 + n) v) (0 : Int) := inR_mk (i := 0) (by omega)
        have e0 := hv 0 (by omega)
        rw [if_pos (by decide)] at e0
        have ej : ∀ j, j < n → mult m (n + m) t j = d * v (j + 1) := fun j hj => by
          have := hv (j + 1) (by omega)
          rw [if_neg (by omega), Nat.add_sub_cancel] at this
          exact this
        simp only [wp_bind, wp_chk, wp_ok, true_and, and_true, g5, r5, cut_tail, rtp]
        refine ⟨⟨fun j => v (j + 1), by rw [Nat.add_comm 1 n]; exact tail_mk, ?_, fun j hj => ?_, fun x hx => ?_, ?_, fun j hj => ?_⟩⟩
        · have := G.sp
          rw [e0] at this
          show 1 ≤ v 0
          refine Int.not_lt.mp fun z => ?_
          have z2 : d * v 0 ≤ d * 0 := Int.mul_le_mul_of_nonneg_left (by omega) (by omega)
          rw [Int.mul_zero] at z2
          omega
        · have := CB.1 j
          rw [ej j hj] at this
          show 0 ≤ v (j + 1)
          refine Int.not_lt.mp fun z => ?_
          have := Int.mul_neg_of_pos_of_neg (show 0 < d by omega) z
          omega
        · have e := CB.2 x hx
          have l1 : sm n (fun j => mult m (n + m) t j * LA m n c go j x) = (sgn (go x) * d) * sm n (fun j => c j x * v (j + 1)) := by
            rw [← sm_mul]
            refine sm_congr fun j hj => ?_
            rw [ej j hj]
            unfold LA
            rw [if_pos hj]
            grind
          have l2 : t.s * LA m n c go (n + m) x = (sgn (go x) * d) * (v 0 * go x) := by
            rw [e0]
            unfold LA
            rw [if_neg (by omega), if_neg (by omega)]
            grind
          rw [l1, l2] at e
          refine Int.eq_of_mul_eq_mul_left ?_ e
          intro z
          rcases Int.mul_eq_zero.mp z with z | z
          · have := sgn_sgn (go x)
            rw [z] at this
            cases this
          · omega
        · exact div_le e0 hd (Nat.le_trans (s_abs h G) pow316)
        · have := hb (j + 1) (by omega)
          rw [if_neg (by omega), Nat.add_sub_cancel] at this
          exact div_le (ej j hj) hd this
end
section
open Wd Lp
variable {m n : Nat}
abbrev PF : List Str := [("positive" : Str), ("free" : Str)]
abbrev NF : List Str := [("negative" : Str), ("free" : Str)]
abbrev SG : List Str := [("positive" : Str), ("negative" : Str)]
theorem ite_n' {c A B : Prop} {i : Decidable c} (hc : ¬ c) (h : B) : @ite Prop c i A B := by rw [if_neg hc]; exact h
theorem ite_p' {c A B : Prop} {i : Decidable c} (hc : c) (h : A) : @ite Prop c i A B := by rw [if_pos hc]; exact h
theorem seq_nx {γ γ' δ β : Type} {m : R (Out γ δ β)} {k : γ → R (Out γ' δ β)} {Q : Out γ' δ β → Prop} {E : Exc → Prop} (I : γ → Prop) (h : m.wp (fun o => ∃ g, o = .nx g ∧ I g) E) (hk : ∀ g, I g → (k g).wp Q E) : (seqO m k).wp Q E := by
  rw [seq_wp]
  refine h.mono (fun o ⟨g, e, hg⟩ => ?_) fun _ z => z
  subst e
  exact hk g hg
/-- the places of the first k kinds -/
def pls (ks : Nat → Str) : Nat → List (Int × Int)
  | 0 => []
  | k + 1 => pls ks k ++ ((if ks k ∈ PF then [((k : Int), 1)] else []) ++ (if ks k ∈ NF then [((k : Int), -1)] else []))
theorem pls_len (ks : Nat → Str) : ∀ k, (pls ks k).length ≤ 2 * k
  | 0 => Nat.le_refl _
  | k + 1 => by
    have h := pls_len ks k
    unfold pls
    rw [List.length_append, List.length_append]
    have h1 : (if ks k ∈ PF then [((k : Int), (1 : Int))] else []).length ≤ 1 := by split <;> simp
    have h2 : (if ks k ∈ NF then [((k : Int), (-1 : Int))] else []).length ≤ 1 := by split <;> simp
    omega
theorem pls_mem (ks : Nat → Str) {x : Int × Int} : ∀ n, x ∈ pls ks n ↔ ∃ k : Nat, k < n ∧ ((x = ((k : Int), 1) ∧ ks k ∈ PF) ∨ (x = ((k : Int), -1) ∧ ks k ∈ NF))
  | 0 => ⟨fun h => (nomatch h), fun ⟨k, h, _⟩ => absurd h (Nat.not_lt_zero k)⟩
  | n + 1 => by
    unfold pls
    rw [List.mem_append, List.mem_append, pls_mem ks n]
    constructor
    · rintro (⟨k, h, e⟩ | h | h)
      · exact ⟨k, by omega, e⟩
      · split at h
        · rename_i z; exact ⟨n, by omega, .inl ⟨List.mem_singleton.mp h, z⟩⟩
        · cases h
      · split at h
        · rename_i z; exact ⟨n, by omega, .inr ⟨List.mem_singleton.mp h, z⟩⟩
        · cases h
    · rintro ⟨k, h, e⟩
      by_cases c : k < n
      · exact .inl ⟨k, c, e⟩
      · have : k = n := by omega
        subst this
        rcases e with ⟨e, z⟩ | ⟨e, z⟩
        · exact .inr (.inl (by rw [if_pos z]; exact List.mem_singleton.mpr e))
        · exact .inr (.inr (by rw [if_pos z]; exact List.mem_singleton.mpr e))
/-- a column -/
def colOf (m : Nat) (a : Nat → Nat → Int) (q : Int × Int) : List Int := mk m fun i => q.2 * a i q.1.toNat
theorem col_1 {a : Nat → Nat → Int} {k : Nat} : colOf m a ((k : Int), 1) = mk m fun i => a i k := mk_congr fun i _ => by rw [Int.one_mul, Int.toNat_natCast]
theorem col_2 {a : Nat → Nat → Int} {k : Nat} : colOf m a ((k : Int), -1) = mk m fun i => - a i k := mk_congr fun i _ => by rw [Int.neg_mul, Int.one_mul, Int.toNat_natCast]
theorem signed_ok {a : Nat → Nat → Int} {ks : Nat → Str} (hm : m ≤ 1000) (hn : n ≤ 1000) : m_signed_columns (mk m (fun i => mk n (a i)), mk n ks) = .ok ((pls ks n).map (colOf m a), pls ks n) := by
  apply wp_eq
  unfold m_signed_columns
  refine run_wp ?_
  unfold b_signed_columns
  simp only [wp_bind, wp_chk, wp_ok, seq_wp, true_and, and_true]
  refine for_nx (fun i g => g = ((pls ks i).map (colOf m a), pls ks i)) rfl (fun i x g hx hg => ?_) (fun g hg => ?_)
  · rw [enum_mk] at hx
    obtain ⟨hi, rfl⟩ := mk_at hx
    subst hg
    have hl := pls_len ks i
    simp only [wp_bind, wp_chk, wp_ok, seq_wp, true_and, and_true, mk_len, nxp, mk_map, implies_true, wp_ite]
    refine ⟨⟨by omega, fun x hx => ?_⟩, ?_⟩
    · obtain ⟨j, hj, rfl⟩ := mk_mem hx
      exact inR_mk hi
    have e : (mk m fun j => getI (mk n (a j)) (i : Int)) = mk m fun j => a j i := mk_congr fun j _ => get_mk hi
    rw [e]
    by_cases h1 : ks i ∈ PF
    · refine ite_p' (decide_eq_true h1) ⟨by rw [List.length_map]; omega, by omega, ?_⟩
      simp only [go_nx, wp_bind, wp_chk, wp_ok, seq_wp, true_and, and_true, mk_len, nxp, mk_map, implies_true, wp_ite]
      by_cases h2 : ks i ∈ NF
      · refine ite_p' (decide_eq_true h2) ⟨by omega, by rw [List.length_append, List.length_map, List.length_singleton]; omega, by rw [List.length_append, List.length_singleton]; omega, ?_⟩
        rw [pls, if_pos h1, if_pos h2, List.map_append, List.map_append, List.map_singleton, List.map_singleton, col_1, col_2, List.append_assoc, List.append_assoc]
      · refine ite_n' (by rw [decide_eq_false h2]; decide) ?_
        rw [pls, if_pos h1, if_neg h2, List.append_nil, List.map_append, List.map_singleton, col_1]
    · refine ite_n' (by rw [decide_eq_false h1]; decide) ?_
      simp only [go_nx, wp_bind, wp_chk, wp_ok, seq_wp, true_and, and_true, mk_len, nxp, mk_map, implies_true, wp_ite]
      by_cases h2 : ks i ∈ NF
      · refine ite_p' (decide_eq_true h2) ⟨by omega, by rw [List.length_map]; omega, by omega, ?_⟩
        rw [pls, if_neg h1, if_pos h2, List.nil_append, List.map_append, List.map_singleton, col_2]
      · refine ite_n' (by rw [decide_eq_false h2]; decide) ?_
        rw [pls, if_neg h1, if_neg h2, List.append_nil, List.append_nil]
  · subst hg
    rw [enum_mk, mk_len]
    simp only [go_nx, wp_bind, wp_chk, wp_ok, seq_wp, true_and, rtp]
/-- the places, numbered -/
structure Pl (ks : Nat → Str) (n N : Nat) (q : Nat → Int × Int) : Prop where
  len : N ≤ 2 * n
  mem : ∀ j, j < N → ∃ k : Nat, k < n ∧ ((q j = ((k : Int), 1) ∧ ks k ∈ PF) ∨ (q j = ((k : Int), -1) ∧ ks k ∈ NF))
  pos : ∀ k, k < n → ks k ∈ PF → ∃ j, j < N ∧ q j = ((k : Int), 1)
  neg : ∀ k, k < n → ks k ∈ NF → ∃ j, j < N ∧ q j = ((k : Int), -1)
theorem signed_mk {a : Nat → Nat → Int} {ks : Nat → Str} (hm : m ≤ 1000) (hn : n ≤ 1000) : ∃ (N : Nat) (q : Nat → Int × Int), Pl ks n N q ∧ m_signed_columns (mk m (fun i => mk n (a i)), mk n ks) = .ok (mk N (fun j => mk m fun i => (q j).2 * a i (q j).1.toNat), mk N q) := by
  have e : pls ks n = mk (pls ks n).length fun j => (pls ks n).getD j (0, 0) := mk_ext rfl fun j hj => by
    rw [List.getD_eq_getElem?_getD, List.getElem?_eq_getElem hj]; rfl
  have at_ : ∀ x, x ∈ pls ks n → ∃ j, j < (pls ks n).length ∧ (pls ks n).getD j (0, 0) = x := fun x hx => by
    obtain ⟨j, hj⟩ := List.getElem?_of_mem hx
    exact ⟨j, (List.getElem?_eq_some_iff.mp hj).1, by rw [List.getD_eq_getElem?_getD, hj]; rfl⟩
  refine ⟨(pls ks n).length, fun j => (pls ks n).getD j (0, 0), ⟨pls_len ks n, fun j hj => ?_, fun k hk h => ?_, fun k hk h => ?_⟩, ?_⟩
  · refine (pls_mem ks n).mp ?_
    rw [List.getD_eq_getElem?_getD, List.getElem?_eq_getElem hj]
    exact List.getElem_mem hj
  · exact at_ _ ((pls_mem ks n).mpr ⟨k, hk, .inl ⟨rfl, h⟩⟩)
  · exact at_ _ ((pls_mem ks n).mpr ⟨k, hk, .inr ⟨rfl, h⟩⟩)
  · rw [signed_ok hm hn]
    congr 2
    conv => lhs; rw [e, mk_map]
    rfl
end
section
open Wd Lp
variable {m n : Nat} {c : Nat → Nat → Int} {go : Nat → Int}
theorem combine_mk (h : Few m n c go) : (m_combine (mk n (fun j => mk m (c j)), mk m go)).wp (Comb m n c go) (fun e => ∃ l, e = ⟨0, .ints l⟩ ∧ Barr m n c go l) := by
  have hf := fu_mk (m := m) (n := n) (c := c) (go := go)
  have ec : ∀ j, j < n → ∀ i, i < m → (if j < n ∧ i < m then c j i else 0) = c j i := fun j hj i hi => if_pos ⟨hj, hi⟩
  have eg : ∀ i, i < m → (if i < m then go i else 0) = go i := fun i hi => if_pos hi
  have h' : Few m n (fun j i => if j < n ∧ i < m then c j i else 0) (fun i => if i < m then go i else 0) := ⟨h.1, h.2.1, fun j hj i hi => by show (if j < n ∧ i < m then c j i else 0).natAbs ≤ _; rw [ec j hj i hi]; exact h.2.2.1 j hj i hi, fun i hi => by show (if i < m then go i else 0).natAbs ≤ _; rw [eg i hi]; exact h.2.2.2 i hi⟩
  refine (combine_ok h' (mk_congr fun j hj => mk_congr fun i hi => (ec j hj i hi).symm) (mk_congr fun i hi => (eg i hi).symm) hf).mono (fun r hr => ?_) fun e he => ?_
  · obtain ⟨u, h1, h2, h3, h4, h5, h6⟩ := hr
    refine ⟨u, h1, h2, h3, fun x hx => ?_, h5, h6⟩
    have := h4 x hx
    try dsimp only at this
    rw [eg x hx] at this
    rw [← this]
    exact sm_congr fun j hj => by rw [ec j hj x hx]
  · obtain ⟨l, e1, v, h1, h2, h3, h4⟩ := he
    refine ⟨l, e1, v, h1, fun j hj => ?_, ?_, h4⟩
    · have := h2 j hj
      try dsimp only at this
      rwa [sm_congr fun k hk => by rw [ec j hj k hk]] at this
    · have := h3
      try dsimp only at this
      rwa [sm_congr fun k hk => by rw [eg k hk]] at this
/-- a task -/
structure Tk (m n : Nat) (a : Nat → Nat → Int) : Prop where
  hm : m ≤ 12
  hn : n ≤ 16
  ha : ∀ i, i < m → ∀ k, k < n → (a i k).natAbs ≤ 174762
structure Bal (m n : Nat) (a : Nat → Nat → Int) (ks : Nat → Str) (st : List Int) (x : Nat → Int) : Prop where
  row : ∀ i, i < m → sm n (fun k => a i k * x k) = 0
  pos : ∀ k, k < n → ks k = "positive" → 0 ≤ x k ∧ ((k : Int) ∈ st → 0 < x k)
  neg : ∀ k, k < n → ks k = "negative" → x k ≤ 0 ∧ ((k : Int) ∈ st → x k < 0)
  zer : ∀ k, k < n → ks k = "zero" → x k = 0
  sz : ∀ k, k < n → (x k).natAbs ≤ 2 ^ 325
structure Bar (m n : Nat) (a : Nat → Nat → Int) (ks : Nat → Str) (st : List Int) (v : Nat → Int) : Prop where
  fre : ∀ k, k < n → ks k = "free" → sm m (fun i => a i k * v i) = 0
  pos : ∀ k, k < n → ks k = "positive" → 0 ≤ sm m (fun i => a i k * v i)
  neg : ∀ k, k < n → ks k = "negative" → sm m (fun i => a i k * v i) ≤ 0
  st : ∃ k, k < n ∧ (k : Int) ∈ st ∧ sm m (fun i => a i k * v i) ≠ 0
  sz : ∀ i, i < m → (v i).natAbs ≤ 2 ^ 317
theorem not_PF {s : Str} (h : s = "negative" ∨ s = "zero") : s ∉ PF := by rcases h with h | h <;> subst h <;> decide
theorem not_NF {s : Str} (h : s = "positive" ∨ s = "zero") : s ∉ NF := by rcases h with h | h <;> subst h <;> decide
theorem sm_nonpos {m : Nat} {f : Nat → Int} (h : ∀ i, i < m → f i ≤ 0) : sm m f ≤ 0 := by
  have := sm_nonneg (m := m) (f := fun i => - f i) fun i hi => by have := h i hi; omega
  rw [sm_neg] at this
  omega
theorem sm_ge {m : Nat} {f : Nat → Int} (h : ∀ i, i < m → 0 ≤ f i) (j : Nat) (hj : j < m) (b : Int) (hb : b ≤ f j) : b ≤ sm m f := by
  have h1 := sm_nonneg (m := m) (f := fun i => if i = j then 0 else f i) fun i hi => by split <;> first | omega | exact h i hi
  have h2 : sm m f = sm m (fun i => if i = j then 0 else f i) + f j := by
    rw [← sm_one (m := m) (f := fun i => if i = j then f j else 0) j hj (fun k _ hk => if_neg hk) |>.trans (if_pos rfl), ← sm_add]
    exact sm_congr fun i _ => by split <;> (rename_i z; first | (subst z; omega) | omega)
  omega
section
variable {a : Nat → Nat → Int} {ks : Nat → Str} {st : List Int} {N : Nat} {q : Nat → Int × Int} {u : Nat → Int} {r : Int}
/-- what place j is given -/
def wt (q : Nat → Int × Int) (st : List Int) (u : Nat → Int) (r : Int) (j : Nat) : Int := u j + r * (if (q j).1 ∈ st then 1 else 0)
def xs_ (q : Nat → Int × Int) (st : List Int) (u : Nat → Int) (r : Int) (N k : Nat) : Int := sm N fun j => if (q j).1 = (k : Int) then (q j).2 * wt q st u r j else 0
def gl (q : Nat → Int × Int) (a : Nat → Nat → Int) (st : List Int) (N i : Nat) : Int := - sm N fun j => if (q j).1 ∈ st then (q j).2 * a i (q j).1.toNat else 0
theorem row_zero (P : Pl ks n N q) {i : Nat} (h : sm N (fun j => ((q j).2 * a i (q j).1.toNat) * u j) = r * gl q a st N i) : sm n (fun k => a i k * xs_ q st u r N k) = 0 := by
  have e1 : sm n (fun k => a i k * xs_ q st u r N k) = sm n (fun k => sm N fun j => a i k * (if (q j).1 = (k : Int) then (q j).2 * wt q st u r j else 0)) := sm_congr fun k _ => (sm_mul N _ _).symm
  rw [e1, sm_swap]
  have e2 : sm N (fun j => sm n fun k => a i k * (if (q j).1 = (k : Int) then (q j).2 * wt q st u r j else 0)) = sm N (fun j => ((q j).2 * a i (q j).1.toNat) * u j + r * (if (q j).1 ∈ st then (q j).2 * a i (q j).1.toNat else 0)) := sm_congr fun j hj => by
    obtain ⟨k, hk, hq⟩ := P.mem j hj
    have e : (q j).1 = (k : Int) := by rcases hq with ⟨z, _⟩ | ⟨z, _⟩ <;> rw [z]
    rw [sm_one k hk fun k' _ hne => by rw [if_neg (by omega), Int.mul_zero], if_pos e, e, Int.toNat_natCast]
    unfold wt
    rw [e]
    split <;> simp only [Int.mul_one, Int.mul_zero, Int.add_zero] <;> grind
  rw [e2, sm_add, sm_mul, h]
  unfold gl
  rw [Int.mul_neg]
  omega
theorem xs_pos (P : Pl ks n N q) (hu : ∀ j, j < N → 0 ≤ u j) (hr : 1 ≤ r) {k : Nat} (hk : k < n) (h : ks k = "positive") : 0 ≤ xs_ q st u r N k ∧ ((k : Int) ∈ st → 1 ≤ xs_ q st u r N k) := by
  have hw : ∀ j, j < N → 0 ≤ wt q st u r j ∧ ((q j).1 ∈ st → 1 ≤ wt q st u r j) := fun j hj => by
    have := hu j hj
    unfold wt
    split <;> rename_i z <;> refine ⟨by omega, fun y => ?_⟩
    · omega
    · exact absurd y z
  have sg : ∀ j, j < N → (q j).1 = (k : Int) → (q j).2 = 1 := fun j hj e => by
    obtain ⟨k', _, hq⟩ := P.mem j hj
    rcases hq with ⟨z, _⟩ | ⟨z, w⟩
    · rw [z]
    · rw [z] at e
      have : k' = k := by have e : (k' : Int) = k := e; omega
      subst this
      exact absurd w (not_NF (.inl h))
  have nn : ∀ j, j < N → 0 ≤ (if (q j).1 = (k : Int) then (q j).2 * wt q st u r j else 0) := fun j hj => by
    split
    · rename_i e; rw [sg j hj e, Int.one_mul]; exact (hw j hj).1
    · omega
  refine ⟨sm_nonneg nn, fun hs => ?_⟩
  obtain ⟨j, hj, e⟩ := P.pos k hk (by rw [h]; decide)
  have e1 : (q j).1 = (k : Int) := by rw [e]
  refine sm_ge nn j hj 1 ?_
  try dsimp only
  rw [if_pos e1, sg j hj e1, Int.one_mul]
  exact (hw j hj).2 (by rw [e1]; exact hs)
theorem xs_neg (P : Pl ks n N q) (hu : ∀ j, j < N → 0 ≤ u j) (hr : 1 ≤ r) {k : Nat} (hk : k < n) (h : ks k = "negative") : xs_ q st u r N k ≤ 0 ∧ ((k : Int) ∈ st → xs_ q st u r N k ≤ -1) := by
  have hw : ∀ j, j < N → 0 ≤ wt q st u r j ∧ ((q j).1 ∈ st → 1 ≤ wt q st u r j) := fun j hj => by
    have := hu j hj
    unfold wt
    split <;> rename_i z <;> refine ⟨by omega, fun y => ?_⟩
    · omega
    · exact absurd y z
  have sg : ∀ j, j < N → (q j).1 = (k : Int) → (q j).2 = -1 := fun j hj e => by
    obtain ⟨k', _, hq⟩ := P.mem j hj
    rcases hq with ⟨z, w⟩ | ⟨z, _⟩
    · rw [z] at e
      have : k' = k := by have e : (k' : Int) = k := e; omega
      subst this
      exact absurd w (not_PF (.inl h))
    · rw [z]
  have nn : ∀ j, j < N → 0 ≤ - (if (q j).1 = (k : Int) then (q j).2 * wt q st u r j else 0) := fun j hj => by
    split
    · rename_i e; rw [sg j hj e]; have := (hw j hj).1; omega
    · omega
  have en : xs_ q st u r N k = - sm N (fun j => - (if (q j).1 = (k : Int) then (q j).2 * wt q st u r j else 0)) := by
    unfold xs_
    rw [sm_neg, Int.neg_neg]
  rw [en]
  refine ⟨by have := sm_nonneg nn; omega, fun hs => ?_⟩
  obtain ⟨j, hj, e⟩ := P.neg k hk (by rw [h]; decide)
  have e1 : (q j).1 = (k : Int) := by rw [e]
  have := sm_ge nn j hj 1 (by
    try dsimp only
    rw [if_pos e1, sg j hj e1]
    have := (hw j hj).2 (by rw [e1]; exact hs)
    omega)
  omega
theorem xs_zer (P : Pl ks n N q) {k : Nat} (hk : k < n) (h : ks k = "zero") : xs_ q st u r N k = 0 := by
  unfold xs_
  rw [sm_congr (g := fun _ => 0) fun j hj => ?_, sm_zero]
  refine if_neg fun e => ?_
  obtain ⟨k', _, hq⟩ := P.mem j hj
  rcases hq with ⟨z, w⟩ | ⟨z, w⟩ <;> rw [z] at e <;> have : k' = k := by have e : (k' : Int) = k := e; omega
  · subst this; exact not_PF (.inr h) w
  · subst this; exact not_NF (.inr h) w
theorem sgn_q (P : Pl ks n N q) {j : Nat} (hj : j < N) : (q j).2 = 1 ∨ (q j).2 = -1 := by
  obtain ⟨k', _, hq⟩ := P.mem j hj
  rcases hq with ⟨z, _⟩ | ⟨z, _⟩ <;> rw [z] <;> simp
end
end
section
open Wd Lp
variable {m n : Nat}
theorem inV_dec {k : Int} {st : List Int} : (if decide (k ∈ st) = true then (1 : Int) else 0) = if k ∈ st then 1 else 0 := by
  by_cases h : k ∈ st
  · rw [if_pos h, if_pos (decide_eq_true h)]
  · rw [if_neg h, if_neg (by rw [decide_eq_false h]; decide)]
theorem bit_abs {k : Int} {st : List Int} : (if k ∈ st then (1 : Int) else 0).natAbs ≤ 2 ^ 0 := by split <;> decide
theorem p325 : 32 * (2 ^ 316 + 2 ^ 316) ≤ (2 : Nat) ^ 325 := by
  rw [show (2 : Nat) ^ 325 = 512 * 2 ^ 316 by rw [show (325 : Nat) = 9 + 316 from rfl, Nat.pow_add]]
  generalize (2 : Nat) ^ 316 = z
  omega
theorem neg_mk {k : Nat} {f : Nat → Int} : (mk k f).map (fun x => -x) = mk k fun i => - f i := mk_map
theorem solve_ok {a : Nat → Nat → Int} {ks : Nat → Str} (h : Tk m n a) (st : List Int) : (m_solve (mk m (fun i => mk n (a i)), mk n ks, st)).wp (fun r => (∃ x, r = (some (mk n x), []) ∧ Bal m n a ks st x) ∨ (∃ v, r = (none, mk m v) ∧ Bar m n a ks st v)) (fun _ => False) := by
  have hm := h.hm
  have hn := h.hn
  obtain ⟨N, q, P, e⟩ := signed_mk (m := m) (n := n) (a := a) (ks := ks) (by omega) (by omega)
  have hN := P.len
  unfold m_solve
  refine run_wp ?_
  unfold b_solve
  simp only [wp_bind, wp_chk, wp_ok, wp_nx, seq_wp, true_and, and_true, e, mk_len, Int.toNat_natCast, rep_mk, List.length_singleton]
  refine ⟨⟨by omega, by omega, by omega⟩, ?_⟩
  refine for_nx (fun j g => g = mk m fun i => gl q a st j i) (mk_congr fun i _ => rfl) (fun j x g hx hg => ?_) (fun g hg => ?_)
  · rw [mk_zip] at hx
    obtain ⟨hj, rfl⟩ := mk_at hx
    subst hg
    simp only [wp_bind, wp_chk, wp_ok, seq_wp, true_and, and_true, implies_true, wp_ite, mk_zip, mk_map, mk_len]
    by_cases hs : (q j).1 ∈ st
    · refine ite_p' (decide_eq_true hs) ⟨by omega, ?_⟩
      refine mk_congr fun i _ => ?_
      unfold gl
      rw [sm, if_pos hs]
      omega
    · refine ite_n' (by rw [decide_eq_false hs]; decide) ?_
      refine mk_congr fun i _ => ?_
      unfold gl
      rw [sm, if_neg hs]
      omega
  rw [mk_zip, mk_len] at hg
  subst hg
  have F : Few m N (fun j i => (q j).2 * a i (q j).1.toNat) (fun i => gl q a st N i) := by
    have ha : ∀ j, j < N → ∀ i, i < m → ((q j).2 * a i (q j).1.toNat).natAbs ≤ 174762 := fun j hj i hi => by
      obtain ⟨k, hk, hq⟩ := P.mem j hj
      have hk2 := h.ha i hi k hk
      rw [Int.natAbs_mul]
      rcases hq with ⟨z, _⟩ | ⟨z, _⟩ <;> rw [z] <;> simpa using hk2
    refine ⟨hm, by omega, fun j hj i hi => Nat.le_trans (ha j hj i hi) (by decide), fun i hi => ?_⟩
    unfold gl
    rw [Int.natAbs_neg]
    refine Nat.le_trans (sm_abs (K := 174762) fun j hj => ?_) (by have : N ≤ 32 := by omega
                                                                  exact Nat.le_trans (Nat.mul_le_mul_right _ this) (by decide))
    split
    · exact ha j hj i hi
    · decide
  have C := combine_mk F
  simp only [go_nx, wp_bind, wp_chk, wp_ok, wp_nx, seq_wp, true_and, and_true, implies_true]
  cases hc : m_combine (mk N (fun j => mk m fun i => (q j).2 * a i (q j).1.toNat), mk m fun i => gl q a st N i) with
  | bad => rw [hc] at C; exact C.elim
  | exc y =>
    rw [hc] at C
    obtain ⟨l, rfl, v, rfl, h1, h2, h3⟩ := C
    simp only [tryI_exc, wp_ok, wp_bind, wp_chk, true_and, and_true, implies_true, mk_len, neg_mk, go_rt, rtp]
    refine ⟨by omega, .inr ⟨fun i => - v i, rfl, ?_⟩⟩
    have tot : ∀ k, sm m (fun i => a i k * - v i) = - sm m (fun i => a i k * v i) := fun k => by
      rw [← sm_neg]
      exact sm_congr fun i _ => Int.mul_neg _ _
    have cj : ∀ j (k : Nat) (s : Int), q j = ((k : Int), s) → sm m (fun i => (q j).2 * a i (q j).1.toNat * v i) = s * sm m (fun i => a i k * v i) := fun j k s z => by
      rw [← sm_mul]
      exact sm_congr fun i _ => by rw [z]; exact Int.mul_assoc _ _ _
    have hp : ∀ k, k < n → ks k ∈ PF → sm m (fun i => a i k * v i) ≤ 0 := fun k hk hx => by
      obtain ⟨j, hj, z⟩ := P.pos k hk hx
      have := h1 j hj
      rw [cj j k 1 z] at this
      omega
    have hn' : ∀ k, k < n → ks k ∈ NF → 0 ≤ sm m (fun i => a i k * v i) := fun k hk hx => by
      obtain ⟨j, hj, z⟩ := P.neg k hk hx
      have := h1 j hj
      rw [cj j k (-1) z] at this
      omega
    refine ⟨fun k hk hx => ?_, fun k hk hx => ?_, fun k hk hx => ?_, ?_, fun i hi => by rw [Int.natAbs_neg]; exact h3 i hi⟩
    · have a1 := hp k hk (by rw [hx]; decide)
      have a2 := hn' k hk (by rw [hx]; decide)
      rw [tot]; omega
    · have a1 := hp k hk (by rw [hx]; decide)
      rw [tot]; omega
    · have a2 := hn' k hk (by rw [hx]; decide)
      rw [tot]; omega
    · have e2 : sm m (fun i => gl q a st N i * v i) = sm N (fun j => - (if (q j).1 ∈ st then sm m (fun i => (q j).2 * a i (q j).1.toNat * v i) else 0)) := by
        have e3 : sm m (fun i => gl q a st N i * v i) = sm m (fun i => sm N fun j => v i * - (if (q j).1 ∈ st then (q j).2 * a i (q j).1.toNat else 0)) := sm_congr fun i _ => by
          rw [sm_mul, sm_neg]
          unfold gl
          exact Int.mul_comm _ _
        rw [e3, sm_swap]
        refine sm_congr fun j _ => ?_
        split
        · rw [← sm_neg]
          exact sm_congr fun i _ => by rw [Int.mul_neg, Int.mul_comm]
        · rw [sm_congr (g := fun _ => 0) fun i _ => by rw [Int.neg_zero, Int.mul_zero], sm_zero]; rfl
      rw [e2] at h2
      obtain ⟨j, hj, z⟩ := sm_pos h2
      by_cases hs : (q j).1 ∈ st
      · rw [if_pos hs] at z
        obtain ⟨k, hk, hq⟩ := P.mem j hj
        obtain ⟨s, hq⟩ : ∃ s, q j = ((k : Int), s) := by rcases hq with ⟨y, _⟩ | ⟨y, _⟩ <;> exact ⟨_, y⟩
        rw [cj j k s hq] at z
        refine ⟨k, hk, by rw [hq] at hs; exact hs, fun y => ?_⟩
        rw [tot] at y
        rw [show sm m (fun i => a i k * v i) = 0 by omega, Int.mul_zero] at z
        exact absurd z (by decide)
      · rw [if_neg hs] at z
        exact absurd z (by decide)
  | ok r =>
    rw [hc] at C
    obtain ⟨r1, r2⟩ := r
    obtain ⟨u, e1, h1, h2, h3, h4, h5⟩ := C
    try dsimp only at e1 h1 h3 h4
    subst e1
    simp only [tryI_ok, go_nx, wp_ok, wp_bind, wp_chk, wp_nx, seq_wp, true_and, and_true, implies_true, mk_len, Int.toNat_natCast, rep_mk, List.length_singleton, inV_dec]
    have w2 : ∀ j, j < N → (wt q st u r1 j).natAbs ≤ 2 ^ 316 + 2 ^ 316 := fun j hj => by
      unfold wt
      refine Nat.le_trans (Int.natAbs_add_le _ _) (Nat.add_le_add (h5 j hj) ?_)
      rw [Int.natAbs_mul]
      exact Nat.le_trans (Nat.mul_le_mul h4 bit_abs) (by rw [Nat.pow_zero, Nat.mul_one]; exact Nat.le_refl _)
    have w3 : ∀ j, j < N → (wt q st u r1 j).natAbs ≤ 2 ^ 317 := fun j hj => by
      rw [show (2 : Nat) ^ 317 = 2 ^ 316 + 2 ^ 316 by rw [show (317 : Nat) = 316 + 1 from rfl, Nat.pow_succ, Nat.mul_two]]
      exact w2 j hj
    refine ⟨⟨by omega, by omega, by omega⟩, ?_⟩
    refine for_nx (fun j g => g = mk n fun k => xs_ q st u r1 j k) (mk_congr fun i _ => rfl) (fun j x g hx hg => ?_) (fun g hg => ?_)
    · rw [mk_zip] at hx
      obtain ⟨hj, rfl⟩ := mk_at hx
      subst hg
      obtain ⟨k, hk, hq⟩ := P.mem j hj
      obtain ⟨s, hq, hs⟩ : ∃ s : Int, q j = ((k : Int), s) ∧ s.natAbs ≤ 2 ^ 0 := by rcases hq with ⟨y, _⟩ | ⟨y, _⟩ <;> exact ⟨_, y, by decide⟩
      have ew := w3 j hj
      unfold wt at ew
      simp only [wp_chk, wp_ok, true_and, and_true, nxp]
      rw [hq] at ew ⊢
      try dsimp only at ew ⊢
      refine ⟨⟨⟨cm_le h4 bit_abs (by decide), cm_le hs ew (by decide)⟩, inR_mk hk⟩, ?_⟩
      rw [set_mk hk, get_mk hk]
      refine mk_congr fun k' _ => ?_
      unfold xs_
      rw [sm, hq]
      try dsimp only
      by_cases ek : k' = k
      · subst ek
        rw [if_pos rfl, if_pos rfl]
        unfold wt
        rw [hq]
      · rw [if_neg ek, if_neg (by omega), Int.add_zero]
    rw [mk_zip, mk_len] at hg
    subst hg
    simp only [go_nx, wp_ok, wp_bind, wp_chk, wp_nx, seq_wp, true_and, and_true, implies_true]
    have sz : ∀ k, k < n → (xs_ q st u r1 N k).natAbs ≤ 2 ^ 325 := fun k _ => by
      unfold xs_
      refine Nat.le_trans (sm_abs (K := 2 ^ 316 + 2 ^ 316) fun j hj => ?_) (Nat.le_trans (Nat.mul_le_mul_right _ (show N ≤ 32 by omega)) p325)
      split
      · rw [Int.natAbs_mul]
        rcases sgn_q P hj with z | z <;> rw [z] <;> simpa using w2 j hj
      · exact Nat.zero_le _
    refine (reduced_ok (B := 325) (by omega) (by decide) sz).mono (fun g hg => ?_) fun _ z => z
    obtain ⟨d, x, hd, rfl, hx⟩ := hg
    simp only [rtp]
    refine .inl ⟨x, rfl, fun i hi => ?_, fun k hk hx' => ?_, fun k hk hx' => ?_, fun k hk hx' => ?_, fun k hk => div_le (hx k hk) hd (sz k hk)⟩
    · have z := row_zero (st := st) (u := u) (r := r1) P (h3 i hi)
      rw [sm_congr (g := fun k => d * (a i k * x k)) fun k hk => by rw [hx k hk]; grind, sm_mul] at z
      rcases Int.mul_eq_zero.mp z with z | z
      · omega
      · exact z
    · have z := xs_pos (st := st) P h2 h1 hk hx'
      rw [hx k hk] at z
      refine ⟨?_, fun hs => ?_⟩
      · by_cases y : 0 ≤ x k
        · exact y
        · have := Int.mul_neg_of_pos_of_neg (show 0 < d by omega) (show x k < 0 by omega)
          omega
      · by_cases y : 0 < x k
        · exact y
        · have := Int.mul_le_mul_of_nonneg_left (show x k ≤ 0 by omega) (show 0 ≤ d by omega)
          have := z.2 hs
          omega
    · have z := xs_neg (st := st) P h2 h1 hk hx'
      rw [hx k hk] at z
      refine ⟨?_, fun hs => ?_⟩
      · by_cases y : x k ≤ 0
        · exact y
        · have := Int.mul_pos (show 0 < d by omega) (show 0 < x k by omega)
          omega
      · by_cases y : x k < 0
        · exact y
        · have := Int.mul_nonneg (show 0 ≤ d by omega) (show 0 ≤ x k by omega)
          have := z.2 hs
          omega
    · have z := xs_zer (st := st) (u := u) (r := r1) P hk hx'
      rw [hx k hk] at z
      rcases Int.mul_eq_zero.mp z with z | z
      · omega
      · exact z
end
section
open Wd Lp
theorem take_wp {ms : List Int} {k : Int} (ok : Tr.PoolOk ms) (hk : 0 < k) : (m_law_take (ms, k)).wp (fun r => 0 ≤ r.1 ∧ r.1 < k ∧ Tr.PoolOk r.2) (fun _ => False) := by
  unfold m_law_take
  rw [wp_chk]
  exact ⟨⟨ok, hk⟩, (Tr.tkv_rng hk).1, (Tr.tkv_rng hk).2, ok.tail⟩
section
variable {m n : Nat} {B D : Nat}
theorem dot_ok {f g : Nat → Int} (hm : m ≤ 1000) (hf : ∀ i, i < m → (f i).natAbs ≤ 2 ^ B) (hg : ∀ i, i < m → (g i).natAbs ≤ 2 ^ D) (h : B + D ≤ 999998) : m_law_dot (mk m f, mk m g) = .ok (sm m fun k => f k * g k) := by
  apply wp_eq
  unfold m_law_dot
  refine run_wp ?_
  unfold b_law_dot
  simp only [wp_bind, wp_chk, wp_ok, wp_nx, seq_wp, true_and, and_true, rng_mk, mk_len]
  refine ⟨by omega, for_nx (fun i g' => g' = sm i fun k => f k * g k) rfl (fun i x g' hx hg' => ?_) (fun g' hg' => ?_)⟩
  · obtain ⟨hi, rfl⟩ := mk_at hx
    subst hg'
    simp only [wp_bind, wp_chk, wp_ok, wp_nx, true_and, and_true, nxp, get_mk hi]
    exact ⟨⟨inR_mk hi, inR_mk hi, cm_le (hf i hi) (hg i hi) h⟩, rfl⟩
  · rw [mk_len] at hg'
    try simp only [go_nx, wp_bind, wp_chk, wp_ok, wp_nx, true_and, and_true, rtp]
    exact hg'
theorem list_of_ok {f : Nat → Int} (hm : m ≤ 1000) : m_law_list_of (mk m f, (m : Int)) = .ok true := by
  apply wp_eq
  unfold m_law_list_of
  refine run_wp ?_
  unfold b_law_list_of
  simp only [wp_bind, wp_chk, wp_ok, wp_nx, seq_wp, true_and, and_true, wp_ite, mk_len]
  rw [if_neg (by simp)]
  simp only [go_nx, wp_bind, wp_chk, wp_ok, wp_nx, true_and, and_true, rtp]
  refine ⟨fun _ => trivial, lcT_wp (fun _ => false) (by rw [mk_len]; omega) (fun x hx => ?_) ?_⟩
  · unfold m_law_whole
    simp only [wp_chk, wp_nx, wp_ok, true_and]
    exact ⟨rfl, fun z => nomatch z⟩
  · rw [show (mk m f).filter (fun _ => false) = [] from by simp]
    refine ⟨⟨fun x hx => (by cases hx), fun x hx => (by cases hx)⟩, @decide_eq_true _ (Classical.propDecidable _) rfl⟩
/-! ### numbers and weights that are right -/
section
variable {m n : Nat} {a : Nat → Nat → Int} {ks : Nat → Str} {x v : Nat → Int} {B D : Nat}
theorem sign_ok {s : Str} {y : Int} {strict : Bool} (h : s = "free" ∨ (s = "zero" ∧ y = 0) ∨ (s = "positive" ∧ (0 < y ∨ (y = 0 ∧ strict = false))) ∨ (s = "negative" ∧ (y < 0 ∨ (y = 0 ∧ strict = false)))) : m_law_sign_right (s, y, strict) = .ok true := by
  apply wp_eq
  unfold m_law_sign_right
  refine run_wp ?_
  unfold b_law_sign_right
  simp only [wp_bind, wp_chk, wp_ok, wp_nx, seq_wp, true_and, and_true, wp_ite]
  rcases h with rfl | ⟨rfl, rfl⟩ | ⟨rfl, h⟩ | ⟨rfl, h⟩
  · exact ite_p' (decide_eq_true rfl) rfl
  · refine ite_n' (fun z => absurd (of_decide_eq_true z) (by decide)) ?_
    try simp only [go_nx, wp_bind, wp_chk, wp_ok, wp_nx, seq_wp, true_and, and_true, wp_ite]
    refine ite_p' (by simp) ?_
    exact ⟨fun _ => trivial, rfl⟩
  · refine ite_n' (fun z => absurd (of_decide_eq_true z) (by decide)) ?_
    try simp only [go_nx, wp_bind, wp_chk, wp_ok, wp_nx, seq_wp, true_and, and_true, wp_ite]
    rcases h with h | ⟨rfl, rfl⟩
    · refine ite_n' (by rw [decide_eq_false (by omega)]; decide) ?_
      refine ⟨⟨fun _ => trivial, fun _ _ => trivial⟩, ?_⟩
      show (((decide ((("positive") : Str) = "positive")) && decide (0 < y)) || _) = true
      rw [decide_eq_true h]
      rfl
    · refine ite_p' (by simp) ⟨fun _ => trivial, rfl⟩
  · refine ite_n' (fun z => absurd (of_decide_eq_true z) (by decide)) ?_
    try simp only [go_nx, wp_bind, wp_chk, wp_ok, wp_nx, seq_wp, true_and, and_true, wp_ite]
    rcases h with h | ⟨rfl, rfl⟩
    · refine ite_n' (by rw [decide_eq_false (by omega)]; decide) ?_
      refine ⟨⟨fun _ => trivial, fun _ _ => trivial⟩, ?_⟩
      show (((decide ((("negative") : Str) = "positive")) && decide (0 < y)) || ((decide ((("negative") : Str) = "negative")) && decide (y < 0))) = true
      rw [decide_eq_true h]
      rfl
    · refine ite_p' (by simp) ⟨fun _ => trivial, rfl⟩
theorem numbers_ok {strict : Bool} (h : Tk m n a) (hrow : ∀ i, i < m → sm n (fun k => a i k * x k) = 0) (hs : ∀ k, k < n → m_law_sign_right (ks k, x k, strict) = .ok true) (hx : ∀ k, k < n → (x k).natAbs ≤ 2 ^ 330) :
    m_law_numbers_right (mk m (fun i => mk n (a i)), mk n ks, mk n x, strict) = .ok true := by
  have hm := h.hm
  have hn := h.hn
  apply wp_eq
  unfold m_law_numbers_right
  refine run_wp ?_
  unfold b_law_numbers_right
  have e1 : m_law_list_of (mk n x, (n : Int)) = .ok true := list_of_ok (by omega)
  have ed : ∀ i, i < m → m_law_dot (mk n (a i), mk n x) = .ok 0 := fun i hi => by
    rw [dot_ok (B := 18) (D := 330) (by omega) (fun k hk => Nat.le_trans (h.ha i hi k hk) (by decide)) hx (by decide), hrow i hi]
  simp only [wp_bind, wp_chk, wp_ok, wp_nx, seq_wp, true_and, and_true, mk_len, e1, wp_ite, Bool.not_true, Bool.false_eq_true, if_false, go_nx, rng_mk]
  refine ⟨by omega, for_nx (fun _ _ => True) trivial (fun i y g hy _ => ?_) (fun g _ => ?_)⟩
  · obtain ⟨hi, rfl⟩ := mk_at hy
    simp only [wp_bind, wp_chk, wp_ok, wp_nx, seq_wp, true_and, and_true, get_mk hi, hs i hi, wp_ite, Bool.not_true, Bool.false_eq_true, if_false, go_nx, nxp]
    exact ⟨inR_mk hi, inR_mk hi⟩
  · simp only [go_nx, wp_bind, wp_chk, wp_ok, wp_nx, true_and, and_true, rtp]
    refine lcT_wp (fun _ => false) (by rw [mk_len]; omega) (fun y hy => ?_) ?_
    · obtain ⟨i, hi, rfl⟩ := mk_mem hy
      simp only [wp_bind, wp_chk, wp_nx, wp_ok, true_and, ed i hi]
      exact ⟨by decide, fun z => nomatch z⟩
    · rw [show (mk m fun i => mk n (a i)).filter (fun _ => false) = [] from by simp]
      refine ⟨⟨fun x hx => (by cases hx), fun x hx => (by cases hx)⟩, @decide_eq_true _ (Classical.propDecidable _) rfl⟩
theorem totals_ok (h : Tk m n a) (hv : ∀ i, i < m → (v i).natAbs ≤ 2 ^ 330) : m_law_totals (mk m (fun i => mk n (a i)), (n : Int), mk m v) = .ok (mk n fun k => sm m fun i => a i k * v i) := by
  have hm := h.hm
  have hn := h.hn
  apply wp_eq
  unfold m_law_totals
  refine run_wp ?_
  unfold b_law_totals
  simp only [wp_bind, wp_chk, wp_ok, wp_nx, seq_wp, true_and, and_true, mk_len, rng_mk]
  refine ⟨by omega, for_nx (fun k g => g = mk k fun k => sm m fun i => a i k * v i) rfl (fun k y g hy hg => ?_) (fun g hg => ?_)⟩
  · obtain ⟨hk, rfl⟩ := mk_at hy
    subst hg
    have e : (mk m fun i => getI (mk n (a i)) (k : Int)) = mk m fun i => a i k := mk_congr fun i _ => get_mk hk
    simp only [wp_bind, wp_chk, wp_ok, wp_nx, seq_wp, true_and, and_true, mk_map, mk_len, e, nxp]
    rw [dot_ok (B := 18) (D := 330) (by omega) (fun i hi => Nat.le_trans (h.ha i hi k hk) (by decide)) hv (by decide)]
    simp only [wp_bind, wp_chk, wp_ok, nxp]
    refine ⟨⟨by omega, fun y hy => ?_⟩, by omega, mk_snoc⟩
    obtain ⟨i, _, rfl⟩ := mk_mem hy
    exact inR_mk hk
  · rw [mk_len] at hg
    subst hg
    try simp only [go_nx, wp_bind, wp_chk, wp_ok, true_and, rtp]
theorem weights_ok {strict : Bool} (h : Tk m n a) (hf : ∀ k, k < n → ks k = "free" → sm m (fun i => a i k * v i) = 0) (hp : ∀ k, k < n → ks k = "positive" → 0 ≤ sm m (fun i => a i k * v i)) (hg : ∀ k, k < n → ks k = "negative" → sm m (fun i => a i k * v i) ≤ 0)
    (hs : strict = true → ∃ k, k < n ∧ ks k ∈ SG ∧ sm m (fun i => a i k * v i) ≠ 0) (hv : ∀ i, i < m → (v i).natAbs ≤ 2 ^ 330) : m_law_weights_right (mk m (fun i => mk n (a i)), mk n ks, mk m v, strict) = .ok true := by
  have hm := h.hm
  have hn := h.hn
  apply wp_eq
  unfold m_law_weights_right
  refine run_wp ?_
  unfold b_law_weights_right
  have e1 : m_law_list_of (mk m v, (m : Int)) = .ok true := list_of_ok (by omega)
  simp only [wp_bind, wp_chk, wp_ok, wp_nx, seq_wp, true_and, and_true, mk_len, e1, wp_ite, Bool.not_true, Bool.false_eq_true, if_false, go_nx, rng_mk, totals_ok h hv]
  refine ⟨by omega, for_nx (fun i g => (∃ k, k < i ∧ ks k ∈ SG ∧ sm m (fun i => a i k * v i) ≠ 0) → g = true) (fun ⟨k, hk, _⟩ => absurd hk (Nat.not_lt_zero k)) (fun k y g hy hI => ?_) (fun g hI => ?_)⟩
  · obtain ⟨hk, rfl⟩ := mk_at hy
    simp only [wp_bind, wp_chk, wp_ok, wp_nx, seq_wp, true_and, and_true, get_mk hk, wp_ite]
    refine ⟨⟨inR_mk hk, fun _ => inR_mk hk⟩, ite_n' (fun z => ?_) ?_⟩
    · rw [Bool.and_eq_true, Bool.not_eq_true', decide_eq_true_iff, decide_eq_false_iff_not] at z
      exact z.2 (hf k hk z.1)
    try simp only [go_nx, wp_bind, wp_chk, wp_ok, wp_nx, seq_wp, true_and, and_true, get_mk hk, wp_ite]
    refine ⟨⟨inR_mk hk, fun _ => inR_mk hk⟩, ite_n' (fun z => ?_) ?_⟩
    · rw [Bool.and_eq_true, decide_eq_true_iff, decide_eq_true_iff] at z
      have := hp k hk z.1
      omega
    try simp only [go_nx, wp_bind, wp_chk, wp_ok, wp_nx, seq_wp, true_and, and_true, get_mk hk, wp_ite]
    refine ⟨⟨inR_mk hk, fun _ => inR_mk hk⟩, ite_n' (fun z => ?_) ?_⟩
    · rw [Bool.and_eq_true, decide_eq_true_iff, decide_eq_true_iff] at z
      have := hg k hk z.1
      omega
    try simp only [go_nx, wp_bind, wp_chk, wp_ok, wp_nx, seq_wp, true_and, and_true, get_mk hk, wp_ite]
    refine ⟨inR_mk hk, ?_⟩
    have old : ∀ {b : Bool}, (b = false → ¬ (ks k ∈ SG ∧ sm m (fun i => a i k * v i) ≠ 0)) → (b = true ∨ b = g) → (∃ k', k' < k + 1 ∧ ks k' ∈ SG ∧ sm m (fun i => a i k' * v i) ≠ 0) → b = true := fun {b} h1 h2 ⟨k', hk', h3⟩ => by
      rcases h2 with h2 | h2
      · exact h2
      · by_cases c : k' < k
        · rw [h2]; exact hI ⟨k', c, h3⟩
        · have : k' = k := by omega
          subst this
          cases b with
          | true => rfl
          | false => exact absurd h3 (h1 rfl)
    by_cases h1 : ks k ∈ SG
    · refine ite_p' (decide_eq_true h1) ⟨inR_mk hk, ?_⟩
      by_cases h2 : sm m (fun i => a i k * v i) = 0
      · refine ite_n' (by rw [decide_eq_true h2]; decide) ?_
        try simp only [go_nx, wp_ok, nxp]
        exact fun ⟨k', hk', h3⟩ => by
          by_cases c : k' < k
          · exact hI ⟨k', c, h3⟩
          · have : k' = k := by omega
            subst this
            exact absurd h2 h3.2
      · refine ite_p' (by rw [decide_eq_false h2]; rfl) ?_
        try simp only [go_nx, wp_ok, wp_bind, wp_chk, true_and, nxp]
        first | exact fun _ => rfl | exact fun _ => trivial
    · refine ite_n' (by rw [decide_eq_false h1]; decide) ?_
      rw [if_neg Bool.false_ne_true]
      try simp only [go_nx, wp_ok, nxp]
      exact fun ⟨k', hk', h3⟩ => by
        by_cases c : k' < k
        · exact hI ⟨k', c, h3⟩
        · have : k' = k := by omega
          subst this
          exact absurd h3.1 h1
  · rw [mk_len] at hI
    try simp only [go_nx, wp_bind, wp_chk, wp_ok, true_and, and_true, rtp]
    refine ⟨fun _ => trivial, ?_⟩
    cases strict with
    | false => exact Bool.or_true _
    | true => rw [hI (hs rfl)]; rfl
end
end
end
section
open Wd Lp
variable {m n : Nat} {a : Nat → Nat → Int} {ks : Nat → Str}
/-- the kinds' words -/
def Wds (n : Nat) (ks : Nat → Str) : Prop := ∀ k, k < n → ks k = "positive" ∨ ks k = "negative" ∨ ks k = "free" ∨ ks k = "zero"
theorem p330 : (2 : Nat) ^ 325 ≤ 2 ^ 330 := Nat.pow_le_pow_right (by decide) (by decide)
theorem p330' : (2 : Nat) ^ 317 ≤ 2 ^ 330 := Nat.pow_le_pow_right (by decide) (by decide)
theorem pT (i : Decidable True) : @decide True i = true := decide_eq_true trivial
theorem deI (xs : List Int) : DE.ok xs := fun _ _ => trivial
theorem deII (xs : List (List Int)) : DE.ok xs := fun _ _ _ _ => trivial
theorem deS (hw : Wds n ks) : DE.ok (mk n ks) := fun x hx => by
  obtain ⟨k, hk, rfl⟩ := mk_mem hx
  rcases hw k hk with e | e | e | e <;> rw [e]
  · exact (by decide +kernel : PyData.canLay0 (.str ("positive" : Str)) = true)
  · exact (by decide +kernel : PyData.canLay0 (.str ("negative" : Str)) = true)
  · exact (by decide +kernel : PyData.canLay0 (.str ("free" : Str)) = true)
  · exact (by decide +kernel : PyData.canLay0 (.str ("zero" : Str)) = true)
end
section
open Wd Lp
variable {m n : Nat} {a : Nat → Nat → Int} {ks : Nat → Str}
theorem mem_sg {k : Nat} (hk : k < n) : ((k : Int) ∈ List.map (fun x : Int × Str => x.1) (List.filter (fun x : Int × Str => decide (x.2 ∈ SG)) (mk n fun i => ((i : Int), ks i)))) ↔ ks k ∈ SG := by
  rw [List.mem_map]
  constructor
  · rintro ⟨y, hy, e⟩
    rw [List.mem_filter] at hy
    obtain ⟨i, hi, rfl⟩ := mk_mem hy.1
    have : i = k := by have e : (i : Int) = k := e; omega
    subst this
    exact of_decide_eq_true hy.2
  · intro h
    exact ⟨((k : Int), ks k), List.mem_filter.mpr ⟨List.mem_of_getElem? (mk_get? hk), decide_eq_true h⟩, rfl⟩
theorem balance_ok (h : Tk m n a) : (m_balance (mk m (fun i => mk n (a i)), mk n ks)).wp (fun r => ∃ x st, r = mk n x ∧ Bal m n a ks st x ∧ ∀ k, k < n → ks k ∈ SG → (k : Int) ∈ st)
    (fun e => ∃ v st, e = ⟨1, .ints (mk m v)⟩ ∧ Bar m n a ks st v ∧ ∀ k, k < n → (k : Int) ∈ st → ks k ∈ SG) := by
  have hn := h.hn
  unfold m_balance
  refine run_wp ?_
  unfold b_balance
  simp only [wp_bind, wp_chk, wp_ok, wp_nx, seq_wp, true_and, and_true, mk_len, enum_mk, implies_true]
  refine ⟨by omega, (solve_ok h _).mono (fun r hr => ?_) fun _ z => z.elim⟩
  rcases hr with ⟨x, rfl, hb⟩ | ⟨v, rfl, hb⟩
  · simp only [wp_ok, go_nx, wp_bind, wp_chk, true_and, rtp]
    exact ⟨x, _, rfl, hb, fun k hk hs => (mem_sg hk).mpr hs⟩
  · simp only [wp_bind, wp_chk, wp_ok, true_and]
    exact ⟨v, _, rfl, hb, fun k hk hs => (mem_sg hk).mp hs⟩
theorem right_ok (h : Tk m n a) (hw : Wds n ks) : m_law_right (mk m (fun i => mk n (a i)), mk n ks) = .ok true := by
  have hm := h.hm
  have hn := h.hn
  have C := balance_ok (ks := ks) h
  apply wp_eq
  unfold m_law_right
  refine run_wp ?_
  unfold b_law_right
  simp only [wp_bind, wp_chk, wp_ok, wp_nx, seq_wp, true_and, and_true]
  refine lcM_wp id (by rw [mk_len]; omega) (fun x hx => by simp only [wp_bind, wp_chk, wp_ok, true_and]; rfl) ?_
  rw [List.map_id]
  cases hc : m_balance (mk m (fun i => mk n (a i)), mk n ks) with
  | bad => rw [hc] at C; exact C.elim
  | ok r =>
    rw [hc] at C
    obtain ⟨x, st, rfl, B, hs⟩ := C
    have e := numbers_ok (strict := true) (ks := ks) h B.row (fun k hk => sign_ok (by
      rcases hw k hk with e | e | e | e
      · exact .inr (.inr (.inl ⟨e, .inl ((B.pos k hk e).2 (hs k hk (by rw [e]; decide)))⟩))
      · exact .inr (.inr (.inr ⟨e, .inl ((B.neg k hk e).2 (hs k hk (by rw [e]; decide)))⟩))
      · exact .inl e
      · exact .inr (.inl ⟨e, B.zer k hk e⟩))) (fun k hk => Nat.le_trans (B.sz k hk) p330)
    simp only [tryI_ok, wp_ok, go_nx, seq_wp, wp_bind, wp_chk, wp_nx, true_and, and_true, wp_ite, e, Bool.not_true, Bool.false_eq_true, if_false]
    simp only [tryI_ok, wp_ok, go_nx, seq_wp, wp_bind, wp_chk, wp_nx, true_and, and_true, wp_ite, rtp]
    refine ⟨by rw [mk_len]; omega, ⟨⟨deII _, deII _⟩, fun _ => ⟨deS hw, deS hw⟩⟩, ?_⟩
    first | rfl | (rw [pT]; rfl)
  | exc y =>
    rw [hc] at C
    obtain ⟨v, st, rfl, B, hs⟩ := C
    have e := weights_ok (strict := true) (ks := ks) h B.fre B.pos B.neg (fun _ => by
      obtain ⟨k, hk, h1, h2⟩ := B.st
      exact ⟨k, hk, hs k hk h1, h2⟩) (fun i hi => Nat.le_trans (B.sz i hi) p330')
    simp only [tryI_exc, wp_ok, go_nx, seq_wp, wp_bind, wp_chk, wp_nx, true_and, and_true, wp_ite, e]
    refine ⟨fun _ => ⟨⟨deII _, deII _⟩, fun _ => ⟨deS hw, deS hw⟩⟩, ?_⟩
    simp only [pT]
    simp only [Bool.true_and, Bool.and_self, if_true, wp_bind, wp_chk, wp_nx, wp_ok, true_and, go_rt, rtp]
end
section
open Wd Lp
variable {m n : Nat} {a : Nat → Nat → Int} {ks : Nat → Str}
theorem chk_true {α : Type} {m : R α} : chk True m = m := if_pos trivial
theorem getD_mk {α : Type} {n i : Nat} {f : Nat → α} {d : α} (h : i < n) : (mk n f).getD i d = f i := by
  rw [List.getD_eq_getElem?_getD, mk_get? h]; rfl
theorem lset_mk {α : Type} {n i : Nat} {f : Nat → α} {y : α} : (mk n f).set i y = mk n fun j => if j = i then y else f j := by
  refine mk_ext (by rw [List.length_set, mk_len]) fun k hk => ?_
  by_cases e : k = i
  · subst e; rw [List.getElem?_set_self (by rw [mk_len]; exact hk), if_pos rfl]
  · rw [List.getElem?_set_ne (fun z => e z.symm), mk_get? hk, if_neg e]
def put (a : Nat → Nat → Int) (i k : Nat) (y : Int) : Nat → Nat → Int := fun j l => if j = i ∧ l = k then y else a j l
theorem put_mk {i k : Nat} {y : Int} (hi : i < m) (hk : k < n) : List.set (mk m fun j => mk n (a j)) i (setI (List.getD (mk m fun j => mk n (a j)) i []) (k : Int) y) = mk m fun j => mk n (put a i k y j) := by
  rw [getD_mk hi, set_mk hk, lset_mk]
  refine mk_congr fun j _ => ?_
  by_cases e : j = i
  · subst e
    rw [if_pos rfl]
    refine mk_congr fun l _ => ?_
    unfold put
    by_cases e2 : l = k
    · rw [if_pos e2, if_pos ⟨rfl, e2⟩]
    · rw [if_neg e2, if_neg fun z => e2 z.2]
  · rw [if_neg e]
    refine mk_congr fun l _ => ?_
    unfold put
    rw [if_neg fun z => e z.1]
/-- numbers taken, one by one -/
theorem takes_wp {k : Int} {s : Int} {ms : List Int} {α : Type} {xs : List α} (ok : Tr.PoolOk ms) (hk : 0 < k) {Q : List Int × List Int → Prop} {f : α → List Int → R (Option Int × List Int)} (hf : ∀ x g, f x g = (m_law_take (g, k)).nx.bind fun r => .ok (some (r.1 - s), r.2))
    (hQ : ∀ (u : Nat → Int) ns, Tr.PoolOk ns → (∀ i, i < xs.length → -s ≤ u i ∧ u i < k - s) → Q (mk xs.length u, ns)) : (compR f xs ms []).wp Q (fun _ => False) := by
  refine comp_wp (fun i g acc => Tr.PoolOk g ∧ ∃ u : Nat → Int, acc = mk i u ∧ ∀ j, j < i → -s ≤ u j ∧ u j < k - s) ⟨ok, fun _ => 0, rfl, fun j hj => by omega⟩ (fun i x g acc hx hg => ?_) (fun g acc hg => ?_)
  · obtain ⟨hp, u, rfl, hu⟩ := hg
    rw [hf]
    simp only [wp_bind, wp_nx, wp_ok]
    refine (take_wp hp hk).mono (fun r h => ?_) fun _ z => z
    obtain ⟨y, ns⟩ := r
    obtain ⟨a1, a2, a3⟩ := h
    try dsimp only at a1 a2 a3 ⊢
    refine ⟨a3, fun j => if j < i then u j else y - s, by rw [mk_single, mk_app], fun j hj => ?_⟩
    try dsimp only
    split
    · exact hu j (by omega)
    · omega
  · obtain ⟨hp, u, rfl, hu⟩ := hg
    exact hQ u g hp hu
theorem word5 {z : Int} (h0 : 0 ≤ z) (h1 : z < 5) : inR [("positive" : Str), "negative", "free", "zero", "positive"] z ∧ (getI [("positive" : Str), "negative", "free", "zero", "positive"] z = "positive" ∨ getI [("positive" : Str), "negative", "free", "zero", "positive"] z = "negative" ∨ getI [("positive" : Str), "negative", "free", "zero", "positive"] z = "free" ∨ getI [("positive" : Str), "negative", "free", "zero", "positive"] z = "zero") := by
  have e : z = 0 ∨ z = 1 ∨ z = 2 ∨ z = 3 ∨ z = 4 := by omega
  rcases e with e | e | e | e | e <;> subst e
  · exact ⟨⟨by decide, by decide⟩, .inl rfl⟩
  · exact ⟨⟨by decide, by decide⟩, .inr (.inl rfl)⟩
  · exact ⟨⟨by decide, by decide⟩, .inr (.inr (.inl rfl))⟩
  · exact ⟨⟨by decide, by decide⟩, .inr (.inr (.inr rfl))⟩
  · exact ⟨⟨by decide, by decide⟩, .inl rfl⟩
theorem kinds_wp {ms : List Int} (ok : Tr.PoolOk ms) (hn : n ≤ 100) : (m_law_kinds (ms, (n : Int))).wp (fun r => (∃ ks, r.1 = mk n ks ∧ Wds n ks) ∧ Tr.PoolOk r.2) (fun _ => False) := by
  unfold m_law_kinds
  refine run_wp ?_
  unfold b_law_kinds
  simp only [wp_bind, wp_chk, wp_ok, wp_nx, seq_wp, true_and, and_true, rng_mk, mk_len]
  refine ⟨by omega, by omega, comp_wp (fun i g acc => Tr.PoolOk g ∧ ∃ ks : Nat → Str, acc = mk i ks ∧ Wds i ks) ⟨ok, fun _ => "zero", rfl, fun j hj => by omega⟩ (fun i x g acc hx hg => ?_) (fun g acc hg => ?_)⟩
  · obtain ⟨hp, ks, rfl, hu⟩ := hg
    simp only [wp_bind, wp_chk, wp_ok, wp_nx, true_and, and_true]
    refine (take_wp hp (by decide)).mono (fun r h => ?_) fun _ z => z
    obtain ⟨y, ns⟩ := r
    obtain ⟨a1, a2, a3⟩ := h
    try dsimp only at a1 a2 a3 ⊢
    obtain ⟨w1, w2⟩ := word5 a1 a2
    refine ⟨w1, a3, fun j => if j < i then ks j else getI [("positive" : Str), "negative", "free", "zero", "positive"] y, by rw [mk_single, mk_app], fun j hj => ?_⟩
    try dsimp only
    by_cases c : j < i
    · rw [if_pos c]; exact hu j c
    · rw [if_neg c]; exact w2
  · rw [mk_len] at hg
    obtain ⟨hp, ks, rfl, hu⟩ := hg
    simp only [rtp]
    exact ⟨⟨ks, rfl, hu⟩, hp⟩
/-- rows of small numbers -/
def Sm (m n b : Nat) (a : Nat → Nat → Int) : Prop := ∀ i, i < m → ∀ k, k < n → (a i k).natAbs ≤ b
theorem rows_wp {ms : List Int} (ok : Tr.PoolOk ms) (hm : m ≤ 100) (hn : n ≤ 100) : (m_law_rows (ms, (m : Int), (n : Int))).wp (fun r => (∃ a : Nat → Nat → Int, r.1 = mk m (fun i => mk n (a i)) ∧ Sm m n 3 a) ∧ Tr.PoolOk r.2) (fun _ => False) := by
  unfold m_law_rows
  refine run_wp ?_
  unfold b_law_rows
  simp only [wp_bind, wp_chk, wp_ok, wp_nx, seq_wp, true_and, and_true, rng_mk, mk_len]
  refine ⟨by omega, for_nx (fun i g => (∃ a : Nat → Nat → Int, g.2 = mk i (fun i => mk n (a i)) ∧ Sm i n 3 a) ∧ Tr.PoolOk g.1) ⟨⟨fun _ _ => 0, rfl, fun i hi => by omega⟩, ok⟩ (fun i x g hx hg => ?_) (fun g hg => ?_)⟩
  · obtain ⟨hi, rfl⟩ := mk_at hx
    obtain ⟨g1, g2⟩ := g
    obtain ⟨⟨a, e, ha⟩, hp⟩ := hg
    try dsimp only at e hp
    subst e
    simp only [wp_bind, wp_chk, wp_ok, wp_nx, true_and, and_true, mk_len, nxp]
    refine ⟨by omega, by omega, takes_wp (k := 7) (s := 3) hp (by decide) (fun x g => by
      simp only [chk_true]
      cases m_law_take (g, 7) <;> rfl) fun u ns hns hu => ?_⟩
    rw [mk_len] at hu ⊢
    refine ⟨by omega, ⟨fun j => if j < i then a j else u, ?_, fun j hj k hk => ?_⟩, hns⟩
    · show mk i (fun j => mk n (a j)) ++ [mk n u] = _
      rw [mk_single, mk_app]
      refine mk_congr fun j hj => ?_
      by_cases l : j < i
      · rw [if_pos l]; dsimp only; rw [if_pos l]
      · rw [if_neg l]; dsimp only; rw [if_neg l]
    · try dsimp only
      by_cases l : j < i
      · rw [if_pos l]; exact ha j l k hk
      · rw [if_neg l]; have := hu k hk; omega
  · rw [mk_len] at hg
    simp only [go_nx, wp_ok, rtp]
    exact hg
end
section
open Wd Lp
variable {m n : Nat} {a : Nat → Nat → Int} {ks : Nat → Str}
theorem put_sm {b : Nat} {i k : Nat} {y : Int} (h : Sm m n b a) (hy : y.natAbs ≤ b) : Sm m n b (put a i k y) := fun j hj l hl => by
  unfold put
  split
  · exact hy
  · exact h j hj l hl
theorem dot_small {A B : Nat} {f g : Nat → Int} (hf : ∀ k, k < n → (f k).natAbs ≤ A) (hg : ∀ k, k < n → (g k).natAbs ≤ B) (hn : n ≤ 100) (hA : A ≤ 2 ^ 8) (hB : B ≤ 2 ^ 8) : m_law_dot (mk n f, mk n g) = .ok (sm n fun k => f k * g k) ∧ (sm n fun k => f k * g k).natAbs ≤ n * (A * B) :=
  ⟨dot_ok (B := 8) (D := 8) (by omega) (fun k hk => Nat.le_trans (hf k hk) hA) (fun k hk => Nat.le_trans (hg k hk) hB) (by decide), sm_abs fun k hk => by
    rw [Int.natAbs_mul]; exact Nat.mul_le_mul (hf k hk) (hg k hk)⟩
theorem solved_wp {ms : List Int} (ok : Tr.PoolOk ms) (hm : m ≤ 100) (hn : n ≤ 16) (ha : Sm m n 3 a) : (m_law_solved_rows (ms, mk m (fun i => mk n (a i)), mk n ks, m)).wp (fun r => (∃ a' : Nat → Nat → Int, r.2 = mk m (fun i => mk n (a' i)) ∧ Sm m n 150 a') ∧ Tr.PoolOk r.1) (fun _ => False) := by
  have ha' : Sm m n 150 a := fun i hi k hk => Nat.le_trans (ha i hi k hk) (by decide)
  unfold m_law_solved_rows
  refine run_wp ?_
  unfold b_law_solved_rows
  simp only [wp_bind, wp_chk, wp_ok, wp_nx, seq_wp, true_and, and_true, rng_mk, mk_len]
  refine for_nx (fun i g => (∃ x : Nat → Int, g.2 = mk i x ∧ ∀ j, j < i → (x j).natAbs ≤ 3) ∧ Tr.PoolOk g.1) ⟨⟨fun _ => 0, rfl, fun j hj => by omega⟩, ok⟩ (fun i y g hy hg => ?_) (fun g hg => ?_)
  · obtain ⟨hi, rfl⟩ := mk_at hy
    obtain ⟨g1, g2⟩ := g
    obtain ⟨⟨x, e, hx⟩, hp⟩ := hg
    try dsimp only at e hp
    subst e
    simp only [wp_bind, wp_chk, wp_ok, wp_nx, seq_wp, true_and, and_true, wp_ite]
    refine (take_wp hp (by decide)).mono (fun r1 h1 => ?_) fun _ z => z
    obtain ⟨t, ms1⟩ := r1
    obtain ⟨b1, b2, ok1⟩ := h1
    try dsimp only at b1 b2 ok1 ⊢
    -- what comes behind the sign
    have fin : ∀ (g : Int × List Int), g.1.natAbs ≤ 3 → Tr.PoolOk g.2 → (CMulW g.1 (if (!decide (ks i = ("zero" : Str))) = true then 1 else 0) ∧ (mk i x).length ≤ 16000000 ∧ ((∃ x' : Nat → Int, (mk i x ++ [g.1 * (if (!decide (ks i = ("zero" : Str))) = true then 1 else 0)]) = mk (i + 1) x' ∧ ∀ j, j < i + 1 → (x' j).natAbs ≤ 3) ∧ Tr.PoolOk g.2)) := fun g h3 hp => by
      have hb : (if (!decide (ks i = ("zero" : Str))) = true then (1 : Int) else 0).natAbs ≤ 2 ^ 0 := by split <;> decide
      refine ⟨cm_le (a := 2) (Nat.le_trans h3 (by decide)) hb (by decide), by rw [mk_len]; omega, ⟨fun j => if j < i then x j else g.1 * (if (!decide (ks i = ("zero" : Str))) = true then 1 else 0), by rw [mk_single, mk_app], fun j hj => ?_⟩, hp⟩
      try dsimp only
      by_cases l : j < i
      · rw [if_pos l]; exact hx j l
      · rw [if_neg l, Int.natAbs_mul]
        exact Nat.le_trans (Nat.mul_le_mul h3 hb) (by decide)
    have b3 : (t + 1).natAbs ≤ 3 := by omega
    have b4 : (-(t + 1)).natAbs ≤ 3 := by omega
    by_cases c1 : ks i = "negative"
    · refine ite_p' (decide_eq_true c1) ?_
      simp only [wp_bind, wp_chk, wp_ok, wp_nx, seq_wp, true_and, and_true, wp_ite, go_nx, if_true, nxp]
      exact fin (_, _) b4 ok1
    · refine ite_n' (by rw [decide_eq_false c1]; decide) ?_
      by_cases c2 : ks i = "free"
      · refine ite_p' (decide_eq_true c2) ?_
        refine (take_wp ok1 (by decide)).mono (fun r2 h2 => ?_) fun _ z => z
        obtain ⟨t2, ms2⟩ := r2
        obtain ⟨_, _, ok2⟩ := h2
        try dsimp only at ok2 ⊢
        simp only [wp_bind, wp_chk, wp_ok, wp_nx, seq_wp, true_and, and_true, wp_ite, go_nx, nxp]
        by_cases c3 : t2 = 1
        · refine ite_p' (decide_eq_true c3) ?_
          exact fin (_, _) b4 ok2
        · refine ite_n' (by rw [decide_eq_false c3]; decide) ?_
          exact fin (_, _) b3 ok2
      · refine ite_n' (by rw [decide_eq_false c2]; decide) ?_
        simp only [wp_bind, wp_chk, wp_ok, wp_nx, seq_wp, true_and, and_true, wp_ite, go_nx, nxp]
        rw [if_neg Bool.false_ne_true]
        exact fin (_, _) b3 ok1
  obtain ⟨g1, g2⟩ := g
  obtain ⟨⟨x, e, hx⟩, hp⟩ := hg
  rw [mk_len] at e hx
  try dsimp only at e hp
  subst e
  simp only [go_nx, wp_bind, wp_chk, wp_ok, wp_nx, seq_wp, true_and, and_true, wp_ite, mk_len, List.map_id']
  refine ⟨by omega, ⟨by omega, fun y hy => ?_⟩, ?_⟩
  · obtain ⟨k, hk, rfl⟩ := mk_mem hy
    exact ⟨inR_mk hk, fun _ => trivial⟩
  generalize hL : List.filter (fun x21 => !decide (getI (mk n ks) x21 = ("zero" : Str))) (mk n fun k => (k : Int)) = L
  have mL : ∀ z ∈ L, ∃ k : Nat, k < n ∧ z = (k : Int) := fun z hz => by
    rw [← hL, List.mem_filter] at hz
    exact mk_mem hz.1
  have lL : L.length ≤ n := by rw [← hL]; exact Nat.le_trans (List.length_filter_le _ _) (by rw [mk_len]; exact Nat.le_refl _)
  refine ⟨⟨deI _, deI _⟩, ?_⟩
  by_cases c : L = []
  · refine ite_p' (@decide_eq_true _ (Classical.propDecidable _) c) ?_
    simp only [go_rt, wp_ok, rtp]
    exact ⟨⟨a, rfl, ha'⟩, hp⟩
  refine ite_n' (by rw [@decide_eq_false _ (Classical.propDecidable _) c]; decide) ?_
  have pL : 0 < L.length := List.length_pos_iff.mpr c
  try simp only [go_nx, wp_bind, wp_chk, wp_ok, wp_nx, seq_wp, true_and, and_true, wp_ite, mk_len]
  refine (take_wp hp (show (0 : Int) < (L.length : Int) by omega)).mono (fun r1 h1 => ?_) fun _ z => z
  obtain ⟨t, ms1⟩ := r1
  obtain ⟨b1, b2, ok1⟩ := h1
  try dsimp only at b1 b2 ok1 ⊢
  obtain ⟨tt, rfl⟩ : ∃ tt : Nat, t = tt := ⟨t.toNat, by omega⟩
  have htt : tt < L.length := by omega
  obtain ⟨at_, hat, eat⟩ : ∃ k : Nat, k < n ∧ getI L (tt : Int) = (k : Int) := by
    have := mL (L[tt]) (List.getElem_mem htt)
    obtain ⟨k, hk, e⟩ := this
    refine ⟨k, hk, ?_⟩
    rw [← e]
    unfold getI pl
    rw [if_pos (by omega), Int.toNat_natCast, List.getD_eq_getElem?_getD, List.getElem?_eq_getElem htt]
    rfl
  rw [eat, get_mk hat]
  have sb : (if decide (x at_ < 0) = true then (1 : Int) else 0).natAbs ≤ 2 ^ 0 := by split <;> decide
  generalize hu : (if decide (x at_ < 0) = true then (1 : Int) else 0) = u at sb ⊢
  have hu1 : (1 - 2 * u).natAbs ≤ 1 := by
    rw [← hu]; split <;> decide
  refine ⟨⟨by omega, by omega⟩, ⟨inR_mk hat, cm_le (a := 1) (by decide) sb (by decide)⟩, inR_mk hat, ?_⟩
  rw [set_mk hat]
  have hX : ∀ k, k < n → (if k = at_ then 1 - 2 * u else x k).natAbs ≤ 3 := fun k hk => by
    split
    · omega
    · exact hx k hk
  generalize eX : (fun k => if k = at_ then 1 - 2 * u else x k) = X
  have hX : ∀ k, k < n → (X k).natAbs ≤ 3 := fun k hk => by rw [← eX]; exact hX k hk
  have hXa : (X at_).natAbs ≤ 1 := by rw [← eX]; show (if at_ = at_ then 1 - 2 * u else x at_).natAbs ≤ 1; rw [if_pos rfl]; exact hu1
  refine for_nx (fun i g => ∃ a' : Nat → Nat → Int, g = mk m (fun i => mk n (a' i)) ∧ Sm m n 150 a' ∧ ∀ j, i ≤ j → j < m → ∀ k, k < n → (a' j k).natAbs ≤ 3) ⟨a, rfl, ha', fun j _ hj k hk => ha j hj k hk⟩ (fun i y g hy hg => ?_) (fun g hg => ?_)
  · have hi : i < m := by have := (List.getElem?_eq_some_iff.mp hy).1; rwa [List.length_range] at this
    rw [List.getElem?_range hi] at hy
    cases hy
    obtain ⟨a', rfl, h1, h2⟩ := hg
    simp only [wp_bind, wp_chk, wp_ok, wp_nx, seq_wp, true_and, and_true]
    rw [put_mk hi hat]
    have dt := dot_small (A := 3) (B := 3) (f := put a' i at_ 0 i) (g := X) (fun k hk => by
      unfold put
      split
      · decide
      · exact h2 i (Nat.le_refl _) hi k hk) hX (by omega) (by decide) (by decide)
    rw [getD_mk hi, getD_mk hi, dt.1]
    simp only [wp_ok, wp_bind, wp_chk, true_and, and_true, mk_len, nxp]
    have yb : (-(sm n fun k => put a' i at_ 0 i k * X k) * X at_).natAbs ≤ 144 := by
      rw [Int.natAbs_mul, Int.natAbs_neg]
      exact Nat.le_trans (Nat.mul_le_mul (Nat.le_trans dt.2 (Nat.mul_le_mul_right _ hn)) hXa) (by decide)
    refine ⟨⟨hi, hi, inR_mk hat⟩, hi, inR_mk hat, ?_, ⟨hi, hi, inR_mk hat⟩, ?_⟩
    · rw [get_mk hat]
      refine cm_le (a := 8) (b := 0) ?_ hXa (by decide)
      rw [Int.natAbs_neg]
      exact Nat.le_trans dt.2 (Nat.le_trans (Nat.mul_le_mul_right _ hn) (by decide))
    · rw [get_mk hat]
      have e := put_mk (m := m) (n := n) (a := put a' i at_ 0) (y := -(sm n fun k => put a' i at_ 0 i k * X k) * X at_) hi hat
      rw [getD_mk hi] at e
      refine ⟨_, e, put_sm (put_sm h1 (by decide)) (Nat.le_trans yb (by decide)), fun j hij hj k hk => ?_⟩
      unfold put
      rw [if_neg (by omega), if_neg (by omega)]
      exact h2 j (by omega) hj k hk
  · obtain ⟨a', rfl, h1, _⟩ := hg
    simp only [go_nx, wp_ok, rtp]
    exact ⟨⟨a', rfl, h1⟩, ok1⟩
end
section
open Wd Lp
variable {m n : Nat} {a : Nat → Nat → Int} {ks : Nat → Str}
theorem rng_m : List.range m = mk m fun i => i := (List.map_id' _).symm
theorem barred_wp {ms : List Int} (ok : Tr.PoolOk ms) (hm : m ≤ 12) (hn : n ≤ 100) (ha : Sm m n 3 a) : (m_law_barred_rows (ms, mk m (fun i => mk n (a i)), mk n ks, m)).wp (fun r => (∃ a' : Nat → Nat → Int, r.2 = mk m (fun i => mk n (a' i)) ∧ Sm m n 150 a') ∧ Tr.PoolOk r.1) (fun _ => False) := by
  have ha' : Sm m n 150 a := fun i hi k hk => Nat.le_trans (ha i hi k hk) (by decide)
  unfold m_law_barred_rows
  refine run_wp ?_
  unfold b_law_barred_rows
  simp only [wp_bind, wp_chk, wp_ok, wp_nx, seq_wp, true_and, and_true, rng_mk, mk_len, wp_ite, rng_m]
  by_cases c : m = 0
  · subst c
    refine ite_p' rfl ?_
    simp only [go_rt, wp_ok, rtp]
    exact ⟨⟨a, rfl, ha'⟩, ok⟩
  refine ite_n' (by
    intro z
    rw [List.isEmpty_iff] at z
    have := congrArg List.length z
    rw [mk_len] at this
    exact c this) ?_
  simp only [go_nx, wp_bind, wp_chk, wp_ok, wp_nx, seq_wp, true_and, and_true, rng_mk, mk_len, wp_ite]
  refine ⟨by omega, takes_wp (k := 5) (s := 2) ok (by decide) (fun x g => by
    simp only [chk_true]
    cases m_law_take (g, 5) <;> rfl) fun w ms1 ok1 hw => ?_⟩
  rw [mk_len] at hw ⊢
  have hw2 : ∀ i, i < m → (w i).natAbs ≤ 2 := fun i hi => by have := hw i hi; omega
  refine (take_wp ok1 (show (0 : Int) < (m : Int) by omega)).mono (fun r1 h1 => ?_) fun _ z => z
  obtain ⟨t, ms2⟩ := r1
  obtain ⟨b1, b2, ok2⟩ := h1
  try dsimp only at b1 b2 ok2 ⊢
  obtain ⟨at_, rfl⟩ : ∃ tt : Nat, t = tt := ⟨t.toNat, by omega⟩
  have hat : at_ < m := by omega
  refine (take_wp ok2 (by decide)).mono (fun r2 h2 => ?_) fun _ z => z
  obtain ⟨u, ms3⟩ := r2
  obtain ⟨c1, c2, ok3⟩ := h2
  try dsimp only at c1 c2 ok3 ⊢
  refine ⟨cm_le (a := 1) (b := 1) (by decide) (by omega) (by decide), inR_mk hat, ⟨by omega, by omega⟩, ?_⟩
  rw [set_mk hat]
  have hX : ∀ k, k < m → (if k = at_ then 1 - 2 * u else w k).natAbs ≤ 2 := fun k hk => by
    split
    · omega
    · exact hw2 k hk
  generalize eX : (fun k => if k = at_ then 1 - 2 * u else w k) = X
  have hX : ∀ k, k < m → (X k).natAbs ≤ 2 := fun k hk => by rw [← eX]; exact hX k hk
  have hXa : (X at_).natAbs ≤ 1 := by rw [← eX]; show (if at_ = at_ then 1 - 2 * u else w at_).natAbs ≤ 1; rw [if_pos rfl]; omega
  refine for_nx (fun k g => (∃ a' : Nat → Nat → Int, g.2 = mk m (fun i => mk n (a' i)) ∧ Sm m n 150 a' ∧ ∀ i, i < m → ∀ l, k ≤ l → l < n → (a' i l).natAbs ≤ 3) ∧ Tr.PoolOk g.1) ⟨⟨a, rfl, ha', fun j hj k _ hk => ha j hj k hk⟩, ok3⟩ (fun k y g hy hg => ?_) (fun g hg => ?_)
  · obtain ⟨hk, rfl⟩ := mk_at hy
    obtain ⟨g1, g2⟩ := g
    obtain ⟨⟨a', e, h1, h2⟩, hp⟩ := hg
    try dsimp only at e hp
    subst e
    simp only [wp_bind, wp_chk, wp_ok, wp_nx, true_and, and_true]
    refine (take_wp hp (by decide)).mono (fun r3 h3 => ?_) fun _ z => z
    obtain ⟨d, ms4⟩ := r3
    obtain ⟨d1, d2, ok4⟩ := h3
    try dsimp only at d1 d2 ok4 ⊢
    refine seq_nx (fun g => g.natAbs ≤ 2) ?_ (fun g31 h31 => seq_nx (fun g => g.natAbs ≤ 2) ?_ (fun due hdue => ?_))
    · simp only [wp_bind, wp_chk, wp_ok, true_and, and_true, wp_ite]
      refine ⟨inR_mk hk, ?_⟩
      split
      · exact ⟨_, rfl, by omega⟩
      · exact ⟨_, rfl, by omega⟩
    · simp only [wp_bind, wp_chk, wp_ok, true_and, and_true, wp_ite]
      refine ⟨inR_mk hk, ?_⟩
      split
      · exact ⟨_, rfl, by decide⟩
      · exact ⟨_, rfl, h31⟩
    simp only [wp_bind, wp_chk, wp_ok, wp_nx, true_and, and_true, Int.toNat_natCast, mk_len]
    rw [put_mk hat hk, mk_map]
    have ec : (mk m fun i => getI (List.getD (mk m fun j => mk n (put a' at_ k 0 j)) i []) (k : Int)) = mk m fun i => put a' at_ k 0 i k := mk_congr fun i hi => by rw [getD_mk hi, get_mk hk]
    rw [ec]
    have dt := dot_small (n := m) (A := 3) (B := 2) (f := fun i => put a' at_ k 0 i k) (g := X) (fun i hi => by
      unfold put
      split
      · decide
      · exact h2 i hi k (Nat.le_refl _) hk) hX (by omega) (by decide) (by decide)
    rw [dt.1]
    simp only [wp_bind, wp_chk, wp_ok, wp_nx, true_and, and_true, nxp, mk_len]
    have db : (sm m fun i => put a' at_ k 0 i k * X i).natAbs ≤ 72 := Nat.le_trans dt.2 (Nat.le_trans (Nat.mul_le_mul_right _ hm) (by decide))
    have yb : ((due - sm m fun i => put a' at_ k 0 i k * X i) * X at_).natAbs ≤ 150 := by
      rw [Int.natAbs_mul]
      have : (due - sm m fun i => put a' at_ k 0 i k * X i).natAbs ≤ 74 := by omega
      exact Nat.le_trans (Nat.mul_le_mul this hXa) (by decide)
    rw [get_mk hat]
    have e := put_mk (m := m) (n := n) (a := put a' at_ k 0) (y := (due - sm m fun i => put a' at_ k 0 i k * X i) * X at_) hat hk
    rw [getD_mk hat] at e ⊢
    rw [getD_mk hat]
    refine ⟨⟨⟨by omega, by omega⟩, hat, hat, inR_mk hk⟩, ⟨by omega, fun i hi => ?_⟩, inR_mk hat, cm_le (a := 7) (b := 0) (by omega) hXa (by decide), ⟨⟨by omega, by omega⟩, hat, hat, inR_mk hk⟩, ⟨_, e, put_sm (put_sm h1 (by decide)) yb, fun i hi l hl1 hl2 => ?_⟩, ok4⟩
    · obtain ⟨j, hj, rfl⟩ := mk_mem hi
      rw [getD_mk hj]
      exact ⟨hj, inR_mk hk⟩
    · unfold put
      rw [if_neg (by omega), if_neg (by omega)]
      exact h2 i hi l (by omega) hl2
  · obtain ⟨⟨a', e, h1, _⟩, hp⟩ := hg
    simp only [go_nx, wp_ok, rtp]
    exact ⟨⟨a', e, h1⟩, hp⟩
end
section
open Wd Lp
theorem sz4 {z : Int} (h0 : 0 ≤ z) (h1 : z < 4) : (inR [(5 : Int), 9, 5, 13] z ∧ 0 < getI [(5 : Int), 9, 5, 13] z ∧ getI [(5 : Int), 9, 5, 13] z ≤ 13) ∧ (inR [(7 : Int), 11, 7, 17] z ∧ 0 < getI [(7 : Int), 11, 7, 17] z ∧ getI [(7 : Int), 11, 7, 17] z ≤ 17) := by
  have e : z = 0 ∨ z = 1 ∨ z = 2 ∨ z = 3 := by omega
  rcases e with e | e | e | e <;> subst e <;> exact ⟨⟨⟨by decide, by decide⟩, by decide, by decide⟩, ⟨by decide, by decide⟩, by decide, by decide⟩
theorem drawn_wp {ms : List Int} (ok : Tr.PoolOk ms) : (m_law_drawn_task ms).wp (fun r => (∃ (m n : Nat) (a : Nat → Nat → Int) (ks : Nat → Str), r.1 = (mk m (fun i => mk n (a i)), mk n ks) ∧ Tk m n a ∧ Wds n ks) ∧ Tr.PoolOk r.2) (fun _ => False) := by
  unfold m_law_drawn_task
  refine run_wp ?_
  unfold b_law_drawn_task
  simp only [wp_bind, wp_chk, wp_ok, wp_nx, true_and, and_true]
  refine (take_wp ok (by decide)).mono (fun r1 h1 => ?_) fun _ z => z
  obtain ⟨z1, ms1⟩ := r1
  obtain ⟨a1, a2, ok1⟩ := h1
  try dsimp only at a1 a2 ok1 ⊢
  obtain ⟨⟨s1, s2, s3⟩, -⟩ := sz4 a1 a2
  refine ⟨s1, (take_wp ok1 s2).mono (fun r2 h2 => ?_) fun _ z => z⟩
  obtain ⟨mm, ms2⟩ := r2
  obtain ⟨b1, b2, ok2⟩ := h2
  try dsimp only at b1 b2 ok2 ⊢
  obtain ⟨m, rfl⟩ : ∃ m : Nat, mm = m := ⟨mm.toNat, by omega⟩
  have hm : m ≤ 12 := by omega
  refine (take_wp ok2 (by decide)).mono (fun r1 h1 => ?_) fun _ z => z
  obtain ⟨z2, ms3⟩ := r1
  obtain ⟨a1, a2, ok3⟩ := h1
  try dsimp only at a1 a2 ok3 ⊢
  obtain ⟨-, ⟨s1, s2, s3⟩⟩ := sz4 a1 a2
  refine ⟨s1, (take_wp ok3 s2).mono (fun r2 h2 => ?_) fun _ z => z⟩
  obtain ⟨nn, ms4⟩ := r2
  obtain ⟨c1, c2, ok4⟩ := h2
  try dsimp only at c1 c2 ok4 ⊢
  obtain ⟨n, rfl⟩ : ∃ n : Nat, nn = n := ⟨nn.toNat, by omega⟩
  have hn : n ≤ 16 := by omega
  refine (kinds_wp ok4 (by omega)).mono (fun r h => ?_) fun _ z => z
  obtain ⟨kk, ms5⟩ := r
  obtain ⟨⟨ks, e, hw⟩, ok5⟩ := h
  try dsimp only at e ok5 ⊢
  subst e
  simp only [mk_len]
  refine (rows_wp ok5 (by omega) (by omega)).mono (fun r h => ?_) fun _ z => z
  obtain ⟨rr, ms6⟩ := r
  obtain ⟨⟨a, e, ha⟩, ok6⟩ := h
  try dsimp only at e ok6 ⊢
  subst e
  simp only [mk_len]
  have ha' : Sm m n 150 a := fun i hi k hk => Nat.le_trans (ha i hi k hk) (by decide)
  refine (take_wp ok6 (by decide)).mono (fun r1 h1 => ?_) fun _ z => z
  obtain ⟨mode, ms7⟩ := r1
  have ok7 := h1.2.2
  try dsimp only at ok7 ⊢
  refine seq_nx (fun g => (∃ a' : Nat → Nat → Int, g.2 = mk m (fun i => mk n (a' i)) ∧ (mode = 1 ∨ Sm m n 3 a') ∧ Sm m n 150 a') ∧ Tr.PoolOk g.1) ?_ (fun g hg => ?_)
  · simp only [wp_chk, wp_ite, true_and, wp_ok, wp_bind, wp_nx]
    by_cases c : mode = 1
    · refine ite_p' (decide_eq_true c) ((solved_wp ok7 (by omega) hn ha).mono (fun r h => ?_) fun _ z => z)
      obtain ⟨⟨a', e, h1⟩, h2⟩ := h
      exact ⟨_, rfl, ⟨a', e, .inl c, h1⟩, h2⟩
    · exact ite_n' (by rw [decide_eq_false c]; decide) ⟨_, rfl, ⟨a, rfl, .inr ha, ha'⟩, ok7⟩
  obtain ⟨g1, g2⟩ := g
  obtain ⟨⟨a2, e, h3, h150⟩, ok8⟩ := hg
  try dsimp only at e ok8
  subst e
  refine seq_nx (fun g => (∃ a' : Nat → Nat → Int, g.2 = mk m (fun i => mk n (a' i)) ∧ Sm m n 150 a') ∧ Tr.PoolOk g.1) ?_ (fun g hg => ?_)
  · simp only [wp_chk, wp_ite, true_and, wp_ok, wp_bind, wp_nx]
    by_cases c : mode = 2
    · refine ite_p' (decide_eq_true c) ((barred_wp ok8 hm (by omega) (h3.resolve_left (by omega))).mono (fun r h => ?_) fun _ z => z)
      obtain ⟨⟨a', e, h1⟩, h2⟩ := h
      exact ⟨_, rfl, ⟨a', e, h1⟩, h2⟩
    · exact ite_n' (by rw [decide_eq_false c]; decide) ⟨_, rfl, ⟨a2, rfl, h150⟩, ok8⟩
  obtain ⟨g1, g2⟩ := g
  obtain ⟨⟨a4, e, h4⟩, ok9⟩ := hg
  try dsimp only at e ok9
  subst e
  simp only [wp_chk, wp_bind, wp_nx, true_and, mk_len]
  refine (take_wp ok9 (by decide)).mono (fun r1 h1 => ?_) fun _ z => z
  obtain ⟨big, ms10⟩ := r1
  have ok10 := h1.2.2
  try dsimp only at ok10 ⊢
  refine seq_nx (fun g => ∃ a' : Nat → Nat → Int, g = mk m (fun i => mk n (a' i)) ∧ Sm m n 174762 a') ?_ (fun g hg => ?_)
  · simp only [wp_chk, wp_ite, true_and, wp_ok, wp_bind, wp_nx]
    by_cases c : big = 1
    · refine ite_p' (decide_eq_true c) (lcM_wp (fun x => x.map fun y => y * 1000) (by rw [mk_len]; omega) (fun x hx => ?_) ?_)
      · obtain ⟨i, hi, rfl⟩ := mk_mem hx
        simp only [wp_chk, wp_ite, true_and, and_true, wp_ok, wp_bind, wp_nx, mk_len]
        refine ⟨by omega, fun y hy => ?_⟩
        obtain ⟨k, hk, rfl⟩ := mk_mem hy
        exact cm_le (a := 8) (b := 10) (Nat.le_trans (h4 i hi k hk) (by decide)) (by decide) (by decide)
      · refine ⟨_, rfl, fun i k => a4 i k * 1000, ?_, fun i hi k hk => ?_⟩
        · rw [mk_map]
          exact mk_congr fun i hi => mk_map
        · rw [Int.natAbs_mul]
          exact Nat.le_trans (Nat.mul_le_mul_right _ (h4 i hi k hk)) (by decide)
    · exact ite_n' (by rw [decide_eq_false c]; decide) ⟨_, rfl, a4, rfl, fun i hi k hk => Nat.le_trans (h4 i hi k hk) (by decide)⟩
  obtain ⟨a5, rfl, h5⟩ := hg
  simp only [wp_chk, wp_bind, wp_ok, true_and, rtp]
  exact ⟨⟨m, n, a5, ks, rfl, ⟨hm, hn, h5⟩, hw⟩, ok10⟩
theorem law_pure (ms : List Int) (ok : Tr.PoolOk ms) : (b_law ms).wp (fun o => o = .rt true) (fun _ => False) := by
  unfold b_law
  simp only [wp_bind, wp_chk, wp_ok, wp_nx, seq_wp, true_and, and_true, wp_ite]
  refine (drawn_wp ok).mono (fun r h => ?_) fun _ z => z
  obtain ⟨t, ms1⟩ := r
  obtain ⟨⟨m, n, a, ks, e, hT, hW⟩, _⟩ := h
  try dsimp only at e ⊢
  subst e
  have R := right_ok hT hW
  simp only [R, wp_ok, wp_bind, wp_chk, wp_nx, true_and, if_true, go_nx]
end
def sp_law (K : PySem.W.Frag) : Sp := fun vs H Q _ => ∃ (a : Addr) (ns : List Int), vs = [.ref a] ∧ SqL K H a (ns.map V.int) ∧ ns.length ≤ 63 ∧ ∀ H', Q (.bl true) H'
theorem st_law (a0 : V) : start ["_law_script", "_law_pool_here", "_law_rows_here", "_law_kinds_here"] [a0] = [some a0, none, none, none] := rfl
section
variable {P : Program} {w : World} {K : PySem.W.Frag} {mg : Str → Option Value} {base : Heap} {ad : Ad}
theorem ok_law (T : Txt P K mg ad) : FnOk P w K mg base CX0 20 ad.f_law ad.d_law ["_law_script"] (sp_law K) := by
  refine T.F_law.ok sc_law (fun vs H Q E h => by obtain ⟨a, ns, rfl, _⟩ := h; rfl) (fun cdv A outer s H vs Q E hr h => ?_)
  have hu := hu_of hr
  obtain ⟨sA, ns, rfl, hS, hlen, k⟩ := h
  refine ⟨_, (pss_cons (ps_set (i := 1) sc_law.nd rfl (by first | exact Or.inl rfl | exact Or.inr rfl) (pe_call (ok_law_pool (P := P) (w := w) (K := K) (mg := mg) (base := base) T) (hr.mono (by decide)) (by rfl) T.g_law_pool T.F_law_pool.kp T.B_law_pool .nil pass0 (pa_cons (pv 0) pa_nil)))
      (pss_cons (ps_asg (pe_call (ok_law_drawn_task (P := P) (w := w) (K := K) (mg := mg) (base := base) T) (hr.mono (by decide)) (by rfl) T.g_law_drawn_task T.F_law_drawn_task.kp T.B_law_drawn_task .nil pass0 (pa_cons (pv 1) pa_nil)) (pg_tupK (K := K) (n := 2) rfl rfl (pgs_cons (pg_name (i := 2) sc_law.nd rfl (by first | exact Or.inl rfl | exact Or.inr rfl)) (pgs_cons (pg_name (i := 3) sc_law.nd rfl (by first | exact Or.inl rfl | exact Or.inr rfl)) pgs_nil))))
      (pss_one (ps_ret (pe_and (pe_call (ok_law_right (P := P) (w := w) (K := K) (mg := mg) (base := base) T) (hr.mono (by decide)) (by rfl) T.g_law_right T.F_law_right.kp T.B_law_right .nil pass0 (pa_cons (pv 2) (pa_cons (pv 3) pa_nil))) (pe_one (pe_call (ok_law_right (P := P) (w := w) (K := K) (mg := mg) (base := base) T) (hr.mono (by decide)) (by rfl) T.g_law_right T.F_law_right.kp T.B_law_right .nil pass0 (pa_cons (pv 2) (pa_cons (pv 3) pa_nil))))))))), ?_⟩
  try simp only [cxK, cxK2]
  rw [st_law]
  refine ⟨_, rfl, sA, ns, rfl, hS, hlen, fun q0 a H1 np s1 e1 okm => ?_⟩
  refine gs1 ?_
  have A : Mr.At H ((q0, cL (α := Int) a) :: []) H1 := ⟨s1, fun q hq => by
    rw [List.mem_singleton] at hq; subst hq
    exact ⟨⟨_, e1, _, rfl, dens_of_ints a⟩, np⟩, by simp⟩
  have Ev : EnvOk 4 H [some (.ref sA), some (.ref q0), none, none] [(1, dR q0)] := ⟨rfl, fun i D e => by
    by_cases z : i = 1
    · subst z; rw [lookup_hit] at e; cases e; exact ⟨_, rfl, rfl⟩
    · rw [lookup_miss z] at e; cases e⟩
  have lw := law_pure a okm
  show tSeq _ _ _ _ _
  refine SM.run (Z := z0) (W := (⟨fun _ _ => [], fun _ _ => [], fun _ _ => [], fun _ _ => [], fun b _ => dB b, fun _ _ => []⟩ : Ex Empty Empty Bool)) (m := b_law a) ?_ A Ev ?_
  · generalize hM : ([] : Mm) = M
    unfold b_law
    exact (sm_asg (adds := fun b1 ps2 => ([(3, ((dL (α := Str)) b1.1.2))] ++ [(2, ((dL (α := (List Int))) b1.1.1))])) (sl := [2, 3]) (em_callQ (rfl : sp_law_drawn_task K ad = _) (a := a) (fun _ => q0) M (Mr := fun (r : ((List (List Int)) × (List Str)) × (List Int)) ps => ((q0, cL (α := Int) r.2) :: M)) (av_cons (ev_var (i := 1) rfl) av_nil) MLe.rfl (fun _ _ => MLe.rfl)) (fun b1 ps2 => (gt_tup2 (gt_name (by decide)) (gt_name (by decide)))) (fun b1 ps2 => (sm_ret (g := fun b5 => b5) (em_and (b1 := fun (r : Bool) => r) (b2 := fun (r : Bool) => r) (em_callP0 (a := (b1.1.1, b1.1.2)) (av_cons (ev_var (i := 2) rfl) (av_cons (ev_var (i := 3) rfl) av_nil)) rfl (fun _ _ => rfl)) (em_callP0 (a := (b1.1.1, b1.1.2)) (av_cons (ev_var (i := 2) rfl) (av_cons (ev_var (i := 3) rfl) av_nil)) rfl (fun _ _ => rfl))) (fun _ _ => rfl) (fun _ _ => (MLe.sbl (.cons _ (List.Sublist.refl _)))))))
  · refine lw.mono (fun o h => ?_) fun _ x => x
    subst h
    exact fun ps G' H' v _ _ d => by cases (show v = .bl true from d); exact k H'
end
open PyProof.Rows PySem.HandSPX
theorem all_mk {l : PySem.W.OpenLaw} {w : World} {K : PySem.W.Frag} {h : Heap} {mg : Str → Option Value} {fa : Addr} (X : K.In h) (G : h.Ns mainGlobals mg) (hfa : mg "law" = some (.ref fa))
    {f_reduced f_first_table f_entering f_is_tighter f_leaving f_pivoted f_combine f_signed_columns f_solve f_balance f_law_take f_law_whole f_law_dot f_law_list_of f_law_kinds f_law_rows f_law_solved_rows f_law_barred_rows f_law_drawn_task f_law_sign_right f_law_numbers_right f_law_totals f_law_weights_right f_law_right f_law_pool f_law c_PlanError c_NoCombination xf_NoCombination xc_NoCombination xk_NoCombination c_NoBalance xf_NoBalance xc_NoBalance xk_NoBalance : Addr}
    {od_reduced an_reduced : Option Addr} {sl_reduced : Array (Option Value)} {oc_reduced kV_reduced dc_reduced pm_reduced cd_reduced ct_reduced : Value}
    {od_first_table an_first_table : Option Addr} {sl_first_table : Array (Option Value)} {oc_first_table kV_first_table dc_first_table pm_first_table cd_first_table ct_first_table : Value}
    {od_entering an_entering : Option Addr} {sl_entering : Array (Option Value)} {oc_entering kV_entering dc_entering pm_entering cd_entering ct_entering : Value}
    {od_is_tighter an_is_tighter : Option Addr} {sl_is_tighter : Array (Option Value)} {oc_is_tighter kV_is_tighter dc_is_tighter pm_is_tighter cd_is_tighter ct_is_tighter : Value}
    {od_leaving an_leaving : Option Addr} {sl_leaving : Array (Option Value)} {oc_leaving kV_leaving dc_leaving pm_leaving cd_leaving ct_leaving : Value}
    {od_pivoted an_pivoted : Option Addr} {sl_pivoted : Array (Option Value)} {oc_pivoted kV_pivoted dc_pivoted pm_pivoted cd_pivoted ct_pivoted : Value}
    {od_combine an_combine : Option Addr} {sl_combine : Array (Option Value)} {oc_combine kV_combine dc_combine pm_combine cd_combine ct_combine : Value}
    {od_signed_columns an_signed_columns : Option Addr} {sl_signed_columns : Array (Option Value)} {oc_signed_columns kV_signed_columns dc_signed_columns pm_signed_columns cd_signed_columns ct_signed_columns : Value}
    {od_solve an_solve : Option Addr} {sl_solve : Array (Option Value)} {oc_solve kV_solve dc_solve pm_solve cd_solve ct_solve : Value}
    {od_balance an_balance : Option Addr} {sl_balance : Array (Option Value)} {oc_balance kV_balance dc_balance pm_balance cd_balance ct_balance : Value}
    {od_law_take an_law_take : Option Addr} {sl_law_take : Array (Option Value)} {oc_law_take kV_law_take dc_law_take pm_law_take cd_law_take ct_law_take : Value}
    {od_law_whole an_law_whole : Option Addr} {sl_law_whole : Array (Option Value)} {oc_law_whole kV_law_whole dc_law_whole pm_law_whole cd_law_whole ct_law_whole : Value}
    {od_law_dot an_law_dot : Option Addr} {sl_law_dot : Array (Option Value)} {oc_law_dot kV_law_dot dc_law_dot pm_law_dot cd_law_dot ct_law_dot : Value}
    {od_law_list_of an_law_list_of : Option Addr} {sl_law_list_of : Array (Option Value)} {oc_law_list_of kV_law_list_of dc_law_list_of pm_law_list_of cd_law_list_of ct_law_list_of : Value}
    {od_law_kinds an_law_kinds : Option Addr} {sl_law_kinds : Array (Option Value)} {oc_law_kinds kV_law_kinds dc_law_kinds pm_law_kinds cd_law_kinds ct_law_kinds : Value}
    {od_law_rows an_law_rows : Option Addr} {sl_law_rows : Array (Option Value)} {oc_law_rows kV_law_rows dc_law_rows pm_law_rows cd_law_rows ct_law_rows : Value}
    {od_law_solved_rows an_law_solved_rows : Option Addr} {sl_law_solved_rows : Array (Option Value)} {oc_law_solved_rows kV_law_solved_rows dc_law_solved_rows pm_law_solved_rows cd_law_solved_rows ct_law_solved_rows : Value}
    {od_law_barred_rows an_law_barred_rows : Option Addr} {sl_law_barred_rows : Array (Option Value)} {oc_law_barred_rows kV_law_barred_rows dc_law_barred_rows pm_law_barred_rows cd_law_barred_rows ct_law_barred_rows : Value}
    {od_law_drawn_task an_law_drawn_task : Option Addr} {sl_law_drawn_task : Array (Option Value)} {oc_law_drawn_task kV_law_drawn_task dc_law_drawn_task pm_law_drawn_task cd_law_drawn_task ct_law_drawn_task : Value}
    {od_law_sign_right an_law_sign_right : Option Addr} {sl_law_sign_right : Array (Option Value)} {oc_law_sign_right kV_law_sign_right dc_law_sign_right pm_law_sign_right cd_law_sign_right ct_law_sign_right : Value}
    {od_law_numbers_right an_law_numbers_right : Option Addr} {sl_law_numbers_right : Array (Option Value)} {oc_law_numbers_right kV_law_numbers_right dc_law_numbers_right pm_law_numbers_right cd_law_numbers_right ct_law_numbers_right : Value}
    {od_law_totals an_law_totals : Option Addr} {sl_law_totals : Array (Option Value)} {oc_law_totals kV_law_totals dc_law_totals pm_law_totals cd_law_totals ct_law_totals : Value}
    {od_law_weights_right an_law_weights_right : Option Addr} {sl_law_weights_right : Array (Option Value)} {oc_law_weights_right kV_law_weights_right dc_law_weights_right pm_law_weights_right cd_law_weights_right ct_law_weights_right : Value}
    {od_law_right an_law_right : Option Addr} {sl_law_right : Array (Option Value)} {oc_law_right kV_law_right dc_law_right pm_law_right cd_law_right ct_law_right : Value}
    {od_law_pool an_law_pool : Option Addr} {sl_law_pool : Array (Option Value)} {oc_law_pool kV_law_pool dc_law_pool pm_law_pool cd_law_pool ct_law_pool : Value}
    {od_law an_law : Option Addr} {sl_law : Array (Option Value)} {oc_law kV_law dc_law pm_law cd_law ct_law : Value}
    (aC_PlanError : PySem.W.nsIn K mainGlobals "PlanError" = some (some (.ref c_PlanError)))
    (a_reduced : PySem.W.nsIn K mainGlobals "reduced" = some (some (.ref f_reduced)))
    (l_reduced : K.lookup f_reduced = some ⟨oc_reduced, od_reduced, .func (PySem.W.fnOf "reduced" "reduced" (defArgs s_reduced) (defBody s_reduced) (defScope s_reduced) .none kV_reduced dc_reduced pm_reduced an_reduced cd_reduced ct_reduced), sl_reduced⟩)
    (co_reduced : PySem.W.codeIn K cd_reduced "reduced" = true)
    (k_reduced : PySem.W.keepIn K (.ref f_reduced) = true)
    (a_first_table : PySem.W.nsIn K mainGlobals "first_table" = some (some (.ref f_first_table)))
    (l_first_table : K.lookup f_first_table = some ⟨oc_first_table, od_first_table, .func (PySem.W.fnOf "first_table" "first_table" (defArgs s_first_table) (defBody s_first_table) (defScope s_first_table) .none kV_first_table dc_first_table pm_first_table an_first_table cd_first_table ct_first_table), sl_first_table⟩)
    (co_first_table : PySem.W.codeIn K cd_first_table "first_table" = true)
    (k_first_table : PySem.W.keepIn K (.ref f_first_table) = true)
    (a_entering : PySem.W.nsIn K mainGlobals "entering" = some (some (.ref f_entering)))
    (l_entering : K.lookup f_entering = some ⟨oc_entering, od_entering, .func (PySem.W.fnOf "entering" "entering" (defArgs s_entering) (defBody s_entering) (defScope s_entering) .none kV_entering dc_entering pm_entering an_entering cd_entering ct_entering), sl_entering⟩)
    (co_entering : PySem.W.codeIn K cd_entering "entering" = true)
    (k_entering : PySem.W.keepIn K (.ref f_entering) = true)
    (a_is_tighter : PySem.W.nsIn K mainGlobals "is_tighter" = some (some (.ref f_is_tighter)))
    (l_is_tighter : K.lookup f_is_tighter = some ⟨oc_is_tighter, od_is_tighter, .func (PySem.W.fnOf "is_tighter" "is_tighter" (defArgs s_is_tighter) (defBody s_is_tighter) (defScope s_is_tighter) .none kV_is_tighter dc_is_tighter pm_is_tighter an_is_tighter cd_is_tighter ct_is_tighter), sl_is_tighter⟩)
    (co_is_tighter : PySem.W.codeIn K cd_is_tighter "is_tighter" = true)
    (k_is_tighter : PySem.W.keepIn K (.ref f_is_tighter) = true)
    (a_leaving : PySem.W.nsIn K mainGlobals "leaving" = some (some (.ref f_leaving)))
    (l_leaving : K.lookup f_leaving = some ⟨oc_leaving, od_leaving, .func (PySem.W.fnOf "leaving" "leaving" (defArgs s_leaving) (defBody s_leaving) (defScope s_leaving) .none kV_leaving dc_leaving pm_leaving an_leaving cd_leaving ct_leaving), sl_leaving⟩)
    (co_leaving : PySem.W.codeIn K cd_leaving "leaving" = true)
    (k_leaving : PySem.W.keepIn K (.ref f_leaving) = true)
    (a_pivoted : PySem.W.nsIn K mainGlobals "pivoted" = some (some (.ref f_pivoted)))
    (l_pivoted : K.lookup f_pivoted = some ⟨oc_pivoted, od_pivoted, .func (PySem.W.fnOf "pivoted" "pivoted" (defArgs s_pivoted) (defBody s_pivoted) (defScope s_pivoted) .none kV_pivoted dc_pivoted pm_pivoted an_pivoted cd_pivoted ct_pivoted), sl_pivoted⟩)
    (co_pivoted : PySem.W.codeIn K cd_pivoted "pivoted" = true)
    (k_pivoted : PySem.W.keepIn K (.ref f_pivoted) = true)
    (a_combine : PySem.W.nsIn K mainGlobals "combine" = some (some (.ref f_combine)))
    (l_combine : K.lookup f_combine = some ⟨oc_combine, od_combine, .func (PySem.W.fnOf "combine" "combine" (defArgs s_combine) (defBody s_combine) (defScope s_combine) .none kV_combine dc_combine pm_combine an_combine cd_combine ct_combine), sl_combine⟩)
    (co_combine : PySem.W.codeIn K cd_combine "combine" = true)
    (k_combine : PySem.W.keepIn K (.ref f_combine) = true)
    (a_signed_columns : PySem.W.nsIn K mainGlobals "signed_columns" = some (some (.ref f_signed_columns)))
    (l_signed_columns : K.lookup f_signed_columns = some ⟨oc_signed_columns, od_signed_columns, .func (PySem.W.fnOf "signed_columns" "signed_columns" (defArgs s_signed_columns) (defBody s_signed_columns) (defScope s_signed_columns) .none kV_signed_columns dc_signed_columns pm_signed_columns an_signed_columns cd_signed_columns ct_signed_columns), sl_signed_columns⟩)
    (co_signed_columns : PySem.W.codeIn K cd_signed_columns "signed_columns" = true)
    (k_signed_columns : PySem.W.keepIn K (.ref f_signed_columns) = true)
    (a_solve : PySem.W.nsIn K mainGlobals "solve" = some (some (.ref f_solve)))
    (l_solve : K.lookup f_solve = some ⟨oc_solve, od_solve, .func (PySem.W.fnOf "solve" "solve" (defArgs s_solve) (defBody s_solve) (defScope s_solve) .none kV_solve dc_solve pm_solve an_solve cd_solve ct_solve), sl_solve⟩)
    (co_solve : PySem.W.codeIn K cd_solve "solve" = true)
    (k_solve : PySem.W.keepIn K (.ref f_solve) = true)
    (a_balance : PySem.W.nsIn K mainGlobals "balance" = some (some (.ref f_balance)))
    (l_balance : K.lookup f_balance = some ⟨oc_balance, od_balance, .func (PySem.W.fnOf "balance" "balance" (defArgs s_balance) (defBody s_balance) (defScope s_balance) .none kV_balance dc_balance pm_balance an_balance cd_balance ct_balance), sl_balance⟩)
    (co_balance : PySem.W.codeIn K cd_balance "balance" = true)
    (k_balance : PySem.W.keepIn K (.ref f_balance) = true)
    (a_law_take : PySem.W.nsIn K mainGlobals "_law_take" = some (some (.ref f_law_take)))
    (l_law_take : K.lookup f_law_take = some ⟨oc_law_take, od_law_take, .func (PySem.W.fnOf "_law_take" "_law_take" (defArgs s_law_take) (defBody s_law_take) (defScope s_law_take) .none kV_law_take dc_law_take pm_law_take an_law_take cd_law_take ct_law_take), sl_law_take⟩)
    (co_law_take : PySem.W.codeIn K cd_law_take "_law_take" = true)
    (k_law_take : PySem.W.keepIn K (.ref f_law_take) = true)
    (a_law_whole : PySem.W.nsIn K mainGlobals "_law_whole" = some (some (.ref f_law_whole)))
    (l_law_whole : K.lookup f_law_whole = some ⟨oc_law_whole, od_law_whole, .func (PySem.W.fnOf "_law_whole" "_law_whole" (defArgs s_law_whole) (defBody s_law_whole) (defScope s_law_whole) .none kV_law_whole dc_law_whole pm_law_whole an_law_whole cd_law_whole ct_law_whole), sl_law_whole⟩)
    (co_law_whole : PySem.W.codeIn K cd_law_whole "_law_whole" = true)
    (k_law_whole : PySem.W.keepIn K (.ref f_law_whole) = true)
    (a_law_dot : PySem.W.nsIn K mainGlobals "_law_dot" = some (some (.ref f_law_dot)))
    (l_law_dot : K.lookup f_law_dot = some ⟨oc_law_dot, od_law_dot, .func (PySem.W.fnOf "_law_dot" "_law_dot" (defArgs s_law_dot) (defBody s_law_dot) (defScope s_law_dot) .none kV_law_dot dc_law_dot pm_law_dot an_law_dot cd_law_dot ct_law_dot), sl_law_dot⟩)
    (co_law_dot : PySem.W.codeIn K cd_law_dot "_law_dot" = true)
    (k_law_dot : PySem.W.keepIn K (.ref f_law_dot) = true)
    (a_law_list_of : PySem.W.nsIn K mainGlobals "_law_list_of" = some (some (.ref f_law_list_of)))
    (l_law_list_of : K.lookup f_law_list_of = some ⟨oc_law_list_of, od_law_list_of, .func (PySem.W.fnOf "_law_list_of" "_law_list_of" (defArgs s_law_list_of) (defBody s_law_list_of) (defScope s_law_list_of) .none kV_law_list_of dc_law_list_of pm_law_list_of an_law_list_of cd_law_list_of ct_law_list_of), sl_law_list_of⟩)
    (co_law_list_of : PySem.W.codeIn K cd_law_list_of "_law_list_of" = true)
    (k_law_list_of : PySem.W.keepIn K (.ref f_law_list_of) = true)
    (a_law_kinds : PySem.W.nsIn K mainGlobals "_law_kinds" = some (some (.ref f_law_kinds)))
    (l_law_kinds : K.lookup f_law_kinds = some ⟨oc_law_kinds, od_law_kinds, .func (PySem.W.fnOf "_law_kinds" "_law_kinds" (defArgs s_law_kinds) (defBody s_law_kinds) (defScope s_law_kinds) .none kV_law_kinds dc_law_kinds pm_law_kinds an_law_kinds cd_law_kinds ct_law_kinds), sl_law_kinds⟩)
    (co_law_kinds : PySem.W.codeIn K cd_law_kinds "_law_kinds" = true)
    (k_law_kinds : PySem.W.keepIn K (.ref f_law_kinds) = true)
    (a_law_rows : PySem.W.nsIn K mainGlobals "_law_rows" = some (some (.ref f_law_rows)))
    (l_law_rows : K.lookup f_law_rows = some ⟨oc_law_rows, od_law_rows, .func (PySem.W.fnOf "_law_rows" "_law_rows" (defArgs s_law_rows) (defBody s_law_rows) (defScope s_law_rows) .none kV_law_rows dc_law_rows pm_law_rows an_law_rows cd_law_rows ct_law_rows), sl_law_rows⟩)
    (co_law_rows : PySem.W.codeIn K cd_law_rows "_law_rows" = true)
    (k_law_rows : PySem.W.keepIn K (.ref f_law_rows) = true)
    (a_law_solved_rows : PySem.W.nsIn K mainGlobals "_law_solved_rows" = some (some (.ref f_law_solved_rows)))
    (l_law_solved_rows : K.lookup f_law_solved_rows = some ⟨oc_law_solved_rows, od_law_solved_rows, .func (PySem.W.fnOf "_law_solved_rows" "_law_solved_rows" (defArgs s_law_solved_rows) (defBody s_law_solved_rows) (defScope s_law_solved_rows) .none kV_law_solved_rows dc_law_solved_rows pm_law_solved_rows an_law_solved_rows cd_law_solved_rows ct_law_solved_rows), sl_law_solved_rows⟩)
    (co_law_solved_rows : PySem.W.codeIn K cd_law_solved_rows "_law_solved_rows" = true)
    (k_law_solved_rows : PySem.W.keepIn K (.ref f_law_solved_rows) = true)
    (a_law_barred_rows : PySem.W.nsIn K mainGlobals "_law_barred_rows" = some (some (.ref f_law_barred_rows)))
    (l_law_barred_rows : K.lookup f_law_barred_rows = some ⟨oc_law_barred_rows, od_law_barred_rows, .func (PySem.W.fnOf "_law_barred_rows" "_law_barred_rows" (defArgs s_law_barred_rows) (defBody s_law_barred_rows) (defScope s_law_barred_rows) .none kV_law_barred_rows dc_law_barred_rows pm_law_barred_rows an_law_barred_rows cd_law_barred_rows ct_law_barred_rows), sl_law_barred_rows⟩)
    (co_law_barred_rows : PySem.W.codeIn K cd_law_barred_rows "_law_barred_rows" = true)
    (k_law_barred_rows : PySem.W.keepIn K (.ref f_law_barred_rows) = true)
    (a_law_drawn_task : PySem.W.nsIn K mainGlobals "_law_drawn_task" = some (some (.ref f_law_drawn_task)))
    (l_law_drawn_task : K.lookup f_law_drawn_task = some ⟨oc_law_drawn_task, od_law_drawn_task, .func (PySem.W.fnOf "_law_drawn_task" "_law_drawn_task" (defArgs s_law_drawn_task) (defBody s_law_drawn_task) (defScope s_law_drawn_task) .none kV_law_drawn_task dc_law_drawn_task pm_law_drawn_task an_law_drawn_task cd_law_drawn_task ct_law_drawn_task), sl_law_drawn_task⟩)
    (co_law_drawn_task : PySem.W.codeIn K cd_law_drawn_task "_law_drawn_task" = true)
    (k_law_drawn_task : PySem.W.keepIn K (.ref f_law_drawn_task) = true)
    (a_law_sign_right : PySem.W.nsIn K mainGlobals "_law_sign_right" = some (some (.ref f_law_sign_right)))
    (l_law_sign_right : K.lookup f_law_sign_right = some ⟨oc_law_sign_right, od_law_sign_right, .func (PySem.W.fnOf "_law_sign_right" "_law_sign_right" (defArgs s_law_sign_right) (defBody s_law_sign_right) (defScope s_law_sign_right) .none kV_law_sign_right dc_law_sign_right pm_law_sign_right an_law_sign_right cd_law_sign_right ct_law_sign_right), sl_law_sign_right⟩)
    (co_law_sign_right : PySem.W.codeIn K cd_law_sign_right "_law_sign_right" = true)
    (k_law_sign_right : PySem.W.keepIn K (.ref f_law_sign_right) = true)
    (a_law_numbers_right : PySem.W.nsIn K mainGlobals "_law_numbers_right" = some (some (.ref f_law_numbers_right)))
    (l_law_numbers_right : K.lookup f_law_numbers_right = some ⟨oc_law_numbers_right, od_law_numbers_right, .func (PySem.W.fnOf "_law_numbers_right" "_law_numbers_right" (defArgs s_law_numbers_right) (defBody s_law_numbers_right) (defScope s_law_numbers_right) .none kV_law_numbers_right dc_law_numbers_right pm_law_numbers_right an_law_numbers_right cd_law_numbers_right ct_law_numbers_right), sl_law_numbers_right⟩)
    (co_law_numbers_right : PySem.W.codeIn K cd_law_numbers_right "_law_numbers_right" = true)
    (k_law_numbers_right : PySem.W.keepIn K (.ref f_law_numbers_right) = true)
    (a_law_totals : PySem.W.nsIn K mainGlobals "_law_totals" = some (some (.ref f_law_totals)))
    (l_law_totals : K.lookup f_law_totals = some ⟨oc_law_totals, od_law_totals, .func (PySem.W.fnOf "_law_totals" "_law_totals" (defArgs s_law_totals) (defBody s_law_totals) (defScope s_law_totals) .none kV_law_totals dc_law_totals pm_law_totals an_law_totals cd_law_totals ct_law_totals), sl_law_totals⟩)
    (co_law_totals : PySem.W.codeIn K cd_law_totals "_law_totals" = true)
    (k_law_totals : PySem.W.keepIn K (.ref f_law_totals) = true)
    (a_law_weights_right : PySem.W.nsIn K mainGlobals "_law_weights_right" = some (some (.ref f_law_weights_right)))
    (l_law_weights_right : K.lookup f_law_weights_right = some ⟨oc_law_weights_right, od_law_weights_right, .func (PySem.W.fnOf "_law_weights_right" "_law_weights_right" (defArgs s_law_weights_right) (defBody s_law_weights_right) (defScope s_law_weights_right) .none kV_law_weights_right dc_law_weights_right pm_law_weights_right an_law_weights_right cd_law_weights_right ct_law_weights_right), sl_law_weights_right⟩)
    (co_law_weights_right : PySem.W.codeIn K cd_law_weights_right "_law_weights_right" = true)
    (k_law_weights_right : PySem.W.keepIn K (.ref f_law_weights_right) = true)
    (a_law_right : PySem.W.nsIn K mainGlobals "_law_right" = some (some (.ref f_law_right)))
    (l_law_right : K.lookup f_law_right = some ⟨oc_law_right, od_law_right, .func (PySem.W.fnOf "_law_right" "_law_right" (defArgs s_law_right) (defBody s_law_right) (defScope s_law_right) .none kV_law_right dc_law_right pm_law_right an_law_right cd_law_right ct_law_right), sl_law_right⟩)
    (co_law_right : PySem.W.codeIn K cd_law_right "_law_right" = true)
    (k_law_right : PySem.W.keepIn K (.ref f_law_right) = true)
    (a_law_pool : PySem.W.nsIn K mainGlobals "_law_pool" = some (some (.ref f_law_pool)))
    (l_law_pool : K.lookup f_law_pool = some ⟨oc_law_pool, od_law_pool, .func (PySem.W.fnOf "_law_pool" "_law_pool" (defArgs s_law_pool) (defBody s_law_pool) (defScope s_law_pool) .none kV_law_pool dc_law_pool pm_law_pool an_law_pool cd_law_pool ct_law_pool), sl_law_pool⟩)
    (co_law_pool : PySem.W.codeIn K cd_law_pool "_law_pool" = true)
    (k_law_pool : PySem.W.keepIn K (.ref f_law_pool) = true)
    (a_law : PySem.W.nsIn K mainGlobals "law" = some (some (.ref f_law)))
    (l_law : K.lookup f_law = some ⟨oc_law, od_law, .func (PySem.W.fnOf "law" "law" (defArgs s_law) (defBody s_law) (defScope s_law) .none kV_law dc_law pm_law an_law cd_law ct_law), sl_law⟩)
    (co_law : PySem.W.codeIn K cd_law "law" = true)
    (k_law : PySem.W.keepIn K (.ref f_law) = true)
    {nm_NoCombination q_NoCombination : Str} {N_NoCombination : Addr} {bs_NoCombination bm_NoCombination sub_NoCombination : List Value} {sn_NoCombination : List Str} {ab_NoCombination : Bool} {col_NoCombination : Option Bool} {dd_NoCombination : Option Addr} {m0_NoCombination m1_NoCombination m2_NoCombination m3_NoCombination m5_NoCombination : Option Value}
    {xoc_NoCombination xkV_NoCombination xdc_NoCombination xpm_NoCombination xct_NoCombination yoc_NoCombination zoc_NoCombination : Value} {xod_NoCombination xan_NoCombination yod_NoCombination zod_NoCombination : Option Addr} {xsl_NoCombination ysl_NoCombination zsl_NoCombination : Array (Option Value)} {zv_NoCombination : Array Value} {zf_NoCombination : Str} {zt_NoCombination : Tok}
    (aC_NoCombination : PySem.W.nsIn K mainGlobals "NoCombination" = some (some (.ref c_NoCombination)))
    (xL_NoCombination : K.lookup c_NoCombination = some (excClassObj nm_NoCombination q_NoCombination c_NoCombination N_NoCombination bs_NoCombination bm_NoCombination true sn_NoCombination sub_NoCombination ab_NoCombination col_NoCombination dd_NoCombination m0_NoCombination m1_NoCombination m2_NoCombination m3_NoCombination m5_NoCombination "ValueError.__new__"))
    (xrb_NoCombination : refsVE bm_NoCombination = true)
    (xsa_NoCombination : PySem.W.findIn K (.ref c_NoCombination) "__setattr__" = some (some (.builtin "object.__setattr__")))
    (xga_NoCombination : PySem.W.findIn K (.ref c_NoCombination) "__getattribute__" = some (some (.builtin "BaseException.__getattribute__")))
    (xgg_NoCombination : PySem.W.findIn K (.ref c_NoCombination) "__getattr__" = some none)
    (xnb_NoCombination : PySem.W.findIn K (.ref c_NoCombination) "weights" = some none)
    (xiC_NoCombination : PySem.W.findIn K (.ref c_NoCombination) "__init__" = some (some (.ref xf_NoCombination)))
    (xtC_NoCombination : PySem.W.typeIn K (.ref xf_NoCombination) = some (.type "function"))
    (xkC_NoCombination : PySem.W.keepIn K (.ref c_NoCombination) = true)
    (xex_NoCombination : PySem.W.subIn K (.ref c_NoCombination) (.type "BaseException") = some true)
    (xty_NoCombination : PySem.W.typeIn K (.ref c_NoCombination) = some (.type "type"))
    (xhd_NoCombination : PySem.W.hasDictIn K c_NoCombination = true)
    (xic_NoCombination : PySem.W.isClsIn K c_NoCombination = true)
    (xss_NoCombination : PySem.W.subIn K (.ref c_NoCombination) (.ref c_NoCombination) = some true)
    (xlf_NoCombination : K.lookup xf_NoCombination = some ⟨xoc_NoCombination, xod_NoCombination, .func (PySem.W.fnX "__init__" "NoCombination.__init__" (defArgs s_NoCombination_init) (defBody s_NoCombination_init) (defScope s_NoCombination_init) [("__class__", xc_NoCombination)] .none xkV_NoCombination xdc_NoCombination xpm_NoCombination xan_NoCombination (.ref xk_NoCombination) xct_NoCombination), xsl_NoCombination⟩)
    (xco_NoCombination : PySem.W.codeIn K (.ref xk_NoCombination) "NoCombination.__init__" = true)
    (xcl_NoCombination : K.lookup xc_NoCombination = some ⟨yoc_NoCombination, yod_NoCombination, .cell (some (.ref c_NoCombination)), ysl_NoCombination⟩)
    (xkl_NoCombination : K.lookup xk_NoCombination = some ⟨zoc_NoCombination, zod_NoCombination, .fields zv_NoCombination, zsl_NoCombination⟩)
    (xkf_NoCombination : zv_NoCombination[2]? = some (.str zf_NoCombination zt_NoCombination))
    (xfi_NoCombination : ((l.prog.main.file : Str) == zf_NoCombination) = true)
    (xtp_NoCombination : (l.prog.main.scope.names.lookup ("super" : Str)).isSome = false)
    (xsu_NoCombination : PySem.W.nsIn K mainGlobals "super" = some none)
    (xal_NoCombination : PySem.W.ks_superIn K c_NoCombination c_NoCombination "__init__" = some (some (.builtin "ValueError.__init__")))
    (xve_NoCombination : PySem.W.subIn K (.ref c_NoCombination) (.type "ValueError") = some true)
    (xmc_NoCombination : PySem.W.mroIn K c_NoCombination (.ref c_NoCombination) = some true)
    (xop_NoCombination : PySem.W.nsIn K cStatics "thirdparty.any" = some none)
    (xea_NoCombination : PySem.W.findIn K (.ref c_NoCombination) "__class__" = some (some (.builtin "object.__class__")))
    (xem_NoCombination : PySem.W.mroIn K c_NoCombination (.type "object") = some true)
    {nm_NoBalance q_NoBalance : Str} {N_NoBalance : Addr} {bs_NoBalance bm_NoBalance sub_NoBalance : List Value} {sn_NoBalance : List Str} {ab_NoBalance : Bool} {col_NoBalance : Option Bool} {dd_NoBalance : Option Addr} {m0_NoBalance m1_NoBalance m2_NoBalance m3_NoBalance m5_NoBalance : Option Value}
    {xoc_NoBalance xkV_NoBalance xdc_NoBalance xpm_NoBalance xct_NoBalance yoc_NoBalance zoc_NoBalance : Value} {xod_NoBalance xan_NoBalance yod_NoBalance zod_NoBalance : Option Addr} {xsl_NoBalance ysl_NoBalance zsl_NoBalance : Array (Option Value)} {zv_NoBalance : Array Value} {zf_NoBalance : Str} {zt_NoBalance : Tok}
    (aC_NoBalance : PySem.W.nsIn K mainGlobals "NoBalance" = some (some (.ref c_NoBalance)))
    (xL_NoBalance : K.lookup c_NoBalance = some (excClassObj nm_NoBalance q_NoBalance c_NoBalance N_NoBalance bs_NoBalance bm_NoBalance true sn_NoBalance sub_NoBalance ab_NoBalance col_NoBalance dd_NoBalance m0_NoBalance m1_NoBalance m2_NoBalance m3_NoBalance m5_NoBalance "ValueError.__new__"))
    (xrb_NoBalance : refsVE bm_NoBalance = true)
    (xsa_NoBalance : PySem.W.findIn K (.ref c_NoBalance) "__setattr__" = some (some (.builtin "object.__setattr__")))
    (xga_NoBalance : PySem.W.findIn K (.ref c_NoBalance) "__getattribute__" = some (some (.builtin "BaseException.__getattribute__")))
    (xgg_NoBalance : PySem.W.findIn K (.ref c_NoBalance) "__getattr__" = some none)
    (xnb_NoBalance : PySem.W.findIn K (.ref c_NoBalance) "weights" = some none)
    (xiC_NoBalance : PySem.W.findIn K (.ref c_NoBalance) "__init__" = some (some (.ref xf_NoBalance)))
    (xtC_NoBalance : PySem.W.typeIn K (.ref xf_NoBalance) = some (.type "function"))
    (xkC_NoBalance : PySem.W.keepIn K (.ref c_NoBalance) = true)
    (xex_NoBalance : PySem.W.subIn K (.ref c_NoBalance) (.type "BaseException") = some true)
    (xty_NoBalance : PySem.W.typeIn K (.ref c_NoBalance) = some (.type "type"))
    (xhd_NoBalance : PySem.W.hasDictIn K c_NoBalance = true)
    (xic_NoBalance : PySem.W.isClsIn K c_NoBalance = true)
    (xss_NoBalance : PySem.W.subIn K (.ref c_NoBalance) (.ref c_NoBalance) = some true)
    (xlf_NoBalance : K.lookup xf_NoBalance = some ⟨xoc_NoBalance, xod_NoBalance, .func (PySem.W.fnX "__init__" "NoBalance.__init__" (defArgs s_NoBalance_init) (defBody s_NoBalance_init) (defScope s_NoBalance_init) [("__class__", xc_NoBalance)] .none xkV_NoBalance xdc_NoBalance xpm_NoBalance xan_NoBalance (.ref xk_NoBalance) xct_NoBalance), xsl_NoBalance⟩)
    (xco_NoBalance : PySem.W.codeIn K (.ref xk_NoBalance) "NoBalance.__init__" = true)
    (xcl_NoBalance : K.lookup xc_NoBalance = some ⟨yoc_NoBalance, yod_NoBalance, .cell (some (.ref c_NoBalance)), ysl_NoBalance⟩)
    (xkl_NoBalance : K.lookup xk_NoBalance = some ⟨zoc_NoBalance, zod_NoBalance, .fields zv_NoBalance, zsl_NoBalance⟩)
    (xkf_NoBalance : zv_NoBalance[2]? = some (.str zf_NoBalance zt_NoBalance))
    (xfi_NoBalance : ((l.prog.main.file : Str) == zf_NoBalance) = true)
    (xtp_NoBalance : (l.prog.main.scope.names.lookup ("super" : Str)).isSome = false)
    (xsu_NoBalance : PySem.W.nsIn K mainGlobals "super" = some none)
    (xal_NoBalance : PySem.W.ks_superIn K c_NoBalance c_NoBalance "__init__" = some (some (.builtin "ValueError.__init__")))
    (xve_NoBalance : PySem.W.subIn K (.ref c_NoBalance) (.type "ValueError") = some true)
    (xmc_NoBalance : PySem.W.mroIn K c_NoBalance (.ref c_NoBalance) = some true)
    (xop_NoBalance : PySem.W.nsIn K cStatics "thirdparty.any" = some none)
    (xea_NoBalance : PySem.W.findIn K (.ref c_NoBalance) "__class__" = some (some (.builtin "object.__class__")))
    (xem_NoBalance : PySem.W.mroIn K c_NoBalance (.type "object") = some true)
    {t_SIGNED : Addr} {tdt_SIGNED : Option Addr} {tn_SIGNED : Nat} {tsl_SIGNED : Array (Option Value)} {tt0_SIGNED tt1_SIGNED : Tok}
    (aT_SIGNED : PySem.W.nsIn K mainGlobals "SIGNED" = some (some (.ref t_SIGNED)))
    (lT_SIGNED : K.lookup t_SIGNED = some ⟨.type "tuple", tdt_SIGNED, .seq #[.str "positive" tt0_SIGNED, .str "negative" tt1_SIGNED] tn_SIGNED, tsl_SIGNED⟩)
    (kt_NoBalance_PlanError : PySem.W.kitOne K (.ref c_NoBalance) (.ref c_PlanError) = some true)
    (ign : PySem.W.specialIn K (.builtin "object.__class__") "__get__" = some (some (.builtin "getset_descriptor.__get__")))
    (igt : PySem.W.takesIn K (.builtin "object.__class__") = some true)
    (z_max : PySem.W.nsIn K mainGlobals "max" = some none)
    (z_enumerate : PySem.W.nsIn K mainGlobals "enumerate" = some none)
    (z_int : PySem.W.nsIn K mainGlobals "int" = some none)
    (z_sum : PySem.W.nsIn K mainGlobals "sum" = some none)
    (z_range : PySem.W.nsIn K mainGlobals "range" = some none)
    (z_len : PySem.W.nsIn K mainGlobals "len" = some none)
    (z_zip : PySem.W.nsIn K mainGlobals "zip" = some none)
    (z_isinstance : PySem.W.nsIn K mainGlobals "isinstance" = some none)
    (z_bool : PySem.W.nsIn K mainGlobals "bool" = some none)
    (z_list : PySem.W.nsIn K mainGlobals "list" = some none)
    (z_abs : PySem.W.nsIn K mainGlobals "abs" = some none)
    (r_gcd : PySem.W.nsIn K mainGlobals "gcd" = some (some (.builtin "math.gcd")))
    : ∃ fd : FuncData, (∀ (s : Shared) (v : Value), BindsTo s fd ⟨[v], []⟩ [("_law_script", v)]) ∧ ∀ base : Heap, K.In base → base.Ns mainGlobals mg → FnOk l.prog w K mg base CX0 20 fa fd ["_law_script"] (sp_law K) := by
  have e := hfa.symm.trans (PySem.W.mg_of X G a_law)
  cases e
  have F_reduced := fun_mk (st := s_reduced) l_reduced co_reduced k_reduced
  have B_reduced := F_reduced.binds (ps := ["numbers"]) fun _ _ _ _ _ _ us hl => match us, hl with | [_], _ => rfl
  have F_first_table := fun_mk (st := s_first_table) l_first_table co_first_table k_first_table
  have B_first_table := F_first_table.binds (ps := ["columns", "goal"]) fun _ _ _ _ _ _ us hl => match us, hl with | [_, _], _ => rfl
  have F_entering := fun_mk (st := s_entering) l_entering co_entering k_entering
  have B_entering := F_entering.binds (ps := ["costs", "count"]) fun _ _ _ _ _ _ us hl => match us, hl with | [_, _], _ => rfl
  have F_is_tighter := fun_mk (st := s_is_tighter) l_is_tighter co_is_tighter k_is_tighter
  have B_is_tighter := F_is_tighter.binds (ps := ["table", "basis", "column", "one", "other"]) fun _ _ _ _ _ _ us hl => match us, hl with | [_, _, _, _, _], _ => rfl
  have F_leaving := fun_mk (st := s_leaving) l_leaving co_leaving k_leaving
  have B_leaving := F_leaving.binds (ps := ["table", "basis", "column"]) fun _ _ _ _ _ _ us hl => match us, hl with | [_, _, _], _ => rfl
  have F_pivoted := fun_mk (st := s_pivoted) l_pivoted co_pivoted k_pivoted
  have B_pivoted := F_pivoted.binds (ps := ["table", "row", "column", "scale"]) fun _ _ _ _ _ _ us hl => match us, hl with | [_, _, _, _], _ => rfl
  have F_combine := fun_mk (st := s_combine) l_combine co_combine k_combine
  have B_combine := F_combine.binds (ps := ["columns", "goal"]) fun _ _ _ _ _ _ us hl => match us, hl with | [_, _], _ => rfl
  have F_signed_columns := fun_mk (st := s_signed_columns) l_signed_columns co_signed_columns k_signed_columns
  have B_signed_columns := F_signed_columns.binds (ps := ["rows", "kinds"]) fun _ _ _ _ _ _ us hl => match us, hl with | [_, _], _ => rfl
  have F_solve := fun_mk (st := s_solve) l_solve co_solve k_solve
  have B_solve := F_solve.binds (ps := ["rows", "kinds", "strict"]) fun _ _ _ _ _ _ us hl => match us, hl with | [_, _, _], _ => rfl
  have F_balance := fun_mk (st := s_balance) l_balance co_balance k_balance
  have B_balance := F_balance.binds (ps := ["rows", "kinds"]) fun _ _ _ _ _ _ us hl => match us, hl with | [_, _], _ => rfl
  have F_law_take := fun_mk (st := s_law_take) l_law_take co_law_take k_law_take
  have B_law_take := F_law_take.binds (ps := ["_law_pool_here", "_law_many"]) fun _ _ _ _ _ _ us hl => match us, hl with | [_, _], _ => rfl
  have F_law_whole := fun_mk (st := s_law_whole) l_law_whole co_law_whole k_law_whole
  have B_law_whole := F_law_whole.binds (ps := ["_law_x"]) fun _ _ _ _ _ _ us hl => match us, hl with | [_], _ => rfl
  have F_law_dot := fun_mk (st := s_law_dot) l_law_dot co_law_dot k_law_dot
  have B_law_dot := F_law_dot.binds (ps := ["_law_one", "_law_two"]) fun _ _ _ _ _ _ us hl => match us, hl with | [_, _], _ => rfl
  have F_law_list_of := fun_mk (st := s_law_list_of) l_law_list_of co_law_list_of k_law_list_of
  have B_law_list_of := F_law_list_of.binds (ps := ["_law_told", "_law_count"]) fun _ _ _ _ _ _ us hl => match us, hl with | [_, _], _ => rfl
  have F_law_kinds := fun_mk (st := s_law_kinds) l_law_kinds co_law_kinds k_law_kinds
  have B_law_kinds := F_law_kinds.binds (ps := ["_law_pool_here", "_law_count"]) fun _ _ _ _ _ _ us hl => match us, hl with | [_, _], _ => rfl
  have F_law_rows := fun_mk (st := s_law_rows) l_law_rows co_law_rows k_law_rows
  have B_law_rows := F_law_rows.binds (ps := ["_law_pool_here", "_law_many", "_law_count"]) fun _ _ _ _ _ _ us hl => match us, hl with | [_, _, _], _ => rfl
  have F_law_solved_rows := fun_mk (st := s_law_solved_rows) l_law_solved_rows co_law_solved_rows k_law_solved_rows
  have B_law_solved_rows := F_law_solved_rows.binds (ps := ["_law_pool_here", "_law_rows_here", "_law_kinds_here"]) fun _ _ _ _ _ _ us hl => match us, hl with | [_, _, _], _ => rfl
  have F_law_barred_rows := fun_mk (st := s_law_barred_rows) l_law_barred_rows co_law_barred_rows k_law_barred_rows
  have B_law_barred_rows := F_law_barred_rows.binds (ps := ["_law_pool_here", "_law_rows_here", "_law_kinds_here"]) fun _ _ _ _ _ _ us hl => match us, hl with | [_, _, _], _ => rfl
  have F_law_drawn_task := fun_mk (st := s_law_drawn_task) l_law_drawn_task co_law_drawn_task k_law_drawn_task
  have B_law_drawn_task := F_law_drawn_task.binds (ps := ["_law_pool_here"]) fun _ _ _ _ _ _ us hl => match us, hl with | [_], _ => rfl
  have F_law_sign_right := fun_mk (st := s_law_sign_right) l_law_sign_right co_law_sign_right k_law_sign_right
  have B_law_sign_right := F_law_sign_right.binds (ps := ["_law_kind", "_law_number", "_law_strict"]) fun _ _ _ _ _ _ us hl => match us, hl with | [_, _, _], _ => rfl
  have F_law_numbers_right := fun_mk (st := s_law_numbers_right) l_law_numbers_right co_law_numbers_right k_law_numbers_right
  have B_law_numbers_right := F_law_numbers_right.binds (ps := ["_law_rows_here", "_law_kinds_here", "_law_numbers", "_law_strict"]) fun _ _ _ _ _ _ us hl => match us, hl with | [_, _, _, _], _ => rfl
  have F_law_totals := fun_mk (st := s_law_totals) l_law_totals co_law_totals k_law_totals
  have B_law_totals := F_law_totals.binds (ps := ["_law_rows_here", "_law_count", "_law_weights"]) fun _ _ _ _ _ _ us hl => match us, hl with | [_, _, _], _ => rfl
  have F_law_weights_right := fun_mk (st := s_law_weights_right) l_law_weights_right co_law_weights_right k_law_weights_right
  have B_law_weights_right := F_law_weights_right.binds (ps := ["_law_rows_here", "_law_kinds_here", "_law_weights", "_law_strict"]) fun _ _ _ _ _ _ us hl => match us, hl with | [_, _, _, _], _ => rfl
  have F_law_right := fun_mk (st := s_law_right) l_law_right co_law_right k_law_right
  have B_law_right := F_law_right.binds (ps := ["_law_rows_here", "_law_kinds_here"]) fun _ _ _ _ _ _ us hl => match us, hl with | [_, _], _ => rfl
  have F_law_pool := fun_mk (st := s_law_pool) l_law_pool co_law_pool k_law_pool
  have B_law_pool := F_law_pool.binds (ps := ["_law_script"]) fun _ _ _ _ _ _ us hl => match us, hl with | [_], _ => rfl
  have F_law := fun_mk (st := s_law) l_law co_law k_law
  have B_law := F_law.binds (ps := ["_law_script"]) fun _ _ _ _ _ _ us hl => match us, hl with | [_], _ => rfl
  let ad : Ad := { f_reduced := f_reduced, d_reduced := PySem.W.fnOf "reduced" "reduced" (defArgs s_reduced) (defBody s_reduced) (defScope s_reduced) .none kV_reduced dc_reduced pm_reduced an_reduced cd_reduced ct_reduced, f_first_table := f_first_table, d_first_table := PySem.W.fnOf "first_table" "first_table" (defArgs s_first_table) (defBody s_first_table) (defScope s_first_table) .none kV_first_table dc_first_table pm_first_table an_first_table cd_first_table ct_first_table, f_entering := f_entering, d_entering := PySem.W.fnOf "entering" "entering" (defArgs s_entering) (defBody s_entering) (defScope s_entering) .none kV_entering dc_entering pm_entering an_entering cd_entering ct_entering, f_is_tighter := f_is_tighter, d_is_tighter := PySem.W.fnOf "is_tighter" "is_tighter" (defArgs s_is_tighter) (defBody s_is_tighter) (defScope s_is_tighter) .none kV_is_tighter dc_is_tighter pm_is_tighter an_is_tighter cd_is_tighter ct_is_tighter, f_leaving := f_leaving, d_leaving := PySem.W.fnOf "leaving" "leaving" (defArgs s_leaving) (defBody s_leaving) (defScope s_leaving) .none kV_leaving dc_leaving pm_leaving an_leaving cd_leaving ct_leaving, f_pivoted := f_pivoted, d_pivoted := PySem.W.fnOf "pivoted" "pivoted" (defArgs s_pivoted) (defBody s_pivoted) (defScope s_pivoted) .none kV_pivoted dc_pivoted pm_pivoted an_pivoted cd_pivoted ct_pivoted, f_combine := f_combine, d_combine := PySem.W.fnOf "combine" "combine" (defArgs s_combine) (defBody s_combine) (defScope s_combine) .none kV_combine dc_combine pm_combine an_combine cd_combine ct_combine, f_signed_columns := f_signed_columns, d_signed_columns := PySem.W.fnOf "signed_columns" "signed_columns" (defArgs s_signed_columns) (defBody s_signed_columns) (defScope s_signed_columns) .none kV_signed_columns dc_signed_columns pm_signed_columns an_signed_columns cd_signed_columns ct_signed_columns, f_solve := f_solve, d_solve := PySem.W.fnOf "solve" "solve" (defArgs s_solve) (defBody s_solve) (defScope s_solve) .none kV_solve dc_solve pm_solve an_solve cd_solve ct_solve, f_balance := f_balance, d_balance := PySem.W.fnOf "balance" "balance" (defArgs s_balance) (defBody s_balance) (defScope s_balance) .none kV_balance dc_balance pm_balance an_balance cd_balance ct_balance, f_law_take := f_law_take, d_law_take := PySem.W.fnOf "_law_take" "_law_take" (defArgs s_law_take) (defBody s_law_take) (defScope s_law_take) .none kV_law_take dc_law_take pm_law_take an_law_take cd_law_take ct_law_take, f_law_whole := f_law_whole, d_law_whole := PySem.W.fnOf "_law_whole" "_law_whole" (defArgs s_law_whole) (defBody s_law_whole) (defScope s_law_whole) .none kV_law_whole dc_law_whole pm_law_whole an_law_whole cd_law_whole ct_law_whole, f_law_dot := f_law_dot, d_law_dot := PySem.W.fnOf "_law_dot" "_law_dot" (defArgs s_law_dot) (defBody s_law_dot) (defScope s_law_dot) .none kV_law_dot dc_law_dot pm_law_dot an_law_dot cd_law_dot ct_law_dot, f_law_list_of := f_law_list_of, d_law_list_of := PySem.W.fnOf "_law_list_of" "_law_list_of" (defArgs s_law_list_of) (defBody s_law_list_of) (defScope s_law_list_of) .none kV_law_list_of dc_law_list_of pm_law_list_of an_law_list_of cd_law_list_of ct_law_list_of, f_law_kinds := f_law_kinds, d_law_kinds := PySem.W.fnOf "_law_kinds" "_law_kinds" (defArgs s_law_kinds) (defBody s_law_kinds) (defScope s_law_kinds) .none kV_law_kinds dc_law_kinds pm_law_kinds an_law_kinds cd_law_kinds ct_law_kinds, f_law_rows := f_law_rows, d_law_rows := PySem.W.fnOf "_law_rows" "_law_rows" (defArgs s_law_rows) (defBody s_law_rows) (defScope s_law_rows) .none kV_law_rows dc_law_rows pm_law_rows an_law_rows cd_law_rows ct_law_rows, f_law_solved_rows := f_law_solved_rows, d_law_solved_rows := PySem.W.fnOf "_law_solved_rows" "_law_solved_rows" (defArgs s_law_solved_rows) (defBody s_law_solved_rows) (defScope s_law_solved_rows) .none kV_law_solved_rows dc_law_solved_rows pm_law_solved_rows an_law_solved_rows cd_law_solved_rows ct_law_solved_rows, f_law_barred_rows := f_law_barred_rows, d_law_barred_rows := PySem.W.fnOf "_law_barred_rows" "_law_barred_rows" (defArgs s_law_barred_rows) (defBody s_law_barred_rows) (defScope s_law_barred_rows) .none kV_law_barred_rows dc_law_barred_rows pm_law_barred_rows an_law_barred_rows cd_law_barred_rows ct_law_barred_rows, f_law_drawn_task := f_law_drawn_task, d_law_drawn_task := PySem.W.fnOf "_law_drawn_task" "_law_drawn_task" (defArgs s_law_drawn_task) (defBody s_law_drawn_task) (defScope s_law_drawn_task) .none kV_law_drawn_task dc_law_drawn_task pm_law_drawn_task an_law_drawn_task cd_law_drawn_task ct_law_drawn_task, f_law_sign_right := f_law_sign_right, d_law_sign_right := PySem.W.fnOf "_law_sign_right" "_law_sign_right" (defArgs s_law_sign_right) (defBody s_law_sign_right) (defScope s_law_sign_right) .none kV_law_sign_right dc_law_sign_right pm_law_sign_right an_law_sign_right cd_law_sign_right ct_law_sign_right, f_law_numbers_right := f_law_numbers_right, d_law_numbers_right := PySem.W.fnOf "_law_numbers_right" "_law_numbers_right" (defArgs s_law_numbers_right) (defBody s_law_numbers_right) (defScope s_law_numbers_right) .none kV_law_numbers_right dc_law_numbers_right pm_law_numbers_right an_law_numbers_right cd_law_numbers_right ct_law_numbers_right, f_law_totals := f_law_totals, d_law_totals := PySem.W.fnOf "_law_totals" "_law_totals" (defArgs s_law_totals) (defBody s_law_totals) (defScope s_law_totals) .none kV_law_totals dc_law_totals pm_law_totals an_law_totals cd_law_totals ct_law_totals, f_law_weights_right := f_law_weights_right, d_law_weights_right := PySem.W.fnOf "_law_weights_right" "_law_weights_right" (defArgs s_law_weights_right) (defBody s_law_weights_right) (defScope s_law_weights_right) .none kV_law_weights_right dc_law_weights_right pm_law_weights_right an_law_weights_right cd_law_weights_right ct_law_weights_right, f_law_right := f_law_right, d_law_right := PySem.W.fnOf "_law_right" "_law_right" (defArgs s_law_right) (defBody s_law_right) (defScope s_law_right) .none kV_law_right dc_law_right pm_law_right an_law_right cd_law_right ct_law_right, f_law_pool := f_law_pool, d_law_pool := PySem.W.fnOf "_law_pool" "_law_pool" (defArgs s_law_pool) (defBody s_law_pool) (defScope s_law_pool) .none kV_law_pool dc_law_pool pm_law_pool an_law_pool cd_law_pool ct_law_pool, f_law := fa, d_law := PySem.W.fnOf "law" "law" (defArgs s_law) (defBody s_law) (defScope s_law) .none kV_law dc_law pm_law an_law cd_law ct_law, c_PlanError := c_PlanError, c_NoCombination := c_NoCombination, xf_NoCombination := xf_NoCombination, xc_NoCombination := xc_NoCombination, xk_NoCombination := xk_NoCombination, c_NoBalance := c_NoBalance, xf_NoBalance := xf_NoBalance, xc_NoBalance := xc_NoBalance, xk_NoBalance := xk_NoBalance, t_SIGNED := t_SIGNED }
  have xi_NoCombination : PySem.XiX.Txt l.prog K mg "NoCombination" "weights" s_NoCombination_init c_NoCombination xf_NoCombination xc_NoCombination xk_NoCombination :=
    { gC := PySem.W.mg_of X G aC_NoCombination, cls := ⟨nm_NoCombination, q_NoCombination, N_NoCombination, bs_NoCombination, bm_NoCombination, sn_NoCombination, sub_NoCombination, ab_NoCombination, col_NoCombination, dd_NoCombination, m0_NoCombination, m1_NoCombination, m2_NoCombination, m3_NoCombination, m5_NoCombination, xL_NoCombination, xrb_NoCombination⟩, sa := xsa_NoCombination, ga := xga_NoCombination, gg := xgg_NoCombination, noN := xnb_NoCombination, iC := xiC_NoCombination, tC := xtC_NoCombination, kC := xkC_NoCombination, exC := xex_NoCombination, tyC := xty_NoCombination, hdC := xhd_NoCombination, te := Mr.exm_mine xex_NoCombination xic_NoCombination xty_NoCombination xss_NoCombination,
      fn := ⟨_, _, _, _, _, _, _, _, _, xlf_NoCombination, xco_NoCombination⟩, body := ⟨_, _, _, _, _, _, _, _, _, _, _, _, rfl, fun env => ⟨_, rfl⟩⟩, bnd := fun _ _ _ _ _ _ _ _ _ => rfl, first := ⟨_, rfl, rfl⟩, ls := by decide +kernel, lf := by decide +kernel, lsup := by decide +kernel, lcl := by decide +kernel, cells := by decide +kernel, sco := by decide +kernel, sgen := by decide +kernel, skind := by decide +kernel,
      nsf := by decide, dbg := by decide, cell := ⟨_, _, _, xcl_NoCombination⟩, code := ⟨_, _, _, zv_NoCombination, zf_NoCombination, zt_NoCombination, xkl_NoCombination, xkf_NoCombination, xfi_NoCombination⟩, top := xtp_NoCombination, sup := PySem.W.mg_none_of X G xsu_NoCombination, along := xal_NoCombination, sVE := xve_NoCombination, sC := xmc_NoCombination, opq := xop_NoCombination }
  have xi_NoBalance : PySem.XiX.Txt l.prog K mg "NoBalance" "weights" s_NoBalance_init c_NoBalance xf_NoBalance xc_NoBalance xk_NoBalance :=
    { gC := PySem.W.mg_of X G aC_NoBalance, cls := ⟨nm_NoBalance, q_NoBalance, N_NoBalance, bs_NoBalance, bm_NoBalance, sn_NoBalance, sub_NoBalance, ab_NoBalance, col_NoBalance, dd_NoBalance, m0_NoBalance, m1_NoBalance, m2_NoBalance, m3_NoBalance, m5_NoBalance, xL_NoBalance, xrb_NoBalance⟩, sa := xsa_NoBalance, ga := xga_NoBalance, gg := xgg_NoBalance, noN := xnb_NoBalance, iC := xiC_NoBalance, tC := xtC_NoBalance, kC := xkC_NoBalance, exC := xex_NoBalance, tyC := xty_NoBalance, hdC := xhd_NoBalance, te := Mr.exm_mine xex_NoBalance xic_NoBalance xty_NoBalance xss_NoBalance,
      fn := ⟨_, _, _, _, _, _, _, _, _, xlf_NoBalance, xco_NoBalance⟩, body := ⟨_, _, _, _, _, _, _, _, _, _, _, _, rfl, fun env => ⟨_, rfl⟩⟩, bnd := fun _ _ _ _ _ _ _ _ _ => rfl, first := ⟨_, rfl, rfl⟩, ls := by decide +kernel, lf := by decide +kernel, lsup := by decide +kernel, lcl := by decide +kernel, cells := by decide +kernel, sco := by decide +kernel, sgen := by decide +kernel, skind := by decide +kernel,
      nsf := by decide, dbg := by decide, cell := ⟨_, _, _, xcl_NoBalance⟩, code := ⟨_, _, _, zv_NoBalance, zf_NoBalance, zt_NoBalance, xkl_NoBalance, xkf_NoBalance, xfi_NoBalance⟩, top := xtp_NoBalance, sup := PySem.W.mg_none_of X G xsu_NoBalance, along := xal_NoBalance, sVE := xve_NoBalance, sC := xmc_NoBalance, opq := xop_NoBalance }
  have T : Txt l.prog K mg ad := { F_reduced := F_reduced, B_reduced := B_reduced, g_reduced := PySem.W.mg_of X G a_reduced, F_first_table := F_first_table, B_first_table := B_first_table, g_first_table := PySem.W.mg_of X G a_first_table, F_entering := F_entering, B_entering := B_entering, g_entering := PySem.W.mg_of X G a_entering, F_is_tighter := F_is_tighter, B_is_tighter := B_is_tighter, g_is_tighter := PySem.W.mg_of X G a_is_tighter, F_leaving := F_leaving, B_leaving := B_leaving, g_leaving := PySem.W.mg_of X G a_leaving, F_pivoted := F_pivoted, B_pivoted := B_pivoted, g_pivoted := PySem.W.mg_of X G a_pivoted, F_combine := F_combine, B_combine := B_combine, g_combine := PySem.W.mg_of X G a_combine, F_signed_columns := F_signed_columns, B_signed_columns := B_signed_columns, g_signed_columns := PySem.W.mg_of X G a_signed_columns, F_solve := F_solve, B_solve := B_solve, g_solve := PySem.W.mg_of X G a_solve, F_balance := F_balance, B_balance := B_balance, g_balance := PySem.W.mg_of X G a_balance, F_law_take := F_law_take, B_law_take := B_law_take, g_law_take := PySem.W.mg_of X G a_law_take, F_law_whole := F_law_whole, B_law_whole := B_law_whole, g_law_whole := PySem.W.mg_of X G a_law_whole, F_law_dot := F_law_dot, B_law_dot := B_law_dot, g_law_dot := PySem.W.mg_of X G a_law_dot, F_law_list_of := F_law_list_of, B_law_list_of := B_law_list_of, g_law_list_of := PySem.W.mg_of X G a_law_list_of, F_law_kinds := F_law_kinds, B_law_kinds := B_law_kinds, g_law_kinds := PySem.W.mg_of X G a_law_kinds, F_law_rows := F_law_rows, B_law_rows := B_law_rows, g_law_rows := PySem.W.mg_of X G a_law_rows, F_law_solved_rows := F_law_solved_rows, B_law_solved_rows := B_law_solved_rows, g_law_solved_rows := PySem.W.mg_of X G a_law_solved_rows, F_law_barred_rows := F_law_barred_rows, B_law_barred_rows := B_law_barred_rows, g_law_barred_rows := PySem.W.mg_of X G a_law_barred_rows, F_law_drawn_task := F_law_drawn_task, B_law_drawn_task := B_law_drawn_task, g_law_drawn_task := PySem.W.mg_of X G a_law_drawn_task, F_law_sign_right := F_law_sign_right, B_law_sign_right := B_law_sign_right, g_law_sign_right := PySem.W.mg_of X G a_law_sign_right, F_law_numbers_right := F_law_numbers_right, B_law_numbers_right := B_law_numbers_right, g_law_numbers_right := PySem.W.mg_of X G a_law_numbers_right, F_law_totals := F_law_totals, B_law_totals := B_law_totals, g_law_totals := PySem.W.mg_of X G a_law_totals, F_law_weights_right := F_law_weights_right, B_law_weights_right := B_law_weights_right, g_law_weights_right := PySem.W.mg_of X G a_law_weights_right, F_law_right := F_law_right, B_law_right := B_law_right, g_law_right := PySem.W.mg_of X G a_law_right, F_law_pool := F_law_pool, B_law_pool := B_law_pool, g_law_pool := PySem.W.mg_of X G a_law_pool, F_law := F_law, B_law := B_law, g_law := PySem.W.mg_of X G a_law, g_SIGNED := PySem.W.mg_of X G aT_SIGNED, tp_SIGNED := fun H => .inr ⟨_, _, _, lT_SIGNED, rfl, rfl, by show 2 ≤ sizeLine; decide, .cons ⟨_, rfl⟩ (.cons ⟨_, rfl⟩ (.nil))⟩, ign := ign, igt := igt, ec_NoCombination := excC_of xga_NoCombination xgg_NoCombination xex_NoCombination xhd_NoCombination xea_NoCombination ign igt xem_NoCombination, xi_NoCombination := xi_NoCombination, ec_NoBalance := excC_of xga_NoBalance xgg_NoBalance xex_NoBalance xhd_NoBalance xea_NoBalance ign igt xem_NoBalance, xi_NoBalance := xi_NoBalance, g_PlanError := PySem.W.mg_of X G aC_PlanError, kt_NoBalance_PlanError := kt_NoBalance_PlanError, z_max := PySem.W.mg_none_of X G z_max, z_enumerate := PySem.W.mg_none_of X G z_enumerate, z_int := PySem.W.mg_none_of X G z_int, z_sum := PySem.W.mg_none_of X G z_sum, z_range := PySem.W.mg_none_of X G z_range, z_len := PySem.W.mg_none_of X G z_len, z_zip := PySem.W.mg_none_of X G z_zip, z_isinstance := PySem.W.mg_none_of X G z_isinstance, z_bool := PySem.W.mg_none_of X G z_bool, z_list := PySem.W.mg_none_of X G z_list, z_abs := PySem.W.mg_none_of X G z_abs, z_gcd := PySem.W.mg_of X G r_gcd }
  exact ⟨_, fun s v => .of_eq rfl, fun base _ _ => ok_law T⟩
end K19
open PySem PySem.W PyProof.Rows
set_option maxRecDepth 100000 in
set_option maxHeartbeats 0 in
theorem PySem.Challenge.cw_toldridges_k19_balance_or_weights_holds : PySem.Challenge.rw_toldridges_k19_balance_or_weights.Holds := by
  w_on; o_law; k_head; (case hw => w_witness2)
  k_fill
  refine L2.walk_of (l := PySem.Challenge.rw_toldridges_k19_balance_or_weights) (n := 63) (k := 20) (x := "_law_script") (CX := fun _ => L2.CX0) (sp := fun w => K19.sp_law _) rfl (by decide) rfl ⟨rfl, by decide, by decide⟩ (fun w h Y => PySem.W.kIn_of Y) ?F (fun _ _ a ns hl _ hS => ⟨a, ns, rfl, hS, hl, fun _ => rfl⟩) (fun _ _ _ _ _ h => h)
  case F =>
    intro w mg fa h KX G hmg
    refine' K19.all_mk KX G hmg ?aC_PlanError ?a_reduced ?l_reduced ?co_reduced ?k_reduced ?a_first_table ?l_first_table ?co_first_table ?k_first_table ?a_entering ?l_entering ?co_entering ?k_entering ?a_is_tighter ?l_is_tighter ?co_is_tighter ?k_is_tighter ?a_leaving ?l_leaving ?co_leaving ?k_leaving ?a_pivoted ?l_pivoted ?co_pivoted ?k_pivoted ?a_combine ?l_combine ?co_combine ?k_combine ?a_signed_columns ?l_signed_columns ?co_signed_columns ?k_signed_columns ?a_solve ?l_solve ?co_solve ?k_solve ?a_balance ?l_balance ?co_balance ?k_balance ?a_law_take ?l_law_take ?co_law_take ?k_law_take ?a_law_whole ?l_law_whole ?co_law_whole ?k_law_whole ?a_law_dot ?l_law_dot ?co_law_dot ?k_law_dot ?a_law_list_of ?l_law_list_of ?co_law_list_of ?k_law_list_of ?a_law_kinds ?l_law_kinds ?co_law_kinds ?k_law_kinds ?a_law_rows ?l_law_rows ?co_law_rows ?k_law_rows ?a_law_solved_rows ?l_law_solved_rows ?co_law_solved_rows ?k_law_solved_rows ?a_law_barred_rows ?l_law_barred_rows ?co_law_barred_rows ?k_law_barred_rows ?a_law_drawn_task ?l_law_drawn_task ?co_law_drawn_task ?k_law_drawn_task ?a_law_sign_right ?l_law_sign_right ?co_law_sign_right ?k_law_sign_right ?a_law_numbers_right ?l_law_numbers_right ?co_law_numbers_right ?k_law_numbers_right ?a_law_totals ?l_law_totals ?co_law_totals ?k_law_totals ?a_law_weights_right ?l_law_weights_right ?co_law_weights_right ?k_law_weights_right ?a_law_right ?l_law_right ?co_law_right ?k_law_right ?a_law_pool ?l_law_pool ?co_law_pool ?k_law_pool ?a_law ?l_law ?co_law ?k_law ?aC_NoCombination ?xL_NoCombination ?xrb_NoCombination ?xsa_NoCombination ?xga_NoCombination ?xgg_NoCombination ?xnb_NoCombination ?xiC_NoCombination ?xtC_NoCombination ?xkC_NoCombination ?xex_NoCombination ?xty_NoCombination ?xhd_NoCombination ?xic_NoCombination ?xss_NoCombination ?xlf_NoCombination ?xco_NoCombination ?xcl_NoCombination ?xkl_NoCombination ?xkf_NoCombination ?xfi_NoCombination ?xtp_NoCombination ?xsu_NoCombination ?xal_NoCombination ?xve_NoCombination ?xmc_NoCombination ?xop_NoCombination ?xea_NoCombination ?xem_NoCombination ?aC_NoBalance ?xL_NoBalance ?xrb_NoBalance ?xsa_NoBalance ?xga_NoBalance ?xgg_NoBalance ?xnb_NoBalance ?xiC_NoBalance ?xtC_NoBalance ?xkC_NoBalance ?xex_NoBalance ?xty_NoBalance ?xhd_NoBalance ?xic_NoBalance ?xss_NoBalance ?xlf_NoBalance ?xco_NoBalance ?xcl_NoBalance ?xkl_NoBalance ?xkf_NoBalance ?xfi_NoBalance ?xtp_NoBalance ?xsu_NoBalance ?xal_NoBalance ?xve_NoBalance ?xmc_NoBalance ?xop_NoBalance ?xea_NoBalance ?xem_NoBalance ?aT_SIGNED ?lT_SIGNED ?kt_NoBalance_PlanError ?ign ?igt ?z_max ?z_enumerate ?z_int ?z_sum ?z_range ?z_len ?z_zip ?z_isinstance ?z_bool ?z_list ?z_abs ?r_gcd
    (case aC_PlanError => k_is)
    (case a_reduced => k_is)
    (case l_reduced => k_is)
    (case co_reduced => k_is)
    (case k_reduced => k_is)
    (case a_first_table => k_is)
    (case l_first_table => k_is)
    (case co_first_table => k_is)
    (case k_first_table => k_is)
    (case a_entering => k_is)
    (case l_entering => k_is)
    (case co_entering => k_is)
    (case k_entering => k_is)
    (case a_is_tighter => k_is)
    (case l_is_tighter => k_is)
    (case co_is_tighter => k_is)
    (case k_is_tighter => k_is)
    (case a_leaving => k_is)
    (case l_leaving => k_is)
    (case co_leaving => k_is)
    (case k_leaving => k_is)
    (case a_pivoted => k_is)
    (case l_pivoted => k_is)
    (case co_pivoted => k_is)
    (case k_pivoted => k_is)
    (case a_combine => k_is)
    (case l_combine => k_is)
    (case co_combine => k_is)
    (case k_combine => k_is)
    (case a_signed_columns => k_is)
    (case l_signed_columns => k_is)
    (case co_signed_columns => k_is)
    (case k_signed_columns => k_is)
    (case a_solve => k_is)
    (case l_solve => k_is)
    (case co_solve => k_is)
    (case k_solve => k_is)
    (case a_balance => k_is)
    (case l_balance => k_is)
    (case co_balance => k_is)
    (case k_balance => k_is)
    (case a_law_take => k_is)
    (case l_law_take => k_is)
    (case co_law_take => k_is)
    (case k_law_take => k_is)
    (case a_law_whole => k_is)
    (case l_law_whole => k_is)
    (case co_law_whole => k_is)
    (case k_law_whole => k_is)
    (case a_law_dot => k_is)
    (case l_law_dot => k_is)
    (case co_law_dot => k_is)
    (case k_law_dot => k_is)
    (case a_law_list_of => k_is)
    (case l_law_list_of => k_is)
    (case co_law_list_of => k_is)
    (case k_law_list_of => k_is)
    (case a_law_kinds => k_is)
    (case l_law_kinds => k_is)
    (case co_law_kinds => k_is)
    (case k_law_kinds => k_is)
    (case a_law_rows => k_is)
    (case l_law_rows => k_is)
    (case co_law_rows => k_is)
    (case k_law_rows => k_is)
    (case a_law_solved_rows => k_is)
    (case l_law_solved_rows => k_is)
    (case co_law_solved_rows => k_is)
    (case k_law_solved_rows => k_is)
    (case a_law_barred_rows => k_is)
    (case l_law_barred_rows => k_is)
    (case co_law_barred_rows => k_is)
    (case k_law_barred_rows => k_is)
    (case a_law_drawn_task => k_is)
    (case l_law_drawn_task => k_is)
    (case co_law_drawn_task => k_is)
    (case k_law_drawn_task => k_is)
    (case a_law_sign_right => k_is)
    (case l_law_sign_right => k_is)
    (case co_law_sign_right => k_is)
    (case k_law_sign_right => k_is)
    (case a_law_numbers_right => k_is)
    (case l_law_numbers_right => k_is)
    (case co_law_numbers_right => k_is)
    (case k_law_numbers_right => k_is)
    (case a_law_totals => k_is)
    (case l_law_totals => k_is)
    (case co_law_totals => k_is)
    (case k_law_totals => k_is)
    (case a_law_weights_right => k_is)
    (case l_law_weights_right => k_is)
    (case co_law_weights_right => k_is)
    (case k_law_weights_right => k_is)
    (case a_law_right => k_is)
    (case l_law_right => k_is)
    (case co_law_right => k_is)
    (case k_law_right => k_is)
    (case a_law_pool => k_is)
    (case l_law_pool => k_is)
    (case co_law_pool => k_is)
    (case k_law_pool => k_is)
    (case a_law => k_is)
    (case l_law => k_is)
    (case co_law => k_is)
    (case k_law => k_is)
    (case aC_NoCombination => k_is)
    (case xL_NoCombination => k_is)
    (case xrb_NoCombination => rfl)
    (case xsa_NoCombination => k_is)
    (case xga_NoCombination => k_is)
    (case xgg_NoCombination => k_is)
    (case xnb_NoCombination => k_is)
    (case xiC_NoCombination => k_is)
    (case xtC_NoCombination => k_is)
    (case xkC_NoCombination => k_is)
    (case xex_NoCombination => k_is)
    (case xty_NoCombination => k_is)
    (case xhd_NoCombination => k_is)
    (case xic_NoCombination => k_is)
    (case xss_NoCombination => first | rfl | k_is)
    (case xlf_NoCombination => k_is)
    (case xco_NoCombination => k_is)
    (case xcl_NoCombination => k_is)
    (case xkl_NoCombination => k_is)
    (case xkf_NoCombination => rfl)
    (case xfi_NoCombination => decide +kernel)
    (case xtp_NoCombination => decide +kernel)
    (case xsu_NoCombination => k_is)
    (case xal_NoCombination => ks_is)
    (case xve_NoCombination => k_is)
    (case xmc_NoCombination => k_is)
    (case xop_NoCombination => k_is)
    (case xea_NoCombination => k_is)
    (case xem_NoCombination => k_is)
    (case aC_NoBalance => k_is)
    (case xL_NoBalance => k_is)
    (case xrb_NoBalance => rfl)
    (case xsa_NoBalance => k_is)
    (case xga_NoBalance => k_is)
    (case xgg_NoBalance => k_is)
    (case xnb_NoBalance => k_is)
    (case xiC_NoBalance => k_is)
    (case xtC_NoBalance => k_is)
    (case xkC_NoBalance => k_is)
    (case xex_NoBalance => k_is)
    (case xty_NoBalance => k_is)
    (case xhd_NoBalance => k_is)
    (case xic_NoBalance => k_is)
    (case xss_NoBalance => first | rfl | k_is)
    (case xlf_NoBalance => k_is)
    (case xco_NoBalance => k_is)
    (case xcl_NoBalance => k_is)
    (case xkl_NoBalance => k_is)
    (case xkf_NoBalance => rfl)
    (case xfi_NoBalance => decide +kernel)
    (case xtp_NoBalance => decide +kernel)
    (case xsu_NoBalance => k_is)
    (case xal_NoBalance => ks_is)
    (case xve_NoBalance => k_is)
    (case xmc_NoBalance => k_is)
    (case xop_NoBalance => k_is)
    (case xea_NoBalance => k_is)
    (case xem_NoBalance => k_is)
    (case aT_SIGNED => k_is)
    (case lT_SIGNED => k_is)
    (case kt_NoBalance_PlanError => kit_is)
    (case ign => k_is)
    (case igt => k_is)
    (case z_max => k_is)
    (case z_enumerate => k_is)
    (case z_int => k_is)
    (case z_sum => k_is)
    (case z_range => k_is)
    (case z_len => k_is)
    (case z_zip => k_is)
    (case z_isinstance => k_is)
    (case z_bool => k_is)
    (case z_list => k_is)
    (case z_abs => k_is)
    (case r_gcd => k_is)
#print axioms PySem.Challenge.cw_toldridges_k19_balance_or_weights_holds
