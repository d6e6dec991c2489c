import PyProof.Rows.All
import Wide.All
import OpenK.AllK
import Wide.FinOn
import HandS.ForMost
import HandS.Steps
import HandS.IsInst
import HandS.Wide
import HandS.Flow
import PySem.Challenge.RW_toldridges_k04_arrow_operations
set_option Elab.async false
set_option linter.all false
set_option maxRecDepth 100000
set_option maxHeartbeats 4000000
/-! TrBase: the world G (what never changes), the owned objects M, the heap H; typed values. -/
namespace Tr
open PySem PySem.Spec PyProof.Rows L2

/-! ### worlds -/
def Sub (G H : Hp) : Prop := ∀ a o, G a = some o → H a = some o
theorem Sub.refl (H : Hp) : Sub H H := fun _ _ h => h
theorem Sub.trans {G H I : Hp} (a : Sub G H) (b : Sub H I) : Sub G I := fun x o h => b x o (a x o h)
theorem Sub.new {H : Hp} {p : Addr} {o : HO} (h : H p = none) : Sub H (upd H p o) := fun a u e => by
  rw [upd_ne (ne_of_none e h)]
  exact e
theorem Sub.seq {K : PySem.W.Frag} {G H : Hp} {a : Addr} {xs : List V} (e : Sub G H) (h : SqL K G a xs) : SqL K H a xs := by
  rcases h with (h | ⟨o, h⟩) | h
  · exact .inl (.inl (e _ _ h))
  · exact .inl (.inr ⟨o, e _ _ h⟩)
  · exact .inr h
abbrev Mu := List (Addr × HO)
/-- G never changes, M is owned, H is the heap -/
structure At (G : Hp) (M : Mu) (H : Hp) : Prop where
  sub : Sub G H
  own : ∀ q ∈ M, H q.1 = some q.2 ∧ G q.1 = none
  nd : (M.map (·.1)).Nodup
section
variable {G H : Hp} {M : Mu} {p q : Addr} {o u : HO}
theorem At.hd (A : At G ((p, o) :: M) H) : H p = some o := (A.own (p, o) (List.mem_cons_self)).1
theorem At.gn (A : At G ((p, o) :: M) H) : G p = none := (A.own (p, o) (List.mem_cons_self)).2
theorem At.tl (A : At G ((p, o) :: M) H) : At G M H := ⟨A.sub, fun q h => A.own q (List.mem_cons_of_mem _ h), (List.nodup_cons.mp A.nd).2⟩
theorem At.nm (A : At G ((p, o) :: M) H) : ∀ q ∈ M, q.1 ≠ p := fun q h e => (List.nodup_cons.mp A.nd).1 (by
  have h1 := List.mem_map_of_mem (f := fun q : Addr × HO => q.1) h
  rw [show q.1 = p from e] at h1
  exact h1)
theorem At.fresh (A : At G M H) (h : H p = none) : G p = none := by
  cases e : G p with
  | none => rfl
  | some x => rw [A.sub p x e] at h; cases h
theorem At.new (A : At G M H) (h : H p = none) : At G ((p, o) :: M) (upd H p o) := by
  refine ⟨A.sub.trans (Sub.new h), fun q hq => ?_, ?_⟩
  · rcases List.mem_cons.mp hq with rfl | hq
    · exact ⟨upd_same, A.fresh h⟩
    · obtain ⟨h1, h2⟩ := A.own q hq
      exact ⟨by rw [upd_ne (ne_of_none h1 h)]; exact h1, h2⟩
  · rw [List.map_cons, List.nodup_cons]
    refine ⟨fun hm => ?_, A.nd⟩
    obtain ⟨q, hq, e⟩ := List.mem_map.mp hm
    have h1 := (A.own q hq).1
    rw [e, h] at h1; cases h1
theorem At.put (A : At G ((p, o) :: M) H) : At G ((p, u) :: M) (upd H p u) := by
  refine ⟨fun a x e => ?_, fun q hq => ?_, A.nd⟩
  · have n : a ≠ p := fun z => by rw [z, A.gn] at e; cases e
    rw [upd_ne n]; exact A.sub a x e
  · rcases List.mem_cons.mp hq with rfl | hq
    · exact ⟨upd_same, A.gn⟩
    · obtain ⟨h1, h2⟩ := A.own q (List.mem_cons_of_mem _ hq)
      exact ⟨by rw [upd_ne (A.nm q hq)]; exact h1, h2⟩
/-- an owned object is given to the world -/
theorem At.frz (A : At G ((p, o) :: M) H) : At (upd G p o) M H := by
  refine ⟨fun a x e => ?_, fun q hq => ?_, (List.nodup_cons.mp A.nd).2⟩
  · by_cases z : a = p
    · subst z; rw [upd_same] at e; cases e; exact A.hd
    · rw [upd_ne z] at e; exact A.sub a x e
  · obtain ⟨h1, h2⟩ := A.own q (List.mem_cons_of_mem _ hq)
    exact ⟨h1, by rw [upd_ne (A.nm q hq)]; exact h2⟩
theorem At.frzS (A : At G ((p, o) :: M) H) : Sub G (upd G p o) := Sub.new A.gn
/-- a new object goes into the world at once -/
theorem At.newG (A : At G M H) (h : H p = none) : At (upd G p o) M (upd H p o) := (A.new (o := o) h).frz
theorem At.newS (A : At G M H) (h : H p = none) : Sub G (upd G p o) := Sub.new (A.fresh h)
theorem At.swap {a b : Addr × HO} (A : At G (a :: b :: M) H) : At G (b :: a :: M) H := by
  refine ⟨A.sub, fun q hq => A.own q ?_, ?_⟩
  · rcases List.mem_cons.mp hq with h | hq
    · exact h ▸ List.mem_cons_of_mem _ List.mem_cons_self
    · rcases List.mem_cons.mp hq with h | hq
      · exact h ▸ List.mem_cons_self
      · exact List.mem_cons_of_mem _ (List.mem_cons_of_mem _ hq)
  · have := A.nd
    simp only [List.map_cons, List.nodup_cons, List.mem_cons, not_or] at this ⊢
    exact ⟨⟨fun e => this.1.1 e.symm, this.2.1⟩, this.1.2, this.2.2⟩
theorem At.rot {a b c : Addr × HO} (A : At G (a :: b :: c :: M) H) : At G (c :: a :: b :: M) H := by
  refine ⟨A.sub, fun q hq => A.own q ?_, ?_⟩
  · simp only [List.mem_cons] at hq ⊢
    rcases hq with h | h | h | h
    · exact .inr (.inr (.inl h))
    · exact .inl h
    · exact .inr (.inl h)
    · exact .inr (.inr (.inr h))
  · have := A.nd
    simp only [List.map_cons, List.nodup_cons, List.mem_cons, not_or] at this ⊢
    exact ⟨⟨fun e => this.1.2.1 e.symm, fun e => this.2.1.1 e.symm, this.2.2.1⟩, ⟨this.1.1, this.1.2.2⟩, this.2.1.2, this.2.2.2⟩
/-- the world alone -/
theorem At.nil (A : At G M H) : At G [] H := ⟨A.sub, fun q h => (nomatch h), List.nodup_nil⟩
theorem At.self (H : Hp) : At H [] H := ⟨Sub.refl H, fun q h => (nomatch h), List.nodup_nil⟩
end

/-! ### typed values -/
class Enc (α : Type) where
  den : Hp → V → α → Prop
  mono : ∀ {G H : Hp} {v : V} {x : α}, Sub G H → den G v x → den H v x
open Enc (den)
instance : Enc Int := ⟨fun _ v x => v = .int x, fun _ h => h⟩
instance : Enc Bool := ⟨fun _ v x => v = .bl x, fun _ h => h⟩
instance : Enc Str := ⟨fun _ v x => v = .str x, fun _ h => h⟩
instance : Enc Unit := ⟨fun _ v _ => v = .non, fun _ h => h⟩
end Tr
set_option Elab.async false
set_option linter.all false
set_option maxRecDepth 100000
set_option maxHeartbeats 4000000
/-! TrOps: operators, comparisons and unary operators that an own class defines, as rules of the hand layer. -/
namespace Tr
open PySem PySem.Spec PyProof.Rows L2
section
variable {X : Cx} {CX : CXT} {k : Nat} {C f : Addr} {fd : FuncData} {ps : List Str} {sp : Sp} {E : XK}

theorem inst_of {pins : List (Addr × Obj)} {σ : L2.St} {H : Hp} {s : Shared} {a C dx : Addr} {fs : List (Str × V)} (I : Inv X pins σ H s) (e : H a = some (.ins C dx fs)) : ∃ ox od, PySem.W.InstAt s.heap a ox C od := by
  obtain ⟨mA, O, _⟩ := ins_get I.hok e
  obtain ⟨od, J, _⟩ := O.look
  exact ⟨_, _, J⟩
theorem back_of {pins : List (Addr × Obj)} {σ : L2.St} {Q : VK} {r : Value} {s' : Shared} (h : EP X pins σ Q r s') : PySem.W.CmpBack (EP X pins σ Q) r s' := by
  obtain ⟨v, H', I', rv, q'⟩ := h
  cases r with
  | notImplemented =>
    exfalso
    cases v <;> first | (obtain ⟨_, e⟩ := rv; cases e) | cases rv
  | _ => exact ⟨v, H', I', rv, q'⟩
/-- a, b instances of one class -/
def rOwn (C : Addr) (sp : Sp) (E : XK) : R2 := fun x y H Q => ∃ a dx fs b dy gs, x = .ref a ∧ y = .ref b ∧ H a = some (.ins C dx fs) ∧ H b = some (.ins C dy gs) ∧ sp [x, y] H Q E
theorem op_own {op : Operator} (F : FnOk X.prog X.w X.K X.mg X.base CX k f fd ps sp) (hr : Room k X.A) (hb : Binds X.K fd ps []) (hx : Passes CX X E) (hc : PySem.W.selfFirst X.K C = true) (m : Meth X.K C (PySem.dunder op.info.2) f) :
    OpR X (binaryOp op) (rOwn C sp E) := by
  intro pins s σ H x y v u Q I rx ry h
  obtain ⟨a, dx, fs, b, dy, gs, rfl, rfl, ha, hb', q⟩ := h
  cases (show v = Value.ref a from rx)
  cases (show u = Value.ref b from ry)
  obtain ⟨ox, od, J⟩ := inst_of I ha
  obtain ⟨ox2, od2, J2⟩ := inst_of I hb'
  obtain ⟨mm, Fm⟩ := I.fr
  refine PySem.W.binop_K Fm I.mod.kin J J2.type hc m.at_ m.fn ?_
  exact thn (run_fn (us := [.ref a, .ref b]) (vs := [.ref a, .ref b]) F hr hb .nil hx I (.cons rfl (.cons rfl .nil)) q) fun r s' hq => back_of hq
/-- what of the text an operator of an own class with an int on the other side must have -/
structure OwnT (K : PySem.W.Frag) (C : Addr) (nm : String) : Prop where
  sf : PySem.W.selfFirst K C = true
  ru : ∃ rc, PySem.W.findIn K (.ref C) (PySem.dunderR nm) = some rc ∧ (rc = none ∨ ∃ g : Addr, rc = some (.ref g))
  i1 : ∃ fo, PySem.W.findIn K (.type "int") (PySem.dunder nm) = some fo
  i2 : ∃ ro, PySem.W.findIn K (.type "int") (PySem.dunderR nm) = some ro
  su : PySem.W.subIn K (.type "int") (.ref C) = some false
def rOwnI (C : Addr) (sp : Sp) (E : XK) : R2 := fun x y H Q => ∃ a dx fs j, x = .ref a ∧ y = .int j ∧ H a = some (.ins C dx fs) ∧ sp [x, y] H Q E
theorem op_ownI {op : Operator} (F : FnOk X.prog X.w X.K X.mg X.base CX k f fd ps sp) (hr : Room k X.A) (hb : Binds X.K fd ps []) (hx : Passes CX X E) (t : OwnT X.K C op.info.2) (m : Meth X.K C (PySem.dunder op.info.2) f) :
    OpR X (binaryOp op) (rOwnI C sp E) := by
  intro pins s σ H x y v u Q I rx ry h
  obtain ⟨a, dx, fs, j, rfl, rfl, ha, q⟩ := h
  cases (show v = Value.ref a from rx)
  obtain ⟨tk, rfl⟩ := (show ∃ t, u = Value.int j t from ry)
  obtain ⟨ox, od, J⟩ := inst_of I ha
  obtain ⟨mm, Fm⟩ := I.fr
  obtain ⟨rc, r1, r2⟩ := t.ru
  obtain ⟨fo, f1⟩ := t.i1
  obtain ⟨ro, o1⟩ := t.i2
  refine PySem.W.ksp_binT (T := "int") Fm I.mod.kin J rfl t.sf m.at_ m.fn r1 r2 f1 o1 t.su ?_
  exact thn (run_fn (us := [.ref a, .int j tk]) (vs := [.ref a, .int j]) F hr hb .nil hx I (.cons rfl (.cons ⟨tk, rfl⟩ .nil)) q) fun r s' hq => back_of hq
/-- -a, ~a -/
def rOwnU (C : Addr) (sp : Sp) (E : XK) : V → Hp → VK → Prop := fun x H Q => ∃ a dx fs, x = .ref a ∧ H a = some (.ins C dx fs) ∧ sp [x] H Q E
theorem un_ownNeg (F : FnOk X.prog X.w X.K X.mg X.base CX k f fd ps sp) (hr : Room k X.A) (hb : Binds X.K fd ps []) (hx : Passes CX X E) (m : Meth X.K C "__neg__" f) : UnR X (unaryOp .USub) (rOwnU C sp E) := by
  intro pins s σ H x v Q I rx h
  obtain ⟨a, dx, fs, rfl, ha, q⟩ := h
  cases (show v = Value.ref a from rx)
  obtain ⟨ox, od, J⟩ := inst_of I ha
  obtain ⟨mm, Fm⟩ := I.fr
  refine PySem.W.ksp_neg Fm I.mod.kin J m.at_ m.fn ?_
  exact run_fn (us := [.ref a]) (vs := [.ref a]) F hr hb .nil hx I (.cons rfl .nil) q
theorem un_ownInv (F : FnOk X.prog X.w X.K X.mg X.base CX k f fd ps sp) (hr : Room k X.A) (hb : Binds X.K fd ps []) (hx : Passes CX X E) (m : Meth X.K C "__invert__" f) : UnR X (unaryOp .Invert) (rOwnU C sp E) := by
  intro pins s σ H x v Q I rx h
  obtain ⟨a, dx, fs, rfl, ha, q⟩ := h
  cases (show v = Value.ref a from rx)
  obtain ⟨ox, od, J⟩ := inst_of I ha
  obtain ⟨mm, Fm⟩ := I.fr
  refine PySem.W.ksp_inv Fm I.mod.kin J m.at_ m.fn ?_
  exact run_fn (us := [.ref a]) (vs := [.ref a]) F hr hb .nil hx I (.cons rfl .nil) q
/-- a == b, a < b .. of two instances of one class -/
theorem op_cmpOwn {op : CmpOp} (hop : ∀ v u : Value, compareOp op v u = richCompare op v u) (F : FnOk X.prog X.w X.K X.mg X.base CX k f fd ps sp) (hr : Room k X.A) (hb : Binds X.K fd ps []) (hx : Passes CX X E)
    (hn : PySem.W.notFirst X.K C (.ref C) = true) (m : Meth X.K C (cmpInfo op).2.1 f) :
    OpR X (compareOp op) (rOwn C sp E) := by
  intro pins s σ H x y v u Q I rx ry h
  obtain ⟨a, dx, fs, b, dy, gs, rfl, rfl, ha, hb', q⟩ := h
  cases (show v = Value.ref a from rx)
  cases (show u = Value.ref b from ry)
  obtain ⟨ox, od, J⟩ := inst_of I ha
  obtain ⟨ox2, od2, J2⟩ := inst_of I hb'
  obtain ⟨mm, Fm⟩ := I.fr
  rw [hop]
  refine PySem.W.cmp_K hr.units0 Fm I.mod.kin J J2.type hn m.at_ m.fn ?_
  exact thn (run_fn (us := [.ref a, .ref b]) (vs := [.ref a, .ref b]) F hr hb .nil hx I (.cons rfl (.cons rfl .nil)) q) fun r s' hq => back_of hq
theorem op_cmpOwnI {op : CmpOp} (hop : ∀ v u : Value, compareOp op v u = richCompare op v u) (F : FnOk X.prog X.w X.K X.mg X.base CX k f fd ps sp) (hr : Room k X.A) (hb : Binds X.K fd ps []) (hx : Passes CX X E)
    (hn : PySem.W.notFirst X.K C (.type "int") = true) (m : Meth X.K C (cmpInfo op).2.1 f) :
    OpR X (compareOp op) (rOwnI C sp E) := by
  intro pins s σ H x y v u Q I rx ry h
  obtain ⟨a, dx, fs, j, rfl, rfl, ha, q⟩ := h
  cases (show v = Value.ref a from rx)
  obtain ⟨tk, rfl⟩ := (show ∃ t, u = Value.int j t from ry)
  obtain ⟨ox, od, J⟩ := inst_of I ha
  obtain ⟨mm, Fm⟩ := I.fr
  rw [hop]
  refine PySem.W.cmp_K (tb := .type "int") hr.units0 Fm I.mod.kin J (PySem.W.Looks.of_pure rfl) hn m.at_ m.fn ?_
  exact thn (run_fn (us := [.ref a, .int j tk]) (vs := [.ref a, .int j]) F hr hb .nil hx I (.cons rfl (.cons ⟨tk, rfl⟩ .nil)) q) fun r s' hq => back_of hq
theorem hop_eq (v u : Value) : compareOp .Eq v u = richCompare .Eq v u := rfl
theorem hop_lt (v u : Value) : compareOp .Lt v u = richCompare .Lt v u := rfl
theorem hop_le (v u : Value) : compareOp .LtE v u = richCompare .LtE v u := rfl
end
end Tr
set_option Elab.async false
set_option linter.all false
set_option maxRecDepth 100000
set_option maxHeartbeats 4000000
/-! TrOpsR: an int on the left, an instance of an own class on the right: the class's reflected method. -/
namespace Tr
open PySem PySem.Spec PyProof.Rows L2
theorem int_add_inst (i : Int) (t : Tok) (x C dx : Addr) :
    Meets (Builtin.«int.__add__» ⟨[.int i t, .ref x], []⟩) (fun _ R s => s.heap.get? x = some (PySem.W.instObj C dx) ∧ R (.ok (.ret Value.notImplemented)) s) :=
  .of_wp fun prog w A R s h => by obtain ⟨hp, g, d, tk, os⟩ := s; obtain ⟨hl, h⟩ := h; wp_walk; exact ⟨_, rfl, h⟩
theorem int_sub_inst (i : Int) (t : Tok) (x C dx : Addr) :
    Meets (Builtin.«int.__sub__» ⟨[.int i t, .ref x], []⟩) (fun _ R s => s.heap.get? x = some (PySem.W.instObj C dx) ∧ R (.ok (.ret Value.notImplemented)) s) :=
  .of_wp fun prog w A R s h => by obtain ⟨hp, g, d, tk, os⟩ := s; obtain ⟨hl, h⟩ := h; wp_walk; exact ⟨_, rfl, h⟩
theorem int_mul_inst (i : Int) (t : Tok) (x C dx : Addr) :
    Meets (Builtin.«int.__mul__» ⟨[.int i t, .ref x], []⟩) (fun _ R s => s.heap.get? x = some (PySem.W.instObj C dx) ∧ R (.ok (.ret Value.notImplemented)) s) :=
  .of_wp fun prog w A R s h => by obtain ⟨hp, g, d, tk, os⟩ := s; obtain ⟨hl, h⟩ := h; wp_walk; exact ⟨_, rfl, h⟩
section
variable {prog : Program} {w : World} {A : Around} {E : Value → Shared → Prop} {s : Shared} {K : PySem.W.Frag} {x C L f f0 : Addr} {h₀ : Heap} {m : Str → Option Value} {ox : Obj} {od : Option Obj}
open PySem.W in
theorem bin_refl {op : Operator} {i : Int} {t : Tok} {Q : Value → Shared → Prop} (F : Fr h₀ L s.heap m) (X₀ : K.In h₀) (I : PySem.W.InstAt s.heap x ox C od) (hc : PySem.W.selfFirst K C = true)
    (h0 : PySem.W.findIn K (.ref C) (PySem.dunder op.info.2) = some (some (.ref f0)))
    (hs : PySem.W.findIn K (.ref C) (PySem.dunderR op.info.2) = some (some (.ref f))) (hf : PySem.W.isFn K (.ref f) = true)
    {fo ro : Option Value} (h1 : PySem.W.findIn K (.type "int") (PySem.dunder op.info.2) = some fo) (h2 : PySem.W.findIn K (.type "int") (PySem.dunderR op.info.2) = some ro)
    (hlf : ((fo.isSome && !isSeqSlot fo) || (ro.isSome && !isSeqSlot ro)) = true)
    (hsub : PySem.W.subIn K (.ref C) (.type "int") = some false)
    (hd : ∀ {Q' : Option Value → Shared → Prop}, Q' none s → wpAny (model prog w) A (tryMethod (.int i t) (PySem.dunder op.info.2) (.ref x)) Q' E s)
    (h : wpAny (model prog w) A (call (.ref f) [.ref x, .int i t]) (PySem.W.CmpBack Q) E s) : wpAny (model prog w) A (binaryOp op (.int i t) (.ref x)) Q E s := by
  have X := X₀.keeps F.keep
  obtain ⟨cd, rest, hcd, hm⟩ := PySem.W.ksp_first hc
  rcases hi : op.info with ⟨sym, nm'⟩
  rw [hi] at hs h0 h1 h2 hd
  dsimp only at hs h0 h1 h2 hd
  have one := PySem.W.ksp_try X I hs hf h
  have decl := @hd
  clear hd h
  have L1 : PySem.W.Looks (model prog w) s.heap (typeOf (.int i t)) (.type "int") := PySem.W.Looks.of_pure rfl
  have L2 : PySem.W.Looks (model prog w) s.heap (typeOf (.ref x)) (.ref C) := I.type
  have L3 : PySem.W.Looks (model prog w) s.heap (fillsNumberSlot (.type "int") nm') true := hlf ▸ PySem.W.ksp_fillsT X h1 h2
  have L4 : PySem.W.Looks (model prog w) s.heap (fillsNumberSlot (.ref C) nm') true := PySem.W.fills_K X hcd hm h0
  have L5 : PySem.W.Looks (model prog w) s.heap (isSubtype (.ref C) (.type "int")) false := PySem.W.looks_subIn X hsub
  have hne : (Value.type "int" == Value.ref C) = false := Bool.eq_false_iff.mpr fun q => by cases beq_iff_eq.mp q
  simp only [binaryOp, hi]
  refine wpAny_holding (wpAny_bind ?_)
  unfold binaryOp1
  refine wpAny_bind (L1.here (wpAny_bind (L2.here (wpAny_bind (L3.here ?_)))))
  simp only [hne, Bool.false_eq_true, if_false]
  refine wpAny_bind (L4.here ?_)
  simp only [Bool.and_self, if_true]
  refine wpAny_bind (L5.here ?_)
  have hpy : numberSlotInPython (.type "int") nm' = pure false := rfl
  simp only [Bool.false_eq_true, if_false, pure_bind, Bool.not_false, Bool.and_self, if_true, hpy]
  refine wpAny_bind (decl ?_)
  dsimp only
  refine wpAny_bind (wpAny_mono one (fun r s' hr' => ?_) fun _ _ e => e)
  obtain ⟨v, rfl, hq⟩ := hr'
  dsimp only
  exact wpAny_bind (wpAny_rule (wpAny_pure (wpAny_pure hq)))
end
end Tr
namespace Tr
open PySem PySem.Spec PyProof.Rows L2
/-- what of the text a reflected operator must have -/
structure OwnR (K : PySem.W.Frag) (C : Addr) (nm : String) : Prop where
  sf : PySem.W.selfFirst K C = true
  fw : ∃ f0 : Addr, PySem.W.findIn K (.ref C) (PySem.dunder nm) = some (some (.ref f0))
  ii : ∃ fo ro, PySem.W.findIn K (.type "int") (PySem.dunder nm) = some fo ∧ PySem.W.findIn K (.type "int") (PySem.dunderR nm) = some ro ∧ ((fo.isSome && !isSeqSlot fo) || (ro.isSome && !isSeqSlot ro)) = true
  su : PySem.W.subIn K (.ref C) (.type "int") = some false
section
variable {X : Cx} {CX : CXT} {k : Nat} {C f : Addr} {fd : FuncData} {ps : List Str} {sp : Sp} {E : XK}
def rOwnR (C : Addr) (sp : Sp) (E : XK) : R2 := fun x y H Q => ∃ i b dx fs, x = .int i ∧ y = .ref b ∧ H b = some (.ins C dx fs) ∧ sp [y, x] H Q E
theorem op_ownR {op : Operator} (F : FnOk X.prog X.w X.K X.mg X.base CX k f fd ps sp) (hr : Room k X.A) (hb : Binds X.K fd ps []) (hx : Passes CX X E) (t : OwnR X.K C op.info.2) (m : Meth X.K C (PySem.dunderR op.info.2) f)
    (hd : ∀ (i : Int) (tk : Tok) (x C dx : Addr) (s : Shared) (Q' : Option Value → Shared → Prop), s.heap.get? x = some (PySem.W.instObj C dx) → Q' none s → wpAny (model X.prog X.w) X.A (tryMethod (.int i tk) (PySem.dunder op.info.2) (.ref x)) Q' X.xe s) :
    OpR X (binaryOp op) (rOwnR C sp E) := by
  intro pins s σ H x y v u Q I rx ry h
  obtain ⟨i, b, dx, fs, rfl, rfl, ha, q⟩ := h
  obtain ⟨tk, rfl⟩ := (show ∃ t, v = Value.int i t from rx)
  cases (show u = Value.ref b from ry)
  obtain ⟨ox, od, J⟩ := inst_of I ha
  obtain ⟨mA, O, _⟩ := ins_get I.hok ha
  obtain ⟨mm, Fm⟩ := I.fr
  obtain ⟨f0, w0⟩ := t.fw
  obtain ⟨fo, ro, h1, h2, h3⟩ := t.ii
  refine bin_refl Fm I.mod.kin J t.sf w0 m.at_ m.fn h1 h2 h3 t.su (fun {Q'} z => hd i tk b C dx s Q' O.1 z) ?_
  exact thn (run_fn (us := [.ref b, .int i tk]) (vs := [.ref b, .int i]) F hr hb .nil hx I (.cons rfl (.cons ⟨tk, rfl⟩ .nil)) q) fun r s' hq => back_of hq
theorem decl_mul (i : Int) (tk : Tok) (x C dx : Addr) (s : Shared) (Q' : Option Value → Shared → Prop) (h : s.heap.get? x = some (PySem.W.instObj C dx)) (q : Q' none s) : wpAny (model X.prog X.w) X.A (tryMethod (.int i tk) (PySem.dunder (Operator.Mult).info.2) (.ref x)) Q' X.xe s :=
  by
  refine wpAny_tryMethod_declines (T := "int") (name := dunder "mul") (id := "int.__mul__") (typeIs_int s i tk) PySem.F.slot_int_mul ?_
  exact call_meets (T := "int") (name := dunder "mul") (B := Builtin.«int.__mul__») PySem.F.slot_int_mul (typeIs_int s i tk) PySem.F.entry_int_mul (PySem.F.args_int_mul_2 _ _) (int_mul_inst i tk x C dx) ⟨h, rfl, q⟩
theorem decl_add (i : Int) (tk : Tok) (x C dx : Addr) (s : Shared) (Q' : Option Value → Shared → Prop) (h : s.heap.get? x = some (PySem.W.instObj C dx)) (q : Q' none s) : wpAny (model X.prog X.w) X.A (tryMethod (.int i tk) (PySem.dunder (Operator.Add).info.2) (.ref x)) Q' X.xe s :=
  by
  refine wpAny_tryMethod_declines (T := "int") (name := dunder "add") (id := "int.__add__") (typeIs_int s i tk) PySem.F.slot_int_add ?_
  exact call_meets (T := "int") (name := dunder "add") (B := Builtin.«int.__add__») PySem.F.slot_int_add (typeIs_int s i tk) PySem.F.entry_int_add (PySem.F.args_int_add_2 _ _) (int_add_inst i tk x C dx) ⟨h, rfl, q⟩
theorem decl_sub (i : Int) (tk : Tok) (x C dx : Addr) (s : Shared) (Q' : Option Value → Shared → Prop) (h : s.heap.get? x = some (PySem.W.instObj C dx)) (q : Q' none s) : wpAny (model X.prog X.w) X.A (tryMethod (.int i tk) (PySem.dunder (Operator.Sub).info.2) (.ref x)) Q' X.xe s :=
  by
  refine wpAny_tryMethod_declines (T := "int") (name := dunder "sub") (id := "int.__sub__") (typeIs_int s i tk) PySem.F.slot_int_sub ?_
  exact call_meets (T := "int") (name := dunder "sub") (B := Builtin.«int.__sub__») PySem.F.slot_int_sub (typeIs_int s i tk) PySem.F.entry_int_sub (PySem.F.args_int_sub_2 _ _) (int_sub_inst i tk x C dx) ⟨h, rfl, q⟩
end
end Tr
set_option Elab.async false
set_option linter.all false
set_option maxRecDepth 100000
set_option maxHeartbeats 4000000
/-! TrLaw: what the laws' own helpers need: the pool. -/
namespace Tr
open PySem PySem.Spec PyProof.Rows L2
/-- the numbers of a pool: few, and each below 4096 -/
structure PoolOk (ms : List Int) : Prop where
  len : ms.length ≤ 10000
  rng : ∀ n ∈ ms, 0 ≤ n ∧ n < 4096
theorem PoolOk.tail {ms : List Int} (h : PoolOk ms) : PoolOk ms.tail := by
  refine ⟨?_, fun n hn => h.rng n (List.mem_of_mem_tail hn)⟩
  have := h.len
  rw [List.length_tail]; omega
/-- the value that take gives -/
def tkv (ms : List Int) (m : Int) : Int := match ms with
  | [] => 0
  | n :: _ => n.fmod m
theorem tkv_rng {ms : List Int} {m : Int} (hm : 0 < m) : 0 ≤ tkv ms m ∧ tkv ms m < m := by
  cases ms with
  | nil => exact ⟨Int.le_refl 0, hm⟩
  | cons n r =>
    show 0 ≤ n.fmod m ∧ n.fmod m < m
    rw [Int.fmod_eq_emod_of_nonneg _ (by omega)]
    exact ⟨Int.emod_nonneg _ (by omega), Int.emod_lt_of_pos _ hm⟩
abbrev pool (ms : List Int) : HO := .lst (ms.map V.int)
/-- all but p stays -/
def Chg (p : Addr) (H H' : Hp) : Prop := ∀ a x, a ≠ p → H a = some x → H' a = some x
theorem Chg.trans {p : Addr} {G H I : Hp} (a : Chg p G H) (b : Chg p H I) : Chg p G I := fun x o n h => b x o n (a x o n h)
theorem Chg.of {p : Addr} {H I : Hp} (a : Sub H I) : Chg p H I := fun x o _ h => a x o h
theorem Chg.put {p : Addr} {H : Hp} {o : HO} : Chg p H (upd H p o) := fun x u n h => by rw [upd_ne n]; exact h
theorem Chg.new {p q : Addr} {H : Hp} {o : HO} (h : H q = none) : Chg p H (upd H q o) := Chg.of (Sub.new h)
section
variable {G H H' : Hp} {M : Mu} {p q : Addr} {o u : HO}
theorem At.chg (A : At G ((p, o) :: M) H) (c : Chg p H H') (h : H' p = some u) : At G ((p, u) :: M) H' := by
  refine ⟨fun a x e => ?_, fun q hq => ?_, A.nd⟩
  · have n : a ≠ p := fun z => by rw [z, A.gn] at e; cases e
    exact c a x n (A.sub a x e)
  · rcases List.mem_cons.mp hq with rfl | hq
    · exact ⟨h, A.gn⟩
    · obtain ⟨h1, h2⟩ := A.own q (List.mem_cons_of_mem _ hq)
      exact ⟨c _ _ (A.nm q hq) h1, h2⟩
theorem At.ext (A : At G M H) (c : Sub H H') : At G M H' := ⟨A.sub.trans c, fun q hq => ⟨c _ _ (A.own q hq).1, (A.own q hq).2⟩, A.nd⟩
theorem At.more (A : At G M H) (c : Sub H H') (n : H p = none) (h : H' p = some o) : At G ((p, o) :: M) H' := by
  refine ⟨A.sub.trans c, fun q hq => ?_, ?_⟩
  · rcases List.mem_cons.mp hq with rfl | hq
    · exact ⟨h, A.fresh n⟩
    · exact ⟨c _ _ (A.own q hq).1, (A.own q hq).2⟩
  · rw [List.map_cons, List.nodup_cons]
    refine ⟨fun hm => ?_, A.nd⟩
    obtain ⟨q, hq, e⟩ := List.mem_map.mp hm
    have h1 := (A.own q hq).1
    rw [e, n] at h1; cases h1
theorem At.h1 {a : Addr × HO} (A : At G (a :: (p, o) :: M) H) : H p = some o := A.tl.hd
theorem At.h2 {a b : Addr × HO} (A : At G (a :: b :: (p, o) :: M) H) : H p = some o := A.tl.tl.hd
theorem At.h3 {a b c : Addr × HO} (A : At G (a :: b :: c :: (p, o) :: M) H) : H p = some o := A.tl.tl.tl.hd
end
theorem cxK {CX : CXT} {P : Program} {w : World} {K : PySem.W.Frag} {mg : Str → Option Value} {base : Heap} {N : List Str} {qual : Str} {scope : Scope} {f : Addr} {cd : Value} {A : Around} {outer : List Env} {s : Shared} {H : Hp} {E : XK} :
    (cxOf CX P w K mg base N qual scope f cd A outer s H E).nox.K = K := rfl
theorem cxK2 {CX : CXT} {P : Program} {w : World} {K : PySem.W.Frag} {mg : Str → Option Value} {base : Heap} {N : List Str} {qual : Str} {scope : Scope} {f : Addr} {cd : Value} {A : Around} {outer : List Env} {s : Shared} {H : Hp} {E : XK} :
    (cxOf CX P w K mg base N qual scope f cd A outer s H E).K = K := rfl
/-! a name is stored: the slots written out again -/
section
variable {v : V} {σ : L2.St} {H : Hp} {nx : L2.St → Hp → Prop}
theorem gs0 {a0 : Option V} (h : nx (some v :: σ) H) : gName 0 v (a0 :: σ) H nx := h
theorem gs1 {a0 a1 : Option V} (h : nx (a0 :: some v :: σ) H) : gName 1 v (a0 :: a1 :: σ) H nx := h
theorem gs2 {a0 a1 a2 : Option V} (h : nx (a0 :: a1 :: some v :: σ) H) : gName 2 v (a0 :: a1 :: a2 :: σ) H nx := h
theorem gs3 {a0 a1 a2 a3 : Option V} (h : nx (a0 :: a1 :: a2 :: some v :: σ) H) : gName 3 v (a0 :: a1 :: a2 :: a3 :: σ) H nx := h
theorem gs4 {a0 a1 a2 a3 a4 : Option V} (h : nx (a0 :: a1 :: a2 :: a3 :: some v :: σ) H) : gName 4 v (a0 :: a1 :: a2 :: a3 :: a4 :: σ) H nx := h
theorem gs5 {a0 a1 a2 a3 a4 a5 : Option V} (h : nx (a0 :: a1 :: a2 :: a3 :: a4 :: some v :: σ) H) : gName 5 v (a0 :: a1 :: a2 :: a3 :: a4 :: a5 :: σ) H nx := h
theorem gs6 {a0 a1 a2 a3 a4 a5 a6 : Option V} (h : nx (a0 :: a1 :: a2 :: a3 :: a4 :: a5 :: some v :: σ) H) : gName 6 v (a0 :: a1 :: a2 :: a3 :: a4 :: a5 :: a6 :: σ) H nx := h
theorem gs7 {a0 a1 a2 a3 a4 a5 a6 a7 : Option V} (h : nx (a0 :: a1 :: a2 :: a3 :: a4 :: a5 :: a6 :: some v :: σ) H) : gName 7 v (a0 :: a1 :: a2 :: a3 :: a4 :: a5 :: a6 :: a7 :: σ) H nx := h
theorem gs8 {a0 a1 a2 a3 a4 a5 a6 a7 a8 : Option V} (h : nx (a0 :: a1 :: a2 :: a3 :: a4 :: a5 :: a6 :: a7 :: some v :: σ) H) : gName 8 v (a0 :: a1 :: a2 :: a3 :: a4 :: a5 :: a6 :: a7 :: a8 :: σ) H nx := h
theorem gs9 {a0 a1 a2 a3 a4 a5 a6 a7 a8 a9 : Option V} (h : nx (a0 :: a1 :: a2 :: a3 :: a4 :: a5 :: a6 :: a7 :: a8 :: some v :: σ) H) : gName 9 v (a0 :: a1 :: a2 :: a3 :: a4 :: a5 :: a6 :: a7 :: a8 :: a9 :: σ) H nx := h
theorem gs10 {a0 a1 a2 a3 a4 a5 a6 a7 a8 a9 a10 : Option V} (h : nx (a0 :: a1 :: a2 :: a3 :: a4 :: a5 :: a6 :: a7 :: a8 :: a9 :: some v :: σ) H) : gName 10 v (a0 :: a1 :: a2 :: a3 :: a4 :: a5 :: a6 :: a7 :: a8 :: a9 :: a10 :: σ) H nx := h
theorem gs11 {a0 a1 a2 a3 a4 a5 a6 a7 a8 a9 a10 a11 : Option V} (h : nx (a0 :: a1 :: a2 :: a3 :: a4 :: a5 :: a6 :: a7 :: a8 :: a9 :: a10 :: some v :: σ) H) : gName 11 v (a0 :: a1 :: a2 :: a3 :: a4 :: a5 :: a6 :: a7 :: a8 :: a9 :: a10 :: a11 :: σ) H nx := h
theorem gs12 {a0 a1 a2 a3 a4 a5 a6 a7 a8 a9 a10 a11 a12 : Option V} (h : nx (a0 :: a1 :: a2 :: a3 :: a4 :: a5 :: a6 :: a7 :: a8 :: a9 :: a10 :: a11 :: some v :: σ) H) : gName 12 v (a0 :: a1 :: a2 :: a3 :: a4 :: a5 :: a6 :: a7 :: a8 :: a9 :: a10 :: a11 :: a12 :: σ) H nx := h
theorem gs13 {a0 a1 a2 a3 a4 a5 a6 a7 a8 a9 a10 a11 a12 a13 : Option V} (h : nx (a0 :: a1 :: a2 :: a3 :: a4 :: a5 :: a6 :: a7 :: a8 :: a9 :: a10 :: a11 :: a12 :: some v :: σ) H) : gName 13 v (a0 :: a1 :: a2 :: a3 :: a4 :: a5 :: a6 :: a7 :: a8 :: a9 :: a10 :: a11 :: a12 :: a13 :: σ) H nx := h
theorem gs14 {a0 a1 a2 a3 a4 a5 a6 a7 a8 a9 a10 a11 a12 a13 a14 : Option V} (h : nx (a0 :: a1 :: a2 :: a3 :: a4 :: a5 :: a6 :: a7 :: a8 :: a9 :: a10 :: a11 :: a12 :: a13 :: some v :: σ) H) : gName 14 v (a0 :: a1 :: a2 :: a3 :: a4 :: a5 :: a6 :: a7 :: a8 :: a9 :: a10 :: a11 :: a12 :: a13 :: a14 :: σ) H nx := h
theorem gs15 {a0 a1 a2 a3 a4 a5 a6 a7 a8 a9 a10 a11 a12 a13 a14 a15 : Option V} (h : nx (a0 :: a1 :: a2 :: a3 :: a4 :: a5 :: a6 :: a7 :: a8 :: a9 :: a10 :: a11 :: a12 :: a13 :: a14 :: some v :: σ) H) : gName 15 v (a0 :: a1 :: a2 :: a3 :: a4 :: a5 :: a6 :: a7 :: a8 :: a9 :: a10 :: a11 :: a12 :: a13 :: a14 :: a15 :: σ) H nx := h
theorem gs16 {a0 a1 a2 a3 a4 a5 a6 a7 a8 a9 a10 a11 a12 a13 a14 a15 a16 : Option V} (h : nx (a0 :: a1 :: a2 :: a3 :: a4 :: a5 :: a6 :: a7 :: a8 :: a9 :: a10 :: a11 :: a12 :: a13 :: a14 :: a15 :: some v :: σ) H) : gName 16 v (a0 :: a1 :: a2 :: a3 :: a4 :: a5 :: a6 :: a7 :: a8 :: a9 :: a10 :: a11 :: a12 :: a13 :: a14 :: a15 :: a16 :: σ) H nx := h
theorem gs17 {a0 a1 a2 a3 a4 a5 a6 a7 a8 a9 a10 a11 a12 a13 a14 a15 a16 a17 : Option V} (h : nx (a0 :: a1 :: a2 :: a3 :: a4 :: a5 :: a6 :: a7 :: a8 :: a9 :: a10 :: a11 :: a12 :: a13 :: a14 :: a15 :: a16 :: some v :: σ) H) : gName 17 v (a0 :: a1 :: a2 :: a3 :: a4 :: a5 :: a6 :: a7 :: a8 :: a9 :: a10 :: a11 :: a12 :: a13 :: a14 :: a15 :: a16 :: a17 :: σ) H nx := h
theorem gs18 {a0 a1 a2 a3 a4 a5 a6 a7 a8 a9 a10 a11 a12 a13 a14 a15 a16 a17 a18 : Option V} (h : nx (a0 :: a1 :: a2 :: a3 :: a4 :: a5 :: a6 :: a7 :: a8 :: a9 :: a10 :: a11 :: a12 :: a13 :: a14 :: a15 :: a16 :: a17 :: some v :: σ) H) : gName 18 v (a0 :: a1 :: a2 :: a3 :: a4 :: a5 :: a6 :: a7 :: a8 :: a9 :: a10 :: a11 :: a12 :: a13 :: a14 :: a15 :: a16 :: a17 :: a18 :: σ) H nx := h
theorem gs19 {a0 a1 a2 a3 a4 a5 a6 a7 a8 a9 a10 a11 a12 a13 a14 a15 a16 a17 a18 a19 : Option V} (h : nx (a0 :: a1 :: a2 :: a3 :: a4 :: a5 :: a6 :: a7 :: a8 :: a9 :: a10 :: a11 :: a12 :: a13 :: a14 :: a15 :: a16 :: a17 :: a18 :: some v :: σ) H) : gName 19 v (a0 :: a1 :: a2 :: a3 :: a4 :: a5 :: a6 :: a7 :: a8 :: a9 :: a10 :: a11 :: a12 :: a13 :: a14 :: a15 :: a16 :: a17 :: a18 :: a19 :: σ) H nx := h
theorem gs20 {a0 a1 a2 a3 a4 a5 a6 a7 a8 a9 a10 a11 a12 a13 a14 a15 a16 a17 a18 a19 a20 : Option V} (h : nx (a0 :: a1 :: a2 :: a3 :: a4 :: a5 :: a6 :: a7 :: a8 :: a9 :: a10 :: a11 :: a12 :: a13 :: a14 :: a15 :: a16 :: a17 :: a18 :: a19 :: some v :: σ) H) : gName 20 v (a0 :: a1 :: a2 :: a3 :: a4 :: a5 :: a6 :: a7 :: a8 :: a9 :: a10 :: a11 :: a12 :: a13 :: a14 :: a15 :: a16 :: a17 :: a18 :: a19 :: a20 :: σ) H nx := h
theorem gs21 {a0 a1 a2 a3 a4 a5 a6 a7 a8 a9 a10 a11 a12 a13 a14 a15 a16 a17 a18 a19 a20 a21 : Option V} (h : nx (a0 :: a1 :: a2 :: a3 :: a4 :: a5 :: a6 :: a7 :: a8 :: a9 :: a10 :: a11 :: a12 :: a13 :: a14 :: a15 :: a16 :: a17 :: a18 :: a19 :: a20 :: some v :: σ) H) : gName 21 v (a0 :: a1 :: a2 :: a3 :: a4 :: a5 :: a6 :: a7 :: a8 :: a9 :: a10 :: a11 :: a12 :: a13 :: a14 :: a15 :: a16 :: a17 :: a18 :: a19 :: a20 :: a21 :: σ) H nx := h
theorem gs22 {a0 a1 a2 a3 a4 a5 a6 a7 a8 a9 a10 a11 a12 a13 a14 a15 a16 a17 a18 a19 a20 a21 a22 : Option V} (h : nx (a0 :: a1 :: a2 :: a3 :: a4 :: a5 :: a6 :: a7 :: a8 :: a9 :: a10 :: a11 :: a12 :: a13 :: a14 :: a15 :: a16 :: a17 :: a18 :: a19 :: a20 :: a21 :: some v :: σ) H) : gName 22 v (a0 :: a1 :: a2 :: a3 :: a4 :: a5 :: a6 :: a7 :: a8 :: a9 :: a10 :: a11 :: a12 :: a13 :: a14 :: a15 :: a16 :: a17 :: a18 :: a19 :: a20 :: a21 :: a22 :: σ) H nx := h
theorem gs23 {a0 a1 a2 a3 a4 a5 a6 a7 a8 a9 a10 a11 a12 a13 a14 a15 a16 a17 a18 a19 a20 a21 a22 a23 : Option V} (h : nx (a0 :: a1 :: a2 :: a3 :: a4 :: a5 :: a6 :: a7 :: a8 :: a9 :: a10 :: a11 :: a12 :: a13 :: a14 :: a15 :: a16 :: a17 :: a18 :: a19 :: a20 :: a21 :: a22 :: some v :: σ) H) : gName 23 v (a0 :: a1 :: a2 :: a3 :: a4 :: a5 :: a6 :: a7 :: a8 :: a9 :: a10 :: a11 :: a12 :: a13 :: a14 :: a15 :: a16 :: a17 :: a18 :: a19 :: a20 :: a21 :: a22 :: a23 :: σ) H nx := h
theorem gs24 {a0 a1 a2 a3 a4 a5 a6 a7 a8 a9 a10 a11 a12 a13 a14 a15 a16 a17 a18 a19 a20 a21 a22 a23 a24 : Option V} (h : nx (a0 :: a1 :: a2 :: a3 :: a4 :: a5 :: a6 :: a7 :: a8 :: a9 :: a10 :: a11 :: a12 :: a13 :: a14 :: a15 :: a16 :: a17 :: a18 :: a19 :: a20 :: a21 :: a22 :: a23 :: some v :: σ) H) : gName 24 v (a0 :: a1 :: a2 :: a3 :: a4 :: a5 :: a6 :: a7 :: a8 :: a9 :: a10 :: a11 :: a12 :: a13 :: a14 :: a15 :: a16 :: a17 :: a18 :: a19 :: a20 :: a21 :: a22 :: a23 :: a24 :: σ) H nx := h
theorem gs25 {a0 a1 a2 a3 a4 a5 a6 a7 a8 a9 a10 a11 a12 a13 a14 a15 a16 a17 a18 a19 a20 a21 a22 a23 a24 a25 : Option V} (h : nx (a0 :: a1 :: a2 :: a3 :: a4 :: a5 :: a6 :: a7 :: a8 :: a9 :: a10 :: a11 :: a12 :: a13 :: a14 :: a15 :: a16 :: a17 :: a18 :: a19 :: a20 :: a21 :: a22 :: a23 :: a24 :: some v :: σ) H) : gName 25 v (a0 :: a1 :: a2 :: a3 :: a4 :: a5 :: a6 :: a7 :: a8 :: a9 :: a10 :: a11 :: a12 :: a13 :: a14 :: a15 :: a16 :: a17 :: a18 :: a19 :: a20 :: a21 :: a22 :: a23 :: a24 :: a25 :: σ) H nx := h
theorem gs26 {a0 a1 a2 a3 a4 a5 a6 a7 a8 a9 a10 a11 a12 a13 a14 a15 a16 a17 a18 a19 a20 a21 a22 a23 a24 a25 a26 : Option V} (h : nx (a0 :: a1 :: a2 :: a3 :: a4 :: a5 :: a6 :: a7 :: a8 :: a9 :: a10 :: a11 :: a12 :: a13 :: a14 :: a15 :: a16 :: a17 :: a18 :: a19 :: a20 :: a21 :: a22 :: a23 :: a24 :: a25 :: some v :: σ) H) : gName 26 v (a0 :: a1 :: a2 :: a3 :: a4 :: a5 :: a6 :: a7 :: a8 :: a9 :: a10 :: a11 :: a12 :: a13 :: a14 :: a15 :: a16 :: a17 :: a18 :: a19 :: a20 :: a21 :: a22 :: a23 :: a24 :: a25 :: a26 :: σ) H nx := h
theorem gs27 {a0 a1 a2 a3 a4 a5 a6 a7 a8 a9 a10 a11 a12 a13 a14 a15 a16 a17 a18 a19 a20 a21 a22 a23 a24 a25 a26 a27 : Option V} (h : nx (a0 :: a1 :: a2 :: a3 :: a4 :: a5 :: a6 :: a7 :: a8 :: a9 :: a10 :: a11 :: a12 :: a13 :: a14 :: a15 :: a16 :: a17 :: a18 :: a19 :: a20 :: a21 :: a22 :: a23 :: a24 :: a25 :: a26 :: some v :: σ) H) : gName 27 v (a0 :: a1 :: a2 :: a3 :: a4 :: a5 :: a6 :: a7 :: a8 :: a9 :: a10 :: a11 :: a12 :: a13 :: a14 :: a15 :: a16 :: a17 :: a18 :: a19 :: a20 :: a21 :: a22 :: a23 :: a24 :: a25 :: a26 :: a27 :: σ) H nx := h
theorem gs28 {a0 a1 a2 a3 a4 a5 a6 a7 a8 a9 a10 a11 a12 a13 a14 a15 a16 a17 a18 a19 a20 a21 a22 a23 a24 a25 a26 a27 a28 : Option V} (h : nx (a0 :: a1 :: a2 :: a3 :: a4 :: a5 :: a6 :: a7 :: a8 :: a9 :: a10 :: a11 :: a12 :: a13 :: a14 :: a15 :: a16 :: a17 :: a18 :: a19 :: a20 :: a21 :: a22 :: a23 :: a24 :: a25 :: a26 :: a27 :: some v :: σ) H) : gName 28 v (a0 :: a1 :: a2 :: a3 :: a4 :: a5 :: a6 :: a7 :: a8 :: a9 :: a10 :: a11 :: a12 :: a13 :: a14 :: a15 :: a16 :: a17 :: a18 :: a19 :: a20 :: a21 :: a22 :: a23 :: a24 :: a25 :: a26 :: a27 :: a28 :: σ) H nx := h
theorem gs29 {a0 a1 a2 a3 a4 a5 a6 a7 a8 a9 a10 a11 a12 a13 a14 a15 a16 a17 a18 a19 a20 a21 a22 a23 a24 a25 a26 a27 a28 a29 : Option V} (h : nx (a0 :: a1 :: a2 :: a3 :: a4 :: a5 :: a6 :: a7 :: a8 :: a9 :: a10 :: a11 :: a12 :: a13 :: a14 :: a15 :: a16 :: a17 :: a18 :: a19 :: a20 :: a21 :: a22 :: a23 :: a24 :: a25 :: a26 :: a27 :: a28 :: some v :: σ) H) : gName 29 v (a0 :: a1 :: a2 :: a3 :: a4 :: a5 :: a6 :: a7 :: a8 :: a9 :: a10 :: a11 :: a12 :: a13 :: a14 :: a15 :: a16 :: a17 :: a18 :: a19 :: a20 :: a21 :: a22 :: a23 :: a24 :: a25 :: a26 :: a27 :: a28 :: a29 :: σ) H nx := h
end
/-- an instance that __init__ has just filled -/
theorem made {H : Hp} {r dr : Addr} {o1 o2 : HO} (h1 : H r = none) (h2 : H dr = none) : Sub H (upd (upd (upd H dr (.own r)) r o1) r o2) := fun a x e => by
  rw [upd_ne (ne_of_none e h1), upd_ne (ne_of_none e h1), upd_ne (ne_of_none e h2)]
  exact e
theorem lookup2 {f g : Str} {u v : V} (h : (g == f) = false) : ([(f, u), (g, v)] : List (Str × V)).lookup g = some v := by
  show (match g == f with | true => some u | false => ([(g, v)] : List (Str × V)).lookup g) = _
  rw [h]
  show (match g == g with | true => some v | false => ([] : List (Str × V)).lookup g) = _
  rw [show (g == g) = true from beq_self_eq_true g]
theorem lookup1 {f : Str} {u : V} {r : List (Str × V)} : ((f, u) :: r : List (Str × V)).lookup f = some u := by
  show (match f == f with | true => some u | false => r.lookup f) = _
  rw [show (f == f) = true from beq_self_eq_true f]
theorem putF2 {f g : Str} {u v : V} (h : ¬ f = g) : putF g v (putF f u []) = [(f, u), (g, v)] := by
  unfold putF
  simp [putF, h]
theorem kit_self {K : PySem.W.Frag} {C : Addr} : PySem.W.kitOne K (.ref C) (.ref C) = some true := by
  unfold PySem.W.kitOne
  simp
end Tr
set_option Elab.async false
set_option linter.all false
set_option maxRecDepth 100000
set_option maxHeartbeats 4000000
namespace K04
open PySem L2 Tr
/-! the text by places -/
def top (i : Nat) : Stmt := PySem.Challenge.pw_toldridges_k04_arrow_operations.main.body.getD i (.Pass ⟨0, 0, 0, 0⟩)
abbrev s_Arrow_init : Stmt := inClass (top 2) 0
abbrev s_Arrow_add : Stmt := inClass (top 2) 1
abbrev s_Arrow_sub : Stmt := inClass (top 2) 2
abbrev s_Arrow_neg : Stmt := inClass (top 2) 3
abbrev s_Arrow_mul : Stmt := inClass (top 2) 4
abbrev s_Arrow_rmul : Stmt := inClass (top 2) 5
abbrev s_Arrow_xor : Stmt := inClass (top 2) 6
abbrev s_Arrow_invert : Stmt := inClass (top 2) 7
abbrev s_Arrow_eq : Stmt := inClass (top 2) 8
abbrev s_law_pool : Stmt := top 4
abbrev s_law_take : Stmt := top 5
abbrev s_law_whole : Stmt := top 6
abbrev s_law_number : Stmt := top 7
abbrev s_law_is_arrow : Stmt := top 8
abbrev s_law : Stmt := top 9
/-- the addresses -/
structure Ad where
  f_Arrow_init : Addr
  d_Arrow_init : FuncData
  f_Arrow_add : Addr
  d_Arrow_add : FuncData
  f_Arrow_sub : Addr
  d_Arrow_sub : FuncData
  f_Arrow_neg : Addr
  d_Arrow_neg : FuncData
  f_Arrow_mul : Addr
  d_Arrow_mul : FuncData
  f_Arrow_rmul : Addr
  d_Arrow_rmul : FuncData
  f_Arrow_xor : Addr
  d_Arrow_xor : FuncData
  f_Arrow_invert : Addr
  d_Arrow_invert : FuncData
  f_Arrow_eq : Addr
  d_Arrow_eq : FuncData
  f_law_pool : Addr
  d_law_pool : FuncData
  f_law_take : Addr
  d_law_take : FuncData
  f_law_whole : Addr
  d_law_whole : FuncData
  f_law_number : Addr
  d_law_number : FuncData
  f_law_is_arrow : Addr
  d_law_is_arrow : FuncData
  f_law : Addr
  d_law : FuncData
  c_Arrow : Addr
structure Txt (K : PySem.W.Frag) (mg : Str → Option Value) (ad : Ad) : Prop where
  F_Arrow_init : Fun K "__init__" "Arrow.__init__" s_Arrow_init ad.f_Arrow_init ad.d_Arrow_init
  B_Arrow_init : Binds K ad.d_Arrow_init ["self", "x", "y"] []
  m_Arrow_init : Meth K ad.c_Arrow "__init__" ad.f_Arrow_init
  F_Arrow_add : Fun K "__add__" "Arrow.__add__" s_Arrow_add ad.f_Arrow_add ad.d_Arrow_add
  B_Arrow_add : Binds K ad.d_Arrow_add ["self", "other"] []
  m_Arrow_add : Meth K ad.c_Arrow "__add__" ad.f_Arrow_add
  F_Arrow_sub : Fun K "__sub__" "Arrow.__sub__" s_Arrow_sub ad.f_Arrow_sub ad.d_Arrow_sub
  B_Arrow_sub : Binds K ad.d_Arrow_sub ["self", "other"] []
  m_Arrow_sub : Meth K ad.c_Arrow "__sub__" ad.f_Arrow_sub
  F_Arrow_neg : Fun K "__neg__" "Arrow.__neg__" s_Arrow_neg ad.f_Arrow_neg ad.d_Arrow_neg
  B_Arrow_neg : Binds K ad.d_Arrow_neg ["self"] []
  m_Arrow_neg : Meth K ad.c_Arrow "__neg__" ad.f_Arrow_neg
  F_Arrow_mul : Fun K "__mul__" "Arrow.__mul__" s_Arrow_mul ad.f_Arrow_mul ad.d_Arrow_mul
  B_Arrow_mul : Binds K ad.d_Arrow_mul ["self", "other"] []
  m_Arrow_mul : Meth K ad.c_Arrow "__mul__" ad.f_Arrow_mul
  F_Arrow_rmul : Fun K "__rmul__" "Arrow.__rmul__" s_Arrow_rmul ad.f_Arrow_rmul ad.d_Arrow_rmul
  B_Arrow_rmul : Binds K ad.d_Arrow_rmul ["self", "other"] []
  m_Arrow_rmul : Meth K ad.c_Arrow "__rmul__" ad.f_Arrow_rmul
  F_Arrow_xor : Fun K "__xor__" "Arrow.__xor__" s_Arrow_xor ad.f_Arrow_xor ad.d_Arrow_xor
  B_Arrow_xor : Binds K ad.d_Arrow_xor ["self", "other"] []
  m_Arrow_xor : Meth K ad.c_Arrow "__xor__" ad.f_Arrow_xor
  F_Arrow_invert : Fun K "__invert__" "Arrow.__invert__" s_Arrow_invert ad.f_Arrow_invert ad.d_Arrow_invert
  B_Arrow_invert : Binds K ad.d_Arrow_invert ["self"] []
  m_Arrow_invert : Meth K ad.c_Arrow "__invert__" ad.f_Arrow_invert
  F_Arrow_eq : Fun K "__eq__" "Arrow.__eq__" s_Arrow_eq ad.f_Arrow_eq ad.d_Arrow_eq
  B_Arrow_eq : Binds K ad.d_Arrow_eq ["self", "other"] []
  m_Arrow_eq : Meth K ad.c_Arrow "__eq__" ad.f_Arrow_eq
  F_law_pool : Fun K "_law_pool" "_law_pool" s_law_pool ad.f_law_pool ad.d_law_pool
  B_law_pool : Binds K ad.d_law_pool ["_law_script"] []
  g_law_pool : mg "_law_pool" = some (.ref ad.f_law_pool)
  F_law_take : Fun K "_law_take" "_law_take" s_law_take ad.f_law_take ad.d_law_take
  B_law_take : Binds K ad.d_law_take ["_law_pool_here", "_law_many"] []
  g_law_take : mg "_law_take" = some (.ref ad.f_law_take)
  F_law_whole : Fun K "_law_whole" "_law_whole" s_law_whole ad.f_law_whole ad.d_law_whole
  B_law_whole : Binds K ad.d_law_whole ["_law_x"] []
  g_law_whole : mg "_law_whole" = some (.ref ad.f_law_whole)
  F_law_number : Fun K "_law_number" "_law_number" s_law_number ad.f_law_number ad.d_law_number
  B_law_number : Binds K ad.d_law_number ["_law_pool_here"] []
  g_law_number : mg "_law_number" = some (.ref ad.f_law_number)
  F_law_is_arrow : Fun K "_law_is_arrow" "_law_is_arrow" s_law_is_arrow ad.f_law_is_arrow ad.d_law_is_arrow
  B_law_is_arrow : Binds K ad.d_law_is_arrow ["_law_arrow", "_law_x", "_law_y"] []
  g_law_is_arrow : mg "_law_is_arrow" = some (.ref ad.f_law_is_arrow)
  F_law : Fun K "law" "law" s_law ad.f_law ad.d_law
  B_law : Binds K ad.d_law ["_law_script"] []
  g_law : mg "law" = some (.ref ad.f_law)
  cl_Arrow : Cls K ad.c_Arrow
  g_Arrow : mg "Arrow" = some (.ref ad.c_Arrow)
  mk_Arrow : Mk K ad.c_Arrow ad.f_Arrow_init
  na_Arrow_x : NoAttr K ad.c_Arrow "x"
  na_Arrow_y : NoAttr K ad.c_Arrow "y"
  sf_Arrow : PySem.W.selfFirst K ad.c_Arrow = true
  nf_Arrow : PySem.W.notFirst K ad.c_Arrow (.ref ad.c_Arrow) = true
  nfi_Arrow : PySem.W.notFirst K ad.c_Arrow (.type "int") = true
  ia_Arrow : PySem.W.findIn K (.ref ad.c_Arrow) "__class__" = some (some (.builtin "object.__class__"))
  im_Arrow : PySem.W.mroIn K ad.c_Arrow (.type "object") = some true
  ik_Arrow : PySem.W.kitOne K (.ref ad.c_Arrow) (.ref ad.c_Arrow) = some true
  ign : PySem.W.specialIn K (.builtin "object.__class__") "__get__" = some (some (.builtin "getset_descriptor.__get__"))
  igt : PySem.W.takesIn K (.builtin "object.__class__") = some true
  or_Arrow_mul : OwnR K ad.c_Arrow "mul"
  z_isinstance : mg "isinstance" = none
  z_abs : mg "abs" = none
  z_range : mg "range" = none
  z_int : mg "int" = none
  z_bool : mg "bool" = none
theorem sc_Arrow_init : FnScope ["self", "x", "y"] ["self", "x", "y"] (defScope s_Arrow_init) := ⟨rfl, rfl, rfl, by decide +kernel, rfl, by decide +kernel, by decide +kernel⟩
theorem sc_Arrow_add : FnScope ["self", "other"] ["self", "other"] (defScope s_Arrow_add) := ⟨rfl, rfl, rfl, by decide +kernel, rfl, by decide +kernel, by decide +kernel⟩
theorem sc_Arrow_sub : FnScope ["self", "other"] ["self", "other"] (defScope s_Arrow_sub) := ⟨rfl, rfl, rfl, by decide +kernel, rfl, by decide +kernel, by decide +kernel⟩
theorem sc_Arrow_neg : FnScope ["self"] ["self"] (defScope s_Arrow_neg) := ⟨rfl, rfl, rfl, by decide +kernel, rfl, by decide +kernel, by decide +kernel⟩
theorem sc_Arrow_mul : FnScope ["self", "other"] ["self", "other"] (defScope s_Arrow_mul) := ⟨rfl, rfl, rfl, by decide +kernel, rfl, by decide +kernel, by decide +kernel⟩
theorem sc_Arrow_rmul : FnScope ["self", "other"] ["self", "other"] (defScope s_Arrow_rmul) := ⟨rfl, rfl, rfl, by decide +kernel, rfl, by decide +kernel, by decide +kernel⟩
theorem sc_Arrow_xor : FnScope ["self", "other"] ["self", "other"] (defScope s_Arrow_xor) := ⟨rfl, rfl, rfl, by decide +kernel, rfl, by decide +kernel, by decide +kernel⟩
theorem sc_Arrow_invert : FnScope ["self"] ["self"] (defScope s_Arrow_invert) := ⟨rfl, rfl, rfl, by decide +kernel, rfl, by decide +kernel, by decide +kernel⟩
theorem sc_Arrow_eq : FnScope ["self", "other"] ["self", "other"] (defScope s_Arrow_eq) := ⟨rfl, rfl, rfl, by decide +kernel, rfl, by decide +kernel, by decide +kernel⟩
theorem sc_law_pool : FnScope ["_law_script", "_law_pool_here", "_law_cell", "_law_rest", "_law_k", "_law_mixed"] ["_law_script"] (defScope s_law_pool) := ⟨rfl, rfl, rfl, by decide +kernel, rfl, by decide +kernel, by decide +kernel⟩
theorem sc_law_take : FnScope ["_law_pool_here", "_law_many"] ["_law_pool_here", "_law_many"] (defScope s_law_take) := ⟨rfl, rfl, rfl, by decide +kernel, rfl, by decide +kernel, by decide +kernel⟩
theorem sc_law_whole : FnScope ["_law_x"] ["_law_x"] (defScope s_law_whole) := ⟨rfl, rfl, rfl, by decide +kernel, rfl, by decide +kernel, by decide +kernel⟩
theorem sc_law_number : FnScope ["_law_pool_here", "_law_kind", "_law_number_here", "_law_k"] ["_law_pool_here"] (defScope s_law_number) := ⟨rfl, rfl, rfl, by decide +kernel, rfl, by decide +kernel, by decide +kernel⟩
theorem sc_law_is_arrow : FnScope ["_law_arrow", "_law_x", "_law_y"] ["_law_arrow", "_law_x", "_law_y"] (defScope s_law_is_arrow) := ⟨rfl, rfl, rfl, by decide +kernel, rfl, by decide +kernel, by decide +kernel⟩
theorem sc_law : FnScope ["_law_script", "_law_pool_here", "_law_x", "_law_y", "_law_z", "_law_w", "_law_k", "_law_kind", "_law_a", "_law_b", "_law_good", "_law_dot", "_law_cross", "_law_same"] ["_law_script"] (defScope s_law) := ⟨rfl, rfl, rfl, by decide +kernel, rfl, by decide +kernel, by decide +kernel⟩
theorem kxy : ¬ (("x" : Str) = "y") := by decide +kernel
theorem kyx : (("y" : Str) == "x") = false := by decide +kernel
def aF (x y : Int) : List (Str × V) := [("x", V.int x), ("y", V.int y)]
theorem ArrowF_x {x y : Int} : (aF x y).lookup ("x" : Str) = some (.int x) := lookup1
theorem ArrowF_y {x y : Int} : (aF x y).lookup ("y" : Str) = some (.int y) := lookup2 kyx
abbrev arrow (ad : Ad) (dx : Addr) (x y : Int) : HO := .ins ad.c_Arrow dx (aF x y)
def sp_Arrow_init (K : PySem.W.Frag) (ad : Ad) : Sp := fun vs H Q _ => ∃ p dx x y, vs = [.ref p, .int x, .int y] ∧ H p = some (.ins ad.c_Arrow dx []) ∧ Q .non (upd H p (arrow ad dx x y))
theorem st_Arrow_init (a0 a1 a2 : V) : start ["self", "x", "y"] [a0, a1, a2] = [some a0, some a1, some a2] := rfl
section
variable {P : Program} {w : World} {K : PySem.W.Frag} {mg : Str → Option Value} {base : Heap} {ad : Ad}
theorem ok_Arrow_init (T : Txt K mg ad) : FnOk P w K mg base CX0 1 ad.f_Arrow_init ad.d_Arrow_init ["self", "x", "y"] (sp_Arrow_init K ad) := by
  refine T.F_Arrow_init.ok sc_Arrow_init (fun vs H Q E h => by obtain ⟨p, dx, x, y, rfl, _⟩ := h; rfl) (fun cdv A outer s H vs Q E hr h => ?_)
  have hu := hu_of hr
  obtain ⟨p, dx, x, y, rfl, hp, q⟩ := h
  refine ⟨_, (pss_cons (ps_fld (pv 0) (pv 1) rfl)
      (pss_one (ps_fld (pv 0) (pv 2) rfl))), ?_⟩
  try simp only [cxK, cxK2]
  rw [st_Arrow_init]
  refine ⟨_, rfl, _, rfl, p, ad.c_Arrow, dx, [], rfl, hp, T.cl_Arrow, T.na_Arrow_x, (by show 0 < 1000; decide), ?_⟩
  refine ⟨_, rfl, _, rfl, p, ad.c_Arrow, dx, _, rfl, upd_same, T.cl_Arrow, T.na_Arrow_y, (by show 1 < 1000; decide), ?_⟩
  rw [upd_upd, putF2 kxy]
  exact q
end
def sp_Arrow_add (K : PySem.W.Frag) (ad : Ad) : Sp := fun vs H Q _ => ∃ p dx x y q dq x2 y2, vs = [.ref p, .ref q] ∧ H p = some (arrow ad dx x y) ∧ H q = some (arrow ad dq x2 y2) ∧
  ∀ r dr H', H r = none → Sub H H' → H' r = some (arrow ad dr (x + x2) (y + y2)) → Q (.ref r) H'
theorem st_Arrow_add (a0 a1 : V) : start ["self", "other"] [a0, a1] = [some a0, some a1] := rfl
section
variable {P : Program} {w : World} {K : PySem.W.Frag} {mg : Str → Option Value} {base : Heap} {ad : Ad}
theorem ok_Arrow_add (T : Txt K mg ad) : FnOk P w K mg base CX0 3 ad.f_Arrow_add ad.d_Arrow_add ["self", "other"] (sp_Arrow_add K ad) := by
  refine T.F_Arrow_add.ok sc_Arrow_add (fun vs H Q E h => by obtain ⟨p, dx, x, y, q, dq, x2, y2, rfl, _⟩ := h; rfl) (fun cdv A outer s H vs Q E hr h => ?_)
  have hu := hu_of hr
  obtain ⟨p, dx, x, y, q, dq, x2, y2, rfl, hp, hq, k⟩ := h
  refine ⟨_, (pss_one (ps_ret (pe_make T.mk_Arrow (ok_Arrow_init (P := P) (w := w) (K := K) (mg := mg) (base := base) T) (hr.mono (by decide)) (by rfl) T.g_Arrow T.B_Arrow_init .nil pass0 (pa_cons (pe_op op_add (pe_fld (pv 0) rfl) (pe_fld (pv 1) rfl)) (pa_cons (pe_op op_add (pe_fld (pv 0) rfl) (pe_fld (pv 1) rfl)) pa_nil))))), ?_⟩
  try simp only [cxK, cxK2]
  rw [st_Arrow_add]
  refine ⟨_, rfl, p, _, _, _, _, rfl, hp, T.cl_Arrow, T.na_Arrow_x, ArrowF_x, _, rfl, q, _, _, _, _, rfl, hq, T.cl_Arrow, T.na_Arrow_x, ArrowF_x, _, _, rfl, rfl, ?_⟩
  refine ⟨_, rfl, p, _, _, _, _, rfl, hp, T.cl_Arrow, T.na_Arrow_y, ArrowF_y, _, rfl, q, _, _, _, _, rfl, hq, T.cl_Arrow, T.na_Arrow_y, ArrowF_y, _, _, rfl, rfl, ?_⟩
  intro r dr nr ndr ne
  exact ⟨r, dr, _, _, rfl, upd_same, rfl, k r dr _ nr (made nr ndr) upd_same⟩
end
def sp_Arrow_sub (K : PySem.W.Frag) (ad : Ad) : Sp := fun vs H Q _ => ∃ p dx x y q dq x2 y2, vs = [.ref p, .ref q] ∧ H p = some (arrow ad dx x y) ∧ H q = some (arrow ad dq x2 y2) ∧
  ∀ r dr H', H r = none → Sub H H' → H' r = some (arrow ad dr (x - x2) (y - y2)) → Q (.ref r) H'
theorem st_Arrow_sub (a0 a1 : V) : start ["self", "other"] [a0, a1] = [some a0, some a1] := rfl
section
variable {P : Program} {w : World} {K : PySem.W.Frag} {mg : Str → Option Value} {base : Heap} {ad : Ad}
theorem ok_Arrow_sub (T : Txt K mg ad) : FnOk P w K mg base CX0 3 ad.f_Arrow_sub ad.d_Arrow_sub ["self", "other"] (sp_Arrow_sub K ad) := by
  refine T.F_Arrow_sub.ok sc_Arrow_sub (fun vs H Q E h => by obtain ⟨p, dx, x, y, q, dq, x2, y2, rfl, _⟩ := h; rfl) (fun cdv A outer s H vs Q E hr h => ?_)
  have hu := hu_of hr
  obtain ⟨p, dx, x, y, q, dq, x2, y2, rfl, hp, hq, k⟩ := h
  refine ⟨_, (pss_one (ps_ret (pe_make T.mk_Arrow (ok_Arrow_init (P := P) (w := w) (K := K) (mg := mg) (base := base) T) (hr.mono (by decide)) (by rfl) T.g_Arrow T.B_Arrow_init .nil pass0 (pa_cons (pe_op op_sub (pe_fld (pv 0) rfl) (pe_fld (pv 1) rfl)) (pa_cons (pe_op op_sub (pe_fld (pv 0) rfl) (pe_fld (pv 1) rfl)) pa_nil))))), ?_⟩
  try simp only [cxK, cxK2]
  rw [st_Arrow_sub]
  refine ⟨_, rfl, p, _, _, _, _, rfl, hp, T.cl_Arrow, T.na_Arrow_x, ArrowF_x, _, rfl, q, _, _, _, _, rfl, hq, T.cl_Arrow, T.na_Arrow_x, ArrowF_x, _, _, rfl, rfl, ?_⟩
  refine ⟨_, rfl, p, _, _, _, _, rfl, hp, T.cl_Arrow, T.na_Arrow_y, ArrowF_y, _, rfl, q, _, _, _, _, rfl, hq, T.cl_Arrow, T.na_Arrow_y, ArrowF_y, _, _, rfl, rfl, ?_⟩
  intro r dr nr ndr ne
  exact ⟨r, dr, _, _, rfl, upd_same, rfl, k r dr _ nr (made nr ndr) upd_same⟩
end
def sp_Arrow_neg (K : PySem.W.Frag) (ad : Ad) : Sp := fun vs H Q _ => ∃ p dx x y, vs = [.ref p] ∧ H p = some (arrow ad dx x y) ∧
  ∀ r dr H', H r = none → Sub H H' → H' r = some (arrow ad dr (-x) (-y)) → Q (.ref r) H'
theorem st_Arrow_neg (a0 : V) : start ["self"] [a0] = [some a0] := rfl
section
variable {P : Program} {w : World} {K : PySem.W.Frag} {mg : Str → Option Value} {base : Heap} {ad : Ad}
theorem ok_Arrow_neg (T : Txt K mg ad) : FnOk P w K mg base CX0 3 ad.f_Arrow_neg ad.d_Arrow_neg ["self"] (sp_Arrow_neg K ad) := by
  refine T.F_Arrow_neg.ok sc_Arrow_neg (fun vs H Q E h => by obtain ⟨p, dx, x, y, rfl, _⟩ := h; rfl) (fun cdv A outer s H vs Q E hr h => ?_)
  have hu := hu_of hr
  obtain ⟨p, dx, x, y, rfl, hp, k⟩ := h
  refine ⟨_, (pss_one (ps_ret (pe_make T.mk_Arrow (ok_Arrow_init (P := P) (w := w) (K := K) (mg := mg) (base := base) T) (hr.mono (by decide)) (by rfl) T.g_Arrow T.B_Arrow_init .nil pass0 (pa_cons (pe_un un_neg (pe_fld (pv 0) rfl)) (pa_cons (pe_un un_neg (pe_fld (pv 0) rfl)) pa_nil))))), ?_⟩
  try simp only [cxK, cxK2]
  rw [st_Arrow_neg]
  refine ⟨_, rfl, p, _, _, _, _, rfl, hp, T.cl_Arrow, T.na_Arrow_x, ArrowF_x, _, rfl, _, rfl, p, _, _, _, _, rfl, hp, T.cl_Arrow, T.na_Arrow_y, ArrowF_y, _, rfl, ?_⟩
  intro r dr nr ndr ne
  exact ⟨r, dr, _, _, rfl, upd_same, rfl, k r dr _ nr (made nr ndr) upd_same⟩
end
def sp_Arrow_mul (K : PySem.W.Frag) (ad : Ad) : Sp := fun vs H Q _ => ∃ p dx x y q dq x2 y2, vs = [.ref p, .ref q] ∧ H p = some (arrow ad dx x y) ∧ H q = some (arrow ad dq x2 y2) ∧
  CMulW x x2 ∧ CMulW y y2 ∧ Q (.int (x * x2 + y * y2)) H
theorem st_Arrow_mul (a0 a1 : V) : start ["self", "other"] [a0, a1] = [some a0, some a1] := rfl
section
variable {P : Program} {w : World} {K : PySem.W.Frag} {mg : Str → Option Value} {base : Heap} {ad : Ad}
theorem ok_Arrow_mul (T : Txt K mg ad) : FnOk P w K mg base CX0 1 ad.f_Arrow_mul ad.d_Arrow_mul ["self", "other"] (sp_Arrow_mul K ad) := by
  refine T.F_Arrow_mul.ok sc_Arrow_mul (fun vs H Q E h => by obtain ⟨p, dx, x, y, q, dq, x2, y2, rfl, _⟩ := h; rfl) (fun cdv A outer s H vs Q E hr h => ?_)
  have hu := hu_of hr
  obtain ⟨p, dx, x, y, q, dq, x2, y2, rfl, hp, hq, c1, c2, k⟩ := h
  refine ⟨_, (pss_one (ps_ret (pe_op op_add (pe_op op_mulW (pe_fld (pv 0) rfl) (pe_fld (pv 1) rfl)) (pe_op op_mulW (pe_fld (pv 0) rfl) (pe_fld (pv 1) rfl))))), ?_⟩
  try simp only [cxK, cxK2]
  rw [st_Arrow_mul]
  refine ⟨_, rfl, p, _, _, _, _, rfl, hp, T.cl_Arrow, T.na_Arrow_x, ArrowF_x, _, rfl, q, _, _, _, _, rfl, hq, T.cl_Arrow, T.na_Arrow_x, ArrowF_x, _, _, rfl, rfl, c1, ?_⟩
  refine ⟨_, rfl, p, _, _, _, _, rfl, hp, T.cl_Arrow, T.na_Arrow_y, ArrowF_y, _, rfl, q, _, _, _, _, rfl, hq, T.cl_Arrow, T.na_Arrow_y, ArrowF_y, _, _, rfl, rfl, c2, _, _, rfl, rfl, ?_⟩
  exact k
end
def sp_Arrow_rmul (K : PySem.W.Frag) (ad : Ad) : Sp := fun vs H Q _ => ∃ p dx x y n, vs = [.ref p, .int n] ∧ H p = some (arrow ad dx x y) ∧ CMulW n x ∧ CMulW n y ∧
  ∀ r dr H', H r = none → Sub H H' → H' r = some (arrow ad dr (n * x) (n * y)) → Q (.ref r) H'
theorem st_Arrow_rmul (a0 a1 : V) : start ["self", "other"] [a0, a1] = [some a0, some a1] := rfl
section
variable {P : Program} {w : World} {K : PySem.W.Frag} {mg : Str → Option Value} {base : Heap} {ad : Ad}
theorem ok_Arrow_rmul (T : Txt K mg ad) : FnOk P w K mg base CX0 3 ad.f_Arrow_rmul ad.d_Arrow_rmul ["self", "other"] (sp_Arrow_rmul K ad) := by
  refine T.F_Arrow_rmul.ok sc_Arrow_rmul (fun vs H Q E h => by obtain ⟨p, dx, x, y, n, rfl, _⟩ := h; rfl) (fun cdv A outer s H vs Q E hr h => ?_)
  have hu := hu_of hr
  obtain ⟨p, dx, x, y, n, rfl, hp, c1, c2, k⟩ := h
  refine ⟨_, (pss_one (ps_ret (pe_make T.mk_Arrow (ok_Arrow_init (P := P) (w := w) (K := K) (mg := mg) (base := base) T) (hr.mono (by decide)) (by rfl) T.g_Arrow T.B_Arrow_init .nil pass0 (pa_cons (pe_op op_mulW (pv 1) (pe_fld (pv 0) rfl)) (pa_cons (pe_op op_mulW (pv 1) (pe_fld (pv 0) rfl)) pa_nil))))), ?_⟩
  try simp only [cxK, cxK2]
  rw [st_Arrow_rmul]
  refine ⟨_, rfl, _, rfl, p, _, _, _, _, rfl, hp, T.cl_Arrow, T.na_Arrow_x, ArrowF_x, _, _, rfl, rfl, c1, ?_⟩
  refine ⟨_, rfl, _, rfl, p, _, _, _, _, rfl, hp, T.cl_Arrow, T.na_Arrow_y, ArrowF_y, _, _, rfl, rfl, c2, ?_⟩
  intro r dr nr ndr ne
  exact ⟨r, dr, _, _, rfl, upd_same, rfl, k r dr _ nr (made nr ndr) upd_same⟩
end
def sp_Arrow_xor (K : PySem.W.Frag) (ad : Ad) : Sp := fun vs H Q _ => ∃ p dx x y q dq x2 y2, vs = [.ref p, .ref q] ∧ H p = some (arrow ad dx x y) ∧ H q = some (arrow ad dq x2 y2) ∧
  CMulW x y2 ∧ CMulW y x2 ∧ Q (.int (x * y2 - y * x2)) H
theorem st_Arrow_xor (a0 a1 : V) : start ["self", "other"] [a0, a1] = [some a0, some a1] := rfl
section
variable {P : Program} {w : World} {K : PySem.W.Frag} {mg : Str → Option Value} {base : Heap} {ad : Ad}
theorem ok_Arrow_xor (T : Txt K mg ad) : FnOk P w K mg base CX0 1 ad.f_Arrow_xor ad.d_Arrow_xor ["self", "other"] (sp_Arrow_xor K ad) := by
  refine T.F_Arrow_xor.ok sc_Arrow_xor (fun vs H Q E h => by obtain ⟨p, dx, x, y, q, dq, x2, y2, rfl, _⟩ := h; rfl) (fun cdv A outer s H vs Q E hr h => ?_)
  have hu := hu_of hr
  obtain ⟨p, dx, x, y, q, dq, x2, y2, rfl, hp, hq, c1, c2, k⟩ := h
  refine ⟨_, (pss_one (ps_ret (pe_op op_sub (pe_op op_mulW (pe_fld (pv 0) rfl) (pe_fld (pv 1) rfl)) (pe_op op_mulW (pe_fld (pv 0) rfl) (pe_fld (pv 1) rfl))))), ?_⟩
  try simp only [cxK, cxK2]
  rw [st_Arrow_xor]
  refine ⟨_, rfl, p, _, _, _, _, rfl, hp, T.cl_Arrow, T.na_Arrow_x, ArrowF_x, _, rfl, q, _, _, _, _, rfl, hq, T.cl_Arrow, T.na_Arrow_y, ArrowF_y, _, _, rfl, rfl, c1, ?_⟩
  refine ⟨_, rfl, p, _, _, _, _, rfl, hp, T.cl_Arrow, T.na_Arrow_y, ArrowF_y, _, rfl, q, _, _, _, _, rfl, hq, T.cl_Arrow, T.na_Arrow_x, ArrowF_x, _, _, rfl, rfl, c2, _, _, rfl, rfl, ?_⟩
  exact k
end
def sp_Arrow_invert (K : PySem.W.Frag) (ad : Ad) : Sp := fun vs H Q _ => ∃ p dx x y, vs = [.ref p] ∧ H p = some (arrow ad dx x y) ∧
  ∀ r dr H', H r = none → Sub H H' → H' r = some (arrow ad dr (-y) x) → Q (.ref r) H'
theorem st_Arrow_invert (a0 : V) : start ["self"] [a0] = [some a0] := rfl
section
variable {P : Program} {w : World} {K : PySem.W.Frag} {mg : Str → Option Value} {base : Heap} {ad : Ad}
theorem ok_Arrow_invert (T : Txt K mg ad) : FnOk P w K mg base CX0 3 ad.f_Arrow_invert ad.d_Arrow_invert ["self"] (sp_Arrow_invert K ad) := by
  refine T.F_Arrow_invert.ok sc_Arrow_invert (fun vs H Q E h => by obtain ⟨p, dx, x, y, rfl, _⟩ := h; rfl) (fun cdv A outer s H vs Q E hr h => ?_)
  have hu := hu_of hr
  obtain ⟨p, dx, x, y, rfl, hp, k⟩ := h
  refine ⟨_, (pss_one (ps_ret (pe_make T.mk_Arrow (ok_Arrow_init (P := P) (w := w) (K := K) (mg := mg) (base := base) T) (hr.mono (by decide)) (by rfl) T.g_Arrow T.B_Arrow_init .nil pass0 (pa_cons (pe_un un_neg (pe_fld (pv 0) rfl)) (pa_cons (pe_fld (pv 0) rfl) pa_nil))))), ?_⟩
  try simp only [cxK, cxK2]
  rw [st_Arrow_invert]
  refine ⟨_, rfl, p, _, _, _, _, rfl, hp, T.cl_Arrow, T.na_Arrow_y, ArrowF_y, _, rfl, _, rfl, p, _, _, _, _, rfl, hp, T.cl_Arrow, T.na_Arrow_x, ArrowF_x, ?_⟩
  intro r dr nr ndr ne
  exact ⟨r, dr, _, _, rfl, upd_same, rfl, k r dr _ nr (made nr ndr) upd_same⟩
end
theorem ty_arrow {P : Program} {w : World} {K : PySem.W.Frag} {mg : Str → Option Value} {ad : Ad} (T : Txt K mg ad) {H : Hp} {p dx : Addr} {fs : List (Str × V)} (h : H p = some (.ins ad.c_Arrow dx fs)) : TyX K H (.ref p) (.ref ad.c_Arrow) :=
  .base (.ins h T.cl_Arrow T.ia_Arrow T.ign T.igt T.im_Arrow)
def sp_Arrow_eq (K : PySem.W.Frag) (ad : Ad) : Sp := fun vs H Q _ => ∃ p dx x y q dq x2 y2, vs = [.ref p, .ref q] ∧ H p = some (arrow ad dx x y) ∧ H q = some (arrow ad dq x2 y2) ∧
  Q (.bl (decide (x = x2) && decide (y = y2))) H
theorem st_Arrow_eq (a0 a1 : V) : start ["self", "other"] [a0, a1] = [some a0, some a1] := rfl
section
variable {P : Program} {w : World} {K : PySem.W.Frag} {mg : Str → Option Value} {base : Heap} {ad : Ad}
theorem ok_Arrow_eq (T : Txt K mg ad) : FnOk P w K mg base CX0 1 ad.f_Arrow_eq ad.d_Arrow_eq ["self", "other"] (sp_Arrow_eq K ad) := by
  refine T.F_Arrow_eq.ok sc_Arrow_eq (fun vs H Q E h => by obtain ⟨p, dx, x, y, q, dq, x2, y2, rfl, _⟩ := h; rfl) (fun cdv A outer s H vs Q E hr h => ?_)
  have hu := hu_of hr
  obtain ⟨p, dx, x, y, q, dq, x2, y2, rfl, hp, hq, k⟩ := h
  refine ⟨_, (pss_one (ps_ret (pe_and (pe_callB call_isi (by rfl) T.z_isinstance (by decide +kernel) (pa_cons (pv 1) (pa_cons (pe_glob (v := .ref ad.c_Arrow) (by rfl) T.g_Arrow rfl) pa_nil))) (pe_and (pe_cmpR op_eq (pe_fld (pv 0) rfl) (pe_fld (pv 1) rfl) (nomark _)) (pe_one (pe_cmpR op_eq (pe_fld (pv 0) rfl) (pe_fld (pv 1) rfl) (nomark _))))))), ?_⟩
  try simp only [cxK, cxK2]
  rw [st_Arrow_eq]
  refine ⟨_, rfl, .ref q, .ref ad.c_Arrow, _, _, true, rfl, .own _, ty_arrow (P := P) (w := w) T hq, T.ik_Arrow, true, rfl, iteT ?_⟩
  refine ⟨_, rfl, p, _, _, _, _, rfl, hp, T.cl_Arrow, T.na_Arrow_x, ArrowF_x, _, rfl, q, _, _, _, _, rfl, hq, T.cl_Arrow, T.na_Arrow_x, ArrowF_x, rfl, _, rfl, ?_⟩
  have e1 : decide (V.int x = V.int x2) = decide (x = x2) := by simp
  have e2 : decide (V.int y = V.int y2) = decide (y = y2) := by simp
  rw [e1]
  by_cases e : x = x2
  · rw [decide_eq_true e] at k ⊢
    refine iteT ⟨_, rfl, p, _, _, _, _, rfl, hp, T.cl_Arrow, T.na_Arrow_y, ArrowF_y, _, rfl, q, _, _, _, _, rfl, hq, T.cl_Arrow, T.na_Arrow_y, ArrowF_y, rfl, ?_⟩
    rw [e2]
    exact k
  · rw [decide_eq_false e] at k ⊢
    exact iteF k
end
def sp_law_pool (K : PySem.W.Frag) (ad : Ad) : Sp := fun vs H Q _ => ∃ (a : Addr) (ns : List Int), vs = [.ref a] ∧ SqL K H a (ns.map V.int) ∧ ns.length ≤ 63 ∧
  ∀ p ms H', H p = none → Sub H H' → H' p = some (pool ms) → PoolOk ms → Q (.ref p) H'
/-- what the pool's list holds between two turns -/
structure PlAt (H : Hp) (o : Addr) (n : Nat) (ms : List Int) (H' : Hp) : Prop where
  sub : Sub H H'
  at_ : H' o = some (pool ms)
  len : ms.length ≤ n
  rng : ∀ x ∈ ms, 0 ≤ x ∧ x < 4096
theorem PlAt.add {H H' : Hp} {o : Addr} {n : Nat} {ms : List Int} {x : Int} (h : PlAt H o n ms H') (no : H o = none) (h0 : 0 ≤ x) (h1 : x < 4096) : PlAt H o (n + 1) (ms ++ [x]) (upd H' o (.lst (ms.map V.int ++ [V.int x]))) := by
  refine ⟨fun a u e => ?_, ?_, ?_, fun y hy => ?_⟩
  · rw [upd_ne (ne_of_none e no)]; exact h.sub a u e
  · rw [upd_same]
    show some (HO.lst (List.map V.int ms ++ [V.int x])) = some (HO.lst ((ms ++ [x]).map V.int))
    rw [List.map_append]; rfl
  · have := h.len; rw [List.length_append, List.length_singleton]; omega
  · rcases List.mem_append.mp hy with hy | hy
    · exact h.rng y hy
    · rw [List.mem_singleton] at hy; subst hy; exact ⟨h0, h1⟩
theorem PlAt.mono {H H' : Hp} {o : Addr} {n m : Nat} {ms : List Int} (h : PlAt H o n ms H') (l : n ≤ m) : PlAt H o m ms H' := ⟨h.sub, h.at_, Nat.le_trans h.len l, h.rng⟩
theorem PlAt.ne {H H' : Hp} {o c : Addr} {n : Nat} {ms : List Int} (h : PlAt H o n ms H') (no : H o = none) {xs : List V} (e : H c = some (.lst xs)) : c ≠ o := ne_of_none e no
theorem fmod_rng (x m : Int) (hm : 0 < m) : 0 ≤ x.fmod m ∧ x.fmod m < m := by
  rw [Int.fmod_eq_emod_of_nonneg _ (by omega)]
  exact ⟨Int.emod_nonneg _ (by omega), Int.emod_lt_of_pos _ hm⟩
theorem nab62 {x : Int} (h0 : 0 ≤ x) (h1 : x < 4611686018427387904) : x.natAbs < 2 ^ 62 := by
  have e : (2 : Nat) ^ 62 = 4611686018427387904 := by decide
  rw [e]; omega
theorem st_law_pool (a0 : V) : start ["_law_script", "_law_pool_here", "_law_cell", "_law_rest", "_law_k", "_law_mixed"] [a0] = [some a0, none, none, none, none, none] := rfl
section
variable {P : Program} {w : World} {K : PySem.W.Frag} {mg : Str → Option Value} {base : Heap} {ad : Ad}
theorem ok_law_pool (T : Txt K mg ad) : FnOk P w K mg base CX0 1 ad.f_law_pool ad.d_law_pool ["_law_script"] (sp_law_pool K ad) := by
  refine T.F_law_pool.ok sc_law_pool (fun vs H Q E h => by obtain ⟨a, ns, rfl, _⟩ := h; rfl) (fun cdv A outer s H vs Q E hr h => ?_)
  have hu := hu_of hr
  obtain ⟨a, ns, rfl, hS, hlen, k⟩ := h
  refine ⟨_, (pss_cons (ps_set (i := 1) sc_law_pool.nd rfl (by first | exact Or.inl rfl | exact Or.inr rfl) (pe_lst pa_nil))
      (pss_cons (ps_for PassesOwn.never rfl (pi_list (pe_slice sl_list (pv 0) po_none (po_some pe_int))) (pg_name (i := 2) sc_law_pool.nd rfl (by first | exact Or.inl rfl | exact Or.inr rfl))
      (pss_cons (ps_set (i := 3) sc_law_pool.nd rfl (by first | exact Or.inl rfl | exact Or.inr rfl) (pe_callB call_abs (by rfl) T.z_abs (by decide +kernel) (pa_cons (pv 2) pa_nil)))
      (pss_one (ps_if (pt_cmpR op_lt (pv 3) (pe_op op_pow pe_int pe_int) (nomark _)) (pss_one (ps_for PassesOwn.never rfl (pi_range1 rfl T.z_range (pa_cons pe_int pa_nil)) (pg_name (i := 4) sc_law_pool.nd rfl (by first | exact Or.inl rfl | exact Or.inr rfl))
      (pss_cons (ps_set (i := 5) sc_law_pool.nd rfl (by first | exact Or.inl rfl | exact Or.inr rfl) (pe_op op_modN (pe_op op_mulW (pe_op op_mulW (pe_op op_add (pv 3) pe_int) (pe_op op_add (pv 4) pe_int)) pe_int) pe_int))
      (pss_one (ps_expr (pe_bm PySem.F.plainAttrs_list PySem.F.slot_list_append PySem.F.type_list_append mt_append (pv 1) (pa_cons (pe_op op_modN (pe_op op_fdivW (pe_op op_modN (pe_op op_mulW (pv 5) pe_int) pe_int) pe_int) pe_int) pa_nil))))))) (pss_one (ps_for PassesOwn.never rfl (pi_range1 rfl T.z_range (pa_cons pe_int pa_nil)) (pg_name (i := 4) sc_law_pool.nd rfl (by first | exact Or.inl rfl | exact Or.inr rfl))
      (pss_one (ps_if (pt_cmpR op_gt (pv 3) pe_int (nomark _)) (pss_cons (ps_expr (pe_bm PySem.F.plainAttrs_list PySem.F.slot_list_append PySem.F.type_list_append mt_append (pv 1) (pa_cons (pe_op op_modN (pe_callTy call_int1 (by rfl) T.z_int (by decide +kernel) (pa_cons (pv 3) pa_nil)) pe_int) pa_nil)))
      (pss_one (ps_set (i := 3) sc_law_pool.nd rfl (by first | exact Or.inl rfl | exact Or.inr rfl) (pe_op op_fdivW (pv 3) pe_int)))) pss_nil))))))))
      (pss_one (ps_ret (pv 1))))), ?_⟩
  try simp only [cxK, cxK2]
  rw [st_law_pool]
  -- _law_pool_here = []
  refine ⟨Nat.zero_le _, fun o no => ?_⟩
  have s1 : Sub H (upd H o (.lst [])) := Sub.new no
  -- for _law_cell in _law_script[:63]
  refine ⟨.ref a, rfl, 63, rfl, a, ns.map V.int, rfl, s1.seq hS, fun c nc => ?_⟩
  have hco : c ≠ o := fun e => by rw [e, upd_same] at nc; cases nc
  have nc0 : H c = none := by rw [upd_ne hco] at nc; exact nc
  have ecut : cutV (ns.map V.int) none (some 63) = ns.map V.int := by
    unfold cutV
    rw [HT.sIx_none, show HT.sIx (ns.map V.int).length (ns.map V.int).length (some 63) = min 63 (ns.map V.int).length from HT.sIx_nat _ _ 63, List.drop_zero, Nat.sub_zero]
    exact List.take_of_length_le (by rw [List.length_map]; omega)
  rw [ecut]
  refine ⟨c, rfl, ⟨_, .inl (.inl upd_same)⟩, for_list (xs := ns.map V.int) (fun i σ H' => ∃ y2 y3 y4 y5 ms, σ = [some (.ref a), some (.ref o), y2, y3, y4, y5] ∧ H' c = some (.lst (ns.map V.int)) ∧ PlAt H o (60 * i) ms H') ?_ (fun i σ H' _ hW => ?_) (fun i x σ H' hx hW => ?_) (fun σ H' hW => ?_)⟩
  · refine ⟨none, none, none, none, [], rfl, upd_same, ⟨s1.trans (Sub.new nc), ?_, Nat.zero_le _, fun x hx => nomatch hx⟩⟩
    rw [upd_ne hco.symm, upd_same]; rfl
  · obtain ⟨_, _, _, _, _, _, ec, _⟩ := hW
    exact .inl (.inl ec)
  · obtain ⟨y2, y3, y4, y5, ms, rfl, ec, W⟩ := hW
    obtain ⟨z, rfl⟩ : ∃ z, x = .int z := by
      rw [List.getElem?_map] at hx
      cases e : ns[i]? with
      | none => rw [e] at hx; cases hx
      | some z => rw [e] at hx; cases hx; exact ⟨z, rfl⟩
    -- _law_rest = abs(_law_cell)
    refine ⟨_, rfl, z, rfl, ?_⟩
    generalize hr0 : (if z < 0 then -z else z) = r
    have r0 : 0 ≤ r := by rw [← hr0]; split <;> omega
    -- if _law_rest < 10 ** 18
    refine ⟨_, rfl, _, _, rfl, rfl, ⟨by decide, by decide, by decide⟩, _, _, rfl, rfl, _, rfl, ite2 (fun e => ?_) (fun e => ?_)⟩
    · have r1 : r < 10 ^ 18 := of_decide_eq_true e
      -- for _law_k in range(40)
      refine ⟨40, rfl, by decide, by decide, for_range (lo := 0) (n := 40) (fun j σ H' => ∃ y4 y5 ms, σ = [some (.ref a), some (.ref o), some (.int z), some (.int r), y4, y5] ∧ H' c = some (.lst (ns.map V.int)) ∧ PlAt H o (60 * i + j) ms H') ?_ (fun j σ H' hj hW => ?_) (fun σ H' hW => ?_)⟩
      · exact ⟨y4, y5, ms, rfl, ec, W⟩
      · obtain ⟨y4, y5, ms, rfl, ec, W⟩ := hW
        -- _law_mixed = ..
        refine ⟨_, rfl, _, _, rfl, rfl, _, rfl, _, _, rfl, rfl, _, _, rfl, rfl, ?_, ?_⟩
        · exact wide_mul (a := 62) (b := 62) (nab62 (by omega) (by omega)) (nab62 (by omega) (by omega)) (by decide) (by decide) (by decide)
        refine ⟨_, _, rfl, rfl, ?_, ?_⟩
        · exact wide_mul (a := 124) (b := 62) (wide_lt (nab62 (by omega) (by omega)) (nab62 (by omega) (by omega))) (by decide) (by decide) (by decide) (by decide)
        refine ⟨_, _, rfl, rfl, (by show (2147483647 : Int) ≠ 0; decide), ?_⟩
        have q0 := fmod_rng ((r + 1) * ((0 : Int) + j + 3) * 48271) 2147483647 (by decide)
        -- _law_pool_here.append(..)
        refine ⟨_, rfl, .inl ⟨rfl, _, SqL.of W.at_⟩, _, rfl, _, _, rfl, rfl, ?_, _, _, rfl, rfl, (by show (2147483629 : Int) ≠ 0; decide), _, _, rfl, rfl, ⟨(by show (0 : Int) < 5; decide), (by show (5 : Int).natAbs.log2 < 9000; decide)⟩, _, _, rfl, rfl, (by show (4096 : Int) ≠ 0; decide), ?_⟩
        · exact wide_mul (a := 62) (b := 62) (nab62 q0.1 (Int.lt_trans q0.2 (by decide))) (by decide) (by decide) (by decide) (by decide)
        have vr := fmod_rng (((((r + 1) * ((0 : Int) + j + 3) * 48271).fmod 2147483647) * 69621).fmod 2147483629 / 5) 4096 (by decide)
        refine ⟨o, _, _, rfl, rfl, W.at_, ?_, ?_⟩
        · rw [List.length_map]; exact Nat.lt_of_le_of_lt W.len (by have : i < (ns.map V.int).length := (List.getElem?_eq_some_iff.mp hx).1; rw [List.length_map] at this; exact Nat.lt_of_lt_of_le (show 60 * i + j < 10000 by omega) (by decide))
        · refine ⟨_, _, _, rfl, ?_, W.add no vr.1 vr.2⟩
          rw [upd_ne hco]; exact ec
      · obtain ⟨y4, y5, ms, rfl, ec, W⟩ := hW
        exact ⟨_, _, y4, y5, ms, rfl, ec, W.mono (by omega)⟩
    · -- for _law_k in range(60)
      refine ⟨60, rfl, by decide, by decide, for_range (lo := 0) (n := 60) (fun j σ H' => ∃ r y4 y5 ms, σ = [some (.ref a), some (.ref o), some (.int z), some (.int r), y4, y5] ∧ H' c = some (.lst (ns.map V.int)) ∧ PlAt H o (60 * i + j) ms H') ?_ (fun j σ H' hj hW => ?_) (fun σ H' hW => ?_)⟩
      · exact ⟨r, y4, y5, ms, rfl, ec, W⟩
      · obtain ⟨r, y4, y5, ms, rfl, ec, W⟩ := hW
        refine ⟨_, rfl, _, _, rfl, rfl, _, rfl, ite2 (fun e => ?_) (fun e => ?_)⟩
        · refine ⟨_, rfl, .inl ⟨rfl, _, SqL.of W.at_⟩, _, rfl, .inl ⟨_, rfl, _, _, rfl, rfl, (by show (4096 : Int) ≠ 0; decide), ?_⟩⟩
          have vr := fmod_rng r 4096 (by decide)
          refine ⟨o, _, _, rfl, rfl, W.at_, ?_, ?_⟩
          · rw [List.length_map]; exact Nat.lt_of_le_of_lt W.len (by have : i < (ns.map V.int).length := (List.getElem?_eq_some_iff.mp hx).1; rw [List.length_map] at this; exact Nat.lt_of_lt_of_le (show 60 * i + j < 10000 by omega) (by decide))
          · refine ⟨_, rfl, _, _, rfl, rfl, ⟨(by show (0 : Int) < 4096; decide), (by show (4096 : Int).natAbs.log2 < 9000; decide)⟩, ?_⟩
            refine ⟨_, _, _, _, rfl, ?_, W.add no vr.1 vr.2⟩
            rw [upd_ne hco]; exact ec
        · exact ⟨r, _, y5, ms, rfl, ec, W.mono (by omega)⟩
      · obtain ⟨r, y4, y5, ms, rfl, ec, W⟩ := hW
        exact ⟨_, _, y4, y5, ms, rfl, ec, W.mono (by omega)⟩
  · obtain ⟨y2, y3, y4, y5, ms, rfl, ec, W⟩ := hW
    rw [List.length_map] at W
    refine ⟨.ref o, rfl, k o ms H' no W.sub W.at_ ⟨?_, W.rng⟩⟩
    have := W.len
    omega
end
def sp_law_take (K : PySem.W.Frag) (ad : Ad) : Sp := fun vs H Q _ => ∃ p ms m, vs = [.ref p, .int m] ∧ H p = some (pool ms) ∧ PoolOk ms ∧ 0 < m ∧
  ∀ H', Chg p H H' → H' p = some (pool ms.tail) → Q (.int (tkv ms m)) H'
theorem eqv_nil : ∀ ms : List Int, PyData.eqv (.list (ms.map PyData.int)) (.list []) = ms.isEmpty
  | [] => rfl
  | _ :: _ => rfl
theorem dpI {K : PySem.W.Frag} {H : Hp} : ∀ ms : List Int, DpAll K H (ms.map V.int) (ms.map PyData.int)
  | [] => .nil
  | _ :: r => .cons (.int _) (dpI r)
theorem shapedI : ∀ ms : List Int, SeqAt.shaped (.list (ms.map PyData.int)) = true
  | [] => rfl
  | _ :: r => by
    have h := shapedI r
    exact h
theorem st_law_take (a0 a1 : V) : start ["_law_pool_here", "_law_many"] [a0, a1] = [some a0, some a1] := rfl
section
variable {P : Program} {w : World} {K : PySem.W.Frag} {mg : Str → Option Value} {base : Heap} {ad : Ad}
theorem ok_law_take (T : Txt K mg ad) : FnOk P w K mg base CX0 1 ad.f_law_take ad.d_law_take ["_law_pool_here", "_law_many"] (sp_law_take K ad) := by
  refine T.F_law_take.ok sc_law_take (fun vs H Q E h => by obtain ⟨p, ms, m, rfl, _⟩ := h; rfl) (fun cdv A outer s H vs Q E hr h => ?_)
  have hu := hu_of hr
  obtain ⟨p, ms, m, rfl, hp, ok, hm, k⟩ := h
  refine ⟨_, (pss_cons (ps_if (pt_cmpR (op_eqD hr.units) (pv 0) (pe_lst pa_nil) (nomark _)) (pss_one (ps_ret pe_int)) pss_nil)
      (pss_one (ps_ret (pe_op op_modN (pe_callTy call_int1 (by rfl) T.z_int (by decide +kernel) (pa_cons (pe_bm PySem.F.plainAttrs_list PySem.F.slot_list_pop PySem.F.type_list_pop mt_popAt (pv 0) (pa_cons pe_int pa_nil)) pa_nil)) (pv 1))))), ?_⟩
  try simp only [cxK, cxK2]
  rw [st_law_take]
  -- if _law_pool_here == []
  refine ⟨_, rfl, Nat.zero_le _, fun o no => ?_⟩
  have hpo : p ≠ o := ne_of_none hp no
  have hp1 : (upd H o (.lst [])) p = some (pool ms) := by rw [upd_ne hpo]; exact hp
  refine ⟨.list (ms.map PyData.int), .list [], .lst (SqL.of hp1) (dpI ms), .lst (SqL.of upd_same) .nil, shapedI ms, rfl, _, rfl, ?_⟩
  rw [eqv_nil]
  cases ms with
  | nil =>
    refine iteT ?_
    exact k _ (Chg.new no) hp1
  | cons n r =>
    refine iteF ?_
    refine ⟨_, rfl, .inl ⟨rfl, _, SqL.of hp1⟩, p, _, 0, 0, _, rfl, rfl, hp1, by decide, by decide, (by simp [seqIndex?, List.length_cons] <;> omega), rfl, ?_⟩
    refine .inl ⟨n, rfl, _, rfl, _, _, rfl, rfl, by omega, ?_⟩
    exact k _ ((Chg.new no).trans Chg.put) upd_same
end
def sp_law_whole (K : PySem.W.Frag) (ad : Ad) : Sp := fun vs H Q _ => ∃ n, vs = [.int n] ∧ Q (.bl true) H
theorem kit_ii {K : PySem.W.Frag} : PySem.W.kitOne K (.type "int") (.type "int") = some true := kit_ty (by decide +kernel)
theorem kit_ib {K : PySem.W.Frag} : PySem.W.kitOne K (.type "int") (.type "bool") = some false := kit_ty (by decide +kernel)
theorem st_law_whole (a0 : V) : start ["_law_x"] [a0] = [some a0] := rfl
section
variable {P : Program} {w : World} {K : PySem.W.Frag} {mg : Str → Option Value} {base : Heap} {ad : Ad}
theorem ok_law_whole (T : Txt K mg ad) : FnOk P w K mg base CX0 1 ad.f_law_whole ad.d_law_whole ["_law_x"] (sp_law_whole K ad) := by
  refine T.F_law_whole.ok sc_law_whole (fun vs H Q E h => by obtain ⟨n, rfl, _⟩ := h; rfl) (fun cdv A outer s H vs Q E hr h => ?_)
  have hu := hu_of hr
  obtain ⟨n, rfl, k⟩ := h
  refine ⟨_, (pss_one (ps_ret (pe_and (pe_callB call_isi (by rfl) T.z_isinstance (by decide +kernel) (pa_cons (pv 0) (pa_cons (pe_bltn (v := .ty "int") (by rfl) T.z_int (by decide +kernel) rfl) pa_nil))) (pe_one (pe_not (pe_callB call_isi (by rfl) T.z_isinstance (by decide +kernel) (pa_cons (pv 0) (pa_cons (pe_bltn (v := .ty "bool") (by rfl) T.z_bool (by decide +kernel) rfl) pa_nil)))))))), ?_⟩
  try simp only [cxK, cxK2]
  rw [st_law_whole]
  refine ⟨_, rfl, .int n, .ty "int", _, _, true, rfl, .ty _, .base (.int n), kit_ii, true, rfl, iteT ?_⟩
  exact ⟨_, rfl, .int n, .ty "bool", _, _, false, rfl, .ty _, .base (.int n), kit_ib, false, rfl, k⟩
end
def sp_law_number (K : PySem.W.Frag) (ad : Ad) : Sp := fun vs H Q _ => ∃ p ms, vs = [.ref p] ∧ H p = some (pool ms) ∧ PoolOk ms ∧
  ∀ v ms' H', Chg p H H' → H' p = some (pool ms') → PoolOk ms' → v.natAbs < 2 ^ 192 → Q (.int v) H'
theorem p4096 {n : Int} {i : Nat} (h0 : 0 ≤ n) (h : n < 4096 ^ i) (hi : i ≤ 16) : n.natAbs < 2 ^ 192 := by
  have e1 : (4096 : Nat) ^ i ≤ 4096 ^ 16 := Nat.pow_le_pow_right (by decide) hi
  have e2 : (4096 : Nat) ^ 16 = 2 ^ 192 := by decide +kernel
  have e3 : ((4096 ^ i : Nat) : Int) = (4096 : Int) ^ i := Int.natCast_pow 4096 i
  rw [← e3] at h
  rw [e2] at e1
  generalize (4096 : Nat) ^ i = z at h e1
  generalize (2 : Nat) ^ 192 = u at e1 ⊢
  omega
theorem st_law_number (a0 : V) : start ["_law_pool_here", "_law_kind", "_law_number_here", "_law_k"] [a0] = [some a0, none, none, none] := rfl
section
variable {P : Program} {w : World} {K : PySem.W.Frag} {mg : Str → Option Value} {base : Heap} {ad : Ad}
theorem ok_law_number (T : Txt K mg ad) : FnOk P w K mg base CX0 2 ad.f_law_number ad.d_law_number ["_law_pool_here"] (sp_law_number K ad) := by
  refine T.F_law_number.ok sc_law_number (fun vs H Q E h => by obtain ⟨p, ms, rfl, _⟩ := h; rfl) (fun cdv A outer s H vs Q E hr h => ?_)
  have hu := hu_of hr
  obtain ⟨p, ms, rfl, hp, ok, k⟩ := h
  refine ⟨_, (pss_cons (ps_set (i := 1) sc_law_number.nd rfl (by first | exact Or.inl rfl | exact Or.inr rfl) (pe_call (ok_law_take (P := P) (w := w) (K := K) (mg := mg) (base := base) T) (hr.mono (by decide)) (by rfl) T.g_law_take T.F_law_take.kp T.B_law_take .nil pass0 (pa_cons (pv 0) (pa_cons pe_int pa_nil))))
      (pss_cons (ps_if (pt_cmpR op_eq (pv 1) pe_int (nomark _)) (pss_one (ps_ret (pe_op op_sub (pe_call (ok_law_take (P := P) (w := w) (K := K) (mg := mg) (base := base) T) (hr.mono (by decide)) (by rfl) T.g_law_take T.F_law_take.kp T.B_law_take .nil pass0 (pa_cons (pv 0) (pa_cons pe_int pa_nil))) pe_int))) pss_nil)
      (pss_cons (ps_set (i := 2) sc_law_number.nd rfl (by first | exact Or.inl rfl | exact Or.inr rfl) pe_int)
      (pss_cons (ps_for PassesOwn.never rfl (pi_range1 rfl T.z_range (pa_cons (pe_call (ok_law_take (P := P) (w := w) (K := K) (mg := mg) (base := base) T) (hr.mono (by decide)) (by rfl) T.g_law_take T.F_law_take.kp T.B_law_take .nil pass0 (pa_cons (pv 0) (pa_cons pe_int pa_nil))) pa_nil)) (pg_name (i := 3) sc_law_number.nd rfl (by first | exact Or.inl rfl | exact Or.inr rfl))
      (pss_one (ps_set (i := 2) sc_law_number.nd rfl (by first | exact Or.inl rfl | exact Or.inr rfl) (pe_op op_add (pe_op op_mulW (pv 2) pe_int) (pe_call (ok_law_take (P := P) (w := w) (K := K) (mg := mg) (base := base) T) (hr.mono (by decide)) (by rfl) T.g_law_take T.F_law_take.kp T.B_law_take .nil pass0 (pa_cons (pv 0) (pa_cons pe_int pa_nil)))))))
      (pss_cons (ps_if (pt_cmpR op_eq (pv 1) pe_int (nomark _)) (pss_one (ps_ret (pe_un un_neg (pv 2)))) pss_nil)
      (pss_one (ps_ret (pv 2)))))))), ?_⟩
  try simp only [cxK, cxK2]
  rw [st_law_number]
  -- _law_kind = _law_take(_law_pool_here, 3)
  refine ⟨_, rfl, p, ms, 3, rfl, hp, ok, by decide, fun H1 c1 e1 => ?_⟩
  have ok1 := ok.tail
  have k3 := tkv_rng (ms := ms) (show (0 : Int) < 3 by decide)
  generalize tkv ms 3 = kd at k3 ⊢
  generalize ms.tail = ms1 at e1 ok1
  -- if _law_kind == 0
  refine ⟨_, rfl, rfl, _, rfl, ite2 (fun e => ?_) (fun e => ?_)⟩
  · refine ⟨_, rfl, p, ms1, 25, rfl, e1, ok1, by decide, fun H2 c2 e2 => ⟨_, _, rfl, rfl, ?_⟩⟩
    have r := tkv_rng (ms := ms1) (show (0 : Int) < 25 by decide)
    refine k _ _ H2 (c1.trans c2) e2 ok1.tail (Nat.lt_of_lt_of_le (show (tkv ms1 25 - 12).natAbs < 2 ^ 5 by omega) (Nat.pow_le_pow_right (by decide) (by decide)))
  · -- _law_number_here = 0; for _law_k in range(_law_take(_law_pool_here, 17))
    refine ⟨_, rfl, p, ms1, 17, rfl, e1, ok1, by decide, fun H2 c2 e2 => ?_⟩
    have r := tkv_rng (ms := ms1) (show (0 : Int) < 17 by decide)
    have ok2 := ok1.tail
    generalize tkv ms1 17 = tn at r ⊢
    generalize ms1.tail = ms2 at e2 ok2
    refine ⟨tn, rfl, by omega, by omega, for_range (lo := 0) (n := tn.toNat) (fun i σ H' => ∃ y3 n ms', σ = [some (.ref p), some (.int kd), some (.int n), y3] ∧ Chg p H H' ∧ H' p = some (pool ms') ∧ PoolOk ms' ∧ 0 ≤ n ∧ n < 4096 ^ i) ?_ (fun i σ H' hi hW => ?_) (fun σ H' hW => ?_)⟩
    · exact ⟨none, 0, ms2, rfl, c1.trans c2, e2, ok2, by decide, by decide⟩
    · obtain ⟨y3, n, ms', rfl, c', e', ok', n0, n1⟩ := hW
      have hi16 : i ≤ 16 := by omega
      refine ⟨_, rfl, _, _, rfl, rfl, ?_, ?_⟩
      · exact wide_mul (a := 192) (b := 62) (p4096 n0 n1 hi16) (by decide) (by decide) (by decide) (by decide)
      refine ⟨_, rfl, p, ms', 4096, rfl, e', ok', by decide, fun H3 c3 e3 => ⟨_, _, rfl, rfl, ?_⟩⟩
      have q := tkv_rng (ms := ms') (show (0 : Int) < 4096 by decide)
      refine ⟨_, _, _, rfl, c'.trans c3, e3, ok'.tail, by omega, ?_⟩
      rw [Int.pow_succ]
      generalize (4096 : Int) ^ i = z at n1 ⊢
      omega
    · obtain ⟨y3, n, ms', rfl, c', e', ok', n0, n1⟩ := hW
      have b := p4096 n0 n1 (show tn.toNat ≤ 16 by omega)
      -- if _law_kind == 1
      refine ⟨_, rfl, rfl, _, rfl, ite2 (fun e => ?_) (fun e => ?_)⟩
      · exact ⟨_, rfl, n, rfl, k _ _ H' c' e' ok' (by rw [Int.natAbs_neg]; exact b)⟩
      · exact ⟨_, rfl, k _ _ H' c' e' ok' b⟩
end
def sp_law_is_arrow (K : PySem.W.Frag) (ad : Ad) : Sp := fun vs H Q _ => ∃ p dx x y x2 y2, vs = [.ref p, .int x2, .int y2] ∧ H p = some (arrow ad dx x y) ∧ ∃ b, (decide (x = x2) && decide (y = y2)) = b ∧ Q (.bl b) H
theorem st_law_is_arrow (a0 a1 a2 : V) : start ["_law_arrow", "_law_x", "_law_y"] [a0, a1, a2] = [some a0, some a1, some a2] := rfl
section
variable {P : Program} {w : World} {K : PySem.W.Frag} {mg : Str → Option Value} {base : Heap} {ad : Ad}
theorem ok_law_is_arrow (T : Txt K mg ad) : FnOk P w K mg base CX0 2 ad.f_law_is_arrow ad.d_law_is_arrow ["_law_arrow", "_law_x", "_law_y"] (sp_law_is_arrow K ad) := by
  refine T.F_law_is_arrow.ok sc_law_is_arrow (fun vs H Q E h => by obtain ⟨p, dx, x, y, x2, y2, rfl, _⟩ := h; rfl) (fun cdv A outer s H vs Q E hr h => ?_)
  have hu := hu_of hr
  obtain ⟨p, dx, x, y, x2, y2, rfl, hp, b, eb, k⟩ := h
  rw [← eb] at k
  refine ⟨_, (pss_cons (ps_if (PW.pt (pw_or (pt_not (pt_val (pe_callB call_isi (by rfl) T.z_isinstance (by decide +kernel) (pa_cons (pv 0) (pa_cons (pe_glob (v := .ref ad.c_Arrow) (by rfl) T.g_Arrow rfl) pa_nil))))) (pw_or (pt_not (pt_val (pe_call (ok_law_whole (P := P) (w := w) (K := K) (mg := mg) (base := base) T) (hr.mono (by decide)) (by rfl) T.g_law_whole T.F_law_whole.kp T.B_law_whole .nil pass0 (pa_cons (pe_fld (pv 0) rfl) pa_nil)))) (pw_or1 (pt_not (pt_val (pe_call (ok_law_whole (P := P) (w := w) (K := K) (mg := mg) (base := base) T) (hr.mono (by decide)) (by rfl) T.g_law_whole T.F_law_whole.kp T.B_law_whole .nil pass0 (pa_cons (pe_fld (pv 0) rfl) pa_nil)))))))) (pss_one (ps_ret pe_bl)) pss_nil)
      (pss_one (ps_ret (pe_and (pe_cmpR op_eq (pe_fld (pv 0) rfl) (pv 1) (nomark _)) (pe_one (pe_cmpR op_eq (pe_fld (pv 0) rfl) (pv 2) (nomark _))))))), ?_⟩
  try simp only [cxK, cxK2]
  rw [st_law_is_arrow]
  refine ⟨_, rfl, .ref p, .ref ad.c_Arrow, _, _, true, rfl, .own _, ty_arrow (P := P) (w := w) T hp, T.ik_Arrow, true, rfl, iteF ?_⟩
  refine ⟨_, rfl, p, _, _, _, _, rfl, hp, T.cl_Arrow, T.na_Arrow_x, ArrowF_x, x, rfl, true, rfl, iteF ?_⟩
  refine ⟨_, rfl, p, _, _, _, _, rfl, hp, T.cl_Arrow, T.na_Arrow_y, ArrowF_y, y, rfl, true, rfl, iteF ?_⟩
  refine ⟨_, rfl, p, _, _, _, _, rfl, hp, T.cl_Arrow, T.na_Arrow_x, ArrowF_x, _, rfl, rfl, _, rfl, ?_⟩
  have e1 : decide (V.int x = V.int x2) = decide (x = x2) := by simp
  have e2 : decide (V.int y = V.int y2) = decide (y = y2) := by simp
  rw [e1]
  by_cases e : x = x2
  · rw [decide_eq_true e] at k ⊢
    refine iteT ⟨_, rfl, p, _, _, _, _, rfl, hp, T.cl_Arrow, T.na_Arrow_y, ArrowF_y, _, rfl, rfl, ?_⟩
    rw [e2]
    exact k
  · rw [decide_eq_false e] at k ⊢
    exact iteF k
end
def sp_law (K : PySem.W.Frag) : Sp := fun vs H Q _ => ∃ (a : Addr) (ns : List Int), vs = [.ref a] ∧ SqL K H a (ns.map V.int) ∧ ns.length ≤ 63 ∧ ∀ H', Q (.bl true) H'
theorem kit_bb {K : PySem.W.Frag} : PySem.W.kitOne K (.type "bool") (.type "bool") = some true := kit_ty (by decide +kernel)
theorem dd (a b : Int) : (decide (a = a) && decide (b = b)) = true := by simp
theorem mulW {a b : Int} (ha : a.natAbs < 2 ^ 192) (hb : b.natAbs < 2 ^ 192) : CMulW a b := wide_mul (a := 192) (b := 192) ha hb (by decide) (by decide) (by decide)
theorem eqv_tt (x y z w : Int) : PyData.eqv (.tuple [.int x, .int y]) (.tuple [.int z, .int w]) = (decide (x = z) && decide (y = w)) := by
  simp only [PyData.eqv, PyData.eqvAll, Bool.and_true]
  rfl
theorem st_law (a0 : V) : start ["_law_script", "_law_pool_here", "_law_x", "_law_y", "_law_z", "_law_w", "_law_k", "_law_kind", "_law_a", "_law_b", "_law_good", "_law_dot", "_law_cross", "_law_same"] [a0] = [some a0, none, none, none, none, none, none, none, none, none, none, none, none, none] := rfl
section
variable {P : Program} {w : World} {K : PySem.W.Frag} {mg : Str → Option Value} {base : Heap} {ad : Ad}
theorem ok_law (T : Txt K mg ad) : FnOk P w K mg base CX0 4 ad.f_law ad.d_law ["_law_script"] (sp_law K) := by
  refine T.F_law.ok sc_law (fun vs H Q E h => by obtain ⟨a, ns, rfl, _⟩ := h; rfl) (fun cdv A outer s H vs Q E hr h => ?_)
  have hu := hu_of hr
  obtain ⟨a, ns, rfl, hS, hlen, k⟩ := h
  refine ⟨_, (pss_cons (ps_set (i := 1) sc_law.nd rfl (by first | exact Or.inl rfl | exact Or.inr rfl) (pe_call (ok_law_pool (P := P) (w := w) (K := K) (mg := mg) (base := base) T) (hr.mono (by decide)) (by rfl) T.g_law_pool T.F_law_pool.kp T.B_law_pool .nil pass0 (pa_cons (pv 0) pa_nil)))
      (pss_cons (ps_set (i := 2) sc_law.nd rfl (by first | exact Or.inl rfl | exact Or.inr rfl) (pe_call (ok_law_number (P := P) (w := w) (K := K) (mg := mg) (base := base) T) (hr.mono (by decide)) (by rfl) T.g_law_number T.F_law_number.kp T.B_law_number .nil pass0 (pa_cons (pv 1) pa_nil)))
      (pss_cons (ps_set (i := 3) sc_law.nd rfl (by first | exact Or.inl rfl | exact Or.inr rfl) (pe_call (ok_law_number (P := P) (w := w) (K := K) (mg := mg) (base := base) T) (hr.mono (by decide)) (by rfl) T.g_law_number T.F_law_number.kp T.B_law_number .nil pass0 (pa_cons (pv 1) pa_nil)))
      (pss_cons (ps_set (i := 4) sc_law.nd rfl (by first | exact Or.inl rfl | exact Or.inr rfl) (pe_call (ok_law_number (P := P) (w := w) (K := K) (mg := mg) (base := base) T) (hr.mono (by decide)) (by rfl) T.g_law_number T.F_law_number.kp T.B_law_number .nil pass0 (pa_cons (pv 1) pa_nil)))
      (pss_cons (ps_set (i := 5) sc_law.nd rfl (by first | exact Or.inl rfl | exact Or.inr rfl) (pe_call (ok_law_number (P := P) (w := w) (K := K) (mg := mg) (base := base) T) (hr.mono (by decide)) (by rfl) T.g_law_number T.F_law_number.kp T.B_law_number .nil pass0 (pa_cons (pv 1) pa_nil)))
      (pss_cons (ps_set (i := 6) sc_law.nd rfl (by first | exact Or.inl rfl | exact Or.inr rfl) (pe_call (ok_law_number (P := P) (w := w) (K := K) (mg := mg) (base := base) T) (hr.mono (by decide)) (by rfl) T.g_law_number T.F_law_number.kp T.B_law_number .nil pass0 (pa_cons (pv 1) pa_nil)))
      (pss_cons (ps_set (i := 7) sc_law.nd rfl (by first | exact Or.inl rfl | exact Or.inr rfl) (pe_call (ok_law_take (P := P) (w := w) (K := K) (mg := mg) (base := base) T) (hr.mono (by decide)) (by rfl) T.g_law_take T.F_law_take.kp T.B_law_take .nil pass0 (pa_cons (pv 1) (pa_cons pe_int pa_nil))))
      (pss_cons (ps_if (pt_cmpR op_lt (pv 7) pe_int (nomark _)) (pss_one (ps_set (i := 4) sc_law.nd rfl (by first | exact Or.inl rfl | exact Or.inr rfl) (pv 2))) pss_nil)
      (pss_cons (ps_if (pt_cmpR op_lt (pv 7) pe_int (nomark _)) (pss_one (ps_set (i := 5) sc_law.nd rfl (by first | exact Or.inl rfl | exact Or.inr rfl) (pv 3))) pss_nil)
      (pss_cons (ps_set (i := 8) sc_law.nd rfl (by first | exact Or.inl rfl | exact Or.inr rfl) (pe_make T.mk_Arrow (ok_Arrow_init (P := P) (w := w) (K := K) (mg := mg) (base := base) T) (hr.mono (by decide)) (by rfl) T.g_Arrow T.B_Arrow_init .nil pass0 (pa_cons (pv 2) (pa_cons (pv 3) pa_nil))))
      (pss_cons (ps_set (i := 9) sc_law.nd rfl (by first | exact Or.inl rfl | exact Or.inr rfl) (pe_make T.mk_Arrow (ok_Arrow_init (P := P) (w := w) (K := K) (mg := mg) (base := base) T) (hr.mono (by decide)) (by rfl) T.g_Arrow T.B_Arrow_init .nil pass0 (pa_cons (pv 4) (pa_cons (pv 5) pa_nil))))
      (pss_cons (ps_set (i := 10) sc_law.nd rfl (by first | exact Or.inl rfl | exact Or.inr rfl) (pe_lst (pa_cons (pe_call (ok_law_is_arrow (P := P) (w := w) (K := K) (mg := mg) (base := base) T) (hr.mono (by decide)) (by rfl) T.g_law_is_arrow T.F_law_is_arrow.kp T.B_law_is_arrow .nil pass0 (pa_cons (pv 8) (pa_cons (pv 2) (pa_cons (pv 3) pa_nil)))) (pa_cons (pe_call (ok_law_is_arrow (P := P) (w := w) (K := K) (mg := mg) (base := base) T) (hr.mono (by decide)) (by rfl) T.g_law_is_arrow T.F_law_is_arrow.kp T.B_law_is_arrow .nil pass0 (pa_cons (pv 9) (pa_cons (pv 4) (pa_cons (pv 5) pa_nil)))) pa_nil))))
      (pss_cons (ps_expr (pe_bm PySem.F.plainAttrs_list PySem.F.slot_list_append PySem.F.type_list_append mt_append (pv 10) (pa_cons (pe_call (ok_law_is_arrow (P := P) (w := w) (K := K) (mg := mg) (base := base) T) (hr.mono (by decide)) (by rfl) T.g_law_is_arrow T.F_law_is_arrow.kp T.B_law_is_arrow .nil pass0 (pa_cons (pe_op (op_own (ok_Arrow_add (P := P) (w := w) (K := K) (mg := mg) (base := base) T) (hr.mono (by decide)) T.B_Arrow_add pass0 T.sf_Arrow T.m_Arrow_add) (pv 8) (pv 9)) (pa_cons (pe_op op_add (pv 2) (pv 4)) (pa_cons (pe_op op_add (pv 3) (pv 5)) pa_nil)))) pa_nil)))
      (pss_cons (ps_expr (pe_bm PySem.F.plainAttrs_list PySem.F.slot_list_append PySem.F.type_list_append mt_append (pv 10) (pa_cons (pe_call (ok_law_is_arrow (P := P) (w := w) (K := K) (mg := mg) (base := base) T) (hr.mono (by decide)) (by rfl) T.g_law_is_arrow T.F_law_is_arrow.kp T.B_law_is_arrow .nil pass0 (pa_cons (pe_op (op_own (ok_Arrow_sub (P := P) (w := w) (K := K) (mg := mg) (base := base) T) (hr.mono (by decide)) T.B_Arrow_sub pass0 T.sf_Arrow T.m_Arrow_sub) (pv 8) (pv 9)) (pa_cons (pe_op op_sub (pv 2) (pv 4)) (pa_cons (pe_op op_sub (pv 3) (pv 5)) pa_nil)))) pa_nil)))
      (pss_cons (ps_expr (pe_bm PySem.F.plainAttrs_list PySem.F.slot_list_append PySem.F.type_list_append mt_append (pv 10) (pa_cons (pe_call (ok_law_is_arrow (P := P) (w := w) (K := K) (mg := mg) (base := base) T) (hr.mono (by decide)) (by rfl) T.g_law_is_arrow T.F_law_is_arrow.kp T.B_law_is_arrow .nil pass0 (pa_cons (pe_un (un_ownNeg (ok_Arrow_neg (P := P) (w := w) (K := K) (mg := mg) (base := base) T) (hr.mono (by decide)) T.B_Arrow_neg pass0 T.m_Arrow_neg) (pv 8)) (pa_cons (pe_un un_neg (pv 2)) (pa_cons (pe_un un_neg (pv 3)) pa_nil)))) pa_nil)))
      (pss_cons (ps_expr (pe_bm PySem.F.plainAttrs_list PySem.F.slot_list_append PySem.F.type_list_append mt_append (pv 10) (pa_cons (pe_call (ok_law_is_arrow (P := P) (w := w) (K := K) (mg := mg) (base := base) T) (hr.mono (by decide)) (by rfl) T.g_law_is_arrow T.F_law_is_arrow.kp T.B_law_is_arrow .nil pass0 (pa_cons (pe_op (op_ownR (ok_Arrow_rmul (P := P) (w := w) (K := K) (mg := mg) (base := base) T) (hr.mono (by decide)) T.B_Arrow_rmul pass0 T.or_Arrow_mul T.m_Arrow_rmul decl_mul) (pv 6) (pv 8)) (pa_cons (pe_op op_mulW (pv 6) (pv 2)) (pa_cons (pe_op op_mulW (pv 6) (pv 3)) pa_nil)))) pa_nil)))
      (pss_cons (ps_expr (pe_bm PySem.F.plainAttrs_list PySem.F.slot_list_append PySem.F.type_list_append mt_append (pv 10) (pa_cons (pe_call (ok_law_is_arrow (P := P) (w := w) (K := K) (mg := mg) (base := base) T) (hr.mono (by decide)) (by rfl) T.g_law_is_arrow T.F_law_is_arrow.kp T.B_law_is_arrow .nil pass0 (pa_cons (pe_un (un_ownInv (ok_Arrow_invert (P := P) (w := w) (K := K) (mg := mg) (base := base) T) (hr.mono (by decide)) T.B_Arrow_invert pass0 T.m_Arrow_invert) (pv 8)) (pa_cons (pe_un un_neg (pv 3)) (pa_cons (pv 2) pa_nil)))) pa_nil)))
      (pss_cons (ps_set (i := 11) sc_law.nd rfl (by first | exact Or.inl rfl | exact Or.inr rfl) (pe_op (op_own (ok_Arrow_mul (P := P) (w := w) (K := K) (mg := mg) (base := base) T) (hr.mono (by decide)) T.B_Arrow_mul pass0 T.sf_Arrow T.m_Arrow_mul) (pv 8) (pv 9)))
      (pss_cons (ps_set (i := 12) sc_law.nd rfl (by first | exact Or.inl rfl | exact Or.inr rfl) (pe_op (op_own (ok_Arrow_xor (P := P) (w := w) (K := K) (mg := mg) (base := base) T) (hr.mono (by decide)) T.B_Arrow_xor pass0 T.sf_Arrow T.m_Arrow_xor) (pv 8) (pv 9)))
      (pss_cons (ps_expr (pe_bm PySem.F.plainAttrs_list PySem.F.slot_list_append PySem.F.type_list_append mt_append (pv 10) (pa_cons (pe_and (pe_call (ok_law_whole (P := P) (w := w) (K := K) (mg := mg) (base := base) T) (hr.mono (by decide)) (by rfl) T.g_law_whole T.F_law_whole.kp T.B_law_whole .nil pass0 (pa_cons (pv 11) pa_nil)) (pe_one (pe_cmpR op_eq (pv 11) (pe_op op_add (pe_op op_mulW (pv 2) (pv 4)) (pe_op op_mulW (pv 3) (pv 5))) (nomark _)))) pa_nil)))
      (pss_cons (ps_expr (pe_bm PySem.F.plainAttrs_list PySem.F.slot_list_append PySem.F.type_list_append mt_append (pv 10) (pa_cons (pe_and (pe_call (ok_law_whole (P := P) (w := w) (K := K) (mg := mg) (base := base) T) (hr.mono (by decide)) (by rfl) T.g_law_whole T.F_law_whole.kp T.B_law_whole .nil pass0 (pa_cons (pv 12) pa_nil)) (pe_one (pe_cmpR op_eq (pv 12) (pe_op op_sub (pe_op op_mulW (pv 2) (pv 5)) (pe_op op_mulW (pv 3) (pv 4))) (nomark _)))) pa_nil)))
      (pss_cons (ps_set (i := 13) sc_law.nd rfl (by first | exact Or.inl rfl | exact Or.inr rfl) (pe_cmpR (op_cmpOwn hop_eq (ok_Arrow_eq (P := P) (w := w) (K := K) (mg := mg) (base := base) T) (hr.mono (by decide)) T.B_Arrow_eq pass0 T.nf_Arrow T.m_Arrow_eq) (pv 8) (pv 9) (nomark _)))
      (pss_cons (ps_expr (pe_bm PySem.F.plainAttrs_list PySem.F.slot_list_append PySem.F.type_list_append mt_append (pv 10) (pa_cons (pe_and (pe_callB call_isi (by rfl) T.z_isinstance (by decide +kernel) (pa_cons (pv 13) (pa_cons (pe_bltn (v := .ty "bool") (by rfl) T.z_bool (by decide +kernel) rfl) pa_nil))) (pe_one (pe_cmpR op_eq (pv 13) (pe_cmpR (op_eqD hr.units) (pe_tup (pa_cons (pv 2) (pa_cons (pv 3) pa_nil))) (pe_tup (pa_cons (pv 4) (pa_cons (pv 5) pa_nil))) (nomark _)) (nomark _)))) pa_nil)))
      (pss_cons (ps_expr (pe_bm PySem.F.plainAttrs_list PySem.F.slot_list_append PySem.F.type_list_append mt_append (pv 10) (pa_cons (pe_and (pe_call (ok_law_is_arrow (P := P) (w := w) (K := K) (mg := mg) (base := base) T) (hr.mono (by decide)) (by rfl) T.g_law_is_arrow T.F_law_is_arrow.kp T.B_law_is_arrow .nil pass0 (pa_cons (pv 8) (pa_cons (pv 2) (pa_cons (pv 3) pa_nil)))) (pe_one (pe_call (ok_law_is_arrow (P := P) (w := w) (K := K) (mg := mg) (base := base) T) (hr.mono (by decide)) (by rfl) T.g_law_is_arrow T.F_law_is_arrow.kp T.B_law_is_arrow .nil pass0 (pa_cons (pv 9) (pa_cons (pv 4) (pa_cons (pv 5) pa_nil)))))) pa_nil)))
      (pss_one (ps_ret (pe_cmpR op_notIn_seq pe_bl (pv 10) (by rfl)))))))))))))))))))))))))))), ?_⟩
  try simp only [cxK, cxK2]
  rw [st_law]
  refine ⟨_, rfl, a, ns, rfl, hS, hlen, fun p m1 H1 np s1 e1 ok1 => ?_⟩
  refine gs1 ?_
  have A1 := (At.self H).more s1 np e1
  refine ⟨_, rfl, p, m1, rfl, A1.hd, ok1, fun x m2 H2 c2 e2 ok2 bx => ?_⟩
  refine gs2 ?_
  have A2 := A1.chg c2 e2
  refine ⟨_, rfl, p, m2, rfl, A2.hd, ok2, fun y m3 H3 c3 e3 ok3 bY => ?_⟩
  refine gs3 ?_
  have A3 := A2.chg c3 e3
  refine ⟨_, rfl, p, m3, rfl, A3.hd, ok3, fun z0 m4 H4 c4 e4 ok4 bz => ?_⟩
  refine gs4 ?_
  have A4 := A3.chg c4 e4
  refine ⟨_, rfl, p, m4, rfl, A4.hd, ok4, fun w0 m5 H5 c5 e5 ok5 bw => ?_⟩
  refine gs5 ?_
  have A5 := A4.chg c5 e5
  refine ⟨_, rfl, p, m5, rfl, A5.hd, ok5, fun kk m6 H6 c6 e6 ok6 bk => ?_⟩
  refine gs6 ?_
  have A6 := A5.chg c6 e6
  refine ⟨_, rfl, p, m6, 6, rfl, A6.hd, ok6, by decide, fun H7 c7 e7 => ?_⟩
  refine gs7 ?_
  have A7 := A6.chg c7 e7
  clear A1 A2 A3 A4 A5 A6 c2 c3 c4 c5 c6 c7 e1 e2 e3 e4 e5 e6 e7
  refine ⟨_, rfl, _, _, rfl, rfl, _, rfl, ite2 (fun h3 => ?_) (fun h3 => ?_)⟩
  · refine ⟨_, rfl, ?_⟩
    refine gs4 ?_
    refine ⟨_, rfl, _, _, rfl, rfl, _, rfl, ite2 (fun h2 => ?_) (fun h2 => ?_)⟩
    · refine ⟨_, rfl, ?_⟩
      refine gs5 ?_
      have bz' := bx
      have bw' := bY
      -- _law_a, _law_b
      refine ⟨_, rfl, _, rfl, fun ra da nra nda nea => ⟨ra, da, x, y, rfl, upd_same, ?_⟩⟩
      refine ⟨rfl, ?_⟩
      refine gs8 ?_
      have A8 := A7.more (made (o1 := .ins ad.c_Arrow da []) (o2 := arrow ad da x y) nra nda) nra upd_same
      generalize upd (upd (upd H7 da (.own ra)) ra (.ins ad.c_Arrow da [])) ra (arrow ad da x y) = H8 at A8 ⊢
      refine ⟨_, rfl, _, rfl, fun rb db nrb ndb neb => ⟨rb, db, x, y, rfl, upd_same, ?_⟩⟩
      refine ⟨rfl, ?_⟩
      refine gs9 ?_
      have A9 := A8.more (made (o1 := .ins ad.c_Arrow db []) (o2 := arrow ad db x y) nrb ndb) nrb upd_same
      generalize upd (upd (upd H8 db (.own rb)) rb (.ins ad.c_Arrow db [])) rb (arrow ad db x y) = H9 at A9 ⊢
      -- _law_good
      refine ⟨_, rfl, _, rfl, _, rfl, ra, da, x, y, x, y, rfl, A9.h1, true, dd _ _, ?_⟩
      refine ⟨_, rfl, _, rfl, _, rfl, rb, db, x, y, x, y, rfl, A9.hd, true, dd _ _, (by show 2 ≤ sizeLine; decide), fun l nl => ?_⟩
      refine gs10 ?_
      have A10 := A9.new (o := .lst [.bl true, .bl true]) nl
      generalize upd H9 l (.lst [.bl true, .bl true]) = H10 at A10 ⊢
      -- a + b
      refine ⟨_, rfl, .inl ⟨rfl, _, SqL.of A10.hd⟩, _, rfl, _, rfl, ra, da, _, rb, db, _, rfl, rfl, A10.h2, A10.h1, ra, da, x, y, rb, db, x, y, rfl, A10.h2, A10.h1, fun r dr H11 nr s11 er => ?_⟩
      refine ⟨_, rfl, _, rfl, _, _, rfl, rfl, _, rfl, _, rfl, _, _, rfl, rfl, r, dr, _, _, _, _, rfl, er, true, dd _ _, l, _, _, rfl, rfl, (A10.ext s11).hd, (by show 2 < sizeLine; decide), ?_⟩
      have A11 := (A10.ext s11).put (u := .lst [.bl true, .bl true, .bl true])
      generalize hX : upd H11 l (.lst ([V.bl true, V.bl true] ++ [V.bl true])) = H12
      replace A11 : At _ _ H12 := hX ▸ A11
      clear hX
      -- a - b
      refine ⟨_, rfl, .inl ⟨rfl, _, SqL.of A11.hd⟩, _, rfl, _, rfl, ra, da, _, rb, db, _, rfl, rfl, A11.h2, A11.h1, ra, da, x, y, rb, db, x, y, rfl, A11.h2, A11.h1, fun r dr H13 nr s13 er => ?_⟩
      refine ⟨_, rfl, _, rfl, _, _, rfl, rfl, _, rfl, _, rfl, _, _, rfl, rfl, r, dr, _, _, _, _, rfl, er, true, dd _ _, l, _, _, rfl, rfl, (A11.ext s13).hd, (by show 3 < sizeLine; decide), ?_⟩
      have A12 := (A11.ext s13).put (u := .lst [.bl true, .bl true, .bl true, .bl true])
      generalize hX : upd H13 l (.lst ([V.bl true, V.bl true, V.bl true] ++ [V.bl true])) = H14
      replace A12 : At _ _ H14 := hX ▸ A12
      clear hX
      -- -a
      refine ⟨_, rfl, .inl ⟨rfl, _, SqL.of A12.hd⟩, _, rfl, ra, da, _, rfl, A12.h2, ra, da, x, y, rfl, A12.h2, fun r dr H15 nr s15 er => ?_⟩
      refine ⟨_, rfl, _, rfl, _, rfl, _, rfl, r, dr, _, _, _, _, rfl, er, true, dd _ _, l, _, _, rfl, rfl, (A12.ext s15).hd, (by show 4 < sizeLine; decide), ?_⟩
      have A13 := (A12.ext s15).put (u := .lst [.bl true, .bl true, .bl true, .bl true, .bl true])
      generalize hX : upd H15 l (.lst ([V.bl true, V.bl true, V.bl true, V.bl true] ++ [V.bl true])) = H16
      replace A13 : At _ _ H16 := hX ▸ A13
      clear hX
      -- k * a
      refine ⟨_, rfl, .inl ⟨rfl, _, SqL.of A13.hd⟩, _, rfl, _, rfl, kk, ra, da, _, rfl, rfl, A13.h2, ra, da, x, y, kk, rfl, A13.h2, mulW bk bx, mulW bk bY, fun r dr H17 nr s17 er => ?_⟩
      refine ⟨_, rfl, _, rfl, _, _, rfl, rfl, mulW bk bx, _, rfl, _, rfl, _, _, rfl, rfl, mulW bk bY, r, dr, _, _, _, _, rfl, er, true, dd _ _, l, _, _, rfl, rfl, (A13.ext s17).hd, (by show 5 < sizeLine; decide), ?_⟩
      have A14 := (A13.ext s17).put (u := .lst [.bl true, .bl true, .bl true, .bl true, .bl true, .bl true])
      generalize hX : upd H17 l (.lst ([V.bl true, V.bl true, V.bl true, V.bl true, V.bl true] ++ [V.bl true])) = H18
      replace A14 : At _ _ H18 := hX ▸ A14
      clear hX
      -- ~a
      refine ⟨_, rfl, .inl ⟨rfl, _, SqL.of A14.hd⟩, _, rfl, ra, da, _, rfl, A14.h2, ra, da, x, y, rfl, A14.h2, fun r dr H19 nr s19 er => ?_⟩
      refine ⟨_, rfl, _, rfl, _, rfl, r, dr, _, _, _, _, rfl, er, true, dd _ _, l, _, _, rfl, rfl, (A14.ext s19).hd, (by show 6 < sizeLine; decide), ?_⟩
      have A15 := (A14.ext s19).put (u := .lst [.bl true, .bl true, .bl true, .bl true, .bl true, .bl true, .bl true])
      generalize hX : upd H19 l (.lst ([V.bl true, V.bl true, V.bl true, V.bl true, V.bl true, V.bl true] ++ [V.bl true])) = H20
      replace A15 : At _ _ H20 := hX ▸ A15
      clear hX
      -- dot, cross
      refine ⟨_, rfl, _, rfl, ra, da, _, rb, db, _, rfl, rfl, A15.h2, A15.h1, ra, da, x, y, rb, db, x, y, rfl, A15.h2, A15.h1, mulW bx bz', mulW bY bw', ?_⟩
      refine gs11 ?_
      refine ⟨_, rfl, _, rfl, ra, da, _, rb, db, _, rfl, rfl, A15.h2, A15.h1, ra, da, x, y, rb, db, x, y, rfl, A15.h2, A15.h1, mulW bx bw', mulW bY bz', ?_⟩
      refine gs12 ?_
      refine ⟨_, rfl, .inl ⟨rfl, _, SqL.of A15.hd⟩, _, rfl, _, rfl, true, rfl, iteT ?_⟩
      refine ⟨_, rfl, _, rfl, _, rfl, _, _, rfl, rfl, mulW bx bz', _, rfl, _, rfl, _, _, rfl, rfl, mulW bY bw', _, _, rfl, rfl, rfl, l, _, _, rfl, rfl, A15.hd, (by show 7 < sizeLine; decide), ?_⟩
      rw [decide_eq_true (rfl : V.int (x * x + y * y) = V.int (x * x + y * y))]
      have A16 := A15.put (u := .lst [.bl true, .bl true, .bl true, .bl true, .bl true, .bl true, .bl true, .bl true])
      generalize hX : upd H20 l (.lst ([V.bl true, V.bl true, V.bl true, V.bl true, V.bl true, V.bl true, V.bl true] ++ [V.bl true])) = H21
      replace A16 : At _ _ H21 := hX ▸ A16
      clear hX
      refine ⟨_, rfl, .inl ⟨rfl, _, SqL.of A16.hd⟩, _, rfl, _, rfl, true, rfl, iteT ?_⟩
      refine ⟨_, rfl, _, rfl, _, rfl, _, _, rfl, rfl, mulW bx bw', _, rfl, _, rfl, _, _, rfl, rfl, mulW bY bz', _, _, rfl, rfl, rfl, l, _, _, rfl, rfl, A16.hd, (by show 8 < sizeLine; decide), ?_⟩
      rw [decide_eq_true (rfl : V.int (x * y - y * x) = V.int (x * y - y * x))]
      have A17 := A16.put (u := .lst [.bl true, .bl true, .bl true, .bl true, .bl true, .bl true, .bl true, .bl true, .bl true])
      generalize hX : upd H21 l (.lst ([V.bl true, V.bl true, V.bl true, V.bl true, V.bl true, V.bl true, V.bl true, V.bl true] ++ [V.bl true])) = H22
      replace A17 : At _ _ H22 := hX ▸ A17
      clear hX
      -- same
      refine ⟨_, rfl, _, rfl, ra, da, _, rb, db, _, rfl, rfl, A17.h2, A17.h1, ra, da, x, y, rb, db, x, y, rfl, A17.h2, A17.h1, ?_⟩
      refine gs13 ?_
      generalize hb : (decide (x = x) && decide (y = y)) = sm
      refine ⟨_, rfl, .inl ⟨rfl, _, SqL.of A17.hd⟩, _, rfl, .bl sm, .ty "bool", _, _, true, rfl, .ty _, .base (.bl sm), kit_bb, true, rfl, iteT ?_⟩
      refine ⟨_, rfl, _, rfl, _, rfl, (by show 2 ≤ sizeLine; decide), fun t1 nt1 => ⟨_, rfl, _, rfl, (by show 2 ≤ sizeLine; decide), fun t2 nt2 => ?_⟩⟩
      have s1' := Sub.new (o := .tup [.int x, .int y]) nt1
      have s2' := Sub.new (o := .tup [.int x, .int y]) nt2
      have g1 := s2' _ _ (upd_same (H := H22) (a := t1) (o := .tup [.int x, .int y]))
      have A18 := A17.ext (s1'.trans s2')
      refine ⟨.tuple [.int x, .int y], .tuple [.int x, .int y], .tup (SqT.of g1) (.cons (.int _) (.cons (.int _) .nil)), .tup (SqT.of upd_same) (.cons (.int _) (.cons (.int _) .nil)), rfl, rfl, rfl, ?_⟩
      rw [eqv_tt, hb]
      refine ⟨l, _, _, rfl, rfl, A18.hd, (by show 9 < sizeLine; decide), ?_⟩
      rw [decide_eq_true (rfl : V.bl sm = V.bl sm)]
      have A19 := A18.put (u := .lst [.bl true, .bl true, .bl true, .bl true, .bl true, .bl true, .bl true, .bl true, .bl true, .bl true])
      generalize hX : upd (upd (upd H22 t1 (.tup [.int x, .int y])) t2 (.tup [.int x, .int y])) l (.lst ([V.bl true, V.bl true, V.bl true, V.bl true, V.bl true, V.bl true, V.bl true, V.bl true, V.bl true] ++ [V.bl true])) = H23
      replace A19 : At _ _ H23 := hX ▸ A19
      clear hX
      -- both again
      refine ⟨_, rfl, .inl ⟨rfl, _, SqL.of A19.hd⟩, _, rfl, _, rfl, _, rfl, ra, da, x, y, x, y, rfl, A19.h2, true, dd _ _, true, rfl, iteT ?_⟩
      refine ⟨_, rfl, _, rfl, _, rfl, rb, db, x, y, x, y, rfl, A19.h1, true, dd _ _, l, _, _, rfl, rfl, A19.hd, (by show 10 < sizeLine; decide), ?_⟩
      -- return False not in _law_good
      refine ⟨_, rfl, l, _, rfl, .inl (SqL.of upd_same), rfl, rfl, ?_⟩
      exact k _
    · show _
      have bz' := bx
      have bw' := bw
      -- _law_a, _law_b
      refine ⟨_, rfl, _, rfl, fun ra da nra nda nea => ⟨ra, da, x, y, rfl, upd_same, ?_⟩⟩
      refine ⟨rfl, ?_⟩
      refine gs8 ?_
      have A8 := A7.more (made (o1 := .ins ad.c_Arrow da []) (o2 := arrow ad da x y) nra nda) nra upd_same
      generalize upd (upd (upd H7 da (.own ra)) ra (.ins ad.c_Arrow da [])) ra (arrow ad da x y) = H8 at A8 ⊢
      refine ⟨_, rfl, _, rfl, fun rb db nrb ndb neb => ⟨rb, db, x, w0, rfl, upd_same, ?_⟩⟩
      refine ⟨rfl, ?_⟩
      refine gs9 ?_
      have A9 := A8.more (made (o1 := .ins ad.c_Arrow db []) (o2 := arrow ad db x w0) nrb ndb) nrb upd_same
      generalize upd (upd (upd H8 db (.own rb)) rb (.ins ad.c_Arrow db [])) rb (arrow ad db x w0) = H9 at A9 ⊢
      -- _law_good
      refine ⟨_, rfl, _, rfl, _, rfl, ra, da, x, y, x, y, rfl, A9.h1, true, dd _ _, ?_⟩
      refine ⟨_, rfl, _, rfl, _, rfl, rb, db, x, w0, x, w0, rfl, A9.hd, true, dd _ _, (by show 2 ≤ sizeLine; decide), fun l nl => ?_⟩
      refine gs10 ?_
      have A10 := A9.new (o := .lst [.bl true, .bl true]) nl
      generalize upd H9 l (.lst [.bl true, .bl true]) = H10 at A10 ⊢
      -- a + b
      refine ⟨_, rfl, .inl ⟨rfl, _, SqL.of A10.hd⟩, _, rfl, _, rfl, ra, da, _, rb, db, _, rfl, rfl, A10.h2, A10.h1, ra, da, x, y, rb, db, x, w0, rfl, A10.h2, A10.h1, fun r dr H11 nr s11 er => ?_⟩
      refine ⟨_, rfl, _, rfl, _, _, rfl, rfl, _, rfl, _, rfl, _, _, rfl, rfl, r, dr, _, _, _, _, rfl, er, true, dd _ _, l, _, _, rfl, rfl, (A10.ext s11).hd, (by show 2 < sizeLine; decide), ?_⟩
      have A11 := (A10.ext s11).put (u := .lst [.bl true, .bl true, .bl true])
      generalize hX : upd H11 l (.lst ([V.bl true, V.bl true] ++ [V.bl true])) = H12
      replace A11 : At _ _ H12 := hX ▸ A11
      clear hX
      -- a - b
      refine ⟨_, rfl, .inl ⟨rfl, _, SqL.of A11.hd⟩, _, rfl, _, rfl, ra, da, _, rb, db, _, rfl, rfl, A11.h2, A11.h1, ra, da, x, y, rb, db, x, w0, rfl, A11.h2, A11.h1, fun r dr H13 nr s13 er => ?_⟩
      refine ⟨_, rfl, _, rfl, _, _, rfl, rfl, _, rfl, _, rfl, _, _, rfl, rfl, r, dr, _, _, _, _, rfl, er, true, dd _ _, l, _, _, rfl, rfl, (A11.ext s13).hd, (by show 3 < sizeLine; decide), ?_⟩
      have A12 := (A11.ext s13).put (u := .lst [.bl true, .bl true, .bl true, .bl true])
      generalize hX : upd H13 l (.lst ([V.bl true, V.bl true, V.bl true] ++ [V.bl true])) = H14
      replace A12 : At _ _ H14 := hX ▸ A12
      clear hX
      -- -a
      refine ⟨_, rfl, .inl ⟨rfl, _, SqL.of A12.hd⟩, _, rfl, ra, da, _, rfl, A12.h2, ra, da, x, y, rfl, A12.h2, fun r dr H15 nr s15 er => ?_⟩
      refine ⟨_, rfl, _, rfl, _, rfl, _, rfl, r, dr, _, _, _, _, rfl, er, true, dd _ _, l, _, _, rfl, rfl, (A12.ext s15).hd, (by show 4 < sizeLine; decide), ?_⟩
      have A13 := (A12.ext s15).put (u := .lst [.bl true, .bl true, .bl true, .bl true, .bl true])
      generalize hX : upd H15 l (.lst ([V.bl true, V.bl true, V.bl true, V.bl true] ++ [V.bl true])) = H16
      replace A13 : At _ _ H16 := hX ▸ A13
      clear hX
      -- k * a
      refine ⟨_, rfl, .inl ⟨rfl, _, SqL.of A13.hd⟩, _, rfl, _, rfl, kk, ra, da, _, rfl, rfl, A13.h2, ra, da, x, y, kk, rfl, A13.h2, mulW bk bx, mulW bk bY, fun r dr H17 nr s17 er => ?_⟩
      refine ⟨_, rfl, _, rfl, _, _, rfl, rfl, mulW bk bx, _, rfl, _, rfl, _, _, rfl, rfl, mulW bk bY, r, dr, _, _, _, _, rfl, er, true, dd _ _, l, _, _, rfl, rfl, (A13.ext s17).hd, (by show 5 < sizeLine; decide), ?_⟩
      have A14 := (A13.ext s17).put (u := .lst [.bl true, .bl true, .bl true, .bl true, .bl true, .bl true])
      generalize hX : upd H17 l (.lst ([V.bl true, V.bl true, V.bl true, V.bl true, V.bl true] ++ [V.bl true])) = H18
      replace A14 : At _ _ H18 := hX ▸ A14
      clear hX
      -- ~a
      refine ⟨_, rfl, .inl ⟨rfl, _, SqL.of A14.hd⟩, _, rfl, ra, da, _, rfl, A14.h2, ra, da, x, y, rfl, A14.h2, fun r dr H19 nr s19 er => ?_⟩
      refine ⟨_, rfl, _, rfl, _, rfl, r, dr, _, _, _, _, rfl, er, true, dd _ _, l, _, _, rfl, rfl, (A14.ext s19).hd, (by show 6 < sizeLine; decide), ?_⟩
      have A15 := (A14.ext s19).put (u := .lst [.bl true, .bl true, .bl true, .bl true, .bl true, .bl true, .bl true])
      generalize hX : upd H19 l (.lst ([V.bl true, V.bl true, V.bl true, V.bl true, V.bl true, V.bl true] ++ [V.bl true])) = H20
      replace A15 : At _ _ H20 := hX ▸ A15
      clear hX
      -- dot, cross
      refine ⟨_, rfl, _, rfl, ra, da, _, rb, db, _, rfl, rfl, A15.h2, A15.h1, ra, da, x, y, rb, db, x, w0, rfl, A15.h2, A15.h1, mulW bx bz', mulW bY bw', ?_⟩
      refine gs11 ?_
      refine ⟨_, rfl, _, rfl, ra, da, _, rb, db, _, rfl, rfl, A15.h2, A15.h1, ra, da, x, y, rb, db, x, w0, rfl, A15.h2, A15.h1, mulW bx bw', mulW bY bz', ?_⟩
      refine gs12 ?_
      refine ⟨_, rfl, .inl ⟨rfl, _, SqL.of A15.hd⟩, _, rfl, _, rfl, true, rfl, iteT ?_⟩
      refine ⟨_, rfl, _, rfl, _, rfl, _, _, rfl, rfl, mulW bx bz', _, rfl, _, rfl, _, _, rfl, rfl, mulW bY bw', _, _, rfl, rfl, rfl, l, _, _, rfl, rfl, A15.hd, (by show 7 < sizeLine; decide), ?_⟩
      rw [decide_eq_true (rfl : V.int (x * x + y * w0) = V.int (x * x + y * w0))]
      have A16 := A15.put (u := .lst [.bl true, .bl true, .bl true, .bl true, .bl true, .bl true, .bl true, .bl true])
      generalize hX : upd H20 l (.lst ([V.bl true, V.bl true, V.bl true, V.bl true, V.bl true, V.bl true, V.bl true] ++ [V.bl true])) = H21
      replace A16 : At _ _ H21 := hX ▸ A16
      clear hX
      refine ⟨_, rfl, .inl ⟨rfl, _, SqL.of A16.hd⟩, _, rfl, _, rfl, true, rfl, iteT ?_⟩
      refine ⟨_, rfl, _, rfl, _, rfl, _, _, rfl, rfl, mulW bx bw', _, rfl, _, rfl, _, _, rfl, rfl, mulW bY bz', _, _, rfl, rfl, rfl, l, _, _, rfl, rfl, A16.hd, (by show 8 < sizeLine; decide), ?_⟩
      rw [decide_eq_true (rfl : V.int (x * w0 - y * x) = V.int (x * w0 - y * x))]
      have A17 := A16.put (u := .lst [.bl true, .bl true, .bl true, .bl true, .bl true, .bl true, .bl true, .bl true, .bl true])
      generalize hX : upd H21 l (.lst ([V.bl true, V.bl true, V.bl true, V.bl true, V.bl true, V.bl true, V.bl true, V.bl true] ++ [V.bl true])) = H22
      replace A17 : At _ _ H22 := hX ▸ A17
      clear hX
      -- same
      refine ⟨_, rfl, _, rfl, ra, da, _, rb, db, _, rfl, rfl, A17.h2, A17.h1, ra, da, x, y, rb, db, x, w0, rfl, A17.h2, A17.h1, ?_⟩
      refine gs13 ?_
      generalize hb : (decide (x = x) && decide (y = w0)) = sm
      refine ⟨_, rfl, .inl ⟨rfl, _, SqL.of A17.hd⟩, _, rfl, .bl sm, .ty "bool", _, _, true, rfl, .ty _, .base (.bl sm), kit_bb, true, rfl, iteT ?_⟩
      refine ⟨_, rfl, _, rfl, _, rfl, (by show 2 ≤ sizeLine; decide), fun t1 nt1 => ⟨_, rfl, _, rfl, (by show 2 ≤ sizeLine; decide), fun t2 nt2 => ?_⟩⟩
      have s1' := Sub.new (o := .tup [.int x, .int y]) nt1
      have s2' := Sub.new (o := .tup [.int x, .int w0]) nt2
      have g1 := s2' _ _ (upd_same (H := H22) (a := t1) (o := .tup [.int x, .int y]))
      have A18 := A17.ext (s1'.trans s2')
      refine ⟨.tuple [.int x, .int y], .tuple [.int x, .int w0], .tup (SqT.of g1) (.cons (.int _) (.cons (.int _) .nil)), .tup (SqT.of upd_same) (.cons (.int _) (.cons (.int _) .nil)), rfl, rfl, rfl, ?_⟩
      rw [eqv_tt, hb]
      refine ⟨l, _, _, rfl, rfl, A18.hd, (by show 9 < sizeLine; decide), ?_⟩
      rw [decide_eq_true (rfl : V.bl sm = V.bl sm)]
      have A19 := A18.put (u := .lst [.bl true, .bl true, .bl true, .bl true, .bl true, .bl true, .bl true, .bl true, .bl true, .bl true])
      generalize hX : upd (upd (upd H22 t1 (.tup [.int x, .int y])) t2 (.tup [.int x, .int w0])) l (.lst ([V.bl true, V.bl true, V.bl true, V.bl true, V.bl true, V.bl true, V.bl true, V.bl true, V.bl true] ++ [V.bl true])) = H23
      replace A19 : At _ _ H23 := hX ▸ A19
      clear hX
      -- both again
      refine ⟨_, rfl, .inl ⟨rfl, _, SqL.of A19.hd⟩, _, rfl, _, rfl, _, rfl, ra, da, x, y, x, y, rfl, A19.h2, true, dd _ _, true, rfl, iteT ?_⟩
      refine ⟨_, rfl, _, rfl, _, rfl, rb, db, x, w0, x, w0, rfl, A19.h1, true, dd _ _, l, _, _, rfl, rfl, A19.hd, (by show 10 < sizeLine; decide), ?_⟩
      -- return False not in _law_good
      refine ⟨_, rfl, l, _, rfl, .inl (SqL.of upd_same), rfl, rfl, ?_⟩
      exact k _
  · refine ⟨_, rfl, _, _, rfl, rfl, _, rfl, ite2 (fun h2 => ?_) (fun h2 => ?_)⟩
    · refine ⟨_, rfl, ?_⟩
      refine gs5 ?_
      have bz' := bz
      have bw' := bY
      -- _law_a, _law_b
      refine ⟨_, rfl, _, rfl, fun ra da nra nda nea => ⟨ra, da, x, y, rfl, upd_same, ?_⟩⟩
      refine ⟨rfl, ?_⟩
      refine gs8 ?_
      have A8 := A7.more (made (o1 := .ins ad.c_Arrow da []) (o2 := arrow ad da x y) nra nda) nra upd_same
      generalize upd (upd (upd H7 da (.own ra)) ra (.ins ad.c_Arrow da [])) ra (arrow ad da x y) = H8 at A8 ⊢
      refine ⟨_, rfl, _, rfl, fun rb db nrb ndb neb => ⟨rb, db, z0, y, rfl, upd_same, ?_⟩⟩
      refine ⟨rfl, ?_⟩
      refine gs9 ?_
      have A9 := A8.more (made (o1 := .ins ad.c_Arrow db []) (o2 := arrow ad db z0 y) nrb ndb) nrb upd_same
      generalize upd (upd (upd H8 db (.own rb)) rb (.ins ad.c_Arrow db [])) rb (arrow ad db z0 y) = H9 at A9 ⊢
      -- _law_good
      refine ⟨_, rfl, _, rfl, _, rfl, ra, da, x, y, x, y, rfl, A9.h1, true, dd _ _, ?_⟩
      refine ⟨_, rfl, _, rfl, _, rfl, rb, db, z0, y, z0, y, rfl, A9.hd, true, dd _ _, (by show 2 ≤ sizeLine; decide), fun l nl => ?_⟩
      refine gs10 ?_
      have A10 := A9.new (o := .lst [.bl true, .bl true]) nl
      generalize upd H9 l (.lst [.bl true, .bl true]) = H10 at A10 ⊢
      -- a + b
      refine ⟨_, rfl, .inl ⟨rfl, _, SqL.of A10.hd⟩, _, rfl, _, rfl, ra, da, _, rb, db, _, rfl, rfl, A10.h2, A10.h1, ra, da, x, y, rb, db, z0, y, rfl, A10.h2, A10.h1, fun r dr H11 nr s11 er => ?_⟩
      refine ⟨_, rfl, _, rfl, _, _, rfl, rfl, _, rfl, _, rfl, _, _, rfl, rfl, r, dr, _, _, _, _, rfl, er, true, dd _ _, l, _, _, rfl, rfl, (A10.ext s11).hd, (by show 2 < sizeLine; decide), ?_⟩
      have A11 := (A10.ext s11).put (u := .lst [.bl true, .bl true, .bl true])
      generalize hX : upd H11 l (.lst ([V.bl true, V.bl true] ++ [V.bl true])) = H12
      replace A11 : At _ _ H12 := hX ▸ A11
      clear hX
      -- a - b
      refine ⟨_, rfl, .inl ⟨rfl, _, SqL.of A11.hd⟩, _, rfl, _, rfl, ra, da, _, rb, db, _, rfl, rfl, A11.h2, A11.h1, ra, da, x, y, rb, db, z0, y, rfl, A11.h2, A11.h1, fun r dr H13 nr s13 er => ?_⟩
      refine ⟨_, rfl, _, rfl, _, _, rfl, rfl, _, rfl, _, rfl, _, _, rfl, rfl, r, dr, _, _, _, _, rfl, er, true, dd _ _, l, _, _, rfl, rfl, (A11.ext s13).hd, (by show 3 < sizeLine; decide), ?_⟩
      have A12 := (A11.ext s13).put (u := .lst [.bl true, .bl true, .bl true, .bl true])
      generalize hX : upd H13 l (.lst ([V.bl true, V.bl true, V.bl true] ++ [V.bl true])) = H14
      replace A12 : At _ _ H14 := hX ▸ A12
      clear hX
      -- -a
      refine ⟨_, rfl, .inl ⟨rfl, _, SqL.of A12.hd⟩, _, rfl, ra, da, _, rfl, A12.h2, ra, da, x, y, rfl, A12.h2, fun r dr H15 nr s15 er => ?_⟩
      refine ⟨_, rfl, _, rfl, _, rfl, _, rfl, r, dr, _, _, _, _, rfl, er, true, dd _ _, l, _, _, rfl, rfl, (A12.ext s15).hd, (by show 4 < sizeLine; decide), ?_⟩
      have A13 := (A12.ext s15).put (u := .lst [.bl true, .bl true, .bl true, .bl true, .bl true])
      generalize hX : upd H15 l (.lst ([V.bl true, V.bl true, V.bl true, V.bl true] ++ [V.bl true])) = H16
      replace A13 : At _ _ H16 := hX ▸ A13
      clear hX
      -- k * a
      refine ⟨_, rfl, .inl ⟨rfl, _, SqL.of A13.hd⟩, _, rfl, _, rfl, kk, ra, da, _, rfl, rfl, A13.h2, ra, da, x, y, kk, rfl, A13.h2, mulW bk bx, mulW bk bY, fun r dr H17 nr s17 er => ?_⟩
      refine ⟨_, rfl, _, rfl, _, _, rfl, rfl, mulW bk bx, _, rfl, _, rfl, _, _, rfl, rfl, mulW bk bY, r, dr, _, _, _, _, rfl, er, true, dd _ _, l, _, _, rfl, rfl, (A13.ext s17).hd, (by show 5 < sizeLine; decide), ?_⟩
      have A14 := (A13.ext s17).put (u := .lst [.bl true, .bl true, .bl true, .bl true, .bl true, .bl true])
      generalize hX : upd H17 l (.lst ([V.bl true, V.bl true, V.bl true, V.bl true, V.bl true] ++ [V.bl true])) = H18
      replace A14 : At _ _ H18 := hX ▸ A14
      clear hX
      -- ~a
      refine ⟨_, rfl, .inl ⟨rfl, _, SqL.of A14.hd⟩, _, rfl, ra, da, _, rfl, A14.h2, ra, da, x, y, rfl, A14.h2, fun r dr H19 nr s19 er => ?_⟩
      refine ⟨_, rfl, _, rfl, _, rfl, r, dr, _, _, _, _, rfl, er, true, dd _ _, l, _, _, rfl, rfl, (A14.ext s19).hd, (by show 6 < sizeLine; decide), ?_⟩
      have A15 := (A14.ext s19).put (u := .lst [.bl true, .bl true, .bl true, .bl true, .bl true, .bl true, .bl true])
      generalize hX : upd H19 l (.lst ([V.bl true, V.bl true, V.bl true, V.bl true, V.bl true, V.bl true] ++ [V.bl true])) = H20
      replace A15 : At _ _ H20 := hX ▸ A15
      clear hX
      -- dot, cross
      refine ⟨_, rfl, _, rfl, ra, da, _, rb, db, _, rfl, rfl, A15.h2, A15.h1, ra, da, x, y, rb, db, z0, y, rfl, A15.h2, A15.h1, mulW bx bz', mulW bY bw', ?_⟩
      refine gs11 ?_
      refine ⟨_, rfl, _, rfl, ra, da, _, rb, db, _, rfl, rfl, A15.h2, A15.h1, ra, da, x, y, rb, db, z0, y, rfl, A15.h2, A15.h1, mulW bx bw', mulW bY bz', ?_⟩
      refine gs12 ?_
      refine ⟨_, rfl, .inl ⟨rfl, _, SqL.of A15.hd⟩, _, rfl, _, rfl, true, rfl, iteT ?_⟩
      refine ⟨_, rfl, _, rfl, _, rfl, _, _, rfl, rfl, mulW bx bz', _, rfl, _, rfl, _, _, rfl, rfl, mulW bY bw', _, _, rfl, rfl, rfl, l, _, _, rfl, rfl, A15.hd, (by show 7 < sizeLine; decide), ?_⟩
      rw [decide_eq_true (rfl : V.int (x * z0 + y * y) = V.int (x * z0 + y * y))]
      have A16 := A15.put (u := .lst [.bl true, .bl true, .bl true, .bl true, .bl true, .bl true, .bl true, .bl true])
      generalize hX : upd H20 l (.lst ([V.bl true, V.bl true, V.bl true, V.bl true, V.bl true, V.bl true, V.bl true] ++ [V.bl true])) = H21
      replace A16 : At _ _ H21 := hX ▸ A16
      clear hX
      refine ⟨_, rfl, .inl ⟨rfl, _, SqL.of A16.hd⟩, _, rfl, _, rfl, true, rfl, iteT ?_⟩
      refine ⟨_, rfl, _, rfl, _, rfl, _, _, rfl, rfl, mulW bx bw', _, rfl, _, rfl, _, _, rfl, rfl, mulW bY bz', _, _, rfl, rfl, rfl, l, _, _, rfl, rfl, A16.hd, (by show 8 < sizeLine; decide), ?_⟩
      rw [decide_eq_true (rfl : V.int (x * y - y * z0) = V.int (x * y - y * z0))]
      have A17 := A16.put (u := .lst [.bl true, .bl true, .bl true, .bl true, .bl true, .bl true, .bl true, .bl true, .bl true])
      generalize hX : upd H21 l (.lst ([V.bl true, V.bl true, V.bl true, V.bl true, V.bl true, V.bl true, V.bl true, V.bl true] ++ [V.bl true])) = H22
      replace A17 : At _ _ H22 := hX ▸ A17
      clear hX
      -- same
      refine ⟨_, rfl, _, rfl, ra, da, _, rb, db, _, rfl, rfl, A17.h2, A17.h1, ra, da, x, y, rb, db, z0, y, rfl, A17.h2, A17.h1, ?_⟩
      refine gs13 ?_
      generalize hb : (decide (x = z0) && decide (y = y)) = sm
      refine ⟨_, rfl, .inl ⟨rfl, _, SqL.of A17.hd⟩, _, rfl, .bl sm, .ty "bool", _, _, true, rfl, .ty _, .base (.bl sm), kit_bb, true, rfl, iteT ?_⟩
      refine ⟨_, rfl, _, rfl, _, rfl, (by show 2 ≤ sizeLine; decide), fun t1 nt1 => ⟨_, rfl, _, rfl, (by show 2 ≤ sizeLine; decide), fun t2 nt2 => ?_⟩⟩
      have s1' := Sub.new (o := .tup [.int x, .int y]) nt1
      have s2' := Sub.new (o := .tup [.int z0, .int y]) nt2
      have g1 := s2' _ _ (upd_same (H := H22) (a := t1) (o := .tup [.int x, .int y]))
      have A18 := A17.ext (s1'.trans s2')
      refine ⟨.tuple [.int x, .int y], .tuple [.int z0, .int y], .tup (SqT.of g1) (.cons (.int _) (.cons (.int _) .nil)), .tup (SqT.of upd_same) (.cons (.int _) (.cons (.int _) .nil)), rfl, rfl, rfl, ?_⟩
      rw [eqv_tt, hb]
      refine ⟨l, _, _, rfl, rfl, A18.hd, (by show 9 < sizeLine; decide), ?_⟩
      rw [decide_eq_true (rfl : V.bl sm = V.bl sm)]
      have A19 := A18.put (u := .lst [.bl true, .bl true, .bl true, .bl true, .bl true, .bl true, .bl true, .bl true, .bl true, .bl true])
      generalize hX : upd (upd (upd H22 t1 (.tup [.int x, .int y])) t2 (.tup [.int z0, .int y])) l (.lst ([V.bl true, V.bl true, V.bl true, V.bl true, V.bl true, V.bl true, V.bl true, V.bl true, V.bl true] ++ [V.bl true])) = H23
      replace A19 : At _ _ H23 := hX ▸ A19
      clear hX
      -- both again
      refine ⟨_, rfl, .inl ⟨rfl, _, SqL.of A19.hd⟩, _, rfl, _, rfl, _, rfl, ra, da, x, y, x, y, rfl, A19.h2, true, dd _ _, true, rfl, iteT ?_⟩
      refine ⟨_, rfl, _, rfl, _, rfl, rb, db, z0, y, z0, y, rfl, A19.h1, true, dd _ _, l, _, _, rfl, rfl, A19.hd, (by show 10 < sizeLine; decide), ?_⟩
      -- return False not in _law_good
      refine ⟨_, rfl, l, _, rfl, .inl (SqL.of upd_same), rfl, rfl, ?_⟩
      exact k _
    · show _
      have bz' := bz
      have bw' := bw
      -- _law_a, _law_b
      refine ⟨_, rfl, _, rfl, fun ra da nra nda nea => ⟨ra, da, x, y, rfl, upd_same, ?_⟩⟩
      refine ⟨rfl, ?_⟩
      refine gs8 ?_
      have A8 := A7.more (made (o1 := .ins ad.c_Arrow da []) (o2 := arrow ad da x y) nra nda) nra upd_same
      generalize upd (upd (upd H7 da (.own ra)) ra (.ins ad.c_Arrow da [])) ra (arrow ad da x y) = H8 at A8 ⊢
      refine ⟨_, rfl, _, rfl, fun rb db nrb ndb neb => ⟨rb, db, z0, w0, rfl, upd_same, ?_⟩⟩
      refine ⟨rfl, ?_⟩
      refine gs9 ?_
      have A9 := A8.more (made (o1 := .ins ad.c_Arrow db []) (o2 := arrow ad db z0 w0) nrb ndb) nrb upd_same
      generalize upd (upd (upd H8 db (.own rb)) rb (.ins ad.c_Arrow db [])) rb (arrow ad db z0 w0) = H9 at A9 ⊢
      -- _law_good
      refine ⟨_, rfl, _, rfl, _, rfl, ra, da, x, y, x, y, rfl, A9.h1, true, dd _ _, ?_⟩
      refine ⟨_, rfl, _, rfl, _, rfl, rb, db, z0, w0, z0, w0, rfl, A9.hd, true, dd _ _, (by show 2 ≤ sizeLine; decide), fun l nl => ?_⟩
      refine gs10 ?_
      have A10 := A9.new (o := .lst [.bl true, .bl true]) nl
      generalize upd H9 l (.lst [.bl true, .bl true]) = H10 at A10 ⊢
      -- a + b
      refine ⟨_, rfl, .inl ⟨rfl, _, SqL.of A10.hd⟩, _, rfl, _, rfl, ra, da, _, rb, db, _, rfl, rfl, A10.h2, A10.h1, ra, da, x, y, rb, db, z0, w0, rfl, A10.h2, A10.h1, fun r dr H11 nr s11 er => ?_⟩
      refine ⟨_, rfl, _, rfl, _, _, rfl, rfl, _, rfl, _, rfl, _, _, rfl, rfl, r, dr, _, _, _, _, rfl, er, true, dd _ _, l, _, _, rfl, rfl, (A10.ext s11).hd, (by show 2 < sizeLine; decide), ?_⟩
      have A11 := (A10.ext s11).put (u := .lst [.bl true, .bl true, .bl true])
      generalize hX : upd H11 l (.lst ([V.bl true, V.bl true] ++ [V.bl true])) = H12
      replace A11 : At _ _ H12 := hX ▸ A11
      clear hX
      -- a - b
      refine ⟨_, rfl, .inl ⟨rfl, _, SqL.of A11.hd⟩, _, rfl, _, rfl, ra, da, _, rb, db, _, rfl, rfl, A11.h2, A11.h1, ra, da, x, y, rb, db, z0, w0, rfl, A11.h2, A11.h1, fun r dr H13 nr s13 er => ?_⟩
      refine ⟨_, rfl, _, rfl, _, _, rfl, rfl, _, rfl, _, rfl, _, _, rfl, rfl, r, dr, _, _, _, _, rfl, er, true, dd _ _, l, _, _, rfl, rfl, (A11.ext s13).hd, (by show 3 < sizeLine; decide), ?_⟩
      have A12 := (A11.ext s13).put (u := .lst [.bl true, .bl true, .bl true, .bl true])
      generalize hX : upd H13 l (.lst ([V.bl true, V.bl true, V.bl true] ++ [V.bl true])) = H14
      replace A12 : At _ _ H14 := hX ▸ A12
      clear hX
      -- -a
      refine ⟨_, rfl, .inl ⟨rfl, _, SqL.of A12.hd⟩, _, rfl, ra, da, _, rfl, A12.h2, ra, da, x, y, rfl, A12.h2, fun r dr H15 nr s15 er => ?_⟩
      refine ⟨_, rfl, _, rfl, _, rfl, _, rfl, r, dr, _, _, _, _, rfl, er, true, dd _ _, l, _, _, rfl, rfl, (A12.ext s15).hd, (by show 4 < sizeLine; decide), ?_⟩
      have A13 := (A12.ext s15).put (u := .lst [.bl true, .bl true, .bl true, .bl true, .bl true])
      generalize hX : upd H15 l (.lst ([V.bl true, V.bl true, V.bl true, V.bl true] ++ [V.bl true])) = H16
      replace A13 : At _ _ H16 := hX ▸ A13
      clear hX
      -- k * a
      refine ⟨_, rfl, .inl ⟨rfl, _, SqL.of A13.hd⟩, _, rfl, _, rfl, kk, ra, da, _, rfl, rfl, A13.h2, ra, da, x, y, kk, rfl, A13.h2, mulW bk bx, mulW bk bY, fun r dr H17 nr s17 er => ?_⟩
      refine ⟨_, rfl, _, rfl, _, _, rfl, rfl, mulW bk bx, _, rfl, _, rfl, _, _, rfl, rfl, mulW bk bY, r, dr, _, _, _, _, rfl, er, true, dd _ _, l, _, _, rfl, rfl, (A13.ext s17).hd, (by show 5 < sizeLine; decide), ?_⟩
      have A14 := (A13.ext s17).put (u := .lst [.bl true, .bl true, .bl true, .bl true, .bl true, .bl true])
      generalize hX : upd H17 l (.lst ([V.bl true, V.bl true, V.bl true, V.bl true, V.bl true] ++ [V.bl true])) = H18
      replace A14 : At _ _ H18 := hX ▸ A14
      clear hX
      -- ~a
      refine ⟨_, rfl, .inl ⟨rfl, _, SqL.of A14.hd⟩, _, rfl, ra, da, _, rfl, A14.h2, ra, da, x, y, rfl, A14.h2, fun r dr H19 nr s19 er => ?_⟩
      refine ⟨_, rfl, _, rfl, _, rfl, r, dr, _, _, _, _, rfl, er, true, dd _ _, l, _, _, rfl, rfl, (A14.ext s19).hd, (by show 6 < sizeLine; decide), ?_⟩
      have A15 := (A14.ext s19).put (u := .lst [.bl true, .bl true, .bl true, .bl true, .bl true, .bl true, .bl true])
      generalize hX : upd H19 l (.lst ([V.bl true, V.bl true, V.bl true, V.bl true, V.bl true, V.bl true] ++ [V.bl true])) = H20
      replace A15 : At _ _ H20 := hX ▸ A15
      clear hX
      -- dot, cross
      refine ⟨_, rfl, _, rfl, ra, da, _, rb, db, _, rfl, rfl, A15.h2, A15.h1, ra, da, x, y, rb, db, z0, w0, rfl, A15.h2, A15.h1, mulW bx bz', mulW bY bw', ?_⟩
      refine gs11 ?_
      refine ⟨_, rfl, _, rfl, ra, da, _, rb, db, _, rfl, rfl, A15.h2, A15.h1, ra, da, x, y, rb, db, z0, w0, rfl, A15.h2, A15.h1, mulW bx bw', mulW bY bz', ?_⟩
      refine gs12 ?_
      refine ⟨_, rfl, .inl ⟨rfl, _, SqL.of A15.hd⟩, _, rfl, _, rfl, true, rfl, iteT ?_⟩
      refine ⟨_, rfl, _, rfl, _, rfl, _, _, rfl, rfl, mulW bx bz', _, rfl, _, rfl, _, _, rfl, rfl, mulW bY bw', _, _, rfl, rfl, rfl, l, _, _, rfl, rfl, A15.hd, (by show 7 < sizeLine; decide), ?_⟩
      rw [decide_eq_true (rfl : V.int (x * z0 + y * w0) = V.int (x * z0 + y * w0))]
      have A16 := A15.put (u := .lst [.bl true, .bl true, .bl true, .bl true, .bl true, .bl true, .bl true, .bl true])
      generalize hX : upd H20 l (.lst ([V.bl true, V.bl true, V.bl true, V.bl true, V.bl true, V.bl true, V.bl true] ++ [V.bl true])) = H21
      replace A16 : At _ _ H21 := hX ▸ A16
      clear hX
      refine ⟨_, rfl, .inl ⟨rfl, _, SqL.of A16.hd⟩, _, rfl, _, rfl, true, rfl, iteT ?_⟩
      refine ⟨_, rfl, _, rfl, _, rfl, _, _, rfl, rfl, mulW bx bw', _, rfl, _, rfl, _, _, rfl, rfl, mulW bY bz', _, _, rfl, rfl, rfl, l, _, _, rfl, rfl, A16.hd, (by show 8 < sizeLine; decide), ?_⟩
      rw [decide_eq_true (rfl : V.int (x * w0 - y * z0) = V.int (x * w0 - y * z0))]
      have A17 := A16.put (u := .lst [.bl true, .bl true, .bl true, .bl true, .bl true, .bl true, .bl true, .bl true, .bl true])
      generalize hX : upd H21 l (.lst ([V.bl true, V.bl true, V.bl true, V.bl true, V.bl true, V.bl true, V.bl true, V.bl true] ++ [V.bl true])) = H22
      replace A17 : At _ _ H22 := hX ▸ A17
      clear hX
      -- same
      refine ⟨_, rfl, _, rfl, ra, da, _, rb, db, _, rfl, rfl, A17.h2, A17.h1, ra, da, x, y, rb, db, z0, w0, rfl, A17.h2, A17.h1, ?_⟩
      refine gs13 ?_
      generalize hb : (decide (x = z0) && decide (y = w0)) = sm
      refine ⟨_, rfl, .inl ⟨rfl, _, SqL.of A17.hd⟩, _, rfl, .bl sm, .ty "bool", _, _, true, rfl, .ty _, .base (.bl sm), kit_bb, true, rfl, iteT ?_⟩
      refine ⟨_, rfl, _, rfl, _, rfl, (by show 2 ≤ sizeLine; decide), fun t1 nt1 => ⟨_, rfl, _, rfl, (by show 2 ≤ sizeLine; decide), fun t2 nt2 => ?_⟩⟩
      have s1' := Sub.new (o := .tup [.int x, .int y]) nt1
      have s2' := Sub.new (o := .tup [.int z0, .int w0]) nt2
      have g1 := s2' _ _ (upd_same (H := H22) (a := t1) (o := .tup [.int x, .int y]))
      have A18 := A17.ext (s1'.trans s2')
      refine ⟨.tuple [.int x, .int y], .tuple [.int z0, .int w0], .tup (SqT.of g1) (.cons (.int _) (.cons (.int _) .nil)), .tup (SqT.of upd_same) (.cons (.int _) (.cons (.int _) .nil)), rfl, rfl, rfl, ?_⟩
      rw [eqv_tt, hb]
      refine ⟨l, _, _, rfl, rfl, A18.hd, (by show 9 < sizeLine; decide), ?_⟩
      rw [decide_eq_true (rfl : V.bl sm = V.bl sm)]
      have A19 := A18.put (u := .lst [.bl true, .bl true, .bl true, .bl true, .bl true, .bl true, .bl true, .bl true, .bl true, .bl true])
      generalize hX : upd (upd (upd H22 t1 (.tup [.int x, .int y])) t2 (.tup [.int z0, .int w0])) l (.lst ([V.bl true, V.bl true, V.bl true, V.bl true, V.bl true, V.bl true, V.bl true, V.bl true, V.bl true] ++ [V.bl true])) = H23
      replace A19 : At _ _ H23 := hX ▸ A19
      clear hX
      -- both again
      refine ⟨_, rfl, .inl ⟨rfl, _, SqL.of A19.hd⟩, _, rfl, _, rfl, _, rfl, ra, da, x, y, x, y, rfl, A19.h2, true, dd _ _, true, rfl, iteT ?_⟩
      refine ⟨_, rfl, _, rfl, _, rfl, rb, db, z0, w0, z0, w0, rfl, A19.h1, true, dd _ _, l, _, _, rfl, rfl, A19.hd, (by show 10 < sizeLine; decide), ?_⟩
      -- return False not in _law_good
      refine ⟨_, rfl, l, _, rfl, .inl (SqL.of upd_same), rfl, rfl, ?_⟩
      exact k _
end
theorem all_mk {l : PySem.W.OpenLaw} {w : World} {K : PySem.W.Frag} {h : Heap} {mg : Str → Option Value} {fa : Addr} (X : K.In h) (G : h.Ns mainGlobals mg) (hfa : mg "law" = some (.ref fa))
    {f_Arrow_init f_Arrow_add f_Arrow_sub f_Arrow_neg f_Arrow_mul f_Arrow_rmul f_Arrow_xor f_Arrow_invert f_Arrow_eq f_law_pool f_law_take f_law_whole f_law_number f_law_is_arrow f_law c_Arrow : Addr}
    {od_Arrow_init an_Arrow_init : Option Addr} {sl_Arrow_init : Array (Option Value)} {oc_Arrow_init kV_Arrow_init dc_Arrow_init pm_Arrow_init cd_Arrow_init ct_Arrow_init : Value}
    {od_Arrow_add an_Arrow_add : Option Addr} {sl_Arrow_add : Array (Option Value)} {oc_Arrow_add kV_Arrow_add dc_Arrow_add pm_Arrow_add cd_Arrow_add ct_Arrow_add : Value}
    {od_Arrow_sub an_Arrow_sub : Option Addr} {sl_Arrow_sub : Array (Option Value)} {oc_Arrow_sub kV_Arrow_sub dc_Arrow_sub pm_Arrow_sub cd_Arrow_sub ct_Arrow_sub : Value}
    {od_Arrow_neg an_Arrow_neg : Option Addr} {sl_Arrow_neg : Array (Option Value)} {oc_Arrow_neg kV_Arrow_neg dc_Arrow_neg pm_Arrow_neg cd_Arrow_neg ct_Arrow_neg : Value}
    {od_Arrow_mul an_Arrow_mul : Option Addr} {sl_Arrow_mul : Array (Option Value)} {oc_Arrow_mul kV_Arrow_mul dc_Arrow_mul pm_Arrow_mul cd_Arrow_mul ct_Arrow_mul : Value}
    {od_Arrow_rmul an_Arrow_rmul : Option Addr} {sl_Arrow_rmul : Array (Option Value)} {oc_Arrow_rmul kV_Arrow_rmul dc_Arrow_rmul pm_Arrow_rmul cd_Arrow_rmul ct_Arrow_rmul : Value}
    {od_Arrow_xor an_Arrow_xor : Option Addr} {sl_Arrow_xor : Array (Option Value)} {oc_Arrow_xor kV_Arrow_xor dc_Arrow_xor pm_Arrow_xor cd_Arrow_xor ct_Arrow_xor : Value}
    {od_Arrow_invert an_Arrow_invert : Option Addr} {sl_Arrow_invert : Array (Option Value)} {oc_Arrow_invert kV_Arrow_invert dc_Arrow_invert pm_Arrow_invert cd_Arrow_invert ct_Arrow_invert : Value}
    {od_Arrow_eq an_Arrow_eq : Option Addr} {sl_Arrow_eq : Array (Option Value)} {oc_Arrow_eq kV_Arrow_eq dc_Arrow_eq pm_Arrow_eq cd_Arrow_eq ct_Arrow_eq : Value}
    {od_law_pool an_law_pool : Option Addr} {sl_law_pool : Array (Option Value)} {oc_law_pool kV_law_pool dc_law_pool pm_law_pool cd_law_pool ct_law_pool : Value}
    {od_law_take an_law_take : Option Addr} {sl_law_take : Array (Option Value)} {oc_law_take kV_law_take dc_law_take pm_law_take cd_law_take ct_law_take : Value}
    {od_law_whole an_law_whole : Option Addr} {sl_law_whole : Array (Option Value)} {oc_law_whole kV_law_whole dc_law_whole pm_law_whole cd_law_whole ct_law_whole : Value}
    {od_law_number an_law_number : Option Addr} {sl_law_number : Array (Option Value)} {oc_law_number kV_law_number dc_law_number pm_law_number cd_law_number ct_law_number : Value}
    {od_law_is_arrow an_law_is_arrow : Option Addr} {sl_law_is_arrow : Array (Option Value)} {oc_law_is_arrow kV_law_is_arrow dc_law_is_arrow pm_law_is_arrow cd_law_is_arrow ct_law_is_arrow : Value}
    {od_law an_law : Option Addr} {sl_law : Array (Option Value)} {oc_law kV_law dc_law pm_law cd_law ct_law : Value}
    (aC_Arrow : PySem.W.nsIn K mainGlobals "Arrow" = some (some (.ref c_Arrow)))
    (a_Arrow_init : PySem.W.findIn K (.ref c_Arrow) "__init__" = some (some (.ref f_Arrow_init)))
    (i_Arrow_init : PySem.W.isFn K (.ref f_Arrow_init) = true)
    (l_Arrow_init : K.lookup f_Arrow_init = some ⟨oc_Arrow_init, od_Arrow_init, .func (PySem.W.fnOf "__init__" "Arrow.__init__" (defArgs s_Arrow_init) (defBody s_Arrow_init) (defScope s_Arrow_init) .none kV_Arrow_init dc_Arrow_init pm_Arrow_init an_Arrow_init cd_Arrow_init ct_Arrow_init), sl_Arrow_init⟩)
    (co_Arrow_init : PySem.W.codeIn K cd_Arrow_init "Arrow.__init__" = true)
    (k_Arrow_init : PySem.W.keepIn K (.ref f_Arrow_init) = true)
    (a_Arrow_add : PySem.W.findIn K (.ref c_Arrow) "__add__" = some (some (.ref f_Arrow_add)))
    (i_Arrow_add : PySem.W.isFn K (.ref f_Arrow_add) = true)
    (l_Arrow_add : K.lookup f_Arrow_add = some ⟨oc_Arrow_add, od_Arrow_add, .func (PySem.W.fnOf "__add__" "Arrow.__add__" (defArgs s_Arrow_add) (defBody s_Arrow_add) (defScope s_Arrow_add) .none kV_Arrow_add dc_Arrow_add pm_Arrow_add an_Arrow_add cd_Arrow_add ct_Arrow_add), sl_Arrow_add⟩)
    (co_Arrow_add : PySem.W.codeIn K cd_Arrow_add "Arrow.__add__" = true)
    (k_Arrow_add : PySem.W.keepIn K (.ref f_Arrow_add) = true)
    (a_Arrow_sub : PySem.W.findIn K (.ref c_Arrow) "__sub__" = some (some (.ref f_Arrow_sub)))
    (i_Arrow_sub : PySem.W.isFn K (.ref f_Arrow_sub) = true)
    (l_Arrow_sub : K.lookup f_Arrow_sub = some ⟨oc_Arrow_sub, od_Arrow_sub, .func (PySem.W.fnOf "__sub__" "Arrow.__sub__" (defArgs s_Arrow_sub) (defBody s_Arrow_sub) (defScope s_Arrow_sub) .none kV_Arrow_sub dc_Arrow_sub pm_Arrow_sub an_Arrow_sub cd_Arrow_sub ct_Arrow_sub), sl_Arrow_sub⟩)
    (co_Arrow_sub : PySem.W.codeIn K cd_Arrow_sub "Arrow.__sub__" = true)
    (k_Arrow_sub : PySem.W.keepIn K (.ref f_Arrow_sub) = true)
    (a_Arrow_neg : PySem.W.findIn K (.ref c_Arrow) "__neg__" = some (some (.ref f_Arrow_neg)))
    (i_Arrow_neg : PySem.W.isFn K (.ref f_Arrow_neg) = true)
    (l_Arrow_neg : K.lookup f_Arrow_neg = some ⟨oc_Arrow_neg, od_Arrow_neg, .func (PySem.W.fnOf "__neg__" "Arrow.__neg__" (defArgs s_Arrow_neg) (defBody s_Arrow_neg) (defScope s_Arrow_neg) .none kV_Arrow_neg dc_Arrow_neg pm_Arrow_neg an_Arrow_neg cd_Arrow_neg ct_Arrow_neg), sl_Arrow_neg⟩)
    (co_Arrow_neg : PySem.W.codeIn K cd_Arrow_neg "Arrow.__neg__" = true)
    (k_Arrow_neg : PySem.W.keepIn K (.ref f_Arrow_neg) = true)
    (a_Arrow_mul : PySem.W.findIn K (.ref c_Arrow) "__mul__" = some (some (.ref f_Arrow_mul)))
    (i_Arrow_mul : PySem.W.isFn K (.ref f_Arrow_mul) = true)
    (l_Arrow_mul : K.lookup f_Arrow_mul = some ⟨oc_Arrow_mul, od_Arrow_mul, .func (PySem.W.fnOf "__mul__" "Arrow.__mul__" (defArgs s_Arrow_mul) (defBody s_Arrow_mul) (defScope s_Arrow_mul) .none kV_Arrow_mul dc_Arrow_mul pm_Arrow_mul an_Arrow_mul cd_Arrow_mul ct_Arrow_mul), sl_Arrow_mul⟩)
    (co_Arrow_mul : PySem.W.codeIn K cd_Arrow_mul "Arrow.__mul__" = true)
    (k_Arrow_mul : PySem.W.keepIn K (.ref f_Arrow_mul) = true)
    (a_Arrow_rmul : PySem.W.findIn K (.ref c_Arrow) "__rmul__" = some (some (.ref f_Arrow_rmul)))
    (i_Arrow_rmul : PySem.W.isFn K (.ref f_Arrow_rmul) = true)
    (l_Arrow_rmul : K.lookup f_Arrow_rmul = some ⟨oc_Arrow_rmul, od_Arrow_rmul, .func (PySem.W.fnOf "__rmul__" "Arrow.__rmul__" (defArgs s_Arrow_rmul) (defBody s_Arrow_rmul) (defScope s_Arrow_rmul) .none kV_Arrow_rmul dc_Arrow_rmul pm_Arrow_rmul an_Arrow_rmul cd_Arrow_rmul ct_Arrow_rmul), sl_Arrow_rmul⟩)
    (co_Arrow_rmul : PySem.W.codeIn K cd_Arrow_rmul "Arrow.__rmul__" = true)
    (k_Arrow_rmul : PySem.W.keepIn K (.ref f_Arrow_rmul) = true)
    (a_Arrow_xor : PySem.W.findIn K (.ref c_Arrow) "__xor__" = some (some (.ref f_Arrow_xor)))
    (i_Arrow_xor : PySem.W.isFn K (.ref f_Arrow_xor) = true)
    (l_Arrow_xor : K.lookup f_Arrow_xor = some ⟨oc_Arrow_xor, od_Arrow_xor, .func (PySem.W.fnOf "__xor__" "Arrow.__xor__" (defArgs s_Arrow_xor) (defBody s_Arrow_xor) (defScope s_Arrow_xor) .none kV_Arrow_xor dc_Arrow_xor pm_Arrow_xor an_Arrow_xor cd_Arrow_xor ct_Arrow_xor), sl_Arrow_xor⟩)
    (co_Arrow_xor : PySem.W.codeIn K cd_Arrow_xor "Arrow.__xor__" = true)
    (k_Arrow_xor : PySem.W.keepIn K (.ref f_Arrow_xor) = true)
    (a_Arrow_invert : PySem.W.findIn K (.ref c_Arrow) "__invert__" = some (some (.ref f_Arrow_invert)))
    (i_Arrow_invert : PySem.W.isFn K (.ref f_Arrow_invert) = true)
    (l_Arrow_invert : K.lookup f_Arrow_invert = some ⟨oc_Arrow_invert, od_Arrow_invert, .func (PySem.W.fnOf "__invert__" "Arrow.__invert__" (defArgs s_Arrow_invert) (defBody s_Arrow_invert) (defScope s_Arrow_invert) .none kV_Arrow_invert dc_Arrow_invert pm_Arrow_invert an_Arrow_invert cd_Arrow_invert ct_Arrow_invert), sl_Arrow_invert⟩)
    (co_Arrow_invert : PySem.W.codeIn K cd_Arrow_invert "Arrow.__invert__" = true)
    (k_Arrow_invert : PySem.W.keepIn K (.ref f_Arrow_invert) = true)
    (a_Arrow_eq : PySem.W.findIn K (.ref c_Arrow) "__eq__" = some (some (.ref f_Arrow_eq)))
    (i_Arrow_eq : PySem.W.isFn K (.ref f_Arrow_eq) = true)
    (l_Arrow_eq : K.lookup f_Arrow_eq = some ⟨oc_Arrow_eq, od_Arrow_eq, .func (PySem.W.fnOf "__eq__" "Arrow.__eq__" (defArgs s_Arrow_eq) (defBody s_Arrow_eq) (defScope s_Arrow_eq) .none kV_Arrow_eq dc_Arrow_eq pm_Arrow_eq an_Arrow_eq cd_Arrow_eq ct_Arrow_eq), sl_Arrow_eq⟩)
    (co_Arrow_eq : PySem.W.codeIn K cd_Arrow_eq "Arrow.__eq__" = true)
    (k_Arrow_eq : PySem.W.keepIn K (.ref f_Arrow_eq) = true)
    (a_law_pool : PySem.W.nsIn K mainGlobals "_law_pool" = some (some (.ref f_law_pool)))
    (l_law_pool : K.lookup f_law_pool = some ⟨oc_law_pool, od_law_pool, .func (PySem.W.fnOf "_law_pool" "_law_pool" (defArgs s_law_pool) (defBody s_law_pool) (defScope s_law_pool) .none kV_law_pool dc_law_pool pm_law_pool an_law_pool cd_law_pool ct_law_pool), sl_law_pool⟩)
    (co_law_pool : PySem.W.codeIn K cd_law_pool "_law_pool" = true)
    (k_law_pool : PySem.W.keepIn K (.ref f_law_pool) = true)
    (a_law_take : PySem.W.nsIn K mainGlobals "_law_take" = some (some (.ref f_law_take)))
    (l_law_take : K.lookup f_law_take = some ⟨oc_law_take, od_law_take, .func (PySem.W.fnOf "_law_take" "_law_take" (defArgs s_law_take) (defBody s_law_take) (defScope s_law_take) .none kV_law_take dc_law_take pm_law_take an_law_take cd_law_take ct_law_take), sl_law_take⟩)
    (co_law_take : PySem.W.codeIn K cd_law_take "_law_take" = true)
    (k_law_take : PySem.W.keepIn K (.ref f_law_take) = true)
    (a_law_whole : PySem.W.nsIn K mainGlobals "_law_whole" = some (some (.ref f_law_whole)))
    (l_law_whole : K.lookup f_law_whole = some ⟨oc_law_whole, od_law_whole, .func (PySem.W.fnOf "_law_whole" "_law_whole" (defArgs s_law_whole) (defBody s_law_whole) (defScope s_law_whole) .none kV_law_whole dc_law_whole pm_law_whole an_law_whole cd_law_whole ct_law_whole), sl_law_whole⟩)
    (co_law_whole : PySem.W.codeIn K cd_law_whole "_law_whole" = true)
    (k_law_whole : PySem.W.keepIn K (.ref f_law_whole) = true)
    (a_law_number : PySem.W.nsIn K mainGlobals "_law_number" = some (some (.ref f_law_number)))
    (l_law_number : K.lookup f_law_number = some ⟨oc_law_number, od_law_number, .func (PySem.W.fnOf "_law_number" "_law_number" (defArgs s_law_number) (defBody s_law_number) (defScope s_law_number) .none kV_law_number dc_law_number pm_law_number an_law_number cd_law_number ct_law_number), sl_law_number⟩)
    (co_law_number : PySem.W.codeIn K cd_law_number "_law_number" = true)
    (k_law_number : PySem.W.keepIn K (.ref f_law_number) = true)
    (a_law_is_arrow : PySem.W.nsIn K mainGlobals "_law_is_arrow" = some (some (.ref f_law_is_arrow)))
    (l_law_is_arrow : K.lookup f_law_is_arrow = some ⟨oc_law_is_arrow, od_law_is_arrow, .func (PySem.W.fnOf "_law_is_arrow" "_law_is_arrow" (defArgs s_law_is_arrow) (defBody s_law_is_arrow) (defScope s_law_is_arrow) .none kV_law_is_arrow dc_law_is_arrow pm_law_is_arrow an_law_is_arrow cd_law_is_arrow ct_law_is_arrow), sl_law_is_arrow⟩)
    (co_law_is_arrow : PySem.W.codeIn K cd_law_is_arrow "_law_is_arrow" = true)
    (k_law_is_arrow : PySem.W.keepIn K (.ref f_law_is_arrow) = true)
    (a_law : PySem.W.nsIn K mainGlobals "law" = some (some (.ref f_law)))
    (l_law : K.lookup f_law = some ⟨oc_law, od_law, .func (PySem.W.fnOf "law" "law" (defArgs s_law) (defBody s_law) (defScope s_law) .none kV_law dc_law pm_law an_law cd_law ct_law), sl_law⟩)
    (co_law : PySem.W.codeIn K cd_law "law" = true)
    (k_law : PySem.W.keepIn K (.ref f_law) = true)
    (pg_Arrow : PySem.W.plainGet K c_Arrow Str.empty = true)
    (hd_Arrow : PySem.W.hasDictIn K c_Arrow = true)
    (po_Arrow : PySem.W.plainOver K c_Arrow = true)
    (sa_Arrow : PySem.W.findIn K (.ref c_Arrow) "__setattr__" = some (some (.builtin "object.__setattr__")))
    (ms_Arrow : PySem.W.makesIn K c_Arrow = true)
    (kc_Arrow : PySem.W.keepIn K (.ref c_Arrow) = true)
    (na_Arrow_x : PySem.W.findIn K (.ref c_Arrow) "x" = some none)
    (na_Arrow_y : PySem.W.findIn K (.ref c_Arrow) "y" = some none)
    (sf_Arrow : PySem.W.selfFirst K c_Arrow = true)
    (nf_Arrow : PySem.W.notFirst K c_Arrow (.ref c_Arrow) = true)
    (nfi_Arrow : PySem.W.notFirst K c_Arrow (.type "int") = true)
    (ia_Arrow : PySem.W.findIn K (.ref c_Arrow) "__class__" = some (some (.builtin "object.__class__")))
    (im_Arrow : PySem.W.mroIn K c_Arrow (.type "object") = some true)
    (ign : PySem.W.specialIn K (.builtin "object.__class__") "__get__" = some (some (.builtin "getset_descriptor.__get__")))
    (igt : PySem.W.takesIn K (.builtin "object.__class__") = some true)
    {fo_Arrow_mul ro_Arrow_mul : Option Value}
    (r1_Arrow_mul : PySem.W.findIn K (.type "int") (PySem.dunder "mul") = some fo_Arrow_mul)
    (r2_Arrow_mul : PySem.W.findIn K (.type "int") (PySem.dunderR "mul") = some ro_Arrow_mul)
    (r3_Arrow_mul : ((fo_Arrow_mul.isSome && !isSeqSlot fo_Arrow_mul) || (ro_Arrow_mul.isSome && !isSeqSlot ro_Arrow_mul)) = true)
    (r4_Arrow_mul : PySem.W.subIn K (.ref c_Arrow) (.type "int") = some false)
    (z_isinstance : PySem.W.nsIn K mainGlobals "isinstance" = some none)
    (z_abs : PySem.W.nsIn K mainGlobals "abs" = some none)
    (z_range : PySem.W.nsIn K mainGlobals "range" = some none)
    (z_int : PySem.W.nsIn K mainGlobals "int" = some none)
    (z_bool : PySem.W.nsIn K mainGlobals "bool" = some none)
    : ∃ fd : FuncData, (∀ (s : Shared) (v : Value), BindsTo s fd ⟨[v], []⟩ [("_law_script", v)]) ∧ ∀ base : Heap, K.In base → base.Ns mainGlobals mg → FnOk l.prog w K mg base CX0 4 fa fd ["_law_script"] (sp_law K) := by
  have e := hfa.symm.trans (PySem.W.mg_of X G a_law)
  cases e
  have F_Arrow_init := fun_mk (st := s_Arrow_init) l_Arrow_init co_Arrow_init k_Arrow_init
  have B_Arrow_init := F_Arrow_init.binds (ps := ["self", "x", "y"]) fun _ _ _ _ _ _ us hl => match us, hl with | [_, _, _], _ => rfl
  have F_Arrow_add := fun_mk (st := s_Arrow_add) l_Arrow_add co_Arrow_add k_Arrow_add
  have B_Arrow_add := F_Arrow_add.binds (ps := ["self", "other"]) fun _ _ _ _ _ _ us hl => match us, hl with | [_, _], _ => rfl
  have F_Arrow_sub := fun_mk (st := s_Arrow_sub) l_Arrow_sub co_Arrow_sub k_Arrow_sub
  have B_Arrow_sub := F_Arrow_sub.binds (ps := ["self", "other"]) fun _ _ _ _ _ _ us hl => match us, hl with | [_, _], _ => rfl
  have F_Arrow_neg := fun_mk (st := s_Arrow_neg) l_Arrow_neg co_Arrow_neg k_Arrow_neg
  have B_Arrow_neg := F_Arrow_neg.binds (ps := ["self"]) fun _ _ _ _ _ _ us hl => match us, hl with | [_], _ => rfl
  have F_Arrow_mul := fun_mk (st := s_Arrow_mul) l_Arrow_mul co_Arrow_mul k_Arrow_mul
  have B_Arrow_mul := F_Arrow_mul.binds (ps := ["self", "other"]) fun _ _ _ _ _ _ us hl => match us, hl with | [_, _], _ => rfl
  have F_Arrow_rmul := fun_mk (st := s_Arrow_rmul) l_Arrow_rmul co_Arrow_rmul k_Arrow_rmul
  have B_Arrow_rmul := F_Arrow_rmul.binds (ps := ["self", "other"]) fun _ _ _ _ _ _ us hl => match us, hl with | [_, _], _ => rfl
  have F_Arrow_xor := fun_mk (st := s_Arrow_xor) l_Arrow_xor co_Arrow_xor k_Arrow_xor
  have B_Arrow_xor := F_Arrow_xor.binds (ps := ["self", "other"]) fun _ _ _ _ _ _ us hl => match us, hl with | [_, _], _ => rfl
  have F_Arrow_invert := fun_mk (st := s_Arrow_invert) l_Arrow_invert co_Arrow_invert k_Arrow_invert
  have B_Arrow_invert := F_Arrow_invert.binds (ps := ["self"]) fun _ _ _ _ _ _ us hl => match us, hl with | [_], _ => rfl
  have F_Arrow_eq := fun_mk (st := s_Arrow_eq) l_Arrow_eq co_Arrow_eq k_Arrow_eq
  have B_Arrow_eq := F_Arrow_eq.binds (ps := ["self", "other"]) fun _ _ _ _ _ _ us hl => match us, hl with | [_, _], _ => rfl
  have F_law_pool := fun_mk (st := s_law_pool) l_law_pool co_law_pool k_law_pool
  have B_law_pool := F_law_pool.binds (ps := ["_law_script"]) fun _ _ _ _ _ _ us hl => match us, hl with | [_], _ => rfl
  have F_law_take := fun_mk (st := s_law_take) l_law_take co_law_take k_law_take
  have B_law_take := F_law_take.binds (ps := ["_law_pool_here", "_law_many"]) fun _ _ _ _ _ _ us hl => match us, hl with | [_, _], _ => rfl
  have F_law_whole := fun_mk (st := s_law_whole) l_law_whole co_law_whole k_law_whole
  have B_law_whole := F_law_whole.binds (ps := ["_law_x"]) fun _ _ _ _ _ _ us hl => match us, hl with | [_], _ => rfl
  have F_law_number := fun_mk (st := s_law_number) l_law_number co_law_number k_law_number
  have B_law_number := F_law_number.binds (ps := ["_law_pool_here"]) fun _ _ _ _ _ _ us hl => match us, hl with | [_], _ => rfl
  have F_law_is_arrow := fun_mk (st := s_law_is_arrow) l_law_is_arrow co_law_is_arrow k_law_is_arrow
  have B_law_is_arrow := F_law_is_arrow.binds (ps := ["_law_arrow", "_law_x", "_law_y"]) fun _ _ _ _ _ _ us hl => match us, hl with | [_, _, _], _ => rfl
  have F_law := fun_mk (st := s_law) l_law co_law k_law
  have B_law := F_law.binds (ps := ["_law_script"]) fun _ _ _ _ _ _ us hl => match us, hl with | [_], _ => rfl
  let ad : Ad := { f_Arrow_init := f_Arrow_init, d_Arrow_init := PySem.W.fnOf "__init__" "Arrow.__init__" (defArgs s_Arrow_init) (defBody s_Arrow_init) (defScope s_Arrow_init) .none kV_Arrow_init dc_Arrow_init pm_Arrow_init an_Arrow_init cd_Arrow_init ct_Arrow_init, f_Arrow_add := f_Arrow_add, d_Arrow_add := PySem.W.fnOf "__add__" "Arrow.__add__" (defArgs s_Arrow_add) (defBody s_Arrow_add) (defScope s_Arrow_add) .none kV_Arrow_add dc_Arrow_add pm_Arrow_add an_Arrow_add cd_Arrow_add ct_Arrow_add, f_Arrow_sub := f_Arrow_sub, d_Arrow_sub := PySem.W.fnOf "__sub__" "Arrow.__sub__" (defArgs s_Arrow_sub) (defBody s_Arrow_sub) (defScope s_Arrow_sub) .none kV_Arrow_sub dc_Arrow_sub pm_Arrow_sub an_Arrow_sub cd_Arrow_sub ct_Arrow_sub, f_Arrow_neg := f_Arrow_neg, d_Arrow_neg := PySem.W.fnOf "__neg__" "Arrow.__neg__" (defArgs s_Arrow_neg) (defBody s_Arrow_neg) (defScope s_Arrow_neg) .none kV_Arrow_neg dc_Arrow_neg pm_Arrow_neg an_Arrow_neg cd_Arrow_neg ct_Arrow_neg, f_Arrow_mul := f_Arrow_mul, d_Arrow_mul := PySem.W.fnOf "__mul__" "Arrow.__mul__" (defArgs s_Arrow_mul) (defBody s_Arrow_mul) (defScope s_Arrow_mul) .none kV_Arrow_mul dc_Arrow_mul pm_Arrow_mul an_Arrow_mul cd_Arrow_mul ct_Arrow_mul, f_Arrow_rmul := f_Arrow_rmul, d_Arrow_rmul := PySem.W.fnOf "__rmul__" "Arrow.__rmul__" (defArgs s_Arrow_rmul) (defBody s_Arrow_rmul) (defScope s_Arrow_rmul) .none kV_Arrow_rmul dc_Arrow_rmul pm_Arrow_rmul an_Arrow_rmul cd_Arrow_rmul ct_Arrow_rmul, f_Arrow_xor := f_Arrow_xor, d_Arrow_xor := PySem.W.fnOf "__xor__" "Arrow.__xor__" (defArgs s_Arrow_xor) (defBody s_Arrow_xor) (defScope s_Arrow_xor) .none kV_Arrow_xor dc_Arrow_xor pm_Arrow_xor an_Arrow_xor cd_Arrow_xor ct_Arrow_xor, f_Arrow_invert := f_Arrow_invert, d_Arrow_invert := PySem.W.fnOf "__invert__" "Arrow.__invert__" (defArgs s_Arrow_invert) (defBody s_Arrow_invert) (defScope s_Arrow_invert) .none kV_Arrow_invert dc_Arrow_invert pm_Arrow_invert an_Arrow_invert cd_Arrow_invert ct_Arrow_invert, f_Arrow_eq := f_Arrow_eq, d_Arrow_eq := PySem.W.fnOf "__eq__" "Arrow.__eq__" (defArgs s_Arrow_eq) (defBody s_Arrow_eq) (defScope s_Arrow_eq) .none kV_Arrow_eq dc_Arrow_eq pm_Arrow_eq an_Arrow_eq cd_Arrow_eq ct_Arrow_eq, f_law_pool := f_law_pool, d_law_pool := PySem.W.fnOf "_law_pool" "_law_pool" (defArgs s_law_pool) (defBody s_law_pool) (defScope s_law_pool) .none kV_law_pool dc_law_pool pm_law_pool an_law_pool cd_law_pool ct_law_pool, f_law_take := f_law_take, d_law_take := PySem.W.fnOf "_law_take" "_law_take" (defArgs s_law_take) (defBody s_law_take) (defScope s_law_take) .none kV_law_take dc_law_take pm_law_take an_law_take cd_law_take ct_law_take, f_law_whole := f_law_whole, d_law_whole := PySem.W.fnOf "_law_whole" "_law_whole" (defArgs s_law_whole) (defBody s_law_whole) (defScope s_law_whole) .none kV_law_whole dc_law_whole pm_law_whole an_law_whole cd_law_whole ct_law_whole, f_law_number := f_law_number, d_law_number := PySem.W.fnOf "_law_number" "_law_number" (defArgs s_law_number) (defBody s_law_number) (defScope s_law_number) .none kV_law_number dc_law_number pm_law_number an_law_number cd_law_number ct_law_number, f_law_is_arrow := f_law_is_arrow, d_law_is_arrow := PySem.W.fnOf "_law_is_arrow" "_law_is_arrow" (defArgs s_law_is_arrow) (defBody s_law_is_arrow) (defScope s_law_is_arrow) .none kV_law_is_arrow dc_law_is_arrow pm_law_is_arrow an_law_is_arrow cd_law_is_arrow ct_law_is_arrow, f_law := fa, d_law := PySem.W.fnOf "law" "law" (defArgs s_law) (defBody s_law) (defScope s_law) .none kV_law dc_law pm_law an_law cd_law ct_law, c_Arrow := c_Arrow }
  have T : Txt K mg ad := { F_Arrow_init := F_Arrow_init, B_Arrow_init := B_Arrow_init, m_Arrow_init := ⟨a_Arrow_init, i_Arrow_init, k_Arrow_init⟩, F_Arrow_add := F_Arrow_add, B_Arrow_add := B_Arrow_add, m_Arrow_add := ⟨a_Arrow_add, i_Arrow_add, k_Arrow_add⟩, F_Arrow_sub := F_Arrow_sub, B_Arrow_sub := B_Arrow_sub, m_Arrow_sub := ⟨a_Arrow_sub, i_Arrow_sub, k_Arrow_sub⟩, F_Arrow_neg := F_Arrow_neg, B_Arrow_neg := B_Arrow_neg, m_Arrow_neg := ⟨a_Arrow_neg, i_Arrow_neg, k_Arrow_neg⟩, F_Arrow_mul := F_Arrow_mul, B_Arrow_mul := B_Arrow_mul, m_Arrow_mul := ⟨a_Arrow_mul, i_Arrow_mul, k_Arrow_mul⟩, F_Arrow_rmul := F_Arrow_rmul, B_Arrow_rmul := B_Arrow_rmul, m_Arrow_rmul := ⟨a_Arrow_rmul, i_Arrow_rmul, k_Arrow_rmul⟩, F_Arrow_xor := F_Arrow_xor, B_Arrow_xor := B_Arrow_xor, m_Arrow_xor := ⟨a_Arrow_xor, i_Arrow_xor, k_Arrow_xor⟩, F_Arrow_invert := F_Arrow_invert, B_Arrow_invert := B_Arrow_invert, m_Arrow_invert := ⟨a_Arrow_invert, i_Arrow_invert, k_Arrow_invert⟩, F_Arrow_eq := F_Arrow_eq, B_Arrow_eq := B_Arrow_eq, m_Arrow_eq := ⟨a_Arrow_eq, i_Arrow_eq, k_Arrow_eq⟩, F_law_pool := F_law_pool, B_law_pool := B_law_pool, g_law_pool := PySem.W.mg_of X G a_law_pool, F_law_take := F_law_take, B_law_take := B_law_take, g_law_take := PySem.W.mg_of X G a_law_take, F_law_whole := F_law_whole, B_law_whole := B_law_whole, g_law_whole := PySem.W.mg_of X G a_law_whole, F_law_number := F_law_number, B_law_number := B_law_number, g_law_number := PySem.W.mg_of X G a_law_number, F_law_is_arrow := F_law_is_arrow, B_law_is_arrow := B_law_is_arrow, g_law_is_arrow := PySem.W.mg_of X G a_law_is_arrow, F_law := F_law, B_law := B_law, g_law := PySem.W.mg_of X G a_law, cl_Arrow := ⟨pg_Arrow, hd_Arrow, po_Arrow, sa_Arrow⟩, g_Arrow := PySem.W.mg_of X G aC_Arrow, mk_Arrow := ⟨ms_Arrow, a_Arrow_init, i_Arrow_init, kc_Arrow⟩, na_Arrow_x := na_Arrow_x, na_Arrow_y := na_Arrow_y, sf_Arrow := sf_Arrow, nf_Arrow := nf_Arrow, nfi_Arrow := nfi_Arrow, ia_Arrow := ia_Arrow, im_Arrow := im_Arrow, ik_Arrow := kit_self, ign := ign, igt := igt, or_Arrow_mul := ⟨sf_Arrow, ⟨_, a_Arrow_mul⟩, ⟨_, _, r1_Arrow_mul, r2_Arrow_mul, r3_Arrow_mul⟩, r4_Arrow_mul⟩, z_isinstance := PySem.W.mg_none_of X G z_isinstance, z_abs := PySem.W.mg_none_of X G z_abs, z_range := PySem.W.mg_none_of X G z_range, z_int := PySem.W.mg_none_of X G z_int, z_bool := PySem.W.mg_none_of X G z_bool }
  exact ⟨_, fun s v => .of_eq rfl, fun base _ _ => ok_law T⟩
end K04
open PySem PySem.W PyProof.Rows
set_option maxRecDepth 100000 in
set_option maxHeartbeats 0 in
theorem PySem.Challenge.cw_toldridges_k04_arrow_operations_holds : PySem.Challenge.rw_toldridges_k04_arrow_operations.Holds := by
  w_on; o_law; k_head; (case hw => w_witness2)
  k_fill
  refine L2.walk_of (l := PySem.Challenge.rw_toldridges_k04_arrow_operations) (n := 63) (k := 4) (x := "_law_script") (CX := fun _ => L2.CX0) (sp := fun w => K04.sp_law _) rfl (by decide) rfl ⟨rfl, by decide, by decide⟩ (fun w h Y => PySem.W.kIn_of Y) ?F (fun _ _ a ns hl _ hS => ⟨a, ns, rfl, hS, hl, fun _ => rfl⟩) (fun _ _ _ _ _ h => h)
  case F =>
    intro w mg fa h KX G hmg
    refine' K04.all_mk KX G hmg ?aC_Arrow ?a_Arrow_init ?i_Arrow_init ?l_Arrow_init ?co_Arrow_init ?k_Arrow_init ?a_Arrow_add ?i_Arrow_add ?l_Arrow_add ?co_Arrow_add ?k_Arrow_add ?a_Arrow_sub ?i_Arrow_sub ?l_Arrow_sub ?co_Arrow_sub ?k_Arrow_sub ?a_Arrow_neg ?i_Arrow_neg ?l_Arrow_neg ?co_Arrow_neg ?k_Arrow_neg ?a_Arrow_mul ?i_Arrow_mul ?l_Arrow_mul ?co_Arrow_mul ?k_Arrow_mul ?a_Arrow_rmul ?i_Arrow_rmul ?l_Arrow_rmul ?co_Arrow_rmul ?k_Arrow_rmul ?a_Arrow_xor ?i_Arrow_xor ?l_Arrow_xor ?co_Arrow_xor ?k_Arrow_xor ?a_Arrow_invert ?i_Arrow_invert ?l_Arrow_invert ?co_Arrow_invert ?k_Arrow_invert ?a_Arrow_eq ?i_Arrow_eq ?l_Arrow_eq ?co_Arrow_eq ?k_Arrow_eq ?a_law_pool ?l_law_pool ?co_law_pool ?k_law_pool ?a_law_take ?l_law_take ?co_law_take ?k_law_take ?a_law_whole ?l_law_whole ?co_law_whole ?k_law_whole ?a_law_number ?l_law_number ?co_law_number ?k_law_number ?a_law_is_arrow ?l_law_is_arrow ?co_law_is_arrow ?k_law_is_arrow ?a_law ?l_law ?co_law ?k_law ?pg_Arrow ?hd_Arrow ?po_Arrow ?sa_Arrow ?ms_Arrow ?kc_Arrow ?na_Arrow_x ?na_Arrow_y ?sf_Arrow ?nf_Arrow ?nfi_Arrow ?ia_Arrow ?im_Arrow ?ign ?igt ?r1_Arrow_mul ?r2_Arrow_mul ?r3_Arrow_mul ?r4_Arrow_mul ?z_isinstance ?z_abs ?z_range ?z_int ?z_bool
    (case aC_Arrow => k_is)
    (case a_Arrow_init => k_is)
    (case i_Arrow_init => k_is)
    (case l_Arrow_init => k_is)
    (case co_Arrow_init => k_is)
    (case k_Arrow_init => k_is)
    (case a_Arrow_add => k_is)
    (case i_Arrow_add => k_is)
    (case l_Arrow_add => k_is)
    (case co_Arrow_add => k_is)
    (case k_Arrow_add => k_is)
    (case a_Arrow_sub => k_is)
    (case i_Arrow_sub => k_is)
    (case l_Arrow_sub => k_is)
    (case co_Arrow_sub => k_is)
    (case k_Arrow_sub => k_is)
    (case a_Arrow_neg => k_is)
    (case i_Arrow_neg => k_is)
    (case l_Arrow_neg => k_is)
    (case co_Arrow_neg => k_is)
    (case k_Arrow_neg => k_is)
    (case a_Arrow_mul => k_is)
    (case i_Arrow_mul => k_is)
    (case l_Arrow_mul => k_is)
    (case co_Arrow_mul => k_is)
    (case k_Arrow_mul => k_is)
    (case a_Arrow_rmul => k_is)
    (case i_Arrow_rmul => k_is)
    (case l_Arrow_rmul => k_is)
    (case co_Arrow_rmul => k_is)
    (case k_Arrow_rmul => k_is)
    (case a_Arrow_xor => k_is)
    (case i_Arrow_xor => k_is)
    (case l_Arrow_xor => k_is)
    (case co_Arrow_xor => k_is)
    (case k_Arrow_xor => k_is)
    (case a_Arrow_invert => k_is)
    (case i_Arrow_invert => k_is)
    (case l_Arrow_invert => k_is)
    (case co_Arrow_invert => k_is)
    (case k_Arrow_invert => k_is)
    (case a_Arrow_eq => k_is)
    (case i_Arrow_eq => k_is)
    (case l_Arrow_eq => k_is)
    (case co_Arrow_eq => k_is)
    (case k_Arrow_eq => k_is)
    (case a_law_pool => k_is)
    (case l_law_pool => k_is)
    (case co_law_pool => k_is)
    (case k_law_pool => k_is)
    (case a_law_take => k_is)
    (case l_law_take => k_is)
    (case co_law_take => k_is)
    (case k_law_take => k_is)
    (case a_law_whole => k_is)
    (case l_law_whole => k_is)
    (case co_law_whole => k_is)
    (case k_law_whole => k_is)
    (case a_law_number => k_is)
    (case l_law_number => k_is)
    (case co_law_number => k_is)
    (case k_law_number => k_is)
    (case a_law_is_arrow => k_is)
    (case l_law_is_arrow => k_is)
    (case co_law_is_arrow => k_is)
    (case k_law_is_arrow => k_is)
    (case a_law => k_is)
    (case l_law => k_is)
    (case co_law => k_is)
    (case k_law => k_is)
    (case pg_Arrow => k_is)
    (case hd_Arrow => k_is)
    (case po_Arrow => k_is)
    (case sa_Arrow => k_is)
    (case ms_Arrow => k_is)
    (case kc_Arrow => k_is)
    (case na_Arrow_x => k_is)
    (case na_Arrow_y => k_is)
    (case sf_Arrow => k_is)
    (case nf_Arrow => k_is)
    (case nfi_Arrow => k_is)
    (case ia_Arrow => k_is)
    (case im_Arrow => k_is)
    (case ign => k_is)
    (case igt => k_is)
    (case r1_Arrow_mul => k_is)
    (case r2_Arrow_mul => k_is)
    (case r3_Arrow_mul => decide +kernel)
    (case r4_Arrow_mul => k_is)
    (case z_isinstance => k_is)
    (case z_abs => k_is)
    (case z_range => k_is)
    (case z_int => k_is)
    (case z_bool => k_is)
#print axioms PySem.Challenge.cw_toldridges_k04_arrow_operations_holds
