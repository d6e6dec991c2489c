import PyProof.Rows.All
import Wide.All
import OpenK.AllK
import Wide.FinOn
import HandS.ForMost
import HandS.Steps
import HandS.IsInst
import HandS.Wide
import HandS.Flow
import HandS.ClsMeth
import PySem.Challenge.RW_toldridges_k05_arrow_turn
set_option Elab.async false
set_option linter.all false
set_option maxRecDepth 100000
set_option maxHeartbeats 4000000
/-! TrBase: the world G (what never changes), the owned objects M, the heap H; typed values. -/
namespace Tr
open PySem PySem.Spec PyProof.Rows L2

/-! ### worlds -/
def Sub (G H : Hp) : Prop := ∀ a o, G a = some o → H a = some o
theorem Sub.refl (H : Hp) : Sub H H := fun _ _ h => h
theorem Sub.trans {G H I : Hp} (a : Sub G H) (b : Sub H I) : Sub G I := fun x o h => b x o (a x o h)
theorem Sub.new {H : Hp} {p : Addr} {o : HO} (h : H p = none) : Sub H (upd H p o) := fun a u e => by
  rw [upd_ne (ne_of_none e h)]
  exact e
theorem Sub.seq {K : PySem.W.Frag} {G H : Hp} {a : Addr} {xs : List V} (e : Sub G H) (h : SqL K G a xs) : SqL K H a xs := by
  rcases h with (h | ⟨o, h⟩) | h
  · exact .inl (.inl (e _ _ h))
  · exact .inl (.inr ⟨o, e _ _ h⟩)
  · exact .inr h
abbrev Mu := List (Addr × HO)
/-- G never changes, M is owned, H is the heap -/
structure At (G : Hp) (M : Mu) (H : Hp) : Prop where
  sub : Sub G H
  own : ∀ q ∈ M, H q.1 = some q.2 ∧ G q.1 = none
  nd : (M.map (·.1)).Nodup
section
variable {G H : Hp} {M : Mu} {p q : Addr} {o u : HO}
theorem At.hd (A : At G ((p, o) :: M) H) : H p = some o := (A.own (p, o) (List.mem_cons_self)).1
theorem At.gn (A : At G ((p, o) :: M) H) : G p = none := (A.own (p, o) (List.mem_cons_self)).2
theorem At.tl (A : At G ((p, o) :: M) H) : At G M H := ⟨A.sub, fun q h => A.own q (List.mem_cons_of_mem _ h), (List.nodup_cons.mp A.nd).2⟩
theorem At.nm (A : At G ((p, o) :: M) H) : ∀ q ∈ M, q.1 ≠ p := fun q h e => (List.nodup_cons.mp A.nd).1 (by
  have h1 := List.mem_map_of_mem (f := fun q : Addr × HO => q.1) h
  rw [show q.1 = p from e] at h1
  exact h1)
theorem At.fresh (A : At G M H) (h : H p = none) : G p = none := by
  cases e : G p with
  | none => rfl
  | some x => rw [A.sub p x e] at h; cases h
theorem At.new (A : At G M H) (h : H p = none) : At G ((p, o) :: M) (upd H p o) := by
  refine ⟨A.sub.trans (Sub.new h), fun q hq => ?_, ?_⟩
  · rcases List.mem_cons.mp hq with rfl | hq
    · exact ⟨upd_same, A.fresh h⟩
    · obtain ⟨h1, h2⟩ := A.own q hq
      exact ⟨by rw [upd_ne (ne_of_none h1 h)]; exact h1, h2⟩
  · rw [List.map_cons, List.nodup_cons]
    refine ⟨fun hm => ?_, A.nd⟩
    obtain ⟨q, hq, e⟩ := List.mem_map.mp hm
    have h1 := (A.own q hq).1
    rw [e, h] at h1; cases h1
theorem At.put (A : At G ((p, o) :: M) H) : At G ((p, u) :: M) (upd H p u) := by
  refine ⟨fun a x e => ?_, fun q hq => ?_, A.nd⟩
  · have n : a ≠ p := fun z => by rw [z, A.gn] at e; cases e
    rw [upd_ne n]; exact A.sub a x e
  · rcases List.mem_cons.mp hq with rfl | hq
    · exact ⟨upd_same, A.gn⟩
    · obtain ⟨h1, h2⟩ := A.own q (List.mem_cons_of_mem _ hq)
      exact ⟨by rw [upd_ne (A.nm q hq)]; exact h1, h2⟩
/-- an owned object is given to the world -/
theorem At.frz (A : At G ((p, o) :: M) H) : At (upd G p o) M H := by
  refine ⟨fun a x e => ?_, fun q hq => ?_, (List.nodup_cons.mp A.nd).2⟩
  · by_cases z : a = p
    · subst z; rw [upd_same] at e; cases e; exact A.hd
    · rw [upd_ne z] at e; exact A.sub a x e
  · obtain ⟨h1, h2⟩ := A.own q (List.mem_cons_of_mem _ hq)
    exact ⟨h1, by rw [upd_ne (A.nm q hq)]; exact h2⟩
theorem At.frzS (A : At G ((p, o) :: M) H) : Sub G (upd G p o) := Sub.new A.gn
/-- a new object goes into the world at once -/
theorem At.newG (A : At G M H) (h : H p = none) : At (upd G p o) M (upd H p o) := (A.new (o := o) h).frz
theorem At.newS (A : At G M H) (h : H p = none) : Sub G (upd G p o) := Sub.new (A.fresh h)
theorem At.swap {a b : Addr × HO} (A : At G (a :: b :: M) H) : At G (b :: a :: M) H := by
  refine ⟨A.sub, fun q hq => A.own q ?_, ?_⟩
  · rcases List.mem_cons.mp hq with h | hq
    · exact h ▸ List.mem_cons_of_mem _ List.mem_cons_self
    · rcases List.mem_cons.mp hq with h | hq
      · exact h ▸ List.mem_cons_self
      · exact List.mem_cons_of_mem _ (List.mem_cons_of_mem _ hq)
  · have := A.nd
    simp only [List.map_cons, List.nodup_cons, List.mem_cons, not_or] at this ⊢
    exact ⟨⟨fun e => this.1.1 e.symm, this.2.1⟩, this.1.2, this.2.2⟩
theorem At.rot {a b c : Addr × HO} (A : At G (a :: b :: c :: M) H) : At G (c :: a :: b :: M) H := by
  refine ⟨A.sub, fun q hq => A.own q ?_, ?_⟩
  · simp only [List.mem_cons] at hq ⊢
    rcases hq with h | h | h | h
    · exact .inr (.inr (.inl h))
    · exact .inl h
    · exact .inr (.inl h)
    · exact .inr (.inr (.inr h))
  · have := A.nd
    simp only [List.map_cons, List.nodup_cons, List.mem_cons, not_or] at this ⊢
    exact ⟨⟨fun e => this.1.2.1 e.symm, fun e => this.2.1.1 e.symm, this.2.2.1⟩, ⟨this.1.1, this.1.2.2⟩, this.2.1.2, this.2.2.2⟩
/-- the world alone -/
theorem At.nil (A : At G M H) : At G [] H := ⟨A.sub, fun q h => (nomatch h), List.nodup_nil⟩
theorem At.self (H : Hp) : At H [] H := ⟨Sub.refl H, fun q h => (nomatch h), List.nodup_nil⟩
end

/-! ### typed values -/
class Enc (α : Type) where
  den : Hp → V → α → Prop
  mono : ∀ {G H : Hp} {v : V} {x : α}, Sub G H → den G v x → den H v x
open Enc (den)
instance : Enc Int := ⟨fun _ v x => v = .int x, fun _ h => h⟩
instance : Enc Bool := ⟨fun _ v x => v = .bl x, fun _ h => h⟩
instance : Enc Str := ⟨fun _ v x => v = .str x, fun _ h => h⟩
instance : Enc Unit := ⟨fun _ v _ => v = .non, fun _ h => h⟩
end Tr
set_option Elab.async false
set_option linter.all false
set_option maxRecDepth 100000
set_option maxHeartbeats 4000000
/-! TrOps: operators, comparisons and unary operators that an own class defines, as rules of the hand layer. -/
namespace Tr
open PySem PySem.Spec PyProof.Rows L2
section
variable {X : Cx} {CX : CXT} {k : Nat} {C f : Addr} {fd : FuncData} {ps : List Str} {sp : Sp} {E : XK}

theorem inst_of {pins : List (Addr × Obj)} {σ : L2.St} {H : Hp} {s : Shared} {a C dx : Addr} {fs : List (Str × V)} (I : Inv X pins σ H s) (e : H a = some (.ins C dx fs)) : ∃ ox od, PySem.W.InstAt s.heap a ox C od := by
  obtain ⟨mA, O, _⟩ := ins_get I.hok e
  obtain ⟨od, J, _⟩ := O.look
  exact ⟨_, _, J⟩
theorem back_of {pins : List (Addr × Obj)} {σ : L2.St} {Q : VK} {r : Value} {s' : Shared} (h : EP X pins σ Q r s') : PySem.W.CmpBack (EP X pins σ Q) r s' := by
  obtain ⟨v, H', I', rv, q'⟩ := h
  cases r with
  | notImplemented =>
    exfalso
    cases v <;> first | (obtain ⟨_, e⟩ := rv; cases e) | cases rv
  | _ => exact ⟨v, H', I', rv, q'⟩
/-- a, b instances of one class -/
def rOwn (C : Addr) (sp : Sp) (E : XK) : R2 := fun x y H Q => ∃ a dx fs b dy gs, x = .ref a ∧ y = .ref b ∧ H a = some (.ins C dx fs) ∧ H b = some (.ins C dy gs) ∧ sp [x, y] H Q E
theorem op_own {op : Operator} (F : FnOk X.prog X.w X.K X.mg X.base CX k f fd ps sp) (hr : Room k X.A) (hb : Binds X.K fd ps []) (hx : Passes CX X E) (hc : PySem.W.selfFirst X.K C = true) (m : Meth X.K C (PySem.dunder op.info.2) f) :
    OpR X (binaryOp op) (rOwn C sp E) := by
  intro pins s σ H x y v u Q I rx ry h
  obtain ⟨a, dx, fs, b, dy, gs, rfl, rfl, ha, hb', q⟩ := h
  cases (show v = Value.ref a from rx)
  cases (show u = Value.ref b from ry)
  obtain ⟨ox, od, J⟩ := inst_of I ha
  obtain ⟨ox2, od2, J2⟩ := inst_of I hb'
  obtain ⟨mm, Fm⟩ := I.fr
  refine PySem.W.binop_K Fm I.mod.kin J J2.type hc m.at_ m.fn ?_
  exact thn (run_fn (us := [.ref a, .ref b]) (vs := [.ref a, .ref b]) F hr hb .nil hx I (.cons rfl (.cons rfl .nil)) q) fun r s' hq => back_of hq
/-- what of the text an operator of an own class with an int on the other side must have -/
structure OwnT (K : PySem.W.Frag) (C : Addr) (nm : String) : Prop where
  sf : PySem.W.selfFirst K C = true
  ru : ∃ rc, PySem.W.findIn K (.ref C) (PySem.dunderR nm) = some rc ∧ (rc = none ∨ ∃ g : Addr, rc = some (.ref g))
  i1 : ∃ fo, PySem.W.findIn K (.type "int") (PySem.dunder nm) = some fo
  i2 : ∃ ro, PySem.W.findIn K (.type "int") (PySem.dunderR nm) = some ro
  su : PySem.W.subIn K (.type "int") (.ref C) = some false
def rOwnI (C : Addr) (sp : Sp) (E : XK) : R2 := fun x y H Q => ∃ a dx fs j, x = .ref a ∧ y = .int j ∧ H a = some (.ins C dx fs) ∧ sp [x, y] H Q E
theorem op_ownI {op : Operator} (F : FnOk X.prog X.w X.K X.mg X.base CX k f fd ps sp) (hr : Room k X.A) (hb : Binds X.K fd ps []) (hx : Passes CX X E) (t : OwnT X.K C op.info.2) (m : Meth X.K C (PySem.dunder op.info.2) f) :
    OpR X (binaryOp op) (rOwnI C sp E) := by
  intro pins s σ H x y v u Q I rx ry h
  obtain ⟨a, dx, fs, j, rfl, rfl, ha, q⟩ := h
  cases (show v = Value.ref a from rx)
  obtain ⟨tk, rfl⟩ := (show ∃ t, u = Value.int j t from ry)
  obtain ⟨ox, od, J⟩ := inst_of I ha
  obtain ⟨mm, Fm⟩ := I.fr
  obtain ⟨rc, r1, r2⟩ := t.ru
  obtain ⟨fo, f1⟩ := t.i1
  obtain ⟨ro, o1⟩ := t.i2
  refine PySem.W.ksp_binT (T := "int") Fm I.mod.kin J rfl t.sf m.at_ m.fn r1 r2 f1 o1 t.su ?_
  exact thn (run_fn (us := [.ref a, .int j tk]) (vs := [.ref a, .int j]) F hr hb .nil hx I (.cons rfl (.cons ⟨tk, rfl⟩ .nil)) q) fun r s' hq => back_of hq
/-- -a, ~a -/
def rOwnU (C : Addr) (sp : Sp) (E : XK) : V → Hp → VK → Prop := fun x H Q => ∃ a dx fs, x = .ref a ∧ H a = some (.ins C dx fs) ∧ sp [x] H Q E
theorem un_ownNeg (F : FnOk X.prog X.w X.K X.mg X.base CX k f fd ps sp) (hr : Room k X.A) (hb : Binds X.K fd ps []) (hx : Passes CX X E) (m : Meth X.K C "__neg__" f) : UnR X (unaryOp .USub) (rOwnU C sp E) := by
  intro pins s σ H x v Q I rx h
  obtain ⟨a, dx, fs, rfl, ha, q⟩ := h
  cases (show v = Value.ref a from rx)
  obtain ⟨ox, od, J⟩ := inst_of I ha
  obtain ⟨mm, Fm⟩ := I.fr
  refine PySem.W.ksp_neg Fm I.mod.kin J m.at_ m.fn ?_
  exact run_fn (us := [.ref a]) (vs := [.ref a]) F hr hb .nil hx I (.cons rfl .nil) q
theorem un_ownInv (F : FnOk X.prog X.w X.K X.mg X.base CX k f fd ps sp) (hr : Room k X.A) (hb : Binds X.K fd ps []) (hx : Passes CX X E) (m : Meth X.K C "__invert__" f) : UnR X (unaryOp .Invert) (rOwnU C sp E) := by
  intro pins s σ H x v Q I rx h
  obtain ⟨a, dx, fs, rfl, ha, q⟩ := h
  cases (show v = Value.ref a from rx)
  obtain ⟨ox, od, J⟩ := inst_of I ha
  obtain ⟨mm, Fm⟩ := I.fr
  refine PySem.W.ksp_inv Fm I.mod.kin J m.at_ m.fn ?_
  exact run_fn (us := [.ref a]) (vs := [.ref a]) F hr hb .nil hx I (.cons rfl .nil) q
/-- a == b, a < b .. of two instances of one class -/
theorem op_cmpOwn {op : CmpOp} (hop : ∀ v u : Value, compareOp op v u = richCompare op v u) (F : FnOk X.prog X.w X.K X.mg X.base CX k f fd ps sp) (hr : Room k X.A) (hb : Binds X.K fd ps []) (hx : Passes CX X E)
    (hn : PySem.W.notFirst X.K C (.ref C) = true) (m : Meth X.K C (cmpInfo op).2.1 f) :
    OpR X (compareOp op) (rOwn C sp E) := by
  intro pins s σ H x y v u Q I rx ry h
  obtain ⟨a, dx, fs, b, dy, gs, rfl, rfl, ha, hb', q⟩ := h
  cases (show v = Value.ref a from rx)
  cases (show u = Value.ref b from ry)
  obtain ⟨ox, od, J⟩ := inst_of I ha
  obtain ⟨ox2, od2, J2⟩ := inst_of I hb'
  obtain ⟨mm, Fm⟩ := I.fr
  rw [hop]
  refine PySem.W.cmp_K hr.units0 Fm I.mod.kin J J2.type hn m.at_ m.fn ?_
  exact thn (run_fn (us := [.ref a, .ref b]) (vs := [.ref a, .ref b]) F hr hb .nil hx I (.cons rfl (.cons rfl .nil)) q) fun r s' hq => back_of hq
theorem op_cmpOwnI {op : CmpOp} (hop : ∀ v u : Value, compareOp op v u = richCompare op v u) (F : FnOk X.prog X.w X.K X.mg X.base CX k f fd ps sp) (hr : Room k X.A) (hb : Binds X.K fd ps []) (hx : Passes CX X E)
    (hn : PySem.W.notFirst X.K C (.type "int") = true) (m : Meth X.K C (cmpInfo op).2.1 f) :
    OpR X (compareOp op) (rOwnI C sp E) := by
  intro pins s σ H x y v u Q I rx ry h
  obtain ⟨a, dx, fs, j, rfl, rfl, ha, q⟩ := h
  cases (show v = Value.ref a from rx)
  obtain ⟨tk, rfl⟩ := (show ∃ t, u = Value.int j t from ry)
  obtain ⟨ox, od, J⟩ := inst_of I ha
  obtain ⟨mm, Fm⟩ := I.fr
  rw [hop]
  refine PySem.W.cmp_K (tb := .type "int") hr.units0 Fm I.mod.kin J (PySem.W.Looks.of_pure rfl) hn m.at_ m.fn ?_
  exact thn (run_fn (us := [.ref a, .int j tk]) (vs := [.ref a, .int j]) F hr hb .nil hx I (.cons rfl (.cons ⟨tk, rfl⟩ .nil)) q) fun r s' hq => back_of hq
theorem hop_eq (v u : Value) : compareOp .Eq v u = richCompare .Eq v u := rfl
theorem hop_lt (v u : Value) : compareOp .Lt v u = richCompare .Lt v u := rfl
theorem hop_le (v u : Value) : compareOp .LtE v u = richCompare .LtE v u := rfl
end
end Tr
set_option Elab.async false
set_option linter.all false
set_option maxRecDepth 100000
set_option maxHeartbeats 4000000
/-! TrOpsR: an int on the left, an instance of an own class on the right: the class's reflected method. -/
namespace Tr
open PySem PySem.Spec PyProof.Rows L2
theorem int_add_inst (i : Int) (t : Tok) (x C dx : Addr) :
    Meets (Builtin.«int.__add__» ⟨[.int i t, .ref x], []⟩) (fun _ R s => s.heap.get? x = some (PySem.W.instObj C dx) ∧ R (.ok (.ret Value.notImplemented)) s) :=
  .of_wp fun prog w A R s h => by obtain ⟨hp, g, d, tk, os⟩ := s; obtain ⟨hl, h⟩ := h; wp_walk; exact ⟨_, rfl, h⟩
theorem int_sub_inst (i : Int) (t : Tok) (x C dx : Addr) :
    Meets (Builtin.«int.__sub__» ⟨[.int i t, .ref x], []⟩) (fun _ R s => s.heap.get? x = some (PySem.W.instObj C dx) ∧ R (.ok (.ret Value.notImplemented)) s) :=
  .of_wp fun prog w A R s h => by obtain ⟨hp, g, d, tk, os⟩ := s; obtain ⟨hl, h⟩ := h; wp_walk; exact ⟨_, rfl, h⟩
theorem int_mul_inst (i : Int) (t : Tok) (x C dx : Addr) :
    Meets (Builtin.«int.__mul__» ⟨[.int i t, .ref x], []⟩) (fun _ R s => s.heap.get? x = some (PySem.W.instObj C dx) ∧ R (.ok (.ret Value.notImplemented)) s) :=
  .of_wp fun prog w A R s h => by obtain ⟨hp, g, d, tk, os⟩ := s; obtain ⟨hl, h⟩ := h; wp_walk; exact ⟨_, rfl, h⟩
section
variable {prog : Program} {w : World} {A : Around} {E : Value → Shared → Prop} {s : Shared} {K : PySem.W.Frag} {x C L f f0 : Addr} {h₀ : Heap} {m : Str → Option Value} {ox : Obj} {od : Option Obj}
open PySem.W in
theorem bin_refl {op : Operator} {i : Int} {t : Tok} {Q : Value → Shared → Prop} (F : Fr h₀ L s.heap m) (X₀ : K.In h₀) (I : PySem.W.InstAt s.heap x ox C od) (hc : PySem.W.selfFirst K C = true)
    (h0 : PySem.W.findIn K (.ref C) (PySem.dunder op.info.2) = some (some (.ref f0)))
    (hs : PySem.W.findIn K (.ref C) (PySem.dunderR op.info.2) = some (some (.ref f))) (hf : PySem.W.isFn K (.ref f) = true)
    {fo ro : Option Value} (h1 : PySem.W.findIn K (.type "int") (PySem.dunder op.info.2) = some fo) (h2 : PySem.W.findIn K (.type "int") (PySem.dunderR op.info.2) = some ro)
    (hlf : ((fo.isSome && !isSeqSlot fo) || (ro.isSome && !isSeqSlot ro)) = true)
    (hsub : PySem.W.subIn K (.ref C) (.type "int") = some false)
    (hd : ∀ {Q' : Option Value → Shared → Prop}, Q' none s → wpAny (model prog w) A (tryMethod (.int i t) (PySem.dunder op.info.2) (.ref x)) Q' E s)
    (h : wpAny (model prog w) A (call (.ref f) [.ref x, .int i t]) (PySem.W.CmpBack Q) E s) : wpAny (model prog w) A (binaryOp op (.int i t) (.ref x)) Q E s := by
  have X := X₀.keeps F.keep
  obtain ⟨cd, rest, hcd, hm⟩ := PySem.W.ksp_first hc
  rcases hi : op.info with ⟨sym, nm'⟩
  rw [hi] at hs h0 h1 h2 hd
  dsimp only at hs h0 h1 h2 hd
  have one := PySem.W.ksp_try X I hs hf h
  have decl := @hd
  clear hd h
  have L1 : PySem.W.Looks (model prog w) s.heap (typeOf (.int i t)) (.type "int") := PySem.W.Looks.of_pure rfl
  have L2 : PySem.W.Looks (model prog w) s.heap (typeOf (.ref x)) (.ref C) := I.type
  have L3 : PySem.W.Looks (model prog w) s.heap (fillsNumberSlot (.type "int") nm') true := hlf ▸ PySem.W.ksp_fillsT X h1 h2
  have L4 : PySem.W.Looks (model prog w) s.heap (fillsNumberSlot (.ref C) nm') true := PySem.W.fills_K X hcd hm h0
  have L5 : PySem.W.Looks (model prog w) s.heap (isSubtype (.ref C) (.type "int")) false := PySem.W.looks_subIn X hsub
  have hne : (Value.type "int" == Value.ref C) = false := Bool.eq_false_iff.mpr fun q => by cases beq_iff_eq.mp q
  simp only [binaryOp, hi]
  refine wpAny_holding (wpAny_bind ?_)
  unfold binaryOp1
  refine wpAny_bind (L1.here (wpAny_bind (L2.here (wpAny_bind (L3.here ?_)))))
  simp only [hne, Bool.false_eq_true, if_false]
  refine wpAny_bind (L4.here ?_)
  simp only [Bool.and_self, if_true]
  refine wpAny_bind (L5.here ?_)
  have hpy : numberSlotInPython (.type "int") nm' = pure false := rfl
  simp only [Bool.false_eq_true, if_false, pure_bind, Bool.not_false, Bool.and_self, if_true, hpy]
  refine wpAny_bind (decl ?_)
  dsimp only
  refine wpAny_bind (wpAny_mono one (fun r s' hr' => ?_) fun _ _ e => e)
  obtain ⟨v, rfl, hq⟩ := hr'
  dsimp only
  exact wpAny_bind (wpAny_rule (wpAny_pure (wpAny_pure hq)))
end
end Tr
namespace Tr
open PySem PySem.Spec PyProof.Rows L2
/-- what of the text a reflected operator must have -/
structure OwnR (K : PySem.W.Frag) (C : Addr) (nm : String) : Prop where
  sf : PySem.W.selfFirst K C = true
  fw : ∃ f0 : Addr, PySem.W.findIn K (.ref C) (PySem.dunder nm) = some (some (.ref f0))
  ii : ∃ fo ro, PySem.W.findIn K (.type "int") (PySem.dunder nm) = some fo ∧ PySem.W.findIn K (.type "int") (PySem.dunderR nm) = some ro ∧ ((fo.isSome && !isSeqSlot fo) || (ro.isSome && !isSeqSlot ro)) = true
  su : PySem.W.subIn K (.ref C) (.type "int") = some false
section
variable {X : Cx} {CX : CXT} {k : Nat} {C f : Addr} {fd : FuncData} {ps : List Str} {sp : Sp} {E : XK}
def rOwnR (C : Addr) (sp : Sp) (E : XK) : R2 := fun x y H Q => ∃ i b dx fs, x = .int i ∧ y = .ref b ∧ H b = some (.ins C dx fs) ∧ sp [y, x] H Q E
theorem op_ownR {op : Operator} (F : FnOk X.prog X.w X.K X.mg X.base CX k f fd ps sp) (hr : Room k X.A) (hb : Binds X.K fd ps []) (hx : Passes CX X E) (t : OwnR X.K C op.info.2) (m : Meth X.K C (PySem.dunderR op.info.2) f)
    (hd : ∀ (i : Int) (tk : Tok) (x C dx : Addr) (s : Shared) (Q' : Option Value → Shared → Prop), s.heap.get? x = some (PySem.W.instObj C dx) → Q' none s → wpAny (model X.prog X.w) X.A (tryMethod (.int i tk) (PySem.dunder op.info.2) (.ref x)) Q' X.xe s) :
    OpR X (binaryOp op) (rOwnR C sp E) := by
  intro pins s σ H x y v u Q I rx ry h
  obtain ⟨i, b, dx, fs, rfl, rfl, ha, q⟩ := h
  obtain ⟨tk, rfl⟩ := (show ∃ t, v = Value.int i t from rx)
  cases (show u = Value.ref b from ry)
  obtain ⟨ox, od, J⟩ := inst_of I ha
  obtain ⟨mA, O, _⟩ := ins_get I.hok ha
  obtain ⟨mm, Fm⟩ := I.fr
  obtain ⟨f0, w0⟩ := t.fw
  obtain ⟨fo, ro, h1, h2, h3⟩ := t.ii
  refine bin_refl Fm I.mod.kin J t.sf w0 m.at_ m.fn h1 h2 h3 t.su (fun {Q'} z => hd i tk b C dx s Q' O.1 z) ?_
  exact thn (run_fn (us := [.ref b, .int i tk]) (vs := [.ref b, .int i]) F hr hb .nil hx I (.cons rfl (.cons ⟨tk, rfl⟩ .nil)) q) fun r s' hq => back_of hq
theorem decl_mul (i : Int) (tk : Tok) (x C dx : Addr) (s : Shared) (Q' : Option Value → Shared → Prop) (h : s.heap.get? x = some (PySem.W.instObj C dx)) (q : Q' none s) : wpAny (model X.prog X.w) X.A (tryMethod (.int i tk) (PySem.dunder (Operator.Mult).info.2) (.ref x)) Q' X.xe s :=
  by
  refine wpAny_tryMethod_declines (T := "int") (name := dunder "mul") (id := "int.__mul__") (typeIs_int s i tk) PySem.F.slot_int_mul ?_
  exact call_meets (T := "int") (name := dunder "mul") (B := Builtin.«int.__mul__») PySem.F.slot_int_mul (typeIs_int s i tk) PySem.F.entry_int_mul (PySem.F.args_int_mul_2 _ _) (int_mul_inst i tk x C dx) ⟨h, rfl, q⟩
theorem decl_add (i : Int) (tk : Tok) (x C dx : Addr) (s : Shared) (Q' : Option Value → Shared → Prop) (h : s.heap.get? x = some (PySem.W.instObj C dx)) (q : Q' none s) : wpAny (model X.prog X.w) X.A (tryMethod (.int i tk) (PySem.dunder (Operator.Add).info.2) (.ref x)) Q' X.xe s :=
  by
  refine wpAny_tryMethod_declines (T := "int") (name := dunder "add") (id := "int.__add__") (typeIs_int s i tk) PySem.F.slot_int_add ?_
  exact call_meets (T := "int") (name := dunder "add") (B := Builtin.«int.__add__») PySem.F.slot_int_add (typeIs_int s i tk) PySem.F.entry_int_add (PySem.F.args_int_add_2 _ _) (int_add_inst i tk x C dx) ⟨h, rfl, q⟩
theorem decl_sub (i : Int) (tk : Tok) (x C dx : Addr) (s : Shared) (Q' : Option Value → Shared → Prop) (h : s.heap.get? x = some (PySem.W.instObj C dx)) (q : Q' none s) : wpAny (model X.prog X.w) X.A (tryMethod (.int i tk) (PySem.dunder (Operator.Sub).info.2) (.ref x)) Q' X.xe s :=
  by
  refine wpAny_tryMethod_declines (T := "int") (name := dunder "sub") (id := "int.__sub__") (typeIs_int s i tk) PySem.F.slot_int_sub ?_
  exact call_meets (T := "int") (name := dunder "sub") (B := Builtin.«int.__sub__») PySem.F.slot_int_sub (typeIs_int s i tk) PySem.F.entry_int_sub (PySem.F.args_int_sub_2 _ _) (int_sub_inst i tk x C dx) ⟨h, rfl, q⟩
end
end Tr
set_option Elab.async false
set_option linter.all false
set_option maxRecDepth 100000
set_option maxHeartbeats 4000000
/-! TrLaw: what the laws' own helpers need: the pool. -/
namespace Tr
open PySem PySem.Spec PyProof.Rows L2
/-- the numbers of a pool: few, and each below 4096 -/
structure PoolOk (ms : List Int) : Prop where
  len : ms.length ≤ 10000
  rng : ∀ n ∈ ms, 0 ≤ n ∧ n < 4096
theorem PoolOk.tail {ms : List Int} (h : PoolOk ms) : PoolOk ms.tail := by
  refine ⟨?_, fun n hn => h.rng n (List.mem_of_mem_tail hn)⟩
  have := h.len
  rw [List.length_tail]; omega
/-- the value that take gives -/
def tkv (ms : List Int) (m : Int) : Int := match ms with
  | [] => 0
  | n :: _ => n.fmod m
theorem tkv_rng {ms : List Int} {m : Int} (hm : 0 < m) : 0 ≤ tkv ms m ∧ tkv ms m < m := by
  cases ms with
  | nil => exact ⟨Int.le_refl 0, hm⟩
  | cons n r =>
    show 0 ≤ n.fmod m ∧ n.fmod m < m
    rw [Int.fmod_eq_emod_of_nonneg _ (by omega)]
    exact ⟨Int.emod_nonneg _ (by omega), Int.emod_lt_of_pos _ hm⟩
abbrev pool (ms : List Int) : HO := .lst (ms.map V.int)
/-- all but p stays -/
def Chg (p : Addr) (H H' : Hp) : Prop := ∀ a x, a ≠ p → H a = some x → H' a = some x
theorem Chg.trans {p : Addr} {G H I : Hp} (a : Chg p G H) (b : Chg p H I) : Chg p G I := fun x o n h => b x o n (a x o n h)
theorem Chg.of {p : Addr} {H I : Hp} (a : Sub H I) : Chg p H I := fun x o _ h => a x o h
theorem Chg.put {p : Addr} {H : Hp} {o : HO} : Chg p H (upd H p o) := fun x u n h => by rw [upd_ne n]; exact h
theorem Chg.new {p q : Addr} {H : Hp} {o : HO} (h : H q = none) : Chg p H (upd H q o) := Chg.of (Sub.new h)
section
variable {G H H' : Hp} {M : Mu} {p q : Addr} {o u : HO}
theorem At.chg (A : At G ((p, o) :: M) H) (c : Chg p H H') (h : H' p = some u) : At G ((p, u) :: M) H' := by
  refine ⟨fun a x e => ?_, fun q hq => ?_, A.nd⟩
  · have n : a ≠ p := fun z => by rw [z, A.gn] at e; cases e
    exact c a x n (A.sub a x e)
  · rcases List.mem_cons.mp hq with rfl | hq
    · exact ⟨h, A.gn⟩
    · obtain ⟨h1, h2⟩ := A.own q (List.mem_cons_of_mem _ hq)
      exact ⟨c _ _ (A.nm q hq) h1, h2⟩
theorem At.ext (A : At G M H) (c : Sub H H') : At G M H' := ⟨A.sub.trans c, fun q hq => ⟨c _ _ (A.own q hq).1, (A.own q hq).2⟩, A.nd⟩
theorem At.more (A : At G M H) (c : Sub H H') (n : H p = none) (h : H' p = some o) : At G ((p, o) :: M) H' := by
  refine ⟨A.sub.trans c, fun q hq => ?_, ?_⟩
  · rcases List.mem_cons.mp hq with rfl | hq
    · exact ⟨h, A.fresh n⟩
    · exact ⟨c _ _ (A.own q hq).1, (A.own q hq).2⟩
  · rw [List.map_cons, List.nodup_cons]
    refine ⟨fun hm => ?_, A.nd⟩
    obtain ⟨q, hq, e⟩ := List.mem_map.mp hm
    have h1 := (A.own q hq).1
    rw [e, n] at h1; cases h1
theorem At.h1 {a : Addr × HO} (A : At G (a :: (p, o) :: M) H) : H p = some o := A.tl.hd
theorem At.h2 {a b : Addr × HO} (A : At G (a :: b :: (p, o) :: M) H) : H p = some o := A.tl.tl.hd
theorem At.h3 {a b c : Addr × HO} (A : At G (a :: b :: c :: (p, o) :: M) H) : H p = some o := A.tl.tl.tl.hd
end
theorem cxK {CX : CXT} {P : Program} {w : World} {K : PySem.W.Frag} {mg : Str → Option Value} {base : Heap} {N : List Str} {qual : Str} {scope : Scope} {f : Addr} {cd : Value} {A : Around} {outer : List Env} {s : Shared} {H : Hp} {E : XK} :
    (cxOf CX P w K mg base N qual scope f cd A outer s H E).nox.K = K := rfl
theorem cxK2 {CX : CXT} {P : Program} {w : World} {K : PySem.W.Frag} {mg : Str → Option Value} {base : Heap} {N : List Str} {qual : Str} {scope : Scope} {f : Addr} {cd : Value} {A : Around} {outer : List Env} {s : Shared} {H : Hp} {E : XK} :
    (cxOf CX P w K mg base N qual scope f cd A outer s H E).K = K := rfl
/-! a name is stored: the slots written out again -/
section
variable {v : V} {σ : L2.St} {H : Hp} {nx : L2.St → Hp → Prop}
theorem gs0 {a0 : Option V} (h : nx (some v :: σ) H) : gName 0 v (a0 :: σ) H nx := h
theorem gs1 {a0 a1 : Option V} (h : nx (a0 :: some v :: σ) H) : gName 1 v (a0 :: a1 :: σ) H nx := h
theorem gs2 {a0 a1 a2 : Option V} (h : nx (a0 :: a1 :: some v :: σ) H) : gName 2 v (a0 :: a1 :: a2 :: σ) H nx := h
theorem gs3 {a0 a1 a2 a3 : Option V} (h : nx (a0 :: a1 :: a2 :: some v :: σ) H) : gName 3 v (a0 :: a1 :: a2 :: a3 :: σ) H nx := h
theorem gs4 {a0 a1 a2 a3 a4 : Option V} (h : nx (a0 :: a1 :: a2 :: a3 :: some v :: σ) H) : gName 4 v (a0 :: a1 :: a2 :: a3 :: a4 :: σ) H nx := h
theorem gs5 {a0 a1 a2 a3 a4 a5 : Option V} (h : nx (a0 :: a1 :: a2 :: a3 :: a4 :: some v :: σ) H) : gName 5 v (a0 :: a1 :: a2 :: a3 :: a4 :: a5 :: σ) H nx := h
theorem gs6 {a0 a1 a2 a3 a4 a5 a6 : Option V} (h : nx (a0 :: a1 :: a2 :: a3 :: a4 :: a5 :: some v :: σ) H) : gName 6 v (a0 :: a1 :: a2 :: a3 :: a4 :: a5 :: a6 :: σ) H nx := h
theorem gs7 {a0 a1 a2 a3 a4 a5 a6 a7 : Option V} (h : nx (a0 :: a1 :: a2 :: a3 :: a4 :: a5 :: a6 :: some v :: σ) H) : gName 7 v (a0 :: a1 :: a2 :: a3 :: a4 :: a5 :: a6 :: a7 :: σ) H nx := h
theorem gs8 {a0 a1 a2 a3 a4 a5 a6 a7 a8 : Option V} (h : nx (a0 :: a1 :: a2 :: a3 :: a4 :: a5 :: a6 :: a7 :: some v :: σ) H) : gName 8 v (a0 :: a1 :: a2 :: a3 :: a4 :: a5 :: a6 :: a7 :: a8 :: σ) H nx := h
theorem gs9 {a0 a1 a2 a3 a4 a5 a6 a7 a8 a9 : Option V} (h : nx (a0 :: a1 :: a2 :: a3 :: a4 :: a5 :: a6 :: a7 :: a8 :: some v :: σ) H) : gName 9 v (a0 :: a1 :: a2 :: a3 :: a4 :: a5 :: a6 :: a7 :: a8 :: a9 :: σ) H nx := h
theorem gs10 {a0 a1 a2 a3 a4 a5 a6 a7 a8 a9 a10 : Option V} (h : nx (a0 :: a1 :: a2 :: a3 :: a4 :: a5 :: a6 :: a7 :: a8 :: a9 :: some v :: σ) H) : gName 10 v (a0 :: a1 :: a2 :: a3 :: a4 :: a5 :: a6 :: a7 :: a8 :: a9 :: a10 :: σ) H nx := h
theorem gs11 {a0 a1 a2 a3 a4 a5 a6 a7 a8 a9 a10 a11 : Option V} (h : nx (a0 :: a1 :: a2 :: a3 :: a4 :: a5 :: a6 :: a7 :: a8 :: a9 :: a10 :: some v :: σ) H) : gName 11 v (a0 :: a1 :: a2 :: a3 :: a4 :: a5 :: a6 :: a7 :: a8 :: a9 :: a10 :: a11 :: σ) H nx := h
theorem gs12 {a0 a1 a2 a3 a4 a5 a6 a7 a8 a9 a10 a11 a12 : Option V} (h : nx (a0 :: a1 :: a2 :: a3 :: a4 :: a5 :: a6 :: a7 :: a8 :: a9 :: a10 :: a11 :: some v :: σ) H) : gName 12 v (a0 :: a1 :: a2 :: a3 :: a4 :: a5 :: a6 :: a7 :: a8 :: a9 :: a10 :: a11 :: a12 :: σ) H nx := h
theorem gs13 {a0 a1 a2 a3 a4 a5 a6 a7 a8 a9 a10 a11 a12 a13 : Option V} (h : nx (a0 :: a1 :: a2 :: a3 :: a4 :: a5 :: a6 :: a7 :: a8 :: a9 :: a10 :: a11 :: a12 :: some v :: σ) H) : gName 13 v (a0 :: a1 :: a2 :: a3 :: a4 :: a5 :: a6 :: a7 :: a8 :: a9 :: a10 :: a11 :: a12 :: a13 :: σ) H nx := h
theorem gs14 {a0 a1 a2 a3 a4 a5 a6 a7 a8 a9 a10 a11 a12 a13 a14 : Option V} (h : nx (a0 :: a1 :: a2 :: a3 :: a4 :: a5 :: a6 :: a7 :: a8 :: a9 :: a10 :: a11 :: a12 :: a13 :: some v :: σ) H) : gName 14 v (a0 :: a1 :: a2 :: a3 :: a4 :: a5 :: a6 :: a7 :: a8 :: a9 :: a10 :: a11 :: a12 :: a13 :: a14 :: σ) H nx := h
theorem gs15 {a0 a1 a2 a3 a4 a5 a6 a7 a8 a9 a10 a11 a12 a13 a14 a15 : Option V} (h : nx (a0 :: a1 :: a2 :: a3 :: a4 :: a5 :: a6 :: a7 :: a8 :: a9 :: a10 :: a11 :: a12 :: a13 :: a14 :: some v :: σ) H) : gName 15 v (a0 :: a1 :: a2 :: a3 :: a4 :: a5 :: a6 :: a7 :: a8 :: a9 :: a10 :: a11 :: a12 :: a13 :: a14 :: a15 :: σ) H nx := h
theorem gs16 {a0 a1 a2 a3 a4 a5 a6 a7 a8 a9 a10 a11 a12 a13 a14 a15 a16 : Option V} (h : nx (a0 :: a1 :: a2 :: a3 :: a4 :: a5 :: a6 :: a7 :: a8 :: a9 :: a10 :: a11 :: a12 :: a13 :: a14 :: a15 :: some v :: σ) H) : gName 16 v (a0 :: a1 :: a2 :: a3 :: a4 :: a5 :: a6 :: a7 :: a8 :: a9 :: a10 :: a11 :: a12 :: a13 :: a14 :: a15 :: a16 :: σ) H nx := h
theorem gs17 {a0 a1 a2 a3 a4 a5 a6 a7 a8 a9 a10 a11 a12 a13 a14 a15 a16 a17 : Option V} (h : nx (a0 :: a1 :: a2 :: a3 :: a4 :: a5 :: a6 :: a7 :: a8 :: a9 :: a10 :: a11 :: a12 :: a13 :: a14 :: a15 :: a16 :: some v :: σ) H) : gName 17 v (a0 :: a1 :: a2 :: a3 :: a4 :: a5 :: a6 :: a7 :: a8 :: a9 :: a10 :: a11 :: a12 :: a13 :: a14 :: a15 :: a16 :: a17 :: σ) H nx := h
theorem gs18 {a0 a1 a2 a3 a4 a5 a6 a7 a8 a9 a10 a11 a12 a13 a14 a15 a16 a17 a18 : Option V} (h : nx (a0 :: a1 :: a2 :: a3 :: a4 :: a5 :: a6 :: a7 :: a8 :: a9 :: a10 :: a11 :: a12 :: a13 :: a14 :: a15 :: a16 :: a17 :: some v :: σ) H) : gName 18 v (a0 :: a1 :: a2 :: a3 :: a4 :: a5 :: a6 :: a7 :: a8 :: a9 :: a10 :: a11 :: a12 :: a13 :: a14 :: a15 :: a16 :: a17 :: a18 :: σ) H nx := h
theorem gs19 {a0 a1 a2 a3 a4 a5 a6 a7 a8 a9 a10 a11 a12 a13 a14 a15 a16 a17 a18 a19 : Option V} (h : nx (a0 :: a1 :: a2 :: a3 :: a4 :: a5 :: a6 :: a7 :: a8 :: a9 :: a10 :: a11 :: a12 :: a13 :: a14 :: a15 :: a16 :: a17 :: a18 :: some v :: σ) H) : gName 19 v (a0 :: a1 :: a2 :: a3 :: a4 :: a5 :: a6 :: a7 :: a8 :: a9 :: a10 :: a11 :: a12 :: a13 :: a14 :: a15 :: a16 :: a17 :: a18 :: a19 :: σ) H nx := h
theorem gs20 {a0 a1 a2 a3 a4 a5 a6 a7 a8 a9 a10 a11 a12 a13 a14 a15 a16 a17 a18 a19 a20 : Option V} (h : nx (a0 :: a1 :: a2 :: a3 :: a4 :: a5 :: a6 :: a7 :: a8 :: a9 :: a10 :: a11 :: a12 :: a13 :: a14 :: a15 :: a16 :: a17 :: a18 :: a19 :: some v :: σ) H) : gName 20 v (a0 :: a1 :: a2 :: a3 :: a4 :: a5 :: a6 :: a7 :: a8 :: a9 :: a10 :: a11 :: a12 :: a13 :: a14 :: a15 :: a16 :: a17 :: a18 :: a19 :: a20 :: σ) H nx := h
theorem gs21 {a0 a1 a2 a3 a4 a5 a6 a7 a8 a9 a10 a11 a12 a13 a14 a15 a16 a17 a18 a19 a20 a21 : Option V} (h : nx (a0 :: a1 :: a2 :: a3 :: a4 :: a5 :: a6 :: a7 :: a8 :: a9 :: a10 :: a11 :: a12 :: a13 :: a14 :: a15 :: a16 :: a17 :: a18 :: a19 :: a20 :: some v :: σ) H) : gName 21 v (a0 :: a1 :: a2 :: a3 :: a4 :: a5 :: a6 :: a7 :: a8 :: a9 :: a10 :: a11 :: a12 :: a13 :: a14 :: a15 :: a16 :: a17 :: a18 :: a19 :: a20 :: a21 :: σ) H nx := h
theorem gs22 {a0 a1 a2 a3 a4 a5 a6 a7 a8 a9 a10 a11 a12 a13 a14 a15 a16 a17 a18 a19 a20 a21 a22 : Option V} (h : nx (a0 :: a1 :: a2 :: a3 :: a4 :: a5 :: a6 :: a7 :: a8 :: a9 :: a10 :: a11 :: a12 :: a13 :: a14 :: a15 :: a16 :: a17 :: a18 :: a19 :: a20 :: a21 :: some v :: σ) H) : gName 22 v (a0 :: a1 :: a2 :: a3 :: a4 :: a5 :: a6 :: a7 :: a8 :: a9 :: a10 :: a11 :: a12 :: a13 :: a14 :: a15 :: a16 :: a17 :: a18 :: a19 :: a20 :: a21 :: a22 :: σ) H nx := h
theorem gs23 {a0 a1 a2 a3 a4 a5 a6 a7 a8 a9 a10 a11 a12 a13 a14 a15 a16 a17 a18 a19 a20 a21 a22 a23 : Option V} (h : nx (a0 :: a1 :: a2 :: a3 :: a4 :: a5 :: a6 :: a7 :: a8 :: a9 :: a10 :: a11 :: a12 :: a13 :: a14 :: a15 :: a16 :: a17 :: a18 :: a19 :: a20 :: a21 :: a22 :: some v :: σ) H) : gName 23 v (a0 :: a1 :: a2 :: a3 :: a4 :: a5 :: a6 :: a7 :: a8 :: a9 :: a10 :: a11 :: a12 :: a13 :: a14 :: a15 :: a16 :: a17 :: a18 :: a19 :: a20 :: a21 :: a22 :: a23 :: σ) H nx := h
theorem gs24 {a0 a1 a2 a3 a4 a5 a6 a7 a8 a9 a10 a11 a12 a13 a14 a15 a16 a17 a18 a19 a20 a21 a22 a23 a24 : Option V} (h : nx (a0 :: a1 :: a2 :: a3 :: a4 :: a5 :: a6 :: a7 :: a8 :: a9 :: a10 :: a11 :: a12 :: a13 :: a14 :: a15 :: a16 :: a17 :: a18 :: a19 :: a20 :: a21 :: a22 :: a23 :: some v :: σ) H) : gName 24 v (a0 :: a1 :: a2 :: a3 :: a4 :: a5 :: a6 :: a7 :: a8 :: a9 :: a10 :: a11 :: a12 :: a13 :: a14 :: a15 :: a16 :: a17 :: a18 :: a19 :: a20 :: a21 :: a22 :: a23 :: a24 :: σ) H nx := h
theorem gs25 {a0 a1 a2 a3 a4 a5 a6 a7 a8 a9 a10 a11 a12 a13 a14 a15 a16 a17 a18 a19 a20 a21 a22 a23 a24 a25 : Option V} (h : nx (a0 :: a1 :: a2 :: a3 :: a4 :: a5 :: a6 :: a7 :: a8 :: a9 :: a10 :: a11 :: a12 :: a13 :: a14 :: a15 :: a16 :: a17 :: a18 :: a19 :: a20 :: a21 :: a22 :: a23 :: a24 :: some v :: σ) H) : gName 25 v (a0 :: a1 :: a2 :: a3 :: a4 :: a5 :: a6 :: a7 :: a8 :: a9 :: a10 :: a11 :: a12 :: a13 :: a14 :: a15 :: a16 :: a17 :: a18 :: a19 :: a20 :: a21 :: a22 :: a23 :: a24 :: a25 :: σ) H nx := h
theorem gs26 {a0 a1 a2 a3 a4 a5 a6 a7 a8 a9 a10 a11 a12 a13 a14 a15 a16 a17 a18 a19 a20 a21 a22 a23 a24 a25 a26 : Option V} (h : nx (a0 :: a1 :: a2 :: a3 :: a4 :: a5 :: a6 :: a7 :: a8 :: a9 :: a10 :: a11 :: a12 :: a13 :: a14 :: a15 :: a16 :: a17 :: a18 :: a19 :: a20 :: a21 :: a22 :: a23 :: a24 :: a25 :: some v :: σ) H) : gName 26 v (a0 :: a1 :: a2 :: a3 :: a4 :: a5 :: a6 :: a7 :: a8 :: a9 :: a10 :: a11 :: a12 :: a13 :: a14 :: a15 :: a16 :: a17 :: a18 :: a19 :: a20 :: a21 :: a22 :: a23 :: a24 :: a25 :: a26 :: σ) H nx := h
theorem gs27 {a0 a1 a2 a3 a4 a5 a6 a7 a8 a9 a10 a11 a12 a13 a14 a15 a16 a17 a18 a19 a20 a21 a22 a23 a24 a25 a26 a27 : Option V} (h : nx (a0 :: a1 :: a2 :: a3 :: a4 :: a5 :: a6 :: a7 :: a8 :: a9 :: a10 :: a11 :: a12 :: a13 :: a14 :: a15 :: a16 :: a17 :: a18 :: a19 :: a20 :: a21 :: a22 :: a23 :: a24 :: a25 :: a26 :: some v :: σ) H) : gName 27 v (a0 :: a1 :: a2 :: a3 :: a4 :: a5 :: a6 :: a7 :: a8 :: a9 :: a10 :: a11 :: a12 :: a13 :: a14 :: a15 :: a16 :: a17 :: a18 :: a19 :: a20 :: a21 :: a22 :: a23 :: a24 :: a25 :: a26 :: a27 :: σ) H nx := h
theorem gs28 {a0 a1 a2 a3 a4 a5 a6 a7 a8 a9 a10 a11 a12 a13 a14 a15 a16 a17 a18 a19 a20 a21 a22 a23 a24 a25 a26 a27 a28 : Option V} (h : nx (a0 :: a1 :: a2 :: a3 :: a4 :: a5 :: a6 :: a7 :: a8 :: a9 :: a10 :: a11 :: a12 :: a13 :: a14 :: a15 :: a16 :: a17 :: a18 :: a19 :: a20 :: a21 :: a22 :: a23 :: a24 :: a25 :: a26 :: a27 :: some v :: σ) H) : gName 28 v (a0 :: a1 :: a2 :: a3 :: a4 :: a5 :: a6 :: a7 :: a8 :: a9 :: a10 :: a11 :: a12 :: a13 :: a14 :: a15 :: a16 :: a17 :: a18 :: a19 :: a20 :: a21 :: a22 :: a23 :: a24 :: a25 :: a26 :: a27 :: a28 :: σ) H nx := h
theorem gs29 {a0 a1 a2 a3 a4 a5 a6 a7 a8 a9 a10 a11 a12 a13 a14 a15 a16 a17 a18 a19 a20 a21 a22 a23 a24 a25 a26 a27 a28 a29 : Option V} (h : nx (a0 :: a1 :: a2 :: a3 :: a4 :: a5 :: a6 :: a7 :: a8 :: a9 :: a10 :: a11 :: a12 :: a13 :: a14 :: a15 :: a16 :: a17 :: a18 :: a19 :: a20 :: a21 :: a22 :: a23 :: a24 :: a25 :: a26 :: a27 :: a28 :: some v :: σ) H) : gName 29 v (a0 :: a1 :: a2 :: a3 :: a4 :: a5 :: a6 :: a7 :: a8 :: a9 :: a10 :: a11 :: a12 :: a13 :: a14 :: a15 :: a16 :: a17 :: a18 :: a19 :: a20 :: a21 :: a22 :: a23 :: a24 :: a25 :: a26 :: a27 :: a28 :: a29 :: σ) H nx := h
end
/-- an instance that __init__ has just filled -/
theorem made {H : Hp} {r dr : Addr} {o1 o2 : HO} (h1 : H r = none) (h2 : H dr = none) : Sub H (upd (upd (upd H dr (.own r)) r o1) r o2) := fun a x e => by
  rw [upd_ne (ne_of_none e h1), upd_ne (ne_of_none e h1), upd_ne (ne_of_none e h2)]
  exact e
theorem lookup2 {f g : Str} {u v : V} (h : (g == f) = false) : ([(f, u), (g, v)] : List (Str × V)).lookup g = some v := by
  show (match g == f with | true => some u | false => ([(g, v)] : List (Str × V)).lookup g) = _
  rw [h]
  show (match g == g with | true => some v | false => ([] : List (Str × V)).lookup g) = _
  rw [show (g == g) = true from beq_self_eq_true g]
theorem lookup1 {f : Str} {u : V} {r : List (Str × V)} : ((f, u) :: r : List (Str × V)).lookup f = some u := by
  show (match f == f with | true => some u | false => r.lookup f) = _
  rw [show (f == f) = true from beq_self_eq_true f]
theorem putF2 {f g : Str} {u v : V} (h : ¬ f = g) : putF g v (putF f u []) = [(f, u), (g, v)] := by
  unfold putF
  simp [putF, h]
theorem kit_self {K : PySem.W.Frag} {C : Addr} : PySem.W.kitOne K (.ref C) (.ref C) = some true := by
  unfold PySem.W.kitOne
  simp
end Tr
set_option Elab.async false
set_option linter.all false
set_option maxRecDepth 100000
set_option maxHeartbeats 4000000
/-! TrStat: C.m(..) of a static method. -/
namespace Tr
open PySem PySem.Spec PyProof.Rows L2
/-- C.m is a static method: its record at p, its def at g -/
structure CStat (K : PySem.W.Frag) (C : Addr) (m : Str) (g : Addr) : Prop where
  rd : PySem.W.readsIn K C (.type "type") = true
  ga : PySem.W.specialIn K (.ref C) "__getattribute__" = some (some (.builtin "type.__getattribute__"))
  at_ : ∃ p, PySem.W.findCls K (.ref C) (.type "type") m = some (.get (.builtin "staticmethod.__get__") (.ref p) .none (.ref C)) ∧ ∃ rest, PySem.W.recIn K p "staticmethod" = some (.ref g :: rest)
  kp : PySem.W.keepIn K (.ref g) = true
def tStat (C : Addr) (sp : Sp) (E : XK) (ta : TE) (t : TA) : TE := fun σ H Q => ta σ H fun x H1 => x = .ref C ∧ t σ H1 fun vs H2 => sp vs H2 Q E
section
variable {X : Cx} {CX : CXT} {k : Nat} {C g : Addr} {fd : FuncData} {ps : List Str} {sp : Sp} {E : XK} {o e : Expr} {es : List Expr} {m : Str} {pos apos : Pos} {ta : TE} {t : TA} {pl : Sem Bool}
theorem getmethst_ok {pins : List (Addr × Obj)} {σ : L2.St} {H : Hp} {s : Shared} {A : Around} {E : Value → Shared → Prop} {Q : Value × List Value → Shared → Prop} (I : Inv X pins σ H s) (c : CStat X.K C m g)
    (h : ∀ s', Inv X pins σ H s' → Q (.ref g, []) s') : wpAny (model X.prog X.w) A (getMethod (.ref C) m pl) Q E s := by
  obtain ⟨p, hat, rest, hp⟩ := c.at_
  refine PySem.W.method_cls I.kIn c.ga ?_
  refine PySem.W.cls_bind I.kIn c.rd hat ?_
  exact wpAny_call (PySem.W.sm_get (s := { s with toks := s.toks + 1 }) I.kIn hp (PySem.W.handed_on rfl (h _ (I.tok _))))
theorem pe_stat (he : PE X o ta) (c : CStat X.K C m g) (F : FnOk X.prog X.w X.K X.mg X.base CX k g fd ps sp) (hr : Room k X.A) (hb : Binds X.K fd ps []) (hx : Passes CX X E) (ha : PA X (e :: es) t)
    (hst : starEach (e :: es) X.env = (false, eval e X.env) :: starEach es X.env := by rfl) (hpl : (backTo pos (starEach es X.env)).any (·.1) = false := by rfl)
    (ht : eval (.Call (.Attribute o m apos) (e :: es) [] pos) X.env = (do
      let ov ← eval o X.env
      standAt apos.atName
      let (f, first) ← holding [ov] (getMethod ov m pl)
      callWith pos f first (backTo pos (starEach (e :: es) X.env)) (backToKw pos (keywordEach [] X.env))) := by rfl) :
    PE X (.Call (.Attribute o m apos) (e :: es) [] pos) (tStat C sp E ta t) := by
  refine ⟨fun pins s σ H Q I h => ?_⟩
  refine PySem.W.methodCall_KW (pl := pl) (thn (he.run pins s σ H _ I h) fun u s1 ⟨x, H1, I1, rx, ex, q⟩ => ?_) ht
  subst ex
  obtain rfl : u = Value.ref C := rx
  refine getmethst_ok I1 c fun s2 I2 => ?_
  refine PySem.W.callWith_K (first := []) (h₀ := X.base) I.ok.mod.kin c.kp (thn (ha.run pos pins s2 σ H1 _ I2 q) fun us s3 ⟨vs, H2, I3, r, q2⟩ => ⟨I3.kIn, ?_⟩) hst hpl
  exact run_fn (us := us) (vs := vs) F hr hb .nil hx I3 r (by rw [List.append_nil]; exact q2)
end
/-- one name stored under a test: one way -/
theorem ifset {tc : TT} {te : TE} {i : Nat} {v : V} {D : Ends} {σ σ' : L2.St} {H : Hp} (b : Bool) (hc : ∀ Q : Bool → Hp → Prop, Q b H → tc σ H Q) (hv : b = true → ∀ Q : VK, Q v H → te σ H Q) (e1 : b = true → σ.set i (some v) = σ') (e2 : b = false → σ = σ') (h : D.nx σ' H) :
    tIfS tc (tAsg te (gName i)) tNext D σ H := by
  refine hc _ ?_
  cases b with
  | true =>
    refine iteT (hv rfl _ ?_)
    show D.nx (σ.set i (some v)) H
    rw [e1 rfl]; exact h
  | false =>
    refine iteF ?_
    show D.nx σ H
    rw [e2 rfl]; exact h
/-- .. where the name has a value: the value chosen -/
theorem ifsetI {tc : TT} {te : TE} {i : Nat} {v u : V} {D : Ends} {σ : L2.St} {H : Hp} (b : Bool) (hc : ∀ Q : Bool → Hp → Prop, Q b H → tc σ H Q) (hv : ∀ Q : VK, Q v H → te σ H Q) (hu : σ[i]? = some (some u)) (h : gName i (if b = true then v else u) σ H D.nx) :
    tIfS tc (tAsg te (gName i)) tNext D σ H := by
  refine hc _ ?_
  cases b with
  | true => exact iteT (hv _ h)
  | false =>
    refine iteF ?_
    show D.nx σ H
    have e : σ.set i (some u) = σ := by
      apply List.ext_getElem?
      intro j
      rw [List.getElem?_set]
      split
      · rename_i e; subst e
        split
        · exact hu.symm
        · rename_i h'; rw [List.getElem?_eq_none (by omega)] at hu; cases hu
      · rfl
    have h' : D.nx (σ.set i (some u)) H := h
    rw [e] at h'
    exact h'
theorem At.laid {G H : Hp} {M : Mu} {p : Addr} {o : HO} (A : At G M H) (h : H p = none) : ∃ G', At G' M (upd H p o) ∧ Sub G G' ∧ G' p = some o := ⟨_, A.newG h, A.newS h, upd_same⟩
theorem asgC {v : V} {D : Ends} {σ : L2.St} {H : Hp} {rest : TS} {i : Nat} (h : gName i v σ H (rest D)) : tSeq (tAsg (tC v) (gName i)) rest D σ H := h
theorem ifsetS {tc : TT} {te : TE} {i : Nat} {v u : V} {D : Ends} {σ : L2.St} {H : Hp} {rest : TS} (b : Bool) (hc : ∀ Q : Bool → Hp → Prop, Q b H → tc σ H Q) (hv : ∀ Q : VK, Q v H → te σ H Q) (hu : σ[i]? = some (some u)) (h : gName i (if b = true then v else u) σ H (rest D)) :
    tSeq (tIfS tc (tAsg te (gName i)) tNext) rest D σ H := ifsetI (D := { D with nx := rest D }) b hc hv hu h
end Tr
set_option Elab.async false
set_option linter.all false
set_option maxRecDepth 100000
set_option maxHeartbeats 4000000
namespace K05
open PySem L2 Tr
/-! the text by places -/
def top (i : Nat) : Stmt := PySem.Challenge.pw_toldridges_k05_arrow_turn.main.body.getD i (.Pass ⟨0, 0, 0, 0⟩)
abbrev s_Arrow_turn : Stmt := inClass (top 1) 9
abbrev s_law_pool : Stmt := top 3
abbrev s_law_take : Stmt := top 4
abbrev s_law_whole : Stmt := top 5
abbrev s_law_number : Stmt := top 6
abbrev s_law_turns : Stmt := top 7
abbrev s_law : Stmt := top 8
/-- the addresses -/
structure Ad where
  f_Arrow_turn : Addr
  d_Arrow_turn : FuncData
  f_law_pool : Addr
  d_law_pool : FuncData
  f_law_take : Addr
  d_law_take : FuncData
  f_law_whole : Addr
  d_law_whole : FuncData
  f_law_number : Addr
  d_law_number : FuncData
  f_law_turns : Addr
  d_law_turns : FuncData
  f_law : Addr
  d_law : FuncData
  c_Arrow : Addr
structure Txt (K : PySem.W.Frag) (mg : Str → Option Value) (ad : Ad) : Prop where
  F_Arrow_turn : Fun K "turn" "Arrow.turn" s_Arrow_turn ad.f_Arrow_turn ad.d_Arrow_turn
  B_Arrow_turn : Binds K ad.d_Arrow_turn ["a", "b", "c"] []
  cs_Arrow_turn : CStat K ad.c_Arrow "turn" ad.f_Arrow_turn
  F_law_pool : Fun K "_law_pool" "_law_pool" s_law_pool ad.f_law_pool ad.d_law_pool
  B_law_pool : Binds K ad.d_law_pool ["_law_script"] []
  g_law_pool : mg "_law_pool" = some (.ref ad.f_law_pool)
  F_law_take : Fun K "_law_take" "_law_take" s_law_take ad.f_law_take ad.d_law_take
  B_law_take : Binds K ad.d_law_take ["_law_pool_here", "_law_many"] []
  g_law_take : mg "_law_take" = some (.ref ad.f_law_take)
  F_law_whole : Fun K "_law_whole" "_law_whole" s_law_whole ad.f_law_whole ad.d_law_whole
  B_law_whole : Binds K ad.d_law_whole ["_law_x"] []
  g_law_whole : mg "_law_whole" = some (.ref ad.f_law_whole)
  F_law_number : Fun K "_law_number" "_law_number" s_law_number ad.f_law_number ad.d_law_number
  B_law_number : Binds K ad.d_law_number ["_law_pool_here"] []
  g_law_number : mg "_law_number" = some (.ref ad.f_law_number)
  F_law_turns : Fun K "_law_turns" "_law_turns" s_law_turns ad.f_law_turns ad.d_law_turns
  B_law_turns : Binds K ad.d_law_turns ["_law_a", "_law_b", "_law_c", "_law_due"] []
  g_law_turns : mg "_law_turns" = some (.ref ad.f_law_turns)
  F_law : Fun K "law" "law" s_law ad.f_law ad.d_law
  B_law : Binds K ad.d_law ["_law_script"] []
  g_law : mg "law" = some (.ref ad.f_law)
  cl_Arrow : Cls K ad.c_Arrow
  g_Arrow : mg "Arrow" = some (.ref ad.c_Arrow)
  sf_Arrow : PySem.W.selfFirst K ad.c_Arrow = true
  nf_Arrow : PySem.W.notFirst K ad.c_Arrow (.ref ad.c_Arrow) = true
  nfi_Arrow : PySem.W.notFirst K ad.c_Arrow (.type "int") = true
  ia_Arrow : PySem.W.findIn K (.ref ad.c_Arrow) "__class__" = some (some (.builtin "object.__class__"))
  im_Arrow : PySem.W.mroIn K ad.c_Arrow (.type "object") = some true
  ik_Arrow : PySem.W.kitOne K (.ref ad.c_Arrow) (.ref ad.c_Arrow) = some true
  ign : PySem.W.specialIn K (.builtin "object.__class__") "__get__" = some (some (.builtin "getset_descriptor.__get__"))
  igt : PySem.W.takesIn K (.builtin "object.__class__") = some true
  z_staticmethod : mg "staticmethod" = none
  z_abs : mg "abs" = none
  z_range : mg "range" = none
  z_int : mg "int" = none
  z_isinstance : mg "isinstance" = none
  z_bool : mg "bool" = none
theorem sc_Arrow_turn : FnScope ["a", "b", "c", "cross"] ["a", "b", "c"] (defScope s_Arrow_turn) := ⟨rfl, rfl, rfl, by decide +kernel, rfl, by decide +kernel, by decide +kernel⟩
theorem sc_law_pool : FnScope ["_law_script", "_law_pool_here", "_law_cell", "_law_rest", "_law_k", "_law_mixed"] ["_law_script"] (defScope s_law_pool) := ⟨rfl, rfl, rfl, by decide +kernel, rfl, by decide +kernel, by decide +kernel⟩
theorem sc_law_take : FnScope ["_law_pool_here", "_law_many"] ["_law_pool_here", "_law_many"] (defScope s_law_take) := ⟨rfl, rfl, rfl, by decide +kernel, rfl, by decide +kernel, by decide +kernel⟩
theorem sc_law_whole : FnScope ["_law_x"] ["_law_x"] (defScope s_law_whole) := ⟨rfl, rfl, rfl, by decide +kernel, rfl, by decide +kernel, by decide +kernel⟩
theorem sc_law_number : FnScope ["_law_pool_here", "_law_kind", "_law_number_here", "_law_k"] ["_law_pool_here"] (defScope s_law_number) := ⟨rfl, rfl, rfl, by decide +kernel, rfl, by decide +kernel, by decide +kernel⟩
theorem sc_law_turns : FnScope ["_law_a", "_law_b", "_law_c", "_law_due", "_law_told"] ["_law_a", "_law_b", "_law_c", "_law_due"] (defScope s_law_turns) := ⟨rfl, rfl, rfl, by decide +kernel, rfl, by decide +kernel, by decide +kernel⟩
theorem sc_law : FnScope ["_law_script", "_law_pool_here", "_law_a", "_law_b", "_law_c", "_law_kind", "_law_k", "_law_side", "_law_due", "_law_good"] ["_law_script"] (defScope s_law) := ⟨rfl, rfl, rfl, by decide +kernel, rfl, by decide +kernel, by decide +kernel⟩
/-- 1, -1 or 0 by the sign -/
def tv (z : Int) : Int := if z > 0 then 1 else if z < 0 then -1 else 0
abbrev pl (x y : Int) : HO := .tup [.int x, .int y]
/-- the cross product as Arrow.turn reckons it -/
def crs (ax ay bx b_y cx cy : Int) : Int := (bx - ax) * (cy - b_y) - (b_y - ay) * (cx - bx)
def sp_Arrow_turn (K : PySem.W.Frag) (ad : Ad) : Sp := fun vs H Q _ => ∃ a b c ax ay bx b_y cx cy, vs = [.ref a, .ref b, .ref c] ∧ H a = some (pl ax ay) ∧ H b = some (pl bx b_y) ∧ H c = some (pl cx cy) ∧
  CMulW (bx - ax) (cy - b_y) ∧ CMulW (b_y - ay) (cx - bx) ∧ Q (.int (tv (crs ax ay bx b_y cx cy))) H
theorem st_Arrow_turn (a0 a1 a2 : V) : start ["a", "b", "c", "cross"] [a0, a1, a2] = [some a0, some a1, some a2, none] := rfl
section
variable {P : Program} {w : World} {K : PySem.W.Frag} {mg : Str → Option Value} {base : Heap} {ad : Ad}
theorem ok_Arrow_turn (T : Txt K mg ad) : FnOk P w K mg base CX0 1 ad.f_Arrow_turn ad.d_Arrow_turn ["a", "b", "c"] (sp_Arrow_turn K ad) := by
  refine T.F_Arrow_turn.ok sc_Arrow_turn (fun vs H Q E h => by obtain ⟨a, b, c, ax, ay, bx, b_y, cx, cy, rfl, _⟩ := h; rfl) (fun cdv A outer s H vs Q E hr h => ?_)
  have hu := hu_of hr
  obtain ⟨a, b, c, ax, ay, bx, b_y, cx, cy, rfl, ha, hb, hc, c1, c2, k⟩ := h
  refine ⟨_, (pss_cons (ps_set (i := 3) sc_Arrow_turn.nd rfl (by first | exact Or.inl rfl | exact Or.inr rfl) (pe_op op_sub (pe_op op_mulW (pe_op op_sub (pe_ix ix_tup (pv 1) pe_int (fun _ _ => rfl)) (pe_ix ix_tup (pv 0) pe_int (fun _ _ => rfl))) (pe_op op_sub (pe_ix ix_tup (pv 2) pe_int (fun _ _ => rfl)) (pe_ix ix_tup (pv 1) pe_int (fun _ _ => rfl)))) (pe_op op_mulW (pe_op op_sub (pe_ix ix_tup (pv 1) pe_int (fun _ _ => rfl)) (pe_ix ix_tup (pv 0) pe_int (fun _ _ => rfl))) (pe_op op_sub (pe_ix ix_tup (pv 2) pe_int (fun _ _ => rfl)) (pe_ix ix_tup (pv 1) pe_int (fun _ _ => rfl))))))
      (pss_cons (ps_if (pt_cmpR op_gt (pv 3) pe_int (nomark _)) (pss_one (ps_ret pe_int)) pss_nil)
      (pss_cons (ps_if (pt_cmpR op_lt (pv 3) pe_int (nomark _)) (pss_one (ps_ret (pe_un un_neg pe_int))) pss_nil)
      (pss_one (ps_ret pe_int))))), ?_⟩
  try simp only [cxK, cxK2]
  rw [st_Arrow_turn]
  refine ⟨_, rfl, _, _, _, _, rfl, rfl, SqT.of hb, rfl, _, rfl, _, _, _, _, rfl, rfl, SqT.of ha, rfl, _, _, rfl, rfl, _, rfl, _, _, _, _, rfl, rfl, SqT.of hc, rfl, _, rfl, _, _, _, _, rfl, rfl, SqT.of hb, rfl, _, _, rfl, rfl, _, _, rfl, rfl, c1, ?_⟩
  refine ⟨_, rfl, _, _, _, _, rfl, rfl, SqT.of hb, rfl, _, rfl, _, _, _, _, rfl, rfl, SqT.of ha, rfl, _, _, rfl, rfl, _, rfl, _, _, _, _, rfl, rfl, SqT.of hc, rfl, _, rfl, _, _, _, _, rfl, rfl, SqT.of hb, rfl, _, _, rfl, rfl, _, _, rfl, rfl, c2, _, _, rfl, rfl, ?_⟩
  refine gs3 ?_
  refine ⟨_, rfl, _, _, rfl, rfl, _, rfl, ite2 (fun e => ?_) (fun e => ?_)⟩
  · have e' : crs ax ay bx b_y cx cy > 0 := of_decide_eq_true e
    unfold tv at k
    rw [if_pos e'] at k
    exact k
  · have e' : ¬ crs ax ay bx b_y cx cy > 0 := fun h => e (decide_eq_true h)
    refine ⟨_, rfl, _, _, rfl, rfl, _, rfl, ite2 (fun f => ?_) (fun f => ?_)⟩
    · have f' : crs ax ay bx b_y cx cy < 0 := of_decide_eq_true f
      unfold tv at k
      rw [if_neg e', if_pos f'] at k
      exact ⟨1, rfl, k⟩
    · have f' : ¬ crs ax ay bx b_y cx cy < 0 := fun h => f (decide_eq_true h)
      unfold tv at k
      rw [if_neg e', if_neg f'] at k
      exact k
end
def sp_law_pool (K : PySem.W.Frag) (ad : Ad) : Sp := fun vs H Q _ => ∃ (a : Addr) (ns : List Int), vs = [.ref a] ∧ SqL K H a (ns.map V.int) ∧ ns.length ≤ 63 ∧
  ∀ p ms H', H p = none → Sub H H' → H' p = some (pool ms) → PoolOk ms → Q (.ref p) H'
/-- what the pool's list holds between two turns -/
structure PlAt (H : Hp) (o : Addr) (n : Nat) (ms : List Int) (H' : Hp) : Prop where
  sub : Sub H H'
  at_ : H' o = some (pool ms)
  len : ms.length ≤ n
  rng : ∀ x ∈ ms, 0 ≤ x ∧ x < 4096
theorem PlAt.add {H H' : Hp} {o : Addr} {n : Nat} {ms : List Int} {x : Int} (h : PlAt H o n ms H') (no : H o = none) (h0 : 0 ≤ x) (h1 : x < 4096) : PlAt H o (n + 1) (ms ++ [x]) (upd H' o (.lst (ms.map V.int ++ [V.int x]))) := by
  refine ⟨fun a u e => ?_, ?_, ?_, fun y hy => ?_⟩
  · rw [upd_ne (ne_of_none e no)]; exact h.sub a u e
  · rw [upd_same]
    show some (HO.lst (List.map V.int ms ++ [V.int x])) = some (HO.lst ((ms ++ [x]).map V.int))
    rw [List.map_append]; rfl
  · have := h.len; rw [List.length_append, List.length_singleton]; omega
  · rcases List.mem_append.mp hy with hy | hy
    · exact h.rng y hy
    · rw [List.mem_singleton] at hy; subst hy; exact ⟨h0, h1⟩
theorem PlAt.mono {H H' : Hp} {o : Addr} {n m : Nat} {ms : List Int} (h : PlAt H o n ms H') (l : n ≤ m) : PlAt H o m ms H' := ⟨h.sub, h.at_, Nat.le_trans h.len l, h.rng⟩
theorem PlAt.ne {H H' : Hp} {o c : Addr} {n : Nat} {ms : List Int} (h : PlAt H o n ms H') (no : H o = none) {xs : List V} (e : H c = some (.lst xs)) : c ≠ o := ne_of_none e no
theorem fmod_rng (x m : Int) (hm : 0 < m) : 0 ≤ x.fmod m ∧ x.fmod m < m := by
  rw [Int.fmod_eq_emod_of_nonneg _ (by omega)]
  exact ⟨Int.emod_nonneg _ (by omega), Int.emod_lt_of_pos _ hm⟩
theorem nab62 {x : Int} (h0 : 0 ≤ x) (h1 : x < 4611686018427387904) : x.natAbs < 2 ^ 62 := by
  have e : (2 : Nat) ^ 62 = 4611686018427387904 := by decide
  rw [e]; omega
theorem st_law_pool (a0 : V) : start ["_law_script", "_law_pool_here", "_law_cell", "_law_rest", "_law_k", "_law_mixed"] [a0] = [some a0, none, none, none, none, none] := rfl
section
variable {P : Program} {w : World} {K : PySem.W.Frag} {mg : Str → Option Value} {base : Heap} {ad : Ad}
theorem ok_law_pool (T : Txt K mg ad) : FnOk P w K mg base CX0 1 ad.f_law_pool ad.d_law_pool ["_law_script"] (sp_law_pool K ad) := by
  refine T.F_law_pool.ok sc_law_pool (fun vs H Q E h => by obtain ⟨a, ns, rfl, _⟩ := h; rfl) (fun cdv A outer s H vs Q E hr h => ?_)
  have hu := hu_of hr
  obtain ⟨a, ns, rfl, hS, hlen, k⟩ := h
  refine ⟨_, (pss_cons (ps_set (i := 1) sc_law_pool.nd rfl (by first | exact Or.inl rfl | exact Or.inr rfl) (pe_lst pa_nil))
      (pss_cons (ps_for PassesOwn.never rfl (pi_list (pe_slice sl_list (pv 0) po_none (po_some pe_int))) (pg_name (i := 2) sc_law_pool.nd rfl (by first | exact Or.inl rfl | exact Or.inr rfl))
      (pss_cons (ps_set (i := 3) sc_law_pool.nd rfl (by first | exact Or.inl rfl | exact Or.inr rfl) (pe_callB call_abs (by rfl) T.z_abs (by decide +kernel) (pa_cons (pv 2) pa_nil)))
      (pss_one (ps_if (pt_cmpR op_lt (pv 3) (pe_op op_pow pe_int pe_int) (nomark _)) (pss_one (ps_for PassesOwn.never rfl (pi_range1 rfl T.z_range (pa_cons pe_int pa_nil)) (pg_name (i := 4) sc_law_pool.nd rfl (by first | exact Or.inl rfl | exact Or.inr rfl))
      (pss_cons (ps_set (i := 5) sc_law_pool.nd rfl (by first | exact Or.inl rfl | exact Or.inr rfl) (pe_op op_modN (pe_op op_mulW (pe_op op_mulW (pe_op op_add (pv 3) pe_int) (pe_op op_add (pv 4) pe_int)) pe_int) pe_int))
      (pss_one (ps_expr (pe_bm PySem.F.plainAttrs_list PySem.F.slot_list_append PySem.F.type_list_append mt_append (pv 1) (pa_cons (pe_op op_modN (pe_op op_fdivW (pe_op op_modN (pe_op op_mulW (pv 5) pe_int) pe_int) pe_int) pe_int) pa_nil))))))) (pss_one (ps_for PassesOwn.never rfl (pi_range1 rfl T.z_range (pa_cons pe_int pa_nil)) (pg_name (i := 4) sc_law_pool.nd rfl (by first | exact Or.inl rfl | exact Or.inr rfl))
      (pss_one (ps_if (pt_cmpR op_gt (pv 3) pe_int (nomark _)) (pss_cons (ps_expr (pe_bm PySem.F.plainAttrs_list PySem.F.slot_list_append PySem.F.type_list_append mt_append (pv 1) (pa_cons (pe_op op_modN (pe_callTy call_int1 (by rfl) T.z_int (by decide +kernel) (pa_cons (pv 3) pa_nil)) pe_int) pa_nil)))
      (pss_one (ps_set (i := 3) sc_law_pool.nd rfl (by first | exact Or.inl rfl | exact Or.inr rfl) (pe_op op_fdivW (pv 3) pe_int)))) pss_nil))))))))
      (pss_one (ps_ret (pv 1))))), ?_⟩
  try simp only [cxK, cxK2]
  rw [st_law_pool]
  -- _law_pool_here = []
  refine ⟨Nat.zero_le _, fun o no => ?_⟩
  have s1 : Sub H (upd H o (.lst [])) := Sub.new no
  -- for _law_cell in _law_script[:63]
  refine ⟨.ref a, rfl, 63, rfl, a, ns.map V.int, rfl, s1.seq hS, fun c nc => ?_⟩
  have hco : c ≠ o := fun e => by rw [e, upd_same] at nc; cases nc
  have nc0 : H c = none := by rw [upd_ne hco] at nc; exact nc
  have ecut : cutV (ns.map V.int) none (some 63) = ns.map V.int := by
    unfold cutV
    rw [HT.sIx_none, show HT.sIx (ns.map V.int).length (ns.map V.int).length (some 63) = min 63 (ns.map V.int).length from HT.sIx_nat _ _ 63, List.drop_zero, Nat.sub_zero]
    exact List.take_of_length_le (by rw [List.length_map]; omega)
  rw [ecut]
  refine ⟨c, rfl, ⟨_, .inl (.inl upd_same)⟩, for_list (xs := ns.map V.int) (fun i σ H' => ∃ y2 y3 y4 y5 ms, σ = [some (.ref a), some (.ref o), y2, y3, y4, y5] ∧ H' c = some (.lst (ns.map V.int)) ∧ PlAt H o (60 * i) ms H') ?_ (fun i σ H' _ hW => ?_) (fun i x σ H' hx hW => ?_) (fun σ H' hW => ?_)⟩
  · refine ⟨none, none, none, none, [], rfl, upd_same, ⟨s1.trans (Sub.new nc), ?_, Nat.zero_le _, fun x hx => nomatch hx⟩⟩
    rw [upd_ne hco.symm, upd_same]; rfl
  · obtain ⟨_, _, _, _, _, _, ec, _⟩ := hW
    exact .inl (.inl ec)
  · obtain ⟨y2, y3, y4, y5, ms, rfl, ec, W⟩ := hW
    obtain ⟨z, rfl⟩ : ∃ z, x = .int z := by
      rw [List.getElem?_map] at hx
      cases e : ns[i]? with
      | none => rw [e] at hx; cases hx
      | some z => rw [e] at hx; cases hx; exact ⟨z, rfl⟩
    -- _law_rest = abs(_law_cell)
    refine ⟨_, rfl, z, rfl, ?_⟩
    generalize hr0 : (if z < 0 then -z else z) = r
    have r0 : 0 ≤ r := by rw [← hr0]; split <;> omega
    -- if _law_rest < 10 ** 18
    refine ⟨_, rfl, _, _, rfl, rfl, ⟨by decide, by decide, by decide⟩, _, _, rfl, rfl, _, rfl, ite2 (fun e => ?_) (fun e => ?_)⟩
    · have r1 : r < 10 ^ 18 := of_decide_eq_true e
      -- for _law_k in range(40)
      refine ⟨40, rfl, by decide, by decide, for_range (lo := 0) (n := 40) (fun j σ H' => ∃ y4 y5 ms, σ = [some (.ref a), some (.ref o), some (.int z), some (.int r), y4, y5] ∧ H' c = some (.lst (ns.map V.int)) ∧ PlAt H o (60 * i + j) ms H') ?_ (fun j σ H' hj hW => ?_) (fun σ H' hW => ?_)⟩
      · exact ⟨y4, y5, ms, rfl, ec, W⟩
      · obtain ⟨y4, y5, ms, rfl, ec, W⟩ := hW
        -- _law_mixed = ..
        refine ⟨_, rfl, _, _, rfl, rfl, _, rfl, _, _, rfl, rfl, _, _, rfl, rfl, ?_, ?_⟩
        · exact wide_mul (a := 62) (b := 62) (nab62 (by omega) (by omega)) (nab62 (by omega) (by omega)) (by decide) (by decide) (by decide)
        refine ⟨_, _, rfl, rfl, ?_, ?_⟩
        · exact wide_mul (a := 124) (b := 62) (wide_lt (nab62 (by omega) (by omega)) (nab62 (by omega) (by omega))) (by decide) (by decide) (by decide) (by decide)
        refine ⟨_, _, rfl, rfl, (by show (2147483647 : Int) ≠ 0; decide), ?_⟩
        have q0 := fmod_rng ((r + 1) * ((0 : Int) + j + 3) * 48271) 2147483647 (by decide)
        -- _law_pool_here.append(..)
        refine ⟨_, rfl, .inl ⟨rfl, _, SqL.of W.at_⟩, _, rfl, _, _, rfl, rfl, ?_, _, _, rfl, rfl, (by show (2147483629 : Int) ≠ 0; decide), _, _, rfl, rfl, ⟨(by show (0 : Int) < 5; decide), (by show (5 : Int).natAbs.log2 < 9000; decide)⟩, _, _, rfl, rfl, (by show (4096 : Int) ≠ 0; decide), ?_⟩
        · exact wide_mul (a := 62) (b := 62) (nab62 q0.1 (Int.lt_trans q0.2 (by decide))) (by decide) (by decide) (by decide) (by decide)
        have vr := fmod_rng (((((r + 1) * ((0 : Int) + j + 3) * 48271).fmod 2147483647) * 69621).fmod 2147483629 / 5) 4096 (by decide)
        refine ⟨o, _, _, rfl, rfl, W.at_, ?_, ?_⟩
        · rw [List.length_map]; exact Nat.lt_of_le_of_lt W.len (by have : i < (ns.map V.int).length := (List.getElem?_eq_some_iff.mp hx).1; rw [List.length_map] at this; exact Nat.lt_of_lt_of_le (show 60 * i + j < 10000 by omega) (by decide))
        · refine ⟨_, _, _, rfl, ?_, W.add no vr.1 vr.2⟩
          rw [upd_ne hco]; exact ec
      · obtain ⟨y4, y5, ms, rfl, ec, W⟩ := hW
        exact ⟨_, _, y4, y5, ms, rfl, ec, W.mono (by omega)⟩
    · -- for _law_k in range(60)
      refine ⟨60, rfl, by decide, by decide, for_range (lo := 0) (n := 60) (fun j σ H' => ∃ r y4 y5 ms, σ = [some (.ref a), some (.ref o), some (.int z), some (.int r), y4, y5] ∧ H' c = some (.lst (ns.map V.int)) ∧ PlAt H o (60 * i + j) ms H') ?_ (fun j σ H' hj hW => ?_) (fun σ H' hW => ?_)⟩
      · exact ⟨r, y4, y5, ms, rfl, ec, W⟩
      · obtain ⟨r, y4, y5, ms, rfl, ec, W⟩ := hW
        refine ⟨_, rfl, _, _, rfl, rfl, _, rfl, ite2 (fun e => ?_) (fun e => ?_)⟩
        · refine ⟨_, rfl, .inl ⟨rfl, _, SqL.of W.at_⟩, _, rfl, .inl ⟨_, rfl, _, _, rfl, rfl, (by show (4096 : Int) ≠ 0; decide), ?_⟩⟩
          have vr := fmod_rng r 4096 (by decide)
          refine ⟨o, _, _, rfl, rfl, W.at_, ?_, ?_⟩
          · rw [List.length_map]; exact Nat.lt_of_le_of_lt W.len (by have : i < (ns.map V.int).length := (List.getElem?_eq_some_iff.mp hx).1; rw [List.length_map] at this; exact Nat.lt_of_lt_of_le (show 60 * i + j < 10000 by omega) (by decide))
          · refine ⟨_, rfl, _, _, rfl, rfl, ⟨(by show (0 : Int) < 4096; decide), (by show (4096 : Int).natAbs.log2 < 9000; decide)⟩, ?_⟩
            refine ⟨_, _, _, _, rfl, ?_, W.add no vr.1 vr.2⟩
            rw [upd_ne hco]; exact ec
        · exact ⟨r, _, y5, ms, rfl, ec, W.mono (by omega)⟩
      · obtain ⟨r, y4, y5, ms, rfl, ec, W⟩ := hW
        exact ⟨_, _, y4, y5, ms, rfl, ec, W.mono (by omega)⟩
  · obtain ⟨y2, y3, y4, y5, ms, rfl, ec, W⟩ := hW
    rw [List.length_map] at W
    refine ⟨.ref o, rfl, k o ms H' no W.sub W.at_ ⟨?_, W.rng⟩⟩
    have := W.len
    omega
end
def sp_law_take (K : PySem.W.Frag) (ad : Ad) : Sp := fun vs H Q _ => ∃ p ms m, vs = [.ref p, .int m] ∧ H p = some (pool ms) ∧ PoolOk ms ∧ 0 < m ∧
  ∀ H', Chg p H H' → H' p = some (pool ms.tail) → Q (.int (tkv ms m)) H'
theorem eqv_nil : ∀ ms : List Int, PyData.eqv (.list (ms.map PyData.int)) (.list []) = ms.isEmpty
  | [] => rfl
  | _ :: _ => rfl
theorem dpI {K : PySem.W.Frag} {H : Hp} : ∀ ms : List Int, DpAll K H (ms.map V.int) (ms.map PyData.int)
  | [] => .nil
  | _ :: r => .cons (.int _) (dpI r)
theorem shapedI : ∀ ms : List Int, SeqAt.shaped (.list (ms.map PyData.int)) = true
  | [] => rfl
  | _ :: r => by
    have h := shapedI r
    exact h
theorem st_law_take (a0 a1 : V) : start ["_law_pool_here", "_law_many"] [a0, a1] = [some a0, some a1] := rfl
section
variable {P : Program} {w : World} {K : PySem.W.Frag} {mg : Str → Option Value} {base : Heap} {ad : Ad}
theorem ok_law_take (T : Txt K mg ad) : FnOk P w K mg base CX0 1 ad.f_law_take ad.d_law_take ["_law_pool_here", "_law_many"] (sp_law_take K ad) := by
  refine T.F_law_take.ok sc_law_take (fun vs H Q E h => by obtain ⟨p, ms, m, rfl, _⟩ := h; rfl) (fun cdv A outer s H vs Q E hr h => ?_)
  have hu := hu_of hr
  obtain ⟨p, ms, m, rfl, hp, ok, hm, k⟩ := h
  refine ⟨_, (pss_cons (ps_if (pt_cmpR (op_eqD hr.units) (pv 0) (pe_lst pa_nil) (nomark _)) (pss_one (ps_ret pe_int)) pss_nil)
      (pss_one (ps_ret (pe_op op_modN (pe_callTy call_int1 (by rfl) T.z_int (by decide +kernel) (pa_cons (pe_bm PySem.F.plainAttrs_list PySem.F.slot_list_pop PySem.F.type_list_pop mt_popAt (pv 0) (pa_cons pe_int pa_nil)) pa_nil)) (pv 1))))), ?_⟩
  try simp only [cxK, cxK2]
  rw [st_law_take]
  -- if _law_pool_here == []
  refine ⟨_, rfl, Nat.zero_le _, fun o no => ?_⟩
  have hpo : p ≠ o := ne_of_none hp no
  have hp1 : (upd H o (.lst [])) p = some (pool ms) := by rw [upd_ne hpo]; exact hp
  refine ⟨.list (ms.map PyData.int), .list [], .lst (SqL.of hp1) (dpI ms), .lst (SqL.of upd_same) .nil, shapedI ms, rfl, _, rfl, ?_⟩
  rw [eqv_nil]
  cases ms with
  | nil =>
    refine iteT ?_
    exact k _ (Chg.new no) hp1
  | cons n r =>
    refine iteF ?_
    refine ⟨_, rfl, .inl ⟨rfl, _, SqL.of hp1⟩, p, _, 0, 0, _, rfl, rfl, hp1, by decide, by decide, (by simp [seqIndex?, List.length_cons] <;> omega), rfl, ?_⟩
    refine .inl ⟨n, rfl, _, rfl, _, _, rfl, rfl, by omega, ?_⟩
    exact k _ ((Chg.new no).trans Chg.put) upd_same
end
def sp_law_whole (K : PySem.W.Frag) (ad : Ad) : Sp := fun vs H Q _ => ∃ n, vs = [.int n] ∧ Q (.bl true) H
theorem kit_ii {K : PySem.W.Frag} : PySem.W.kitOne K (.type "int") (.type "int") = some true := kit_ty (by decide +kernel)
theorem kit_ib {K : PySem.W.Frag} : PySem.W.kitOne K (.type "int") (.type "bool") = some false := kit_ty (by decide +kernel)
theorem st_law_whole (a0 : V) : start ["_law_x"] [a0] = [some a0] := rfl
section
variable {P : Program} {w : World} {K : PySem.W.Frag} {mg : Str → Option Value} {base : Heap} {ad : Ad}
theorem ok_law_whole (T : Txt K mg ad) : FnOk P w K mg base CX0 1 ad.f_law_whole ad.d_law_whole ["_law_x"] (sp_law_whole K ad) := by
  refine T.F_law_whole.ok sc_law_whole (fun vs H Q E h => by obtain ⟨n, rfl, _⟩ := h; rfl) (fun cdv A outer s H vs Q E hr h => ?_)
  have hu := hu_of hr
  obtain ⟨n, rfl, k⟩ := h
  refine ⟨_, (pss_one (ps_ret (pe_and (pe_callB call_isi (by rfl) T.z_isinstance (by decide +kernel) (pa_cons (pv 0) (pa_cons (pe_bltn (v := .ty "int") (by rfl) T.z_int (by decide +kernel) rfl) pa_nil))) (pe_one (pe_not (pe_callB call_isi (by rfl) T.z_isinstance (by decide +kernel) (pa_cons (pv 0) (pa_cons (pe_bltn (v := .ty "bool") (by rfl) T.z_bool (by decide +kernel) rfl) pa_nil)))))))), ?_⟩
  try simp only [cxK, cxK2]
  rw [st_law_whole]
  refine ⟨_, rfl, .int n, .ty "int", _, _, true, rfl, .ty _, .base (.int n), kit_ii, true, rfl, iteT ?_⟩
  exact ⟨_, rfl, .int n, .ty "bool", _, _, false, rfl, .ty _, .base (.int n), kit_ib, false, rfl, k⟩
end
def sp_law_number (K : PySem.W.Frag) (ad : Ad) : Sp := fun vs H Q _ => ∃ p ms, vs = [.ref p] ∧ H p = some (pool ms) ∧ PoolOk ms ∧
  ∀ v ms' H', Chg p H H' → H' p = some (pool ms') → PoolOk ms' → v.natAbs < 2 ^ 192 → Q (.int v) H'
theorem p4096 {n : Int} {i : Nat} (h0 : 0 ≤ n) (h : n < 4096 ^ i) (hi : i ≤ 16) : n.natAbs < 2 ^ 192 := by
  have e1 : (4096 : Nat) ^ i ≤ 4096 ^ 16 := Nat.pow_le_pow_right (by decide) hi
  have e2 : (4096 : Nat) ^ 16 = 2 ^ 192 := by decide +kernel
  have e3 : ((4096 ^ i : Nat) : Int) = (4096 : Int) ^ i := Int.natCast_pow 4096 i
  rw [← e3] at h
  rw [e2] at e1
  generalize (4096 : Nat) ^ i = z at h e1
  generalize (2 : Nat) ^ 192 = u at e1 ⊢
  omega
theorem st_law_number (a0 : V) : start ["_law_pool_here", "_law_kind", "_law_number_here", "_law_k"] [a0] = [some a0, none, none, none] := rfl
section
variable {P : Program} {w : World} {K : PySem.W.Frag} {mg : Str → Option Value} {base : Heap} {ad : Ad}
theorem ok_law_number (T : Txt K mg ad) : FnOk P w K mg base CX0 2 ad.f_law_number ad.d_law_number ["_law_pool_here"] (sp_law_number K ad) := by
  refine T.F_law_number.ok sc_law_number (fun vs H Q E h => by obtain ⟨p, ms, rfl, _⟩ := h; rfl) (fun cdv A outer s H vs Q E hr h => ?_)
  have hu := hu_of hr
  obtain ⟨p, ms, rfl, hp, ok, k⟩ := h
  refine ⟨_, (pss_cons (ps_set (i := 1) sc_law_number.nd rfl (by first | exact Or.inl rfl | exact Or.inr rfl) (pe_call (ok_law_take (P := P) (w := w) (K := K) (mg := mg) (base := base) T) (hr.mono (by decide)) (by rfl) T.g_law_take T.F_law_take.kp T.B_law_take .nil pass0 (pa_cons (pv 0) (pa_cons pe_int pa_nil))))
      (pss_cons (ps_if (pt_cmpR op_eq (pv 1) pe_int (nomark _)) (pss_one (ps_ret (pe_op op_sub (pe_call (ok_law_take (P := P) (w := w) (K := K) (mg := mg) (base := base) T) (hr.mono (by decide)) (by rfl) T.g_law_take T.F_law_take.kp T.B_law_take .nil pass0 (pa_cons (pv 0) (pa_cons pe_int pa_nil))) pe_int))) pss_nil)
      (pss_cons (ps_set (i := 2) sc_law_number.nd rfl (by first | exact Or.inl rfl | exact Or.inr rfl) pe_int)
      (pss_cons (ps_for PassesOwn.never rfl (pi_range1 rfl T.z_range (pa_cons (pe_call (ok_law_take (P := P) (w := w) (K := K) (mg := mg) (base := base) T) (hr.mono (by decide)) (by rfl) T.g_law_take T.F_law_take.kp T.B_law_take .nil pass0 (pa_cons (pv 0) (pa_cons pe_int pa_nil))) pa_nil)) (pg_name (i := 3) sc_law_number.nd rfl (by first | exact Or.inl rfl | exact Or.inr rfl))
      (pss_one (ps_set (i := 2) sc_law_number.nd rfl (by first | exact Or.inl rfl | exact Or.inr rfl) (pe_op op_add (pe_op op_mulW (pv 2) pe_int) (pe_call (ok_law_take (P := P) (w := w) (K := K) (mg := mg) (base := base) T) (hr.mono (by decide)) (by rfl) T.g_law_take T.F_law_take.kp T.B_law_take .nil pass0 (pa_cons (pv 0) (pa_cons pe_int pa_nil)))))))
      (pss_cons (ps_if (pt_cmpR op_eq (pv 1) pe_int (nomark _)) (pss_one (ps_ret (pe_un un_neg (pv 2)))) pss_nil)
      (pss_one (ps_ret (pv 2)))))))), ?_⟩
  try simp only [cxK, cxK2]
  rw [st_law_number]
  -- _law_kind = _law_take(_law_pool_here, 3)
  refine ⟨_, rfl, p, ms, 3, rfl, hp, ok, by decide, fun H1 c1 e1 => ?_⟩
  have ok1 := ok.tail
  have k3 := tkv_rng (ms := ms) (show (0 : Int) < 3 by decide)
  generalize tkv ms 3 = kd at k3 ⊢
  generalize ms.tail = ms1 at e1 ok1
  -- if _law_kind == 0
  refine ⟨_, rfl, rfl, _, rfl, ite2 (fun e => ?_) (fun e => ?_)⟩
  · refine ⟨_, rfl, p, ms1, 25, rfl, e1, ok1, by decide, fun H2 c2 e2 => ⟨_, _, rfl, rfl, ?_⟩⟩
    have r := tkv_rng (ms := ms1) (show (0 : Int) < 25 by decide)
    refine k _ _ H2 (c1.trans c2) e2 ok1.tail (Nat.lt_of_lt_of_le (show (tkv ms1 25 - 12).natAbs < 2 ^ 5 by omega) (Nat.pow_le_pow_right (by decide) (by decide)))
  · -- _law_number_here = 0; for _law_k in range(_law_take(_law_pool_here, 17))
    refine ⟨_, rfl, p, ms1, 17, rfl, e1, ok1, by decide, fun H2 c2 e2 => ?_⟩
    have r := tkv_rng (ms := ms1) (show (0 : Int) < 17 by decide)
    have ok2 := ok1.tail
    generalize tkv ms1 17 = tn at r ⊢
    generalize ms1.tail = ms2 at e2 ok2
    refine ⟨tn, rfl, by omega, by omega, for_range (lo := 0) (n := tn.toNat) (fun i σ H' => ∃ y3 n ms', σ = [some (.ref p), some (.int kd), some (.int n), y3] ∧ Chg p H H' ∧ H' p = some (pool ms') ∧ PoolOk ms' ∧ 0 ≤ n ∧ n < 4096 ^ i) ?_ (fun i σ H' hi hW => ?_) (fun σ H' hW => ?_)⟩
    · exact ⟨none, 0, ms2, rfl, c1.trans c2, e2, ok2, by decide, by decide⟩
    · obtain ⟨y3, n, ms', rfl, c', e', ok', n0, n1⟩ := hW
      have hi16 : i ≤ 16 := by omega
      refine ⟨_, rfl, _, _, rfl, rfl, ?_, ?_⟩
      · exact wide_mul (a := 192) (b := 62) (p4096 n0 n1 hi16) (by decide) (by decide) (by decide) (by decide)
      refine ⟨_, rfl, p, ms', 4096, rfl, e', ok', by decide, fun H3 c3 e3 => ⟨_, _, rfl, rfl, ?_⟩⟩
      have q := tkv_rng (ms := ms') (show (0 : Int) < 4096 by decide)
      refine ⟨_, _, _, rfl, c'.trans c3, e3, ok'.tail, by omega, ?_⟩
      rw [Int.pow_succ]
      generalize (4096 : Int) ^ i = z at n1 ⊢
      omega
    · obtain ⟨y3, n, ms', rfl, c', e', ok', n0, n1⟩ := hW
      have b := p4096 n0 n1 (show tn.toNat ≤ 16 by omega)
      -- if _law_kind == 1
      refine ⟨_, rfl, rfl, _, rfl, ite2 (fun e => ?_) (fun e => ?_)⟩
      · exact ⟨_, rfl, n, rfl, k _ _ H' c' e' ok' (by rw [Int.natAbs_neg]; exact b)⟩
      · exact ⟨_, rfl, k _ _ H' c' e' ok' b⟩
end
def sp_law_turns (K : PySem.W.Frag) (ad : Ad) : Sp := fun vs H Q _ => ∃ a b c ax ay bx b_y cx cy d, vs = [.ref a, .ref b, .ref c, .int d] ∧ H a = some (pl ax ay) ∧ H b = some (pl bx b_y) ∧ H c = some (pl cx cy) ∧
  CMulW (bx - ax) (cy - b_y) ∧ CMulW (b_y - ay) (cx - bx) ∧ tv (crs ax ay bx b_y cx cy) = d ∧ Q (.bl true) H
theorem st_law_turns (a0 a1 a2 a3 : V) : start ["_law_a", "_law_b", "_law_c", "_law_due", "_law_told"] [a0, a1, a2, a3] = [some a0, some a1, some a2, some a3, none] := rfl
section
variable {P : Program} {w : World} {K : PySem.W.Frag} {mg : Str → Option Value} {base : Heap} {ad : Ad}
theorem ok_law_turns (T : Txt K mg ad) : FnOk P w K mg base CX0 2 ad.f_law_turns ad.d_law_turns ["_law_a", "_law_b", "_law_c", "_law_due"] (sp_law_turns K ad) := by
  refine T.F_law_turns.ok sc_law_turns (fun vs H Q E h => by obtain ⟨a, b, c, ax, ay, bx, b_y, cx, cy, d, rfl, _⟩ := h; rfl) (fun cdv A outer s H vs Q E hr h => ?_)
  have hu := hu_of hr
  obtain ⟨a, b, c, ax, ay, bx, b_y, cx, cy, d, rfl, ha, hb, hc, c1, c2, e, k⟩ := h
  refine ⟨_, (pss_cons (ps_set (i := 4) sc_law_turns.nd rfl (by first | exact Or.inl rfl | exact Or.inr rfl) (pe_stat (pe_glob (v := .ref ad.c_Arrow) (by rfl) T.g_Arrow rfl) T.cs_Arrow_turn (ok_Arrow_turn (P := P) (w := w) (K := K) (mg := mg) (base := base) T) (hr.mono (by decide)) T.B_Arrow_turn pass0 (pa_cons (pv 0) (pa_cons (pv 1) (pa_cons (pv 2) pa_nil)))))
      (pss_one (ps_ret (pe_and (pe_call (ok_law_whole (P := P) (w := w) (K := K) (mg := mg) (base := base) T) (hr.mono (by decide)) (by rfl) T.g_law_whole T.F_law_whole.kp T.B_law_whole .nil pass0 (pa_cons (pv 4) pa_nil)) (pe_one (pe_cmpR op_eq (pv 4) (pv 3) (nomark _))))))), ?_⟩
  try simp only [cxK, cxK2]
  rw [st_law_turns]
  refine ⟨rfl, _, rfl, _, rfl, _, rfl, a, b, c, ax, ay, bx, b_y, cx, cy, rfl, ha, hb, hc, c1, c2, ?_⟩
  refine gs4 ?_
  rw [e]
  refine ⟨_, rfl, d, rfl, true, rfl, iteT ⟨_, rfl, _, rfl, rfl, ?_⟩⟩
  rw [decide_eq_true rfl]
  exact k
end
def sp_law (K : PySem.W.Frag) : Sp := fun vs H Q _ => ∃ (a : Addr) (ns : List Int), vs = [.ref a] ∧ SqL K H a (ns.map V.int) ∧ ns.length ≤ 63 ∧ ∀ H', Q (.bl true) H'
theorem sub201 {a b : Int} (ha : a.natAbs < 2 ^ 200) (hb : b.natAbs < 2 ^ 200) : (a - b).natAbs < 2 ^ 201 := by
  rw [show (2 : Nat) ^ 201 = 2 * 2 ^ 200 by rw [Nat.pow_succ, Nat.mul_comm]]
  generalize (2 : Nat) ^ 200 = z at ha hb ⊢
  omega
theorem mulD {a b c d : Int} (ha : a.natAbs < 2 ^ 200) (hb : b.natAbs < 2 ^ 200) (hc : c.natAbs < 2 ^ 200) (hd : d.natAbs < 2 ^ 200) : CMulW (a - b) (c - d) := wide_mul (a := 201) (b := 201) (sub201 ha hb) (sub201 hc hd) (by decide) (by decide) (by decide)
theorem up200 {a : Int} (h : a.natAbs < 2 ^ 192) : a.natAbs < 2 ^ 200 := Nat.lt_trans h (Nat.pow_lt_pow_right (by decide) (by decide))
theorem up196 {a : Int} (h : a.natAbs < 2 ^ 196) : a.natAbs < 2 ^ 200 := Nat.lt_trans h (Nat.pow_lt_pow_right (by decide) (by decide))
theorem way {a b k : Int} (ha : a.natAbs < 2 ^ 192) (hb : b.natAbs < 2 ^ 192) (h0 : -3 ≤ k) (h1 : k ≤ 3) : (a + k * (b - a)).natAbs < 2 ^ 196 := by
  rw [show (2 : Nat) ^ 196 = 16 * 2 ^ 192 by rw [show (196 : Nat) = 192 + 4 from rfl, Nat.pow_add, Nat.mul_comm]]
  generalize (2 : Nat) ^ 192 = z at ha hb ⊢
  have e : k = -3 ∨ k = -2 ∨ k = -1 ∨ k = 0 ∨ k = 1 ∨ k = 2 ∨ k = 3 := by omega
  rcases e with e | e | e | e | e | e | e <;> subst e <;> omega
theorem beside {a t : Int} (ha : a.natAbs < 2 ^ 196) (h0 : 0 ≤ t) (h1 : t < 3) : (a + t - 1).natAbs < 2 ^ 200 := by
  rw [show (2 : Nat) ^ 200 = 16 * 2 ^ 196 by rw [show (200 : Nat) = 196 + 4 from rfl, Nat.pow_add, Nat.mul_comm]]
  generalize (2 : Nat) ^ 196 = z at ha ⊢
  omega
theorem mulK {a b k : Int} (ha : a.natAbs < 2 ^ 192) (hb : b.natAbs < 2 ^ 192) (h0 : -3 ≤ k) (h1 : k ≤ 3) : CMulW k (b - a) := wide_mul (a := 2) (b := 201) (by omega) (sub201 (up200 hb) (up200 ha)) (by decide) (by decide) (by decide)
theorem tv_neg (z : Int) : tv (-z) = -(tv z) := by
  unfold tv
  split <;> split <;> (try split) <;> (try split) <;> omega
theorem due_eq (z : Int) : (if decide (z < 0) = true then V.int (-1) else if decide (0 < z) = true then V.int 1 else V.int 0) = V.int (tv z) := by
  unfold tv
  by_cases h1 : z < 0
  · rw [if_pos (decide_eq_true h1), if_neg (by omega), if_pos h1]
  · by_cases h2 : 0 < z
    · rw [if_neg (by rw [decide_eq_false h1]; decide), if_pos (decide_eq_true h2), if_pos h2]
    · rw [if_neg (by rw [decide_eq_false h1]; decide), if_neg (by rw [decide_eq_false h2]; decide), if_neg h2, if_neg h1]
theorem cr1 (ax ay bx b_y cx cy : Int) : crs ax ay bx b_y cx cy = (bx - ax) * (cy - ay) - (b_y - ay) * (cx - ax) := by unfold crs; grind
theorem cr2 (ax ay bx b_y cx cy : Int) : crs bx b_y ax ay cx cy = -((bx - ax) * (cy - ay) - (b_y - ay) * (cx - ax)) := by unfold crs; grind
theorem cr3 (ax ay bx b_y cx cy : Int) : crs bx b_y cx cy ax ay = (bx - ax) * (cy - ay) - (b_y - ay) * (cx - ax) := by unfold crs; grind
theorem cr4 (ax ay cx cy : Int) : crs ax ay ax ay cx cy = 0 := by unfold crs; grind
theorem cr5 (ax ay cx cy : Int) : crs ax ay cx cy ax ay = 0 := by unfold crs; grind
theorem cr6 (ax ay cx cy : Int) : crs ax ay cx cy cx cy = 0 := by unfold crs; grind
theorem st_law (a0 : V) : start ["_law_script", "_law_pool_here", "_law_a", "_law_b", "_law_c", "_law_kind", "_law_k", "_law_side", "_law_due", "_law_good"] [a0] = [some a0, none, none, none, none, none, none, none, none, none] := rfl
section
variable {P : Program} {w : World} {K : PySem.W.Frag} {mg : Str → Option Value} {base : Heap} {ad : Ad}
theorem ok_law (T : Txt K mg ad) : FnOk P w K mg base CX0 3 ad.f_law ad.d_law ["_law_script"] (sp_law K) := by
  refine T.F_law.ok sc_law (fun vs H Q E h => by obtain ⟨a, ns, rfl, _⟩ := h; rfl) (fun cdv A outer s H vs Q E hr h => ?_)
  have hu := hu_of hr
  obtain ⟨a, ns, rfl, hS, hlen, k⟩ := h
  refine ⟨_, (pss_cons (ps_set (i := 1) sc_law.nd rfl (by first | exact Or.inl rfl | exact Or.inr rfl) (pe_call (ok_law_pool (P := P) (w := w) (K := K) (mg := mg) (base := base) T) (hr.mono (by decide)) (by rfl) T.g_law_pool T.F_law_pool.kp T.B_law_pool .nil pass0 (pa_cons (pv 0) pa_nil)))
      (pss_cons (ps_set (i := 2) sc_law.nd rfl (by first | exact Or.inl rfl | exact Or.inr rfl) (pe_tup (pa_cons (pe_call (ok_law_number (P := P) (w := w) (K := K) (mg := mg) (base := base) T) (hr.mono (by decide)) (by rfl) T.g_law_number T.F_law_number.kp T.B_law_number .nil pass0 (pa_cons (pv 1) pa_nil)) (pa_cons (pe_call (ok_law_number (P := P) (w := w) (K := K) (mg := mg) (base := base) T) (hr.mono (by decide)) (by rfl) T.g_law_number T.F_law_number.kp T.B_law_number .nil pass0 (pa_cons (pv 1) pa_nil)) pa_nil))))
      (pss_cons (ps_set (i := 3) sc_law.nd rfl (by first | exact Or.inl rfl | exact Or.inr rfl) (pe_tup (pa_cons (pe_call (ok_law_number (P := P) (w := w) (K := K) (mg := mg) (base := base) T) (hr.mono (by decide)) (by rfl) T.g_law_number T.F_law_number.kp T.B_law_number .nil pass0 (pa_cons (pv 1) pa_nil)) (pa_cons (pe_call (ok_law_number (P := P) (w := w) (K := K) (mg := mg) (base := base) T) (hr.mono (by decide)) (by rfl) T.g_law_number T.F_law_number.kp T.B_law_number .nil pass0 (pa_cons (pv 1) pa_nil)) pa_nil))))
      (pss_cons (ps_set (i := 4) sc_law.nd rfl (by first | exact Or.inl rfl | exact Or.inr rfl) (pe_tup (pa_cons (pe_call (ok_law_number (P := P) (w := w) (K := K) (mg := mg) (base := base) T) (hr.mono (by decide)) (by rfl) T.g_law_number T.F_law_number.kp T.B_law_number .nil pass0 (pa_cons (pv 1) pa_nil)) (pa_cons (pe_call (ok_law_number (P := P) (w := w) (K := K) (mg := mg) (base := base) T) (hr.mono (by decide)) (by rfl) T.g_law_number T.F_law_number.kp T.B_law_number .nil pass0 (pa_cons (pv 1) pa_nil)) pa_nil))))
      (pss_cons (ps_set (i := 5) sc_law.nd rfl (by first | exact Or.inl rfl | exact Or.inr rfl) (pe_call (ok_law_take (P := P) (w := w) (K := K) (mg := mg) (base := base) T) (hr.mono (by decide)) (by rfl) T.g_law_take T.F_law_take.kp T.B_law_take .nil pass0 (pa_cons (pv 1) (pa_cons pe_int pa_nil))))
      (pss_cons (ps_if (pt_cmpR op_gt (pv 5) pe_int (nomark _)) (pss_cons (ps_set (i := 6) sc_law.nd rfl (by first | exact Or.inl rfl | exact Or.inr rfl) (pe_op op_sub (pe_call (ok_law_take (P := P) (w := w) (K := K) (mg := mg) (base := base) T) (hr.mono (by decide)) (by rfl) T.g_law_take T.F_law_take.kp T.B_law_take .nil pass0 (pa_cons (pv 1) (pa_cons pe_int pa_nil))) pe_int))
      (pss_one (ps_set (i := 4) sc_law.nd rfl (by first | exact Or.inl rfl | exact Or.inr rfl) (pe_tup (pa_cons (pe_op op_add (pe_ix ix_tup (pv 2) pe_int (fun _ _ => rfl)) (pe_op op_mulW (pv 6) (pe_op op_sub (pe_ix ix_tup (pv 3) pe_int (fun _ _ => rfl)) (pe_ix ix_tup (pv 2) pe_int (fun _ _ => rfl))))) (pa_cons (pe_op op_add (pe_ix ix_tup (pv 2) pe_int (fun _ _ => rfl)) (pe_op op_mulW (pv 6) (pe_op op_sub (pe_ix ix_tup (pv 3) pe_int (fun _ _ => rfl)) (pe_ix ix_tup (pv 2) pe_int (fun _ _ => rfl))))) pa_nil)))))) pss_nil)
      (pss_cons (ps_if (pt_cmpR op_eq (pv 5) pe_int (nomark _)) (pss_one (ps_set (i := 4) sc_law.nd rfl (by first | exact Or.inl rfl | exact Or.inr rfl) (pe_tup (pa_cons (pe_op op_sub (pe_op op_add (pe_ix ix_tup (pv 4) pe_int (fun _ _ => rfl)) (pe_call (ok_law_take (P := P) (w := w) (K := K) (mg := mg) (base := base) T) (hr.mono (by decide)) (by rfl) T.g_law_take T.F_law_take.kp T.B_law_take .nil pass0 (pa_cons (pv 1) (pa_cons pe_int pa_nil)))) pe_int) (pa_cons (pe_op op_sub (pe_op op_add (pe_ix ix_tup (pv 4) pe_int (fun _ _ => rfl)) (pe_call (ok_law_take (P := P) (w := w) (K := K) (mg := mg) (base := base) T) (hr.mono (by decide)) (by rfl) T.g_law_take T.F_law_take.kp T.B_law_take .nil pass0 (pa_cons (pv 1) (pa_cons pe_int pa_nil)))) pe_int) pa_nil))))) pss_nil)
      (pss_cons (ps_set (i := 7) sc_law.nd rfl (by first | exact Or.inl rfl | exact Or.inr rfl) (pe_op op_mulW (pe_op op_sub (pe_ix ix_tup (pv 3) pe_int (fun _ _ => rfl)) (pe_ix ix_tup (pv 2) pe_int (fun _ _ => rfl))) (pe_op op_sub (pe_ix ix_tup (pv 4) pe_int (fun _ _ => rfl)) (pe_ix ix_tup (pv 2) pe_int (fun _ _ => rfl)))))
      (pss_cons (ps_set (i := 7) sc_law.nd rfl (by first | exact Or.inl rfl | exact Or.inr rfl) (pe_op op_sub (pv 7) (pe_op op_mulW (pe_op op_sub (pe_ix ix_tup (pv 3) pe_int (fun _ _ => rfl)) (pe_ix ix_tup (pv 2) pe_int (fun _ _ => rfl))) (pe_op op_sub (pe_ix ix_tup (pv 4) pe_int (fun _ _ => rfl)) (pe_ix ix_tup (pv 2) pe_int (fun _ _ => rfl))))))
      (pss_cons (ps_set (i := 8) sc_law.nd rfl (by first | exact Or.inl rfl | exact Or.inr rfl) pe_int)
      (pss_cons (ps_if (pt_cmpR op_gt (pv 7) pe_int (nomark _)) (pss_one (ps_set (i := 8) sc_law.nd rfl (by first | exact Or.inl rfl | exact Or.inr rfl) pe_int)) pss_nil)
      (pss_cons (ps_if (pt_cmpR op_lt (pv 7) pe_int (nomark _)) (pss_one (ps_set (i := 8) sc_law.nd rfl (by first | exact Or.inl rfl | exact Or.inr rfl) (pe_un un_neg pe_int))) pss_nil)
      (pss_cons (ps_set (i := 9) sc_law.nd rfl (by first | exact Or.inl rfl | exact Or.inr rfl) (pe_lst (pa_cons (pe_call (ok_law_turns (P := P) (w := w) (K := K) (mg := mg) (base := base) T) (hr.mono (by decide)) (by rfl) T.g_law_turns T.F_law_turns.kp T.B_law_turns .nil pass0 (pa_cons (pv 2) (pa_cons (pv 3) (pa_cons (pv 4) (pa_cons (pv 8) pa_nil))))) (pa_cons (pe_call (ok_law_turns (P := P) (w := w) (K := K) (mg := mg) (base := base) T) (hr.mono (by decide)) (by rfl) T.g_law_turns T.F_law_turns.kp T.B_law_turns .nil pass0 (pa_cons (pv 3) (pa_cons (pv 2) (pa_cons (pv 4) (pa_cons (pe_un un_neg (pv 8)) pa_nil))))) pa_nil))))
      (pss_cons (ps_expr (pe_bm PySem.F.plainAttrs_list PySem.F.slot_list_append PySem.F.type_list_append mt_append (pv 9) (pa_cons (pe_call (ok_law_turns (P := P) (w := w) (K := K) (mg := mg) (base := base) T) (hr.mono (by decide)) (by rfl) T.g_law_turns T.F_law_turns.kp T.B_law_turns .nil pass0 (pa_cons (pv 3) (pa_cons (pv 4) (pa_cons (pv 2) (pa_cons (pv 8) pa_nil))))) pa_nil)))
      (pss_cons (ps_expr (pe_bm PySem.F.plainAttrs_list PySem.F.slot_list_append PySem.F.type_list_append mt_append (pv 9) (pa_cons (pe_and (pe_call (ok_law_turns (P := P) (w := w) (K := K) (mg := mg) (base := base) T) (hr.mono (by decide)) (by rfl) T.g_law_turns T.F_law_turns.kp T.B_law_turns .nil pass0 (pa_cons (pv 2) (pa_cons (pv 2) (pa_cons (pv 4) (pa_cons pe_int pa_nil))))) (pe_one (pe_call (ok_law_turns (P := P) (w := w) (K := K) (mg := mg) (base := base) T) (hr.mono (by decide)) (by rfl) T.g_law_turns T.F_law_turns.kp T.B_law_turns .nil pass0 (pa_cons (pv 2) (pa_cons (pv 4) (pa_cons (pv 2) (pa_cons pe_int pa_nil))))))) pa_nil)))
      (pss_cons (ps_expr (pe_bm PySem.F.plainAttrs_list PySem.F.slot_list_append PySem.F.type_list_append mt_append (pv 9) (pa_cons (pe_call (ok_law_turns (P := P) (w := w) (K := K) (mg := mg) (base := base) T) (hr.mono (by decide)) (by rfl) T.g_law_turns T.F_law_turns.kp T.B_law_turns .nil pass0 (pa_cons (pv 2) (pa_cons (pv 4) (pa_cons (pv 4) (pa_cons pe_int pa_nil))))) pa_nil)))
      (pss_one (ps_ret (pe_cmpR op_notIn_seq pe_bl (pv 9) (by rfl)))))))))))))))))))), ?_⟩
  try simp only [cxK, cxK2]
  rw [st_law]
  refine ⟨_, rfl, a, ns, rfl, hS, hlen, fun p m1 H1 np s1 e1 ok1 => ?_⟩
  refine gs1 ?_
  have A := (At.self H).more s1 np e1
  refine ⟨_, rfl, p, m1, rfl, A.hd, ok1, fun ax m2 K1 c2 e2 ok2 hax => ?_⟩
  replace A := A.chg c2 e2
  refine ⟨_, rfl, p, m2, rfl, A.hd, ok2, fun ay m3 K2 c3 e3 ok3 hay => ?_⟩
  replace A := A.chg c3 e3
  clear c2 c3 e2 e3
  refine ⟨(by show 2 ≤ sizeLine; decide), fun ta nta => ?_⟩
  refine gs2 ?_
  obtain ⟨Gta, A, sta, ga⟩ := A.laid (o := pl ax ay) nta
  generalize upd K2 ta (pl ax ay) = Hta at A ⊢
  refine ⟨_, rfl, p, m3, rfl, A.hd, ok3, fun bx m4 K1 c2 e2 ok4 hbx => ?_⟩
  replace A := A.chg c2 e2
  refine ⟨_, rfl, p, m4, rfl, A.hd, ok4, fun b_y m5 K2 c3 e3 ok5 hby => ?_⟩
  replace A := A.chg c3 e3
  clear c2 c3 e2 e3
  refine ⟨(by show 2 ≤ sizeLine; decide), fun tb ntb => ?_⟩
  refine gs3 ?_
  obtain ⟨Gtb, A, stb, gb⟩ := A.laid (o := pl bx b_y) ntb
  generalize upd K2 tb (pl bx b_y) = Htb at A ⊢
  replace ga := stb _ _ ga
  refine ⟨_, rfl, p, m5, rfl, A.hd, ok5, fun cx m6 K1 c2 e2 ok6 hcx => ?_⟩
  replace A := A.chg c2 e2
  refine ⟨_, rfl, p, m6, rfl, A.hd, ok6, fun cy m7 K2 c3 e3 ok7 hcy => ?_⟩
  replace A := A.chg c3 e3
  clear c2 c3 e2 e3
  refine ⟨(by show 2 ≤ sizeLine; decide), fun tc ntc => ?_⟩
  refine gs4 ?_
  obtain ⟨Gtc, A, stc, gc⟩ := A.laid (o := pl cx cy) ntc
  generalize upd K2 tc (pl cx cy) = Htc at A ⊢
  replace ga := stc _ _ ga
  replace gb := stc _ _ gb
  have bax := up200 hax
  have bay := up200 hay
  have bbx := up200 hbx
  have bby := up200 hby
  refine ⟨_, rfl, p, m7, 4, rfl, A.hd, ok7, by decide, fun H8 c8 e8 => ?_⟩
  refine gs5 ?_
  replace A := A.chg c8 e8
  clear c8 e8
  have ok8 := ok7.tail
  generalize hkd : tkv m7 4 = kd
  refine ⟨_, rfl, _, _, rfl, rfl, _, rfl, ite2 (fun h1 => ?_) (fun h1 => ?_)⟩
  · refine ⟨_, rfl, p, _, 7, rfl, A.hd, ok8, by decide, fun H9 c9 e9 => ⟨_, _, rfl, rfl, ?_⟩⟩
    refine gs6 ?_
    try dsimp only
    replace A := A.chg c9 e9
    have ok9 := ok8.tail
    clear c9 e9
    have r7 := tkv_rng (ms := m7.tail) (show (0 : Int) < 7 by decide)
    generalize hkk : tkv m7.tail 7 - 3 = kk
    have k0 : -3 ≤ kk := by omega
    have k1 : kk ≤ 3 := by omega
    refine ⟨_, rfl, _, _, _, _, rfl, rfl, SqT.of (A.sub _ _ ga), rfl, _, rfl, _, rfl, _, _, _, _, rfl, rfl, SqT.of (A.sub _ _ gb), rfl, _, rfl, _, _, _, _, rfl, rfl, SqT.of (A.sub _ _ ga), rfl, _, _, rfl, rfl, _, _, rfl, rfl, mulK hax hbx k0 k1, _, _, rfl, rfl, ?_⟩
    refine ⟨_, rfl, _, _, _, _, rfl, rfl, SqT.of (A.sub _ _ ga), rfl, _, rfl, _, rfl, _, _, _, _, rfl, rfl, SqT.of (A.sub _ _ gb), rfl, _, rfl, _, _, _, _, rfl, rfl, SqT.of (A.sub _ _ ga), rfl, _, _, rfl, rfl, _, _, rfl, rfl, mulK hay hby k0 k1, _, _, rfl, rfl, (by show 2 ≤ sizeLine; decide), fun td ntd => ?_⟩
    refine gs4 ?_
    try dsimp only
    have wx := way hax hbx k0 k1
    have wy := way hay hby k0 k1
    generalize hvx : ax + kk * (bx - ax) = vx
    generalize hvy : ay + kk * (b_y - ay) = vy
    rw [hvx] at wx
    rw [hvy] at wy
    obtain ⟨Gtd, A, std, gd⟩ := A.laid (o := pl vx vy) ntd
    generalize upd H9 td (pl vx vy) = H10 at A ⊢
    replace ga := std _ _ ga
    replace gb := std _ _ gb
    replace gc := gd
    refine ⟨_, rfl, rfl, _, rfl, ite2 (fun h3 => ?_) (fun h3 => ?_)⟩
    · refine ⟨_, rfl, _, _, _, _, rfl, rfl, SqT.of (A.sub _ _ gc), rfl, _, rfl, p, _, 3, rfl, A.hd, ok9, by decide, fun H11 c11 e11 => ⟨_, _, rfl, rfl, _, _, rfl, rfl, ?_⟩⟩
      replace A := A.chg c11 e11
      have ok11 := ok9.tail
      clear c11 e11
      refine ⟨_, rfl, _, _, _, _, rfl, rfl, SqT.of (A.sub _ _ gc), rfl, _, rfl, p, _, 3, rfl, A.hd, ok11, by decide, fun H12 c12 e12 => ⟨_, _, rfl, rfl, _, _, rfl, rfl, (by show 2 ≤ sizeLine; decide), fun te nte => ?_⟩⟩
      replace A := A.chg c12 e12
      clear c12 e12
      have q1 := tkv_rng (ms := m7.tail.tail) (show (0 : Int) < 3 by decide)
      have q2 := tkv_rng (ms := m7.tail.tail.tail) (show (0 : Int) < 3 by decide)
      have zx := beside wx q1.1 q1.2
      have zy := beside wy q2.1 q2.2
      refine gs4 ?_
      try dsimp only
      generalize vx + tkv m7.tail.tail 3 - 1 = ux at *
      generalize vy + tkv m7.tail.tail.tail 3 - 1 = uy at *
      obtain ⟨Gte, A, ste, ge⟩ := A.laid (o := pl ux uy) nte
      generalize upd H12 te (pl ux uy) = H13 at A ⊢
      replace ga := ste _ _ ga
      replace gb := ste _ _ gb
      replace gc := ge
      have bcx' := zx
      have bcy' := zy
      -- _law_side
      refine ⟨_, rfl, _, _, _, _, rfl, rfl, SqT.of (A.sub _ _ gb), rfl, _, rfl, _, _, _, _, rfl, rfl, SqT.of (A.sub _ _ ga), rfl, _, _, rfl, rfl, _, rfl, _, _, _, _, rfl, rfl, SqT.of (A.sub _ _ gc), rfl, _, rfl, _, _, _, _, rfl, rfl, SqT.of (A.sub _ _ ga), rfl, _, _, rfl, rfl, _, _, rfl, rfl, mulD bbx bax bcy' bay, ?_⟩
      refine gs7 ?_
      refine ⟨_, rfl, _, rfl, _, _, _, _, rfl, rfl, SqT.of (A.sub _ _ gb), rfl, _, rfl, _, _, _, _, rfl, rfl, SqT.of (A.sub _ _ ga), rfl, _, _, rfl, rfl, _, rfl, _, _, _, _, rfl, rfl, SqT.of (A.sub _ _ gc), rfl, _, rfl, _, _, _, _, rfl, rfl, SqT.of (A.sub _ _ ga), rfl, _, _, rfl, rfl, _, _, rfl, rfl, mulD bby bay bcx' bax, _, _, rfl, rfl, ?_⟩
      refine gs7 ?_
      refine asgC (gs8 ?_)
      try dsimp only
      generalize hsd : (bx - ax) * (uy - ay) - (b_y - ay) * (ux - ax) = sd
      refine ifsetS (v := .int 1) (u := .int 0) (decide (0 < sd)) (fun Q q => ⟨_, rfl, _, _, rfl, rfl, _, rfl, q⟩) (fun Q q => q) rfl ?_
      refine gs8 ?_
      refine ifsetS (v := .int (-1)) (u := if decide (0 < sd) = true then .int 1 else .int 0) (decide (sd < 0)) (fun Q q => ⟨_, rfl, _, _, rfl, rfl, _, rfl, q⟩) (fun Q q => ⟨1, rfl, q⟩) rfl ?_
      rw [due_eq]
      refine gs8 ?_
      -- _law_good
      refine ⟨_, rfl, _, rfl, _, rfl, _, rfl, ta, tb, te, ax, ay, bx, b_y, ux, uy, tv sd, rfl, A.sub _ _ ga, A.sub _ _ gb, A.sub _ _ gc, mulD bbx bax bcy' bby, mulD bby bay bcx' bbx, congrArg tv (by rw [← hsd]; exact cr1 _ _ _ _ _ _), ?_⟩
      refine ⟨_, rfl, _, rfl, _, rfl, _, rfl, tv sd, rfl, tb, ta, te, bx, b_y, ax, ay, ux, uy, -(tv sd), rfl, A.sub _ _ gb, A.sub _ _ ga, A.sub _ _ gc, mulD bax bbx bcy' bay, mulD bay bby bcx' bax, (congrArg tv (by rw [← hsd]; exact cr2 _ _ _ _ _ _)).trans (tv_neg sd), ?_⟩
      refine ⟨(by show 2 ≤ sizeLine; decide), fun l nl => ?_⟩
      refine gs9 ?_
      replace A := A.new (o := .lst [.bl true, .bl true]) nl
      generalize upd _ l (.lst [.bl true, .bl true]) = H10 at A ⊢
      refine ⟨_, rfl, .inl ⟨rfl, _, SqL.of A.hd⟩, _, rfl, _, rfl, _, rfl, _, rfl, tb, te, ta, bx, b_y, ux, uy, ax, ay, tv sd, rfl, A.sub _ _ gb, A.sub _ _ gc, A.sub _ _ ga, mulD bcx' bbx bay bcy', mulD bcy' bby bax bcx', congrArg tv (by rw [← hsd]; exact cr3 _ _ _ _ _ _), l, _, _, rfl, rfl, A.hd, (by show 2 < sizeLine; decide), ?_⟩
      replace A := A.put (u := .lst [.bl true, .bl true, .bl true])
      generalize hX : upd H10 l (.lst ([V.bl true, V.bl true] ++ [V.bl true])) = H11
      replace A : At _ _ H11 := hX ▸ A
      clear hX
      refine ⟨_, rfl, .inl ⟨rfl, _, SqL.of A.hd⟩, _, rfl, _, rfl, _, rfl, ta, ta, te, ax, ay, ax, ay, ux, uy, 0, rfl, A.sub _ _ ga, A.sub _ _ ga, A.sub _ _ gc, mulD bax bax bcy' bay, mulD bay bay bcx' bax, congrArg tv (a₂ := 0) (cr4 _ _ _ _), true, rfl, iteT ?_⟩
      refine ⟨_, rfl, _, rfl, _, rfl, ta, te, ta, ax, ay, ux, uy, ax, ay, 0, rfl, A.sub _ _ ga, A.sub _ _ gc, A.sub _ _ ga, mulD bcx' bax bay bcy', mulD bcy' bay bax bcx', congrArg tv (a₂ := 0) (cr5 _ _ _ _), l, _, _, rfl, rfl, A.hd, (by show 3 < sizeLine; decide), ?_⟩
      replace A := A.put (u := .lst [.bl true, .bl true, .bl true, .bl true])
      generalize hX : upd H11 l (.lst ([V.bl true, V.bl true, V.bl true] ++ [V.bl true])) = H12
      replace A : At _ _ H12 := hX ▸ A
      clear hX
      refine ⟨_, rfl, .inl ⟨rfl, _, SqL.of A.hd⟩, _, rfl, _, rfl, _, rfl, ta, te, te, ax, ay, ux, uy, ux, uy, 0, rfl, A.sub _ _ ga, A.sub _ _ gc, A.sub _ _ gc, mulD bcx' bax bcy' bcy', mulD bcy' bay bcx' bcx', congrArg tv (a₂ := 0) (cr6 _ _ _ _), l, _, _, rfl, rfl, A.hd, (by show 4 < sizeLine; decide), ?_⟩
      refine ⟨_, rfl, l, _, rfl, .inl (SqL.of upd_same), rfl, rfl, ?_⟩
      exact k _
    · show _
      have bcx' := (up196 wx)
      have bcy' := (up196 wy)
      -- _law_side
      refine ⟨_, rfl, _, _, _, _, rfl, rfl, SqT.of (A.sub _ _ gb), rfl, _, rfl, _, _, _, _, rfl, rfl, SqT.of (A.sub _ _ ga), rfl, _, _, rfl, rfl, _, rfl, _, _, _, _, rfl, rfl, SqT.of (A.sub _ _ gc), rfl, _, rfl, _, _, _, _, rfl, rfl, SqT.of (A.sub _ _ ga), rfl, _, _, rfl, rfl, _, _, rfl, rfl, mulD bbx bax bcy' bay, ?_⟩
      refine gs7 ?_
      refine ⟨_, rfl, _, rfl, _, _, _, _, rfl, rfl, SqT.of (A.sub _ _ gb), rfl, _, rfl, _, _, _, _, rfl, rfl, SqT.of (A.sub _ _ ga), rfl, _, _, rfl, rfl, _, rfl, _, _, _, _, rfl, rfl, SqT.of (A.sub _ _ gc), rfl, _, rfl, _, _, _, _, rfl, rfl, SqT.of (A.sub _ _ ga), rfl, _, _, rfl, rfl, _, _, rfl, rfl, mulD bby bay bcx' bax, _, _, rfl, rfl, ?_⟩
      refine gs7 ?_
      refine asgC (gs8 ?_)
      try dsimp only
      generalize hsd : (bx - ax) * (vy - ay) - (b_y - ay) * (vx - ax) = sd
      refine ifsetS (v := .int 1) (u := .int 0) (decide (0 < sd)) (fun Q q => ⟨_, rfl, _, _, rfl, rfl, _, rfl, q⟩) (fun Q q => q) rfl ?_
      refine gs8 ?_
      refine ifsetS (v := .int (-1)) (u := if decide (0 < sd) = true then .int 1 else .int 0) (decide (sd < 0)) (fun Q q => ⟨_, rfl, _, _, rfl, rfl, _, rfl, q⟩) (fun Q q => ⟨1, rfl, q⟩) rfl ?_
      rw [due_eq]
      refine gs8 ?_
      -- _law_good
      refine ⟨_, rfl, _, rfl, _, rfl, _, rfl, ta, tb, td, ax, ay, bx, b_y, vx, vy, tv sd, rfl, A.sub _ _ ga, A.sub _ _ gb, A.sub _ _ gc, mulD bbx bax bcy' bby, mulD bby bay bcx' bbx, congrArg tv (by rw [← hsd]; exact cr1 _ _ _ _ _ _), ?_⟩
      refine ⟨_, rfl, _, rfl, _, rfl, _, rfl, tv sd, rfl, tb, ta, td, bx, b_y, ax, ay, vx, vy, -(tv sd), rfl, A.sub _ _ gb, A.sub _ _ ga, A.sub _ _ gc, mulD bax bbx bcy' bay, mulD bay bby bcx' bax, (congrArg tv (by rw [← hsd]; exact cr2 _ _ _ _ _ _)).trans (tv_neg sd), ?_⟩
      refine ⟨(by show 2 ≤ sizeLine; decide), fun l nl => ?_⟩
      refine gs9 ?_
      replace A := A.new (o := .lst [.bl true, .bl true]) nl
      generalize upd _ l (.lst [.bl true, .bl true]) = H10 at A ⊢
      refine ⟨_, rfl, .inl ⟨rfl, _, SqL.of A.hd⟩, _, rfl, _, rfl, _, rfl, _, rfl, tb, td, ta, bx, b_y, vx, vy, ax, ay, tv sd, rfl, A.sub _ _ gb, A.sub _ _ gc, A.sub _ _ ga, mulD bcx' bbx bay bcy', mulD bcy' bby bax bcx', congrArg tv (by rw [← hsd]; exact cr3 _ _ _ _ _ _), l, _, _, rfl, rfl, A.hd, (by show 2 < sizeLine; decide), ?_⟩
      replace A := A.put (u := .lst [.bl true, .bl true, .bl true])
      generalize hX : upd H10 l (.lst ([V.bl true, V.bl true] ++ [V.bl true])) = H11
      replace A : At _ _ H11 := hX ▸ A
      clear hX
      refine ⟨_, rfl, .inl ⟨rfl, _, SqL.of A.hd⟩, _, rfl, _, rfl, _, rfl, ta, ta, td, ax, ay, ax, ay, vx, vy, 0, rfl, A.sub _ _ ga, A.sub _ _ ga, A.sub _ _ gc, mulD bax bax bcy' bay, mulD bay bay bcx' bax, congrArg tv (a₂ := 0) (cr4 _ _ _ _), true, rfl, iteT ?_⟩
      refine ⟨_, rfl, _, rfl, _, rfl, ta, td, ta, ax, ay, vx, vy, ax, ay, 0, rfl, A.sub _ _ ga, A.sub _ _ gc, A.sub _ _ ga, mulD bcx' bax bay bcy', mulD bcy' bay bax bcx', congrArg tv (a₂ := 0) (cr5 _ _ _ _), l, _, _, rfl, rfl, A.hd, (by show 3 < sizeLine; decide), ?_⟩
      replace A := A.put (u := .lst [.bl true, .bl true, .bl true, .bl true])
      generalize hX : upd H11 l (.lst ([V.bl true, V.bl true, V.bl true] ++ [V.bl true])) = H12
      replace A : At _ _ H12 := hX ▸ A
      clear hX
      refine ⟨_, rfl, .inl ⟨rfl, _, SqL.of A.hd⟩, _, rfl, _, rfl, _, rfl, ta, td, td, ax, ay, vx, vy, vx, vy, 0, rfl, A.sub _ _ ga, A.sub _ _ gc, A.sub _ _ gc, mulD bcx' bax bcy' bcy', mulD bcy' bay bcx' bcx', congrArg tv (a₂ := 0) (cr6 _ _ _ _), l, _, _, rfl, rfl, A.hd, (by show 4 < sizeLine; decide), ?_⟩
      refine ⟨_, rfl, l, _, rfl, .inl (SqL.of upd_same), rfl, rfl, ?_⟩
      exact k _
  · refine ⟨_, rfl, rfl, _, rfl, ite2 (fun h3 => ?_) (fun h3 => ?_)⟩
    · exfalso
      have e3 : kd = 3 := by
        have := of_decide_eq_true h3
        injection this
      exact h1 (decide_eq_true (by omega))
    · show _
      have bcx' := (up200 hcx)
      have bcy' := (up200 hcy)
      -- _law_side
      refine ⟨_, rfl, _, _, _, _, rfl, rfl, SqT.of (A.sub _ _ gb), rfl, _, rfl, _, _, _, _, rfl, rfl, SqT.of (A.sub _ _ ga), rfl, _, _, rfl, rfl, _, rfl, _, _, _, _, rfl, rfl, SqT.of (A.sub _ _ gc), rfl, _, rfl, _, _, _, _, rfl, rfl, SqT.of (A.sub _ _ ga), rfl, _, _, rfl, rfl, _, _, rfl, rfl, mulD bbx bax bcy' bay, ?_⟩
      refine gs7 ?_
      refine ⟨_, rfl, _, rfl, _, _, _, _, rfl, rfl, SqT.of (A.sub _ _ gb), rfl, _, rfl, _, _, _, _, rfl, rfl, SqT.of (A.sub _ _ ga), rfl, _, _, rfl, rfl, _, rfl, _, _, _, _, rfl, rfl, SqT.of (A.sub _ _ gc), rfl, _, rfl, _, _, _, _, rfl, rfl, SqT.of (A.sub _ _ ga), rfl, _, _, rfl, rfl, _, _, rfl, rfl, mulD bby bay bcx' bax, _, _, rfl, rfl, ?_⟩
      refine gs7 ?_
      refine asgC (gs8 ?_)
      try dsimp only
      generalize hsd : (bx - ax) * (cy - ay) - (b_y - ay) * (cx - ax) = sd
      refine ifsetS (v := .int 1) (u := .int 0) (decide (0 < sd)) (fun Q q => ⟨_, rfl, _, _, rfl, rfl, _, rfl, q⟩) (fun Q q => q) rfl ?_
      refine gs8 ?_
      refine ifsetS (v := .int (-1)) (u := if decide (0 < sd) = true then .int 1 else .int 0) (decide (sd < 0)) (fun Q q => ⟨_, rfl, _, _, rfl, rfl, _, rfl, q⟩) (fun Q q => ⟨1, rfl, q⟩) rfl ?_
      rw [due_eq]
      refine gs8 ?_
      -- _law_good
      refine ⟨_, rfl, _, rfl, _, rfl, _, rfl, ta, tb, tc, ax, ay, bx, b_y, cx, cy, tv sd, rfl, A.sub _ _ ga, A.sub _ _ gb, A.sub _ _ gc, mulD bbx bax bcy' bby, mulD bby bay bcx' bbx, congrArg tv (by rw [← hsd]; exact cr1 _ _ _ _ _ _), ?_⟩
      refine ⟨_, rfl, _, rfl, _, rfl, _, rfl, tv sd, rfl, tb, ta, tc, bx, b_y, ax, ay, cx, cy, -(tv sd), rfl, A.sub _ _ gb, A.sub _ _ ga, A.sub _ _ gc, mulD bax bbx bcy' bay, mulD bay bby bcx' bax, (congrArg tv (by rw [← hsd]; exact cr2 _ _ _ _ _ _)).trans (tv_neg sd), ?_⟩
      refine ⟨(by show 2 ≤ sizeLine; decide), fun l nl => ?_⟩
      refine gs9 ?_
      replace A := A.new (o := .lst [.bl true, .bl true]) nl
      generalize upd _ l (.lst [.bl true, .bl true]) = H10 at A ⊢
      refine ⟨_, rfl, .inl ⟨rfl, _, SqL.of A.hd⟩, _, rfl, _, rfl, _, rfl, _, rfl, tb, tc, ta, bx, b_y, cx, cy, ax, ay, tv sd, rfl, A.sub _ _ gb, A.sub _ _ gc, A.sub _ _ ga, mulD bcx' bbx bay bcy', mulD bcy' bby bax bcx', congrArg tv (by rw [← hsd]; exact cr3 _ _ _ _ _ _), l, _, _, rfl, rfl, A.hd, (by show 2 < sizeLine; decide), ?_⟩
      replace A := A.put (u := .lst [.bl true, .bl true, .bl true])
      generalize hX : upd H10 l (.lst ([V.bl true, V.bl true] ++ [V.bl true])) = H11
      replace A : At _ _ H11 := hX ▸ A
      clear hX
      refine ⟨_, rfl, .inl ⟨rfl, _, SqL.of A.hd⟩, _, rfl, _, rfl, _, rfl, ta, ta, tc, ax, ay, ax, ay, cx, cy, 0, rfl, A.sub _ _ ga, A.sub _ _ ga, A.sub _ _ gc, mulD bax bax bcy' bay, mulD bay bay bcx' bax, congrArg tv (a₂ := 0) (cr4 _ _ _ _), true, rfl, iteT ?_⟩
      refine ⟨_, rfl, _, rfl, _, rfl, ta, tc, ta, ax, ay, cx, cy, ax, ay, 0, rfl, A.sub _ _ ga, A.sub _ _ gc, A.sub _ _ ga, mulD bcx' bax bay bcy', mulD bcy' bay bax bcx', congrArg tv (a₂ := 0) (cr5 _ _ _ _), l, _, _, rfl, rfl, A.hd, (by show 3 < sizeLine; decide), ?_⟩
      replace A := A.put (u := .lst [.bl true, .bl true, .bl true, .bl true])
      generalize hX : upd H11 l (.lst ([V.bl true, V.bl true, V.bl true] ++ [V.bl true])) = H12
      replace A : At _ _ H12 := hX ▸ A
      clear hX
      refine ⟨_, rfl, .inl ⟨rfl, _, SqL.of A.hd⟩, _, rfl, _, rfl, _, rfl, ta, tc, tc, ax, ay, cx, cy, cx, cy, 0, rfl, A.sub _ _ ga, A.sub _ _ gc, A.sub _ _ gc, mulD bcx' bax bcy' bcy', mulD bcy' bay bcx' bcx', congrArg tv (a₂ := 0) (cr6 _ _ _ _), l, _, _, rfl, rfl, A.hd, (by show 4 < sizeLine; decide), ?_⟩
      refine ⟨_, rfl, l, _, rfl, .inl (SqL.of upd_same), rfl, rfl, ?_⟩
      exact k _
end
theorem all_mk {l : PySem.W.OpenLaw} {w : World} {K : PySem.W.Frag} {h : Heap} {mg : Str → Option Value} {fa : Addr} (X : K.In h) (G : h.Ns mainGlobals mg) (hfa : mg "law" = some (.ref fa))
    {f_Arrow_turn f_law_pool f_law_take f_law_whole f_law_number f_law_turns f_law c_Arrow : Addr}
    {od_Arrow_turn an_Arrow_turn : Option Addr} {sl_Arrow_turn : Array (Option Value)} {oc_Arrow_turn kV_Arrow_turn dc_Arrow_turn pm_Arrow_turn cd_Arrow_turn ct_Arrow_turn : Value}
    {od_law_pool an_law_pool : Option Addr} {sl_law_pool : Array (Option Value)} {oc_law_pool kV_law_pool dc_law_pool pm_law_pool cd_law_pool ct_law_pool : Value}
    {od_law_take an_law_take : Option Addr} {sl_law_take : Array (Option Value)} {oc_law_take kV_law_take dc_law_take pm_law_take cd_law_take ct_law_take : Value}
    {od_law_whole an_law_whole : Option Addr} {sl_law_whole : Array (Option Value)} {oc_law_whole kV_law_whole dc_law_whole pm_law_whole cd_law_whole ct_law_whole : Value}
    {od_law_number an_law_number : Option Addr} {sl_law_number : Array (Option Value)} {oc_law_number kV_law_number dc_law_number pm_law_number cd_law_number ct_law_number : Value}
    {od_law_turns an_law_turns : Option Addr} {sl_law_turns : Array (Option Value)} {oc_law_turns kV_law_turns dc_law_turns pm_law_turns cd_law_turns ct_law_turns : Value}
    {od_law an_law : Option Addr} {sl_law : Array (Option Value)} {oc_law kV_law dc_law pm_law cd_law ct_law : Value}
    (aC_Arrow : PySem.W.nsIn K mainGlobals "Arrow" = some (some (.ref c_Arrow)))
    {p_Arrow_turn : Addr} {re_Arrow_turn : List Value}
    (a_Arrow_turn : PySem.W.findCls K (.ref c_Arrow) (.type "type") "turn" = some (.get (.builtin "staticmethod.__get__") (.ref p_Arrow_turn) .none (.ref c_Arrow)))
    (i_Arrow_turn : PySem.W.recIn K p_Arrow_turn "staticmethod" = some (.ref f_Arrow_turn :: re_Arrow_turn))
    (l_Arrow_turn : K.lookup f_Arrow_turn = some ⟨oc_Arrow_turn, od_Arrow_turn, .func (PySem.W.fnOf "turn" "Arrow.turn" (defArgs s_Arrow_turn) (defBody s_Arrow_turn) (defScope s_Arrow_turn) .none kV_Arrow_turn dc_Arrow_turn pm_Arrow_turn an_Arrow_turn cd_Arrow_turn ct_Arrow_turn), sl_Arrow_turn⟩)
    (co_Arrow_turn : PySem.W.codeIn K cd_Arrow_turn "Arrow.turn" = true)
    (k_Arrow_turn : PySem.W.keepIn K (.ref f_Arrow_turn) = true)
    (a_law_pool : PySem.W.nsIn K mainGlobals "_law_pool" = some (some (.ref f_law_pool)))
    (l_law_pool : K.lookup f_law_pool = some ⟨oc_law_pool, od_law_pool, .func (PySem.W.fnOf "_law_pool" "_law_pool" (defArgs s_law_pool) (defBody s_law_pool) (defScope s_law_pool) .none kV_law_pool dc_law_pool pm_law_pool an_law_pool cd_law_pool ct_law_pool), sl_law_pool⟩)
    (co_law_pool : PySem.W.codeIn K cd_law_pool "_law_pool" = true)
    (k_law_pool : PySem.W.keepIn K (.ref f_law_pool) = true)
    (a_law_take : PySem.W.nsIn K mainGlobals "_law_take" = some (some (.ref f_law_take)))
    (l_law_take : K.lookup f_law_take = some ⟨oc_law_take, od_law_take, .func (PySem.W.fnOf "_law_take" "_law_take" (defArgs s_law_take) (defBody s_law_take) (defScope s_law_take) .none kV_law_take dc_law_take pm_law_take an_law_take cd_law_take ct_law_take), sl_law_take⟩)
    (co_law_take : PySem.W.codeIn K cd_law_take "_law_take" = true)
    (k_law_take : PySem.W.keepIn K (.ref f_law_take) = true)
    (a_law_whole : PySem.W.nsIn K mainGlobals "_law_whole" = some (some (.ref f_law_whole)))
    (l_law_whole : K.lookup f_law_whole = some ⟨oc_law_whole, od_law_whole, .func (PySem.W.fnOf "_law_whole" "_law_whole" (defArgs s_law_whole) (defBody s_law_whole) (defScope s_law_whole) .none kV_law_whole dc_law_whole pm_law_whole an_law_whole cd_law_whole ct_law_whole), sl_law_whole⟩)
    (co_law_whole : PySem.W.codeIn K cd_law_whole "_law_whole" = true)
    (k_law_whole : PySem.W.keepIn K (.ref f_law_whole) = true)
    (a_law_number : PySem.W.nsIn K mainGlobals "_law_number" = some (some (.ref f_law_number)))
    (l_law_number : K.lookup f_law_number = some ⟨oc_law_number, od_law_number, .func (PySem.W.fnOf "_law_number" "_law_number" (defArgs s_law_number) (defBody s_law_number) (defScope s_law_number) .none kV_law_number dc_law_number pm_law_number an_law_number cd_law_number ct_law_number), sl_law_number⟩)
    (co_law_number : PySem.W.codeIn K cd_law_number "_law_number" = true)
    (k_law_number : PySem.W.keepIn K (.ref f_law_number) = true)
    (a_law_turns : PySem.W.nsIn K mainGlobals "_law_turns" = some (some (.ref f_law_turns)))
    (l_law_turns : K.lookup f_law_turns = some ⟨oc_law_turns, od_law_turns, .func (PySem.W.fnOf "_law_turns" "_law_turns" (defArgs s_law_turns) (defBody s_law_turns) (defScope s_law_turns) .none kV_law_turns dc_law_turns pm_law_turns an_law_turns cd_law_turns ct_law_turns), sl_law_turns⟩)
    (co_law_turns : PySem.W.codeIn K cd_law_turns "_law_turns" = true)
    (k_law_turns : PySem.W.keepIn K (.ref f_law_turns) = true)
    (a_law : PySem.W.nsIn K mainGlobals "law" = some (some (.ref f_law)))
    (l_law : K.lookup f_law = some ⟨oc_law, od_law, .func (PySem.W.fnOf "law" "law" (defArgs s_law) (defBody s_law) (defScope s_law) .none kV_law dc_law pm_law an_law cd_law ct_law), sl_law⟩)
    (co_law : PySem.W.codeIn K cd_law "law" = true)
    (k_law : PySem.W.keepIn K (.ref f_law) = true)
    (pg_Arrow : PySem.W.plainGet K c_Arrow Str.empty = true)
    (hd_Arrow : PySem.W.hasDictIn K c_Arrow = true)
    (po_Arrow : PySem.W.plainOver K c_Arrow = true)
    (sa_Arrow : PySem.W.findIn K (.ref c_Arrow) "__setattr__" = some (some (.builtin "object.__setattr__")))
    (rd_Arrow : PySem.W.readsIn K c_Arrow (.type "type") = true)
    (ga_Arrow : PySem.W.specialIn K (.ref c_Arrow) "__getattribute__" = some (some (.builtin "type.__getattribute__")))
    (ms_Arrow : PySem.W.makesIn K c_Arrow = true)
    (kc_Arrow : PySem.W.keepIn K (.ref c_Arrow) = true)
    (sf_Arrow : PySem.W.selfFirst K c_Arrow = true)
    (nf_Arrow : PySem.W.notFirst K c_Arrow (.ref c_Arrow) = true)
    (nfi_Arrow : PySem.W.notFirst K c_Arrow (.type "int") = true)
    (ia_Arrow : PySem.W.findIn K (.ref c_Arrow) "__class__" = some (some (.builtin "object.__class__")))
    (im_Arrow : PySem.W.mroIn K c_Arrow (.type "object") = some true)
    (ign : PySem.W.specialIn K (.builtin "object.__class__") "__get__" = some (some (.builtin "getset_descriptor.__get__")))
    (igt : PySem.W.takesIn K (.builtin "object.__class__") = some true)
    (z_staticmethod : PySem.W.nsIn K mainGlobals "staticmethod" = some none)
    (z_abs : PySem.W.nsIn K mainGlobals "abs" = some none)
    (z_range : PySem.W.nsIn K mainGlobals "range" = some none)
    (z_int : PySem.W.nsIn K mainGlobals "int" = some none)
    (z_isinstance : PySem.W.nsIn K mainGlobals "isinstance" = some none)
    (z_bool : PySem.W.nsIn K mainGlobals "bool" = some none)
    : ∃ fd : FuncData, (∀ (s : Shared) (v : Value), BindsTo s fd ⟨[v], []⟩ [("_law_script", v)]) ∧ ∀ base : Heap, K.In base → base.Ns mainGlobals mg → FnOk l.prog w K mg base CX0 3 fa fd ["_law_script"] (sp_law K) := by
  have e := hfa.symm.trans (PySem.W.mg_of X G a_law)
  cases e
  have F_Arrow_turn := fun_mk (st := s_Arrow_turn) l_Arrow_turn co_Arrow_turn k_Arrow_turn
  have B_Arrow_turn := F_Arrow_turn.binds (ps := ["a", "b", "c"]) fun _ _ _ _ _ _ us hl => match us, hl with | [_, _, _], _ => rfl
  have F_law_pool := fun_mk (st := s_law_pool) l_law_pool co_law_pool k_law_pool
  have B_law_pool := F_law_pool.binds (ps := ["_law_script"]) fun _ _ _ _ _ _ us hl => match us, hl with | [_], _ => rfl
  have F_law_take := fun_mk (st := s_law_take) l_law_take co_law_take k_law_take
  have B_law_take := F_law_take.binds (ps := ["_law_pool_here", "_law_many"]) fun _ _ _ _ _ _ us hl => match us, hl with | [_, _], _ => rfl
  have F_law_whole := fun_mk (st := s_law_whole) l_law_whole co_law_whole k_law_whole
  have B_law_whole := F_law_whole.binds (ps := ["_law_x"]) fun _ _ _ _ _ _ us hl => match us, hl with | [_], _ => rfl
  have F_law_number := fun_mk (st := s_law_number) l_law_number co_law_number k_law_number
  have B_law_number := F_law_number.binds (ps := ["_law_pool_here"]) fun _ _ _ _ _ _ us hl => match us, hl with | [_], _ => rfl
  have F_law_turns := fun_mk (st := s_law_turns) l_law_turns co_law_turns k_law_turns
  have B_law_turns := F_law_turns.binds (ps := ["_law_a", "_law_b", "_law_c", "_law_due"]) fun _ _ _ _ _ _ us hl => match us, hl with | [_, _, _, _], _ => rfl
  have F_law := fun_mk (st := s_law) l_law co_law k_law
  have B_law := F_law.binds (ps := ["_law_script"]) fun _ _ _ _ _ _ us hl => match us, hl with | [_], _ => rfl
  let ad : Ad := { f_Arrow_turn := f_Arrow_turn, d_Arrow_turn := PySem.W.fnOf "turn" "Arrow.turn" (defArgs s_Arrow_turn) (defBody s_Arrow_turn) (defScope s_Arrow_turn) .none kV_Arrow_turn dc_Arrow_turn pm_Arrow_turn an_Arrow_turn cd_Arrow_turn ct_Arrow_turn, f_law_pool := f_law_pool, d_law_pool := PySem.W.fnOf "_law_pool" "_law_pool" (defArgs s_law_pool) (defBody s_law_pool) (defScope s_law_pool) .none kV_law_pool dc_law_pool pm_law_pool an_law_pool cd_law_pool ct_law_pool, f_law_take := f_law_take, d_law_take := PySem.W.fnOf "_law_take" "_law_take" (defArgs s_law_take) (defBody s_law_take) (defScope s_law_take) .none kV_law_take dc_law_take pm_law_take an_law_take cd_law_take ct_law_take, f_law_whole := f_law_whole, d_law_whole := PySem.W.fnOf "_law_whole" "_law_whole" (defArgs s_law_whole) (defBody s_law_whole) (defScope s_law_whole) .none kV_law_whole dc_law_whole pm_law_whole an_law_whole cd_law_whole ct_law_whole, f_law_number := f_law_number, d_law_number := PySem.W.fnOf "_law_number" "_law_number" (defArgs s_law_number) (defBody s_law_number) (defScope s_law_number) .none kV_law_number dc_law_number pm_law_number an_law_number cd_law_number ct_law_number, f_law_turns := f_law_turns, d_law_turns := PySem.W.fnOf "_law_turns" "_law_turns" (defArgs s_law_turns) (defBody s_law_turns) (defScope s_law_turns) .none kV_law_turns dc_law_turns pm_law_turns an_law_turns cd_law_turns ct_law_turns, f_law := fa, d_law := PySem.W.fnOf "law" "law" (defArgs s_law) (defBody s_law) (defScope s_law) .none kV_law dc_law pm_law an_law cd_law ct_law, c_Arrow := c_Arrow }
  have T : Txt K mg ad := { F_Arrow_turn := F_Arrow_turn, B_Arrow_turn := B_Arrow_turn, cs_Arrow_turn := ⟨rd_Arrow, ga_Arrow, ⟨_, a_Arrow_turn, _, i_Arrow_turn⟩, k_Arrow_turn⟩, F_law_pool := F_law_pool, B_law_pool := B_law_pool, g_law_pool := PySem.W.mg_of X G a_law_pool, F_law_take := F_law_take, B_law_take := B_law_take, g_law_take := PySem.W.mg_of X G a_law_take, F_law_whole := F_law_whole, B_law_whole := B_law_whole, g_law_whole := PySem.W.mg_of X G a_law_whole, F_law_number := F_law_number, B_law_number := B_law_number, g_law_number := PySem.W.mg_of X G a_law_number, F_law_turns := F_law_turns, B_law_turns := B_law_turns, g_law_turns := PySem.W.mg_of X G a_law_turns, F_law := F_law, B_law := B_law, g_law := PySem.W.mg_of X G a_law, cl_Arrow := ⟨pg_Arrow, hd_Arrow, po_Arrow, sa_Arrow⟩, g_Arrow := PySem.W.mg_of X G aC_Arrow, sf_Arrow := sf_Arrow, nf_Arrow := nf_Arrow, nfi_Arrow := nfi_Arrow, ia_Arrow := ia_Arrow, im_Arrow := im_Arrow, ik_Arrow := kit_self, ign := ign, igt := igt, z_staticmethod := PySem.W.mg_none_of X G z_staticmethod, z_abs := PySem.W.mg_none_of X G z_abs, z_range := PySem.W.mg_none_of X G z_range, z_int := PySem.W.mg_none_of X G z_int, z_isinstance := PySem.W.mg_none_of X G z_isinstance, z_bool := PySem.W.mg_none_of X G z_bool }
  exact ⟨_, fun s v => .of_eq rfl, fun base _ _ => ok_law T⟩
end K05
open PySem PySem.W PyProof.Rows
set_option maxRecDepth 100000 in
set_option maxHeartbeats 0 in
theorem PySem.Challenge.cw_toldridges_k05_arrow_turn_holds : PySem.Challenge.rw_toldridges_k05_arrow_turn.Holds := by
  w_on; o_law; k_head; (case hw => w_witness2)
  k_fill
  refine L2.walk_of (l := PySem.Challenge.rw_toldridges_k05_arrow_turn) (n := 63) (k := 3) (x := "_law_script") (CX := fun _ => L2.CX0) (sp := fun w => K05.sp_law _) rfl (by decide) rfl ⟨rfl, by decide, by decide⟩ (fun w h Y => PySem.W.kIn_of Y) ?F (fun _ _ a ns hl _ hS => ⟨a, ns, rfl, hS, hl, fun _ => rfl⟩) (fun _ _ _ _ _ h => h)
  case F =>
    intro w mg fa h KX G hmg
    refine' K05.all_mk KX G hmg ?aC_Arrow ?a_Arrow_turn ?i_Arrow_turn ?l_Arrow_turn ?co_Arrow_turn ?k_Arrow_turn ?a_law_pool ?l_law_pool ?co_law_pool ?k_law_pool ?a_law_take ?l_law_take ?co_law_take ?k_law_take ?a_law_whole ?l_law_whole ?co_law_whole ?k_law_whole ?a_law_number ?l_law_number ?co_law_number ?k_law_number ?a_law_turns ?l_law_turns ?co_law_turns ?k_law_turns ?a_law ?l_law ?co_law ?k_law ?pg_Arrow ?hd_Arrow ?po_Arrow ?sa_Arrow ?rd_Arrow ?ga_Arrow ?ms_Arrow ?kc_Arrow ?sf_Arrow ?nf_Arrow ?nfi_Arrow ?ia_Arrow ?im_Arrow ?ign ?igt ?z_staticmethod ?z_abs ?z_range ?z_int ?z_isinstance ?z_bool
    (case aC_Arrow => k_is)
    (case a_Arrow_turn => k_is)
    (case i_Arrow_turn => k_is)
    (case l_Arrow_turn => k_is)
    (case co_Arrow_turn => k_is)
    (case k_Arrow_turn => k_is)
    (case a_law_pool => k_is)
    (case l_law_pool => k_is)
    (case co_law_pool => k_is)
    (case k_law_pool => k_is)
    (case a_law_take => k_is)
    (case l_law_take => k_is)
    (case co_law_take => k_is)
    (case k_law_take => k_is)
    (case a_law_whole => k_is)
    (case l_law_whole => k_is)
    (case co_law_whole => k_is)
    (case k_law_whole => k_is)
    (case a_law_number => k_is)
    (case l_law_number => k_is)
    (case co_law_number => k_is)
    (case k_law_number => k_is)
    (case a_law_turns => k_is)
    (case l_law_turns => k_is)
    (case co_law_turns => k_is)
    (case k_law_turns => k_is)
    (case a_law => k_is)
    (case l_law => k_is)
    (case co_law => k_is)
    (case k_law => k_is)
    (case pg_Arrow => k_is)
    (case hd_Arrow => k_is)
    (case po_Arrow => k_is)
    (case sa_Arrow => k_is)
    (case rd_Arrow => k_is)
    (case ga_Arrow => k_is)
    (case ms_Arrow => k_is)
    (case kc_Arrow => k_is)
    (case sf_Arrow => k_is)
    (case nf_Arrow => k_is)
    (case nfi_Arrow => k_is)
    (case ia_Arrow => k_is)
    (case im_Arrow => k_is)
    (case ign => k_is)
    (case igt => k_is)
    (case z_staticmethod => k_is)
    (case z_abs => k_is)
    (case z_range => k_is)
    (case z_int => k_is)
    (case z_isinstance => k_is)
    (case z_bool => k_is)
#print axioms PySem.Challenge.cw_toldridges_k05_arrow_turn_holds
