import PyProof.Rows.All
import Wide.All
import OpenK.AllK
import Wide.FinOn
import HandS.ForMost
import HandS.Steps
import HandS.IsInst
import HandS.Wide
import HandS.Flow
import HandS.ClsMeth
import HandS.TryOnly
import HandS.WordsExc
import HandS.ExcIs
import HandS.Defaults
import HandS.Gcd
import HandS.FStr
import KE.RegKIsAll
import PySem.Challenge.RW_toldridges_k03_ratio_order_and_floor
set_option Elab.async false
set_option linter.all false
set_option maxRecDepth 100000
set_option maxHeartbeats 4000000
/-! TrBase: the world G (what never changes), the owned objects M, the heap H; typed values. -/
namespace Tr
open PySem PySem.Spec PyProof.Rows L2

/-! ### worlds -/
def Sub (G H : Hp) : Prop := ∀ a o, G a = some o → H a = some o
theorem Sub.refl (H : Hp) : Sub H H := fun _ _ h => h
theorem Sub.trans {G H I : Hp} (a : Sub G H) (b : Sub H I) : Sub G I := fun x o h => b x o (a x o h)
theorem Sub.new {H : Hp} {p : Addr} {o : HO} (h : H p = none) : Sub H (upd H p o) := fun a u e => by
  rw [upd_ne (ne_of_none e h)]
  exact e
theorem Sub.seq {K : PySem.W.Frag} {G H : Hp} {a : Addr} {xs : List V} (e : Sub G H) (h : SqL K G a xs) : SqL K H a xs := by
  rcases h with (h | ⟨o, h⟩) | h
  · exact .inl (.inl (e _ _ h))
  · exact .inl (.inr ⟨o, e _ _ h⟩)
  · exact .inr h
abbrev Mu := List (Addr × HO)
/-- G never changes, M is owned, H is the heap -/
structure At (G : Hp) (M : Mu) (H : Hp) : Prop where
  sub : Sub G H
  own : ∀ q ∈ M, H q.1 = some q.2 ∧ G q.1 = none
  nd : (M.map (·.1)).Nodup
section
variable {G H : Hp} {M : Mu} {p q : Addr} {o u : HO}
theorem At.hd (A : At G ((p, o) :: M) H) : H p = some o := (A.own (p, o) (List.mem_cons_self)).1
theorem At.gn (A : At G ((p, o) :: M) H) : G p = none := (A.own (p, o) (List.mem_cons_self)).2
theorem At.tl (A : At G ((p, o) :: M) H) : At G M H := ⟨A.sub, fun q h => A.own q (List.mem_cons_of_mem _ h), (List.nodup_cons.mp A.nd).2⟩
theorem At.nm (A : At G ((p, o) :: M) H) : ∀ q ∈ M, q.1 ≠ p := fun q h e => (List.nodup_cons.mp A.nd).1 (by
  have h1 := List.mem_map_of_mem (f := fun q : Addr × HO => q.1) h
  rw [show q.1 = p from e] at h1
  exact h1)
theorem At.fresh (A : At G M H) (h : H p = none) : G p = none := by
  cases e : G p with
  | none => rfl
  | some x => rw [A.sub p x e] at h; cases h
theorem At.new (A : At G M H) (h : H p = none) : At G ((p, o) :: M) (upd H p o) := by
  refine ⟨A.sub.trans (Sub.new h), fun q hq => ?_, ?_⟩
  · rcases List.mem_cons.mp hq with rfl | hq
    · exact ⟨upd_same, A.fresh h⟩
    · obtain ⟨h1, h2⟩ := A.own q hq
      exact ⟨by rw [upd_ne (ne_of_none h1 h)]; exact h1, h2⟩
  · rw [List.map_cons, List.nodup_cons]
    refine ⟨fun hm => ?_, A.nd⟩
    obtain ⟨q, hq, e⟩ := List.mem_map.mp hm
    have h1 := (A.own q hq).1
    rw [e, h] at h1; cases h1
theorem At.put (A : At G ((p, o) :: M) H) : At G ((p, u) :: M) (upd H p u) := by
  refine ⟨fun a x e => ?_, fun q hq => ?_, A.nd⟩
  · have n : a ≠ p := fun z => by rw [z, A.gn] at e; cases e
    rw [upd_ne n]; exact A.sub a x e
  · rcases List.mem_cons.mp hq with rfl | hq
    · exact ⟨upd_same, A.gn⟩
    · obtain ⟨h1, h2⟩ := A.own q (List.mem_cons_of_mem _ hq)
      exact ⟨by rw [upd_ne (A.nm q hq)]; exact h1, h2⟩
/-- an owned object is given to the world -/
theorem At.frz (A : At G ((p, o) :: M) H) : At (upd G p o) M H := by
  refine ⟨fun a x e => ?_, fun q hq => ?_, (List.nodup_cons.mp A.nd).2⟩
  · by_cases z : a = p
    · subst z; rw [upd_same] at e; cases e; exact A.hd
    · rw [upd_ne z] at e; exact A.sub a x e
  · obtain ⟨h1, h2⟩ := A.own q (List.mem_cons_of_mem _ hq)
    exact ⟨h1, by rw [upd_ne (A.nm q hq)]; exact h2⟩
theorem At.frzS (A : At G ((p, o) :: M) H) : Sub G (upd G p o) := Sub.new A.gn
/-- a new object goes into the world at once -/
theorem At.newG (A : At G M H) (h : H p = none) : At (upd G p o) M (upd H p o) := (A.new (o := o) h).frz
theorem At.newS (A : At G M H) (h : H p = none) : Sub G (upd G p o) := Sub.new (A.fresh h)
theorem At.swap {a b : Addr × HO} (A : At G (a :: b :: M) H) : At G (b :: a :: M) H := by
  refine ⟨A.sub, fun q hq => A.own q ?_, ?_⟩
  · rcases List.mem_cons.mp hq with h | hq
    · exact h ▸ List.mem_cons_of_mem _ List.mem_cons_self
    · rcases List.mem_cons.mp hq with h | hq
      · exact h ▸ List.mem_cons_self
      · exact List.mem_cons_of_mem _ (List.mem_cons_of_mem _ hq)
  · have := A.nd
    simp only [List.map_cons, List.nodup_cons, List.mem_cons, not_or] at this ⊢
    exact ⟨⟨fun e => this.1.1 e.symm, this.2.1⟩, this.1.2, this.2.2⟩
theorem At.rot {a b c : Addr × HO} (A : At G (a :: b :: c :: M) H) : At G (c :: a :: b :: M) H := by
  refine ⟨A.sub, fun q hq => A.own q ?_, ?_⟩
  · simp only [List.mem_cons] at hq ⊢
    rcases hq with h | h | h | h
    · exact .inr (.inr (.inl h))
    · exact .inl h
    · exact .inr (.inl h)
    · exact .inr (.inr (.inr h))
  · have := A.nd
    simp only [List.map_cons, List.nodup_cons, List.mem_cons, not_or] at this ⊢
    exact ⟨⟨fun e => this.1.2.1 e.symm, fun e => this.2.1.1 e.symm, this.2.2.1⟩, ⟨this.1.1, this.1.2.2⟩, this.2.1.2, this.2.2.2⟩
/-- the world alone -/
theorem At.nil (A : At G M H) : At G [] H := ⟨A.sub, fun q h => (nomatch h), List.nodup_nil⟩
theorem At.self (H : Hp) : At H [] H := ⟨Sub.refl H, fun q h => (nomatch h), List.nodup_nil⟩
end

/-! ### typed values -/
class Enc (α : Type) where
  den : Hp → V → α → Prop
  mono : ∀ {G H : Hp} {v : V} {x : α}, Sub G H → den G v x → den H v x
open Enc (den)
instance : Enc Int := ⟨fun _ v x => v = .int x, fun _ h => h⟩
instance : Enc Bool := ⟨fun _ v x => v = .bl x, fun _ h => h⟩
instance : Enc Str := ⟨fun _ v x => v = .str x, fun _ h => h⟩
instance : Enc Unit := ⟨fun _ v _ => v = .non, fun _ h => h⟩
end Tr
set_option Elab.async false
set_option linter.all false
set_option maxRecDepth 100000
set_option maxHeartbeats 4000000
/-! TrOps: operators, comparisons and unary operators that an own class defines, as rules of the hand layer. -/
namespace Tr
open PySem PySem.Spec PyProof.Rows L2
section
variable {X : Cx} {CX : CXT} {k : Nat} {C f : Addr} {fd : FuncData} {ps : List Str} {sp : Sp} {E : XK}

theorem inst_of {pins : List (Addr × Obj)} {σ : L2.St} {H : Hp} {s : Shared} {a C dx : Addr} {fs : List (Str × V)} (I : Inv X pins σ H s) (e : H a = some (.ins C dx fs)) : ∃ ox od, PySem.W.InstAt s.heap a ox C od := by
  obtain ⟨mA, O, _⟩ := ins_get I.hok e
  obtain ⟨od, J, _⟩ := O.look
  exact ⟨_, _, J⟩
theorem back_of {pins : List (Addr × Obj)} {σ : L2.St} {Q : VK} {r : Value} {s' : Shared} (h : EP X pins σ Q r s') : PySem.W.CmpBack (EP X pins σ Q) r s' := by
  obtain ⟨v, H', I', rv, q'⟩ := h
  cases r with
  | notImplemented =>
    exfalso
    cases v <;> first | (obtain ⟨_, e⟩ := rv; cases e) | cases rv
  | _ => exact ⟨v, H', I', rv, q'⟩
/-- a, b instances of one class -/
def rOwn (C : Addr) (sp : Sp) (E : XK) : R2 := fun x y H Q => ∃ a dx fs b dy gs, x = .ref a ∧ y = .ref b ∧ H a = some (.ins C dx fs) ∧ H b = some (.ins C dy gs) ∧ sp [x, y] H Q E
theorem op_own {op : Operator} (F : FnOk X.prog X.w X.K X.mg X.base CX k f fd ps sp) (hr : Room k X.A) (hb : Binds X.K fd ps []) (hx : Passes CX X E) (hc : PySem.W.selfFirst X.K C = true) (m : Meth X.K C (PySem.dunder op.info.2) f) :
    OpR X (binaryOp op) (rOwn C sp E) := by
  intro pins s σ H x y v u Q I rx ry h
  obtain ⟨a, dx, fs, b, dy, gs, rfl, rfl, ha, hb', q⟩ := h
  cases (show v = Value.ref a from rx)
  cases (show u = Value.ref b from ry)
  obtain ⟨ox, od, J⟩ := inst_of I ha
  obtain ⟨ox2, od2, J2⟩ := inst_of I hb'
  obtain ⟨mm, Fm⟩ := I.fr
  refine PySem.W.binop_K Fm I.mod.kin J J2.type hc m.at_ m.fn ?_
  exact thn (run_fn (us := [.ref a, .ref b]) (vs := [.ref a, .ref b]) F hr hb .nil hx I (.cons rfl (.cons rfl .nil)) q) fun r s' hq => back_of hq
/-- what of the text an operator of an own class with an int on the other side must have -/
structure OwnT (K : PySem.W.Frag) (C : Addr) (nm : String) : Prop where
  sf : PySem.W.selfFirst K C = true
  ru : ∃ rc, PySem.W.findIn K (.ref C) (PySem.dunderR nm) = some rc ∧ (rc = none ∨ ∃ g : Addr, rc = some (.ref g))
  i1 : ∃ fo, PySem.W.findIn K (.type "int") (PySem.dunder nm) = some fo
  i2 : ∃ ro, PySem.W.findIn K (.type "int") (PySem.dunderR nm) = some ro
  su : PySem.W.subIn K (.type "int") (.ref C) = some false
def rOwnI (C : Addr) (sp : Sp) (E : XK) : R2 := fun x y H Q => ∃ a dx fs j, x = .ref a ∧ y = .int j ∧ H a = some (.ins C dx fs) ∧ sp [x, y] H Q E
theorem op_ownI {op : Operator} (F : FnOk X.prog X.w X.K X.mg X.base CX k f fd ps sp) (hr : Room k X.A) (hb : Binds X.K fd ps []) (hx : Passes CX X E) (t : OwnT X.K C op.info.2) (m : Meth X.K C (PySem.dunder op.info.2) f) :
    OpR X (binaryOp op) (rOwnI C sp E) := by
  intro pins s σ H x y v u Q I rx ry h
  obtain ⟨a, dx, fs, j, rfl, rfl, ha, q⟩ := h
  cases (show v = Value.ref a from rx)
  obtain ⟨tk, rfl⟩ := (show ∃ t, u = Value.int j t from ry)
  obtain ⟨ox, od, J⟩ := inst_of I ha
  obtain ⟨mm, Fm⟩ := I.fr
  obtain ⟨rc, r1, r2⟩ := t.ru
  obtain ⟨fo, f1⟩ := t.i1
  obtain ⟨ro, o1⟩ := t.i2
  refine PySem.W.ksp_binT (T := "int") Fm I.mod.kin J rfl t.sf m.at_ m.fn r1 r2 f1 o1 t.su ?_
  exact thn (run_fn (us := [.ref a, .int j tk]) (vs := [.ref a, .int j]) F hr hb .nil hx I (.cons rfl (.cons ⟨tk, rfl⟩ .nil)) q) fun r s' hq => back_of hq
/-- -a, ~a -/
def rOwnU (C : Addr) (sp : Sp) (E : XK) : V → Hp → VK → Prop := fun x H Q => ∃ a dx fs, x = .ref a ∧ H a = some (.ins C dx fs) ∧ sp [x] H Q E
theorem un_ownNeg (F : FnOk X.prog X.w X.K X.mg X.base CX k f fd ps sp) (hr : Room k X.A) (hb : Binds X.K fd ps []) (hx : Passes CX X E) (m : Meth X.K C "__neg__" f) : UnR X (unaryOp .USub) (rOwnU C sp E) := by
  intro pins s σ H x v Q I rx h
  obtain ⟨a, dx, fs, rfl, ha, q⟩ := h
  cases (show v = Value.ref a from rx)
  obtain ⟨ox, od, J⟩ := inst_of I ha
  obtain ⟨mm, Fm⟩ := I.fr
  refine PySem.W.ksp_neg Fm I.mod.kin J m.at_ m.fn ?_
  exact run_fn (us := [.ref a]) (vs := [.ref a]) F hr hb .nil hx I (.cons rfl .nil) q
theorem un_ownInv (F : FnOk X.prog X.w X.K X.mg X.base CX k f fd ps sp) (hr : Room k X.A) (hb : Binds X.K fd ps []) (hx : Passes CX X E) (m : Meth X.K C "__invert__" f) : UnR X (unaryOp .Invert) (rOwnU C sp E) := by
  intro pins s σ H x v Q I rx h
  obtain ⟨a, dx, fs, rfl, ha, q⟩ := h
  cases (show v = Value.ref a from rx)
  obtain ⟨ox, od, J⟩ := inst_of I ha
  obtain ⟨mm, Fm⟩ := I.fr
  refine PySem.W.ksp_inv Fm I.mod.kin J m.at_ m.fn ?_
  exact run_fn (us := [.ref a]) (vs := [.ref a]) F hr hb .nil hx I (.cons rfl .nil) q
/-- a == b, a < b .. of two instances of one class -/
theorem op_cmpOwn {op : CmpOp} (hop : ∀ v u : Value, compareOp op v u = richCompare op v u) (F : FnOk X.prog X.w X.K X.mg X.base CX k f fd ps sp) (hr : Room k X.A) (hb : Binds X.K fd ps []) (hx : Passes CX X E)
    (hn : PySem.W.notFirst X.K C (.ref C) = true) (m : Meth X.K C (cmpInfo op).2.1 f) :
    OpR X (compareOp op) (rOwn C sp E) := by
  intro pins s σ H x y v u Q I rx ry h
  obtain ⟨a, dx, fs, b, dy, gs, rfl, rfl, ha, hb', q⟩ := h
  cases (show v = Value.ref a from rx)
  cases (show u = Value.ref b from ry)
  obtain ⟨ox, od, J⟩ := inst_of I ha
  obtain ⟨ox2, od2, J2⟩ := inst_of I hb'
  obtain ⟨mm, Fm⟩ := I.fr
  rw [hop]
  refine PySem.W.cmp_K hr.units0 Fm I.mod.kin J J2.type hn m.at_ m.fn ?_
  exact thn (run_fn (us := [.ref a, .ref b]) (vs := [.ref a, .ref b]) F hr hb .nil hx I (.cons rfl (.cons rfl .nil)) q) fun r s' hq => back_of hq
theorem op_cmpOwnI {op : CmpOp} (hop : ∀ v u : Value, compareOp op v u = richCompare op v u) (F : FnOk X.prog X.w X.K X.mg X.base CX k f fd ps sp) (hr : Room k X.A) (hb : Binds X.K fd ps []) (hx : Passes CX X E)
    (hn : PySem.W.notFirst X.K C (.type "int") = true) (m : Meth X.K C (cmpInfo op).2.1 f) :
    OpR X (compareOp op) (rOwnI C sp E) := by
  intro pins s σ H x y v u Q I rx ry h
  obtain ⟨a, dx, fs, j, rfl, rfl, ha, q⟩ := h
  cases (show v = Value.ref a from rx)
  obtain ⟨tk, rfl⟩ := (show ∃ t, u = Value.int j t from ry)
  obtain ⟨ox, od, J⟩ := inst_of I ha
  obtain ⟨mm, Fm⟩ := I.fr
  rw [hop]
  refine PySem.W.cmp_K (tb := .type "int") hr.units0 Fm I.mod.kin J (PySem.W.Looks.of_pure rfl) hn m.at_ m.fn ?_
  exact thn (run_fn (us := [.ref a, .int j tk]) (vs := [.ref a, .int j]) F hr hb .nil hx I (.cons rfl (.cons ⟨tk, rfl⟩ .nil)) q) fun r s' hq => back_of hq
theorem hop_eq (v u : Value) : compareOp .Eq v u = richCompare .Eq v u := rfl
theorem hop_lt (v u : Value) : compareOp .Lt v u = richCompare .Lt v u := rfl
theorem hop_le (v u : Value) : compareOp .LtE v u = richCompare .LtE v u := rfl
end
end Tr
set_option Elab.async false
set_option linter.all false
set_option maxRecDepth 100000
set_option maxHeartbeats 4000000
/-! TrOpsR: an int on the left, an instance of an own class on the right: the class's reflected method. -/
namespace Tr
open PySem PySem.Spec PyProof.Rows L2
theorem int_add_inst (i : Int) (t : Tok) (x C dx : Addr) :
    Meets (Builtin.«int.__add__» ⟨[.int i t, .ref x], []⟩) (fun _ R s => s.heap.get? x = some (PySem.W.instObj C dx) ∧ R (.ok (.ret Value.notImplemented)) s) :=
  .of_wp fun prog w A R s h => by obtain ⟨hp, g, d, tk, os⟩ := s; obtain ⟨hl, h⟩ := h; wp_walk; exact ⟨_, rfl, h⟩
theorem int_sub_inst (i : Int) (t : Tok) (x C dx : Addr) :
    Meets (Builtin.«int.__sub__» ⟨[.int i t, .ref x], []⟩) (fun _ R s => s.heap.get? x = some (PySem.W.instObj C dx) ∧ R (.ok (.ret Value.notImplemented)) s) :=
  .of_wp fun prog w A R s h => by obtain ⟨hp, g, d, tk, os⟩ := s; obtain ⟨hl, h⟩ := h; wp_walk; exact ⟨_, rfl, h⟩
theorem int_mul_inst (i : Int) (t : Tok) (x C dx : Addr) :
    Meets (Builtin.«int.__mul__» ⟨[.int i t, .ref x], []⟩) (fun _ R s => s.heap.get? x = some (PySem.W.instObj C dx) ∧ R (.ok (.ret Value.notImplemented)) s) :=
  .of_wp fun prog w A R s h => by obtain ⟨hp, g, d, tk, os⟩ := s; obtain ⟨hl, h⟩ := h; wp_walk; exact ⟨_, rfl, h⟩
section
variable {prog : Program} {w : World} {A : Around} {E : Value → Shared → Prop} {s : Shared} {K : PySem.W.Frag} {x C L f f0 : Addr} {h₀ : Heap} {m : Str → Option Value} {ox : Obj} {od : Option Obj}
open PySem.W in
theorem bin_refl {op : Operator} {i : Int} {t : Tok} {Q : Value → Shared → Prop} (F : Fr h₀ L s.heap m) (X₀ : K.In h₀) (I : PySem.W.InstAt s.heap x ox C od) (hc : PySem.W.selfFirst K C = true)
    (h0 : PySem.W.findIn K (.ref C) (PySem.dunder op.info.2) = some (some (.ref f0)))
    (hs : PySem.W.findIn K (.ref C) (PySem.dunderR op.info.2) = some (some (.ref f))) (hf : PySem.W.isFn K (.ref f) = true)
    {fo ro : Option Value} (h1 : PySem.W.findIn K (.type "int") (PySem.dunder op.info.2) = some fo) (h2 : PySem.W.findIn K (.type "int") (PySem.dunderR op.info.2) = some ro)
    (hlf : ((fo.isSome && !isSeqSlot fo) || (ro.isSome && !isSeqSlot ro)) = true)
    (hsub : PySem.W.subIn K (.ref C) (.type "int") = some false)
    (hd : ∀ {Q' : Option Value → Shared → Prop}, Q' none s → wpAny (model prog w) A (tryMethod (.int i t) (PySem.dunder op.info.2) (.ref x)) Q' E s)
    (h : wpAny (model prog w) A (call (.ref f) [.ref x, .int i t]) (PySem.W.CmpBack Q) E s) : wpAny (model prog w) A (binaryOp op (.int i t) (.ref x)) Q E s := by
  have X := X₀.keeps F.keep
  obtain ⟨cd, rest, hcd, hm⟩ := PySem.W.ksp_first hc
  rcases hi : op.info with ⟨sym, nm'⟩
  rw [hi] at hs h0 h1 h2 hd
  dsimp only at hs h0 h1 h2 hd
  have one := PySem.W.ksp_try X I hs hf h
  have decl := @hd
  clear hd h
  have L1 : PySem.W.Looks (model prog w) s.heap (typeOf (.int i t)) (.type "int") := PySem.W.Looks.of_pure rfl
  have L2 : PySem.W.Looks (model prog w) s.heap (typeOf (.ref x)) (.ref C) := I.type
  have L3 : PySem.W.Looks (model prog w) s.heap (fillsNumberSlot (.type "int") nm') true := hlf ▸ PySem.W.ksp_fillsT X h1 h2
  have L4 : PySem.W.Looks (model prog w) s.heap (fillsNumberSlot (.ref C) nm') true := PySem.W.fills_K X hcd hm h0
  have L5 : PySem.W.Looks (model prog w) s.heap (isSubtype (.ref C) (.type "int")) false := PySem.W.looks_subIn X hsub
  have hne : (Value.type "int" == Value.ref C) = false := Bool.eq_false_iff.mpr fun q => by cases beq_iff_eq.mp q
  simp only [binaryOp, hi]
  refine wpAny_holding (wpAny_bind ?_)
  unfold binaryOp1
  refine wpAny_bind (L1.here (wpAny_bind (L2.here (wpAny_bind (L3.here ?_)))))
  simp only [hne, Bool.false_eq_true, if_false]
  refine wpAny_bind (L4.here ?_)
  simp only [Bool.and_self, if_true]
  refine wpAny_bind (L5.here ?_)
  have hpy : numberSlotInPython (.type "int") nm' = pure false := rfl
  simp only [Bool.false_eq_true, if_false, pure_bind, Bool.not_false, Bool.and_self, if_true, hpy]
  refine wpAny_bind (decl ?_)
  dsimp only
  refine wpAny_bind (wpAny_mono one (fun r s' hr' => ?_) fun _ _ e => e)
  obtain ⟨v, rfl, hq⟩ := hr'
  dsimp only
  exact wpAny_bind (wpAny_rule (wpAny_pure (wpAny_pure hq)))
end
end Tr
namespace Tr
open PySem PySem.Spec PyProof.Rows L2
/-- what of the text a reflected operator must have -/
structure OwnR (K : PySem.W.Frag) (C : Addr) (nm : String) : Prop where
  sf : PySem.W.selfFirst K C = true
  fw : ∃ f0 : Addr, PySem.W.findIn K (.ref C) (PySem.dunder nm) = some (some (.ref f0))
  ii : ∃ fo ro, PySem.W.findIn K (.type "int") (PySem.dunder nm) = some fo ∧ PySem.W.findIn K (.type "int") (PySem.dunderR nm) = some ro ∧ ((fo.isSome && !isSeqSlot fo) || (ro.isSome && !isSeqSlot ro)) = true
  su : PySem.W.subIn K (.ref C) (.type "int") = some false
section
variable {X : Cx} {CX : CXT} {k : Nat} {C f : Addr} {fd : FuncData} {ps : List Str} {sp : Sp} {E : XK}
def rOwnR (C : Addr) (sp : Sp) (E : XK) : R2 := fun x y H Q => ∃ i b dx fs, x = .int i ∧ y = .ref b ∧ H b = some (.ins C dx fs) ∧ sp [y, x] H Q E
theorem op_ownR {op : Operator} (F : FnOk X.prog X.w X.K X.mg X.base CX k f fd ps sp) (hr : Room k X.A) (hb : Binds X.K fd ps []) (hx : Passes CX X E) (t : OwnR X.K C op.info.2) (m : Meth X.K C (PySem.dunderR op.info.2) f)
    (hd : ∀ (i : Int) (tk : Tok) (x C dx : Addr) (s : Shared) (Q' : Option Value → Shared → Prop), s.heap.get? x = some (PySem.W.instObj C dx) → Q' none s → wpAny (model X.prog X.w) X.A (tryMethod (.int i tk) (PySem.dunder op.info.2) (.ref x)) Q' X.xe s) :
    OpR X (binaryOp op) (rOwnR C sp E) := by
  intro pins s σ H x y v u Q I rx ry h
  obtain ⟨i, b, dx, fs, rfl, rfl, ha, q⟩ := h
  obtain ⟨tk, rfl⟩ := (show ∃ t, v = Value.int i t from rx)
  cases (show u = Value.ref b from ry)
  obtain ⟨ox, od, J⟩ := inst_of I ha
  obtain ⟨mA, O, _⟩ := ins_get I.hok ha
  obtain ⟨mm, Fm⟩ := I.fr
  obtain ⟨f0, w0⟩ := t.fw
  obtain ⟨fo, ro, h1, h2, h3⟩ := t.ii
  refine bin_refl Fm I.mod.kin J t.sf w0 m.at_ m.fn h1 h2 h3 t.su (fun {Q'} z => hd i tk b C dx s Q' O.1 z) ?_
  exact thn (run_fn (us := [.ref b, .int i tk]) (vs := [.ref b, .int i]) F hr hb .nil hx I (.cons rfl (.cons ⟨tk, rfl⟩ .nil)) q) fun r s' hq => back_of hq
theorem decl_mul (i : Int) (tk : Tok) (x C dx : Addr) (s : Shared) (Q' : Option Value → Shared → Prop) (h : s.heap.get? x = some (PySem.W.instObj C dx)) (q : Q' none s) : wpAny (model X.prog X.w) X.A (tryMethod (.int i tk) (PySem.dunder (Operator.Mult).info.2) (.ref x)) Q' X.xe s :=
  by
  refine wpAny_tryMethod_declines (T := "int") (name := dunder "mul") (id := "int.__mul__") (typeIs_int s i tk) PySem.F.slot_int_mul ?_
  exact call_meets (T := "int") (name := dunder "mul") (B := Builtin.«int.__mul__») PySem.F.slot_int_mul (typeIs_int s i tk) PySem.F.entry_int_mul (PySem.F.args_int_mul_2 _ _) (int_mul_inst i tk x C dx) ⟨h, rfl, q⟩
theorem decl_add (i : Int) (tk : Tok) (x C dx : Addr) (s : Shared) (Q' : Option Value → Shared → Prop) (h : s.heap.get? x = some (PySem.W.instObj C dx)) (q : Q' none s) : wpAny (model X.prog X.w) X.A (tryMethod (.int i tk) (PySem.dunder (Operator.Add).info.2) (.ref x)) Q' X.xe s :=
  by
  refine wpAny_tryMethod_declines (T := "int") (name := dunder "add") (id := "int.__add__") (typeIs_int s i tk) PySem.F.slot_int_add ?_
  exact call_meets (T := "int") (name := dunder "add") (B := Builtin.«int.__add__») PySem.F.slot_int_add (typeIs_int s i tk) PySem.F.entry_int_add (PySem.F.args_int_add_2 _ _) (int_add_inst i tk x C dx) ⟨h, rfl, q⟩
theorem decl_sub (i : Int) (tk : Tok) (x C dx : Addr) (s : Shared) (Q' : Option Value → Shared → Prop) (h : s.heap.get? x = some (PySem.W.instObj C dx)) (q : Q' none s) : wpAny (model X.prog X.w) X.A (tryMethod (.int i tk) (PySem.dunder (Operator.Sub).info.2) (.ref x)) Q' X.xe s :=
  by
  refine wpAny_tryMethod_declines (T := "int") (name := dunder "sub") (id := "int.__sub__") (typeIs_int s i tk) PySem.F.slot_int_sub ?_
  exact call_meets (T := "int") (name := dunder "sub") (B := Builtin.«int.__sub__») PySem.F.slot_int_sub (typeIs_int s i tk) PySem.F.entry_int_sub (PySem.F.args_int_sub_2 _ _) (int_sub_inst i tk x C dx) ⟨h, rfl, q⟩
end
end Tr
set_option Elab.async false
set_option linter.all false
set_option maxRecDepth 100000
set_option maxHeartbeats 4000000
/-! TrLaw: what the laws' own helpers need: the pool. -/
namespace Tr
open PySem PySem.Spec PyProof.Rows L2
/-- the numbers of a pool: few, and each below 4096 -/
structure PoolOk (ms : List Int) : Prop where
  len : ms.length ≤ 10000
  rng : ∀ n ∈ ms, 0 ≤ n ∧ n < 4096
theorem PoolOk.tail {ms : List Int} (h : PoolOk ms) : PoolOk ms.tail := by
  refine ⟨?_, fun n hn => h.rng n (List.mem_of_mem_tail hn)⟩
  have := h.len
  rw [List.length_tail]; omega
/-- the value that take gives -/
def tkv (ms : List Int) (m : Int) : Int := match ms with
  | [] => 0
  | n :: _ => n.fmod m
theorem tkv_rng {ms : List Int} {m : Int} (hm : 0 < m) : 0 ≤ tkv ms m ∧ tkv ms m < m := by
  cases ms with
  | nil => exact ⟨Int.le_refl 0, hm⟩
  | cons n r =>
    show 0 ≤ n.fmod m ∧ n.fmod m < m
    rw [Int.fmod_eq_emod_of_nonneg _ (by omega)]
    exact ⟨Int.emod_nonneg _ (by omega), Int.emod_lt_of_pos _ hm⟩
abbrev pool (ms : List Int) : HO := .lst (ms.map V.int)
/-- all but p stays -/
def Chg (p : Addr) (H H' : Hp) : Prop := ∀ a x, a ≠ p → H a = some x → H' a = some x
theorem Chg.trans {p : Addr} {G H I : Hp} (a : Chg p G H) (b : Chg p H I) : Chg p G I := fun x o n h => b x o n (a x o n h)
theorem Chg.of {p : Addr} {H I : Hp} (a : Sub H I) : Chg p H I := fun x o _ h => a x o h
theorem Chg.put {p : Addr} {H : Hp} {o : HO} : Chg p H (upd H p o) := fun x u n h => by rw [upd_ne n]; exact h
theorem Chg.new {p q : Addr} {H : Hp} {o : HO} (h : H q = none) : Chg p H (upd H q o) := Chg.of (Sub.new h)
section
variable {G H H' : Hp} {M : Mu} {p q : Addr} {o u : HO}
theorem At.chg (A : At G ((p, o) :: M) H) (c : Chg p H H') (h : H' p = some u) : At G ((p, u) :: M) H' := by
  refine ⟨fun a x e => ?_, fun q hq => ?_, A.nd⟩
  · have n : a ≠ p := fun z => by rw [z, A.gn] at e; cases e
    exact c a x n (A.sub a x e)
  · rcases List.mem_cons.mp hq with rfl | hq
    · exact ⟨h, A.gn⟩
    · obtain ⟨h1, h2⟩ := A.own q (List.mem_cons_of_mem _ hq)
      exact ⟨c _ _ (A.nm q hq) h1, h2⟩
theorem At.ext (A : At G M H) (c : Sub H H') : At G M H' := ⟨A.sub.trans c, fun q hq => ⟨c _ _ (A.own q hq).1, (A.own q hq).2⟩, A.nd⟩
theorem At.more (A : At G M H) (c : Sub H H') (n : H p = none) (h : H' p = some o) : At G ((p, o) :: M) H' := by
  refine ⟨A.sub.trans c, fun q hq => ?_, ?_⟩
  · rcases List.mem_cons.mp hq with rfl | hq
    · exact ⟨h, A.fresh n⟩
    · exact ⟨c _ _ (A.own q hq).1, (A.own q hq).2⟩
  · rw [List.map_cons, List.nodup_cons]
    refine ⟨fun hm => ?_, A.nd⟩
    obtain ⟨q, hq, e⟩ := List.mem_map.mp hm
    have h1 := (A.own q hq).1
    rw [e, n] at h1; cases h1
theorem At.h1 {a : Addr × HO} (A : At G (a :: (p, o) :: M) H) : H p = some o := A.tl.hd
theorem At.h2 {a b : Addr × HO} (A : At G (a :: b :: (p, o) :: M) H) : H p = some o := A.tl.tl.hd
theorem At.h3 {a b c : Addr × HO} (A : At G (a :: b :: c :: (p, o) :: M) H) : H p = some o := A.tl.tl.tl.hd
end
theorem cxK {CX : CXT} {P : Program} {w : World} {K : PySem.W.Frag} {mg : Str → Option Value} {base : Heap} {N : List Str} {qual : Str} {scope : Scope} {f : Addr} {cd : Value} {A : Around} {outer : List Env} {s : Shared} {H : Hp} {E : XK} :
    (cxOf CX P w K mg base N qual scope f cd A outer s H E).nox.K = K := rfl
theorem cxK2 {CX : CXT} {P : Program} {w : World} {K : PySem.W.Frag} {mg : Str → Option Value} {base : Heap} {N : List Str} {qual : Str} {scope : Scope} {f : Addr} {cd : Value} {A : Around} {outer : List Env} {s : Shared} {H : Hp} {E : XK} :
    (cxOf CX P w K mg base N qual scope f cd A outer s H E).K = K := rfl
/-! a name is stored: the slots written out again -/
section
variable {v : V} {σ : L2.St} {H : Hp} {nx : L2.St → Hp → Prop}
theorem gs0 {a0 : Option V} (h : nx (some v :: σ) H) : gName 0 v (a0 :: σ) H nx := h
theorem gs1 {a0 a1 : Option V} (h : nx (a0 :: some v :: σ) H) : gName 1 v (a0 :: a1 :: σ) H nx := h
theorem gs2 {a0 a1 a2 : Option V} (h : nx (a0 :: a1 :: some v :: σ) H) : gName 2 v (a0 :: a1 :: a2 :: σ) H nx := h
theorem gs3 {a0 a1 a2 a3 : Option V} (h : nx (a0 :: a1 :: a2 :: some v :: σ) H) : gName 3 v (a0 :: a1 :: a2 :: a3 :: σ) H nx := h
theorem gs4 {a0 a1 a2 a3 a4 : Option V} (h : nx (a0 :: a1 :: a2 :: a3 :: some v :: σ) H) : gName 4 v (a0 :: a1 :: a2 :: a3 :: a4 :: σ) H nx := h
theorem gs5 {a0 a1 a2 a3 a4 a5 : Option V} (h : nx (a0 :: a1 :: a2 :: a3 :: a4 :: some v :: σ) H) : gName 5 v (a0 :: a1 :: a2 :: a3 :: a4 :: a5 :: σ) H nx := h
theorem gs6 {a0 a1 a2 a3 a4 a5 a6 : Option V} (h : nx (a0 :: a1 :: a2 :: a3 :: a4 :: a5 :: some v :: σ) H) : gName 6 v (a0 :: a1 :: a2 :: a3 :: a4 :: a5 :: a6 :: σ) H nx := h
theorem gs7 {a0 a1 a2 a3 a4 a5 a6 a7 : Option V} (h : nx (a0 :: a1 :: a2 :: a3 :: a4 :: a5 :: a6 :: some v :: σ) H) : gName 7 v (a0 :: a1 :: a2 :: a3 :: a4 :: a5 :: a6 :: a7 :: σ) H nx := h
theorem gs8 {a0 a1 a2 a3 a4 a5 a6 a7 a8 : Option V} (h : nx (a0 :: a1 :: a2 :: a3 :: a4 :: a5 :: a6 :: a7 :: some v :: σ) H) : gName 8 v (a0 :: a1 :: a2 :: a3 :: a4 :: a5 :: a6 :: a7 :: a8 :: σ) H nx := h
theorem gs9 {a0 a1 a2 a3 a4 a5 a6 a7 a8 a9 : Option V} (h : nx (a0 :: a1 :: a2 :: a3 :: a4 :: a5 :: a6 :: a7 :: a8 :: some v :: σ) H) : gName 9 v (a0 :: a1 :: a2 :: a3 :: a4 :: a5 :: a6 :: a7 :: a8 :: a9 :: σ) H nx := h
theorem gs10 {a0 a1 a2 a3 a4 a5 a6 a7 a8 a9 a10 : Option V} (h : nx (a0 :: a1 :: a2 :: a3 :: a4 :: a5 :: a6 :: a7 :: a8 :: a9 :: some v :: σ) H) : gName 10 v (a0 :: a1 :: a2 :: a3 :: a4 :: a5 :: a6 :: a7 :: a8 :: a9 :: a10 :: σ) H nx := h
theorem gs11 {a0 a1 a2 a3 a4 a5 a6 a7 a8 a9 a10 a11 : Option V} (h : nx (a0 :: a1 :: a2 :: a3 :: a4 :: a5 :: a6 :: a7 :: a8 :: a9 :: a10 :: some v :: σ) H) : gName 11 v (a0 :: a1 :: a2 :: a3 :: a4 :: a5 :: a6 :: a7 :: a8 :: a9 :: a10 :: a11 :: σ) H nx := h
theorem gs12 {a0 a1 a2 a3 a4 a5 a6 a7 a8 a9 a10 a11 a12 : Option V} (h : nx (a0 :: a1 :: a2 :: a3 :: a4 :: a5 :: a6 :: a7 :: a8 :: a9 :: a10 :: a11 :: some v :: σ) H) : gName 12 v (a0 :: a1 :: a2 :: a3 :: a4 :: a5 :: a6 :: a7 :: a8 :: a9 :: a10 :: a11 :: a12 :: σ) H nx := h
theorem gs13 {a0 a1 a2 a3 a4 a5 a6 a7 a8 a9 a10 a11 a12 a13 : Option V} (h : nx (a0 :: a1 :: a2 :: a3 :: a4 :: a5 :: a6 :: a7 :: a8 :: a9 :: a10 :: a11 :: a12 :: some v :: σ) H) : gName 13 v (a0 :: a1 :: a2 :: a3 :: a4 :: a5 :: a6 :: a7 :: a8 :: a9 :: a10 :: a11 :: a12 :: a13 :: σ) H nx := h
theorem gs14 {a0 a1 a2 a3 a4 a5 a6 a7 a8 a9 a10 a11 a12 a13 a14 : Option V} (h : nx (a0 :: a1 :: a2 :: a3 :: a4 :: a5 :: a6 :: a7 :: a8 :: a9 :: a10 :: a11 :: a12 :: a13 :: some v :: σ) H) : gName 14 v (a0 :: a1 :: a2 :: a3 :: a4 :: a5 :: a6 :: a7 :: a8 :: a9 :: a10 :: a11 :: a12 :: a13 :: a14 :: σ) H nx := h
theorem gs15 {a0 a1 a2 a3 a4 a5 a6 a7 a8 a9 a10 a11 a12 a13 a14 a15 : Option V} (h : nx (a0 :: a1 :: a2 :: a3 :: a4 :: a5 :: a6 :: a7 :: a8 :: a9 :: a10 :: a11 :: a12 :: a13 :: a14 :: some v :: σ) H) : gName 15 v (a0 :: a1 :: a2 :: a3 :: a4 :: a5 :: a6 :: a7 :: a8 :: a9 :: a10 :: a11 :: a12 :: a13 :: a14 :: a15 :: σ) H nx := h
theorem gs16 {a0 a1 a2 a3 a4 a5 a6 a7 a8 a9 a10 a11 a12 a13 a14 a15 a16 : Option V} (h : nx (a0 :: a1 :: a2 :: a3 :: a4 :: a5 :: a6 :: a7 :: a8 :: a9 :: a10 :: a11 :: a12 :: a13 :: a14 :: a15 :: some v :: σ) H) : gName 16 v (a0 :: a1 :: a2 :: a3 :: a4 :: a5 :: a6 :: a7 :: a8 :: a9 :: a10 :: a11 :: a12 :: a13 :: a14 :: a15 :: a16 :: σ) H nx := h
theorem gs17 {a0 a1 a2 a3 a4 a5 a6 a7 a8 a9 a10 a11 a12 a13 a14 a15 a16 a17 : Option V} (h : nx (a0 :: a1 :: a2 :: a3 :: a4 :: a5 :: a6 :: a7 :: a8 :: a9 :: a10 :: a11 :: a12 :: a13 :: a14 :: a15 :: a16 :: some v :: σ) H) : gName 17 v (a0 :: a1 :: a2 :: a3 :: a4 :: a5 :: a6 :: a7 :: a8 :: a9 :: a10 :: a11 :: a12 :: a13 :: a14 :: a15 :: a16 :: a17 :: σ) H nx := h
theorem gs18 {a0 a1 a2 a3 a4 a5 a6 a7 a8 a9 a10 a11 a12 a13 a14 a15 a16 a17 a18 : Option V} (h : nx (a0 :: a1 :: a2 :: a3 :: a4 :: a5 :: a6 :: a7 :: a8 :: a9 :: a10 :: a11 :: a12 :: a13 :: a14 :: a15 :: a16 :: a17 :: some v :: σ) H) : gName 18 v (a0 :: a1 :: a2 :: a3 :: a4 :: a5 :: a6 :: a7 :: a8 :: a9 :: a10 :: a11 :: a12 :: a13 :: a14 :: a15 :: a16 :: a17 :: a18 :: σ) H nx := h
theorem gs19 {a0 a1 a2 a3 a4 a5 a6 a7 a8 a9 a10 a11 a12 a13 a14 a15 a16 a17 a18 a19 : Option V} (h : nx (a0 :: a1 :: a2 :: a3 :: a4 :: a5 :: a6 :: a7 :: a8 :: a9 :: a10 :: a11 :: a12 :: a13 :: a14 :: a15 :: a16 :: a17 :: a18 :: some v :: σ) H) : gName 19 v (a0 :: a1 :: a2 :: a3 :: a4 :: a5 :: a6 :: a7 :: a8 :: a9 :: a10 :: a11 :: a12 :: a13 :: a14 :: a15 :: a16 :: a17 :: a18 :: a19 :: σ) H nx := h
theorem gs20 {a0 a1 a2 a3 a4 a5 a6 a7 a8 a9 a10 a11 a12 a13 a14 a15 a16 a17 a18 a19 a20 : Option V} (h : nx (a0 :: a1 :: a2 :: a3 :: a4 :: a5 :: a6 :: a7 :: a8 :: a9 :: a10 :: a11 :: a12 :: a13 :: a14 :: a15 :: a16 :: a17 :: a18 :: a19 :: some v :: σ) H) : gName 20 v (a0 :: a1 :: a2 :: a3 :: a4 :: a5 :: a6 :: a7 :: a8 :: a9 :: a10 :: a11 :: a12 :: a13 :: a14 :: a15 :: a16 :: a17 :: a18 :: a19 :: a20 :: σ) H nx := h
theorem gs21 {a0 a1 a2 a3 a4 a5 a6 a7 a8 a9 a10 a11 a12 a13 a14 a15 a16 a17 a18 a19 a20 a21 : Option V} (h : nx (a0 :: a1 :: a2 :: a3 :: a4 :: a5 :: a6 :: a7 :: a8 :: a9 :: a10 :: a11 :: a12 :: a13 :: a14 :: a15 :: a16 :: a17 :: a18 :: a19 :: a20 :: some v :: σ) H) : gName 21 v (a0 :: a1 :: a2 :: a3 :: a4 :: a5 :: a6 :: a7 :: a8 :: a9 :: a10 :: a11 :: a12 :: a13 :: a14 :: a15 :: a16 :: a17 :: a18 :: a19 :: a20 :: a21 :: σ) H nx := h
theorem gs22 {a0 a1 a2 a3 a4 a5 a6 a7 a8 a9 a10 a11 a12 a13 a14 a15 a16 a17 a18 a19 a20 a21 a22 : Option V} (h : nx (a0 :: a1 :: a2 :: a3 :: a4 :: a5 :: a6 :: a7 :: a8 :: a9 :: a10 :: a11 :: a12 :: a13 :: a14 :: a15 :: a16 :: a17 :: a18 :: a19 :: a20 :: a21 :: some v :: σ) H) : gName 22 v (a0 :: a1 :: a2 :: a3 :: a4 :: a5 :: a6 :: a7 :: a8 :: a9 :: a10 :: a11 :: a12 :: a13 :: a14 :: a15 :: a16 :: a17 :: a18 :: a19 :: a20 :: a21 :: a22 :: σ) H nx := h
theorem gs23 {a0 a1 a2 a3 a4 a5 a6 a7 a8 a9 a10 a11 a12 a13 a14 a15 a16 a17 a18 a19 a20 a21 a22 a23 : Option V} (h : nx (a0 :: a1 :: a2 :: a3 :: a4 :: a5 :: a6 :: a7 :: a8 :: a9 :: a10 :: a11 :: a12 :: a13 :: a14 :: a15 :: a16 :: a17 :: a18 :: a19 :: a20 :: a21 :: a22 :: some v :: σ) H) : gName 23 v (a0 :: a1 :: a2 :: a3 :: a4 :: a5 :: a6 :: a7 :: a8 :: a9 :: a10 :: a11 :: a12 :: a13 :: a14 :: a15 :: a16 :: a17 :: a18 :: a19 :: a20 :: a21 :: a22 :: a23 :: σ) H nx := h
theorem gs24 {a0 a1 a2 a3 a4 a5 a6 a7 a8 a9 a10 a11 a12 a13 a14 a15 a16 a17 a18 a19 a20 a21 a22 a23 a24 : Option V} (h : nx (a0 :: a1 :: a2 :: a3 :: a4 :: a5 :: a6 :: a7 :: a8 :: a9 :: a10 :: a11 :: a12 :: a13 :: a14 :: a15 :: a16 :: a17 :: a18 :: a19 :: a20 :: a21 :: a22 :: a23 :: some v :: σ) H) : gName 24 v (a0 :: a1 :: a2 :: a3 :: a4 :: a5 :: a6 :: a7 :: a8 :: a9 :: a10 :: a11 :: a12 :: a13 :: a14 :: a15 :: a16 :: a17 :: a18 :: a19 :: a20 :: a21 :: a22 :: a23 :: a24 :: σ) H nx := h
theorem gs25 {a0 a1 a2 a3 a4 a5 a6 a7 a8 a9 a10 a11 a12 a13 a14 a15 a16 a17 a18 a19 a20 a21 a22 a23 a24 a25 : Option V} (h : nx (a0 :: a1 :: a2 :: a3 :: a4 :: a5 :: a6 :: a7 :: a8 :: a9 :: a10 :: a11 :: a12 :: a13 :: a14 :: a15 :: a16 :: a17 :: a18 :: a19 :: a20 :: a21 :: a22 :: a23 :: a24 :: some v :: σ) H) : gName 25 v (a0 :: a1 :: a2 :: a3 :: a4 :: a5 :: a6 :: a7 :: a8 :: a9 :: a10 :: a11 :: a12 :: a13 :: a14 :: a15 :: a16 :: a17 :: a18 :: a19 :: a20 :: a21 :: a22 :: a23 :: a24 :: a25 :: σ) H nx := h
theorem gs26 {a0 a1 a2 a3 a4 a5 a6 a7 a8 a9 a10 a11 a12 a13 a14 a15 a16 a17 a18 a19 a20 a21 a22 a23 a24 a25 a26 : Option V} (h : nx (a0 :: a1 :: a2 :: a3 :: a4 :: a5 :: a6 :: a7 :: a8 :: a9 :: a10 :: a11 :: a12 :: a13 :: a14 :: a15 :: a16 :: a17 :: a18 :: a19 :: a20 :: a21 :: a22 :: a23 :: a24 :: a25 :: some v :: σ) H) : gName 26 v (a0 :: a1 :: a2 :: a3 :: a4 :: a5 :: a6 :: a7 :: a8 :: a9 :: a10 :: a11 :: a12 :: a13 :: a14 :: a15 :: a16 :: a17 :: a18 :: a19 :: a20 :: a21 :: a22 :: a23 :: a24 :: a25 :: a26 :: σ) H nx := h
theorem gs27 {a0 a1 a2 a3 a4 a5 a6 a7 a8 a9 a10 a11 a12 a13 a14 a15 a16 a17 a18 a19 a20 a21 a22 a23 a24 a25 a26 a27 : Option V} (h : nx (a0 :: a1 :: a2 :: a3 :: a4 :: a5 :: a6 :: a7 :: a8 :: a9 :: a10 :: a11 :: a12 :: a13 :: a14 :: a15 :: a16 :: a17 :: a18 :: a19 :: a20 :: a21 :: a22 :: a23 :: a24 :: a25 :: a26 :: some v :: σ) H) : gName 27 v (a0 :: a1 :: a2 :: a3 :: a4 :: a5 :: a6 :: a7 :: a8 :: a9 :: a10 :: a11 :: a12 :: a13 :: a14 :: a15 :: a16 :: a17 :: a18 :: a19 :: a20 :: a21 :: a22 :: a23 :: a24 :: a25 :: a26 :: a27 :: σ) H nx := h
theorem gs28 {a0 a1 a2 a3 a4 a5 a6 a7 a8 a9 a10 a11 a12 a13 a14 a15 a16 a17 a18 a19 a20 a21 a22 a23 a24 a25 a26 a27 a28 : Option V} (h : nx (a0 :: a1 :: a2 :: a3 :: a4 :: a5 :: a6 :: a7 :: a8 :: a9 :: a10 :: a11 :: a12 :: a13 :: a14 :: a15 :: a16 :: a17 :: a18 :: a19 :: a20 :: a21 :: a22 :: a23 :: a24 :: a25 :: a26 :: a27 :: some v :: σ) H) : gName 28 v (a0 :: a1 :: a2 :: a3 :: a4 :: a5 :: a6 :: a7 :: a8 :: a9 :: a10 :: a11 :: a12 :: a13 :: a14 :: a15 :: a16 :: a17 :: a18 :: a19 :: a20 :: a21 :: a22 :: a23 :: a24 :: a25 :: a26 :: a27 :: a28 :: σ) H nx := h
theorem gs29 {a0 a1 a2 a3 a4 a5 a6 a7 a8 a9 a10 a11 a12 a13 a14 a15 a16 a17 a18 a19 a20 a21 a22 a23 a24 a25 a26 a27 a28 a29 : Option V} (h : nx (a0 :: a1 :: a2 :: a3 :: a4 :: a5 :: a6 :: a7 :: a8 :: a9 :: a10 :: a11 :: a12 :: a13 :: a14 :: a15 :: a16 :: a17 :: a18 :: a19 :: a20 :: a21 :: a22 :: a23 :: a24 :: a25 :: a26 :: a27 :: a28 :: some v :: σ) H) : gName 29 v (a0 :: a1 :: a2 :: a3 :: a4 :: a5 :: a6 :: a7 :: a8 :: a9 :: a10 :: a11 :: a12 :: a13 :: a14 :: a15 :: a16 :: a17 :: a18 :: a19 :: a20 :: a21 :: a22 :: a23 :: a24 :: a25 :: a26 :: a27 :: a28 :: a29 :: σ) H nx := h
end
/-- an instance that __init__ has just filled -/
theorem made {H : Hp} {r dr : Addr} {o1 o2 : HO} (h1 : H r = none) (h2 : H dr = none) : Sub H (upd (upd (upd H dr (.own r)) r o1) r o2) := fun a x e => by
  rw [upd_ne (ne_of_none e h1), upd_ne (ne_of_none e h1), upd_ne (ne_of_none e h2)]
  exact e
theorem lookup2 {f g : Str} {u v : V} (h : (g == f) = false) : ([(f, u), (g, v)] : List (Str × V)).lookup g = some v := by
  show (match g == f with | true => some u | false => ([(g, v)] : List (Str × V)).lookup g) = _
  rw [h]
  show (match g == g with | true => some v | false => ([] : List (Str × V)).lookup g) = _
  rw [show (g == g) = true from beq_self_eq_true g]
theorem lookup1 {f : Str} {u : V} {r : List (Str × V)} : ((f, u) :: r : List (Str × V)).lookup f = some u := by
  show (match f == f with | true => some u | false => r.lookup f) = _
  rw [show (f == f) = true from beq_self_eq_true f]
theorem putF2 {f g : Str} {u v : V} (h : ¬ f = g) : putF g v (putF f u []) = [(f, u), (g, v)] := by
  unfold putF
  simp [putF, h]
theorem kit_self {K : PySem.W.Frag} {C : Addr} : PySem.W.kitOne K (.ref C) (.ref C) = some true := by
  unfold PySem.W.kitOne
  simp
/-- a test that is true -/
theorem dq {p : Prop} [Decidable p] {Q : Bool → Prop} (h : p) (k : Q true) : Q (decide p) := by
  rw [decide_eq_true h]
  exact k
theorem dqn {p : Prop} [Decidable p] {Q : Bool → Prop} (h : ¬ p) (k : Q false) : Q (decide p) := by
  rw [decide_eq_false h]
  exact k
theorem iteNT {c A B : Prop} [Decidable c] (hc : ¬ c) (h : A) : if (!decide c) = true then A else B := by
  rw [decide_eq_false hc]
  exact iteT h
theorem iteY {c A B : Prop} [Decidable c] (hc : c) (h : A) : if decide c = true then A else B := by
  rw [decide_eq_true hc]
  exact iteT h
theorem iteN {c A B : Prop} [Decidable c] (hc : ¬ c) (h : B) : if decide c = true then A else B := by
  rw [decide_eq_false hc]
  exact iteF h
theorem neI {a b : Int} (h : a ≠ b) : ¬ (V.int a = V.int b) := fun e => h (by injection e)
end Tr
set_option Elab.async false
set_option linter.all false
set_option maxRecDepth 100000
set_option maxHeartbeats 4000000
/-! TrStat: C.m(..) of a static method. -/
namespace Tr
open PySem PySem.Spec PyProof.Rows L2
/-- C.m is a static method: its record at p, its def at g -/
structure CStat (K : PySem.W.Frag) (C : Addr) (m : Str) (g : Addr) : Prop where
  rd : PySem.W.readsIn K C (.type "type") = true
  ga : PySem.W.specialIn K (.ref C) "__getattribute__" = some (some (.builtin "type.__getattribute__"))
  at_ : ∃ p, PySem.W.findCls K (.ref C) (.type "type") m = some (.get (.builtin "staticmethod.__get__") (.ref p) .none (.ref C)) ∧ ∃ rest, PySem.W.recIn K p "staticmethod" = some (.ref g :: rest)
  kp : PySem.W.keepIn K (.ref g) = true
def tStat (C : Addr) (sp : Sp) (E : XK) (ta : TE) (t : TA) : TE := fun σ H Q => ta σ H fun x H1 => x = .ref C ∧ t σ H1 fun vs H2 => sp vs H2 Q E
section
variable {X : Cx} {CX : CXT} {k : Nat} {C g : Addr} {fd : FuncData} {ps : List Str} {sp : Sp} {E : XK} {o e : Expr} {es : List Expr} {m : Str} {pos apos : Pos} {ta : TE} {t : TA} {pl : Sem Bool}
theorem getmethst_ok {pins : List (Addr × Obj)} {σ : L2.St} {H : Hp} {s : Shared} {A : Around} {E : Value → Shared → Prop} {Q : Value × List Value → Shared → Prop} (I : Inv X pins σ H s) (c : CStat X.K C m g)
    (h : ∀ s', Inv X pins σ H s' → Q (.ref g, []) s') : wpAny (model X.prog X.w) A (getMethod (.ref C) m pl) Q E s := by
  obtain ⟨p, hat, rest, hp⟩ := c.at_
  refine PySem.W.method_cls I.kIn c.ga ?_
  refine PySem.W.cls_bind I.kIn c.rd hat ?_
  exact wpAny_call (PySem.W.sm_get (s := { s with toks := s.toks + 1 }) I.kIn hp (PySem.W.handed_on rfl (h _ (I.tok _))))
theorem pe_stat (he : PE X o ta) (c : CStat X.K C m g) (F : FnOk X.prog X.w X.K X.mg X.base CX k g fd ps sp) (hr : Room k X.A) (hb : Binds X.K fd ps []) (hx : Passes CX X E) (ha : PA X (e :: es) t)
    (hst : starEach (e :: es) X.env = (false, eval e X.env) :: starEach es X.env := by rfl) (hpl : (backTo pos (starEach es X.env)).any (·.1) = false := by rfl)
    (ht : eval (.Call (.Attribute o m apos) (e :: es) [] pos) X.env = (do
      let ov ← eval o X.env
      standAt apos.atName
      let (f, first) ← holding [ov] (getMethod ov m pl)
      callWith pos f first (backTo pos (starEach (e :: es) X.env)) (backToKw pos (keywordEach [] X.env))) := by rfl) :
    PE X (.Call (.Attribute o m apos) (e :: es) [] pos) (tStat C sp E ta t) := by
  refine ⟨fun pins s σ H Q I h => ?_⟩
  refine PySem.W.methodCall_KW (pl := pl) (thn (he.run pins s σ H _ I h) fun u s1 ⟨x, H1, I1, rx, ex, q⟩ => ?_) ht
  subst ex
  obtain rfl : u = Value.ref C := rx
  refine getmethst_ok I1 c fun s2 I2 => ?_
  refine PySem.W.callWith_K (first := []) (h₀ := X.base) I.ok.mod.kin c.kp (thn (ha.run pos pins s2 σ H1 _ I2 q) fun us s3 ⟨vs, H2, I3, r, q2⟩ => ⟨I3.kIn, ?_⟩) hst hpl
  exact run_fn (us := us) (vs := vs) F hr hb .nil hx I3 r (by rw [List.append_nil]; exact q2)
end
/-- one name stored under a test: one way -/
theorem ifset {tc : TT} {te : TE} {i : Nat} {v : V} {D : Ends} {σ σ' : L2.St} {H : Hp} (b : Bool) (hc : ∀ Q : Bool → Hp → Prop, Q b H → tc σ H Q) (hv : b = true → ∀ Q : VK, Q v H → te σ H Q) (e1 : b = true → σ.set i (some v) = σ') (e2 : b = false → σ = σ') (h : D.nx σ' H) :
    tIfS tc (tAsg te (gName i)) tNext D σ H := by
  refine hc _ ?_
  cases b with
  | true =>
    refine iteT (hv rfl _ ?_)
    show D.nx (σ.set i (some v)) H
    rw [e1 rfl]; exact h
  | false =>
    refine iteF ?_
    show D.nx σ H
    rw [e2 rfl]; exact h
/-- .. where the name has a value: the value chosen -/
theorem ifsetI {tc : TT} {te : TE} {i : Nat} {v u : V} {D : Ends} {σ : L2.St} {H : Hp} (b : Bool) (hc : ∀ Q : Bool → Hp → Prop, Q b H → tc σ H Q) (hv : ∀ Q : VK, Q v H → te σ H Q) (hu : σ[i]? = some (some u)) (h : gName i (if b = true then v else u) σ H D.nx) :
    tIfS tc (tAsg te (gName i)) tNext D σ H := by
  refine hc _ ?_
  cases b with
  | true => exact iteT (hv _ h)
  | false =>
    refine iteF ?_
    show D.nx σ H
    have e : σ.set i (some u) = σ := by
      apply List.ext_getElem?
      intro j
      rw [List.getElem?_set]
      split
      · rename_i e; subst e
        split
        · exact hu.symm
        · rename_i h'; rw [List.getElem?_eq_none (by omega)] at hu; cases hu
      · rfl
    have h' : D.nx (σ.set i (some u)) H := h
    rw [e] at h'
    exact h'
theorem At.laid {G H : Hp} {M : Mu} {p : Addr} {o : HO} (A : At G M H) (h : H p = none) : ∃ G', At G' M (upd H p o) ∧ Sub G G' ∧ G' p = some o := ⟨_, A.newG h, A.newS h, upd_same⟩
theorem asgC {v : V} {D : Ends} {σ : L2.St} {H : Hp} {rest : TS} {i : Nat} (h : gName i v σ H (rest D)) : tSeq (tAsg (tC v) (gName i)) rest D σ H := h
theorem ifsetS {tc : TT} {te : TE} {i : Nat} {v u : V} {D : Ends} {σ : L2.St} {H : Hp} {rest : TS} (b : Bool) (hc : ∀ Q : Bool → Hp → Prop, Q b H → tc σ H Q) (hv : ∀ Q : VK, Q v H → te σ H Q) (hu : σ[i]? = some (some u)) (h : gName i (if b = true then v else u) σ H (rest D)) :
    tSeq (tIfS tc (tAsg te (gName i)) tNext) rest D σ H := ifsetI (D := { D with nx := rest D }) b hc hv hu h
end Tr
set_option Elab.async false
set_option linter.all false
set_option maxRecDepth 100000
set_option maxHeartbeats 4000000
/-! TrExc: X() of an own exception class raised; instances made and methods called within a try; // of great numbers of either sign. -/
namespace Tr
open PySem PySem.Spec PyProof.Rows L2
section
variable {X : Cx}
/-- X(), X an own exception class without own __init__ -/
theorem pmk_own0 {C : Addr} {bmB : List Value} {B newId initId : String} {x : Str} {p pos : Pos} (F : ExcBaseFacts B newId initId bmB) (q : PySem.W.excIn X.K C bmB newId = true) (gC : X.mg x = some (.ref C))
    (kC : PySem.W.keepIn X.K (.ref C) = true) (r : Raises X (.ref C)) (hg : Gl X x) (hdb : (x == ("__debug__" : Str)) = false := by decide) :
    PMk X (.Call (.Name x p) [] [] pos) (fun σ H Q => Q (.ref C) none H) := by
  intro pins s σ H Q I h
  refine wpAny_Call_Name_kw (ld_glob I hg gC ?_ hdb)
  refine PySem.W.callWith_K0 I.kIn kC ?_
  show wpAny _ _ (call (.ref C) []) _ _ _
  obtain ⟨bm, N, nm, qn, bs, hdct, sn, sub, ab, col, dd, k0, k1, k2, k3, k5, mN, hC, hN, hni, T⟩ := exc_obj I.kIn q
  refine wpAny_call_exc_subT F T hC hN hni (fun h' e hm => ?_) (Nat.zero_le _)
  exact mk_of I hm r h (I.hok.gone hm.new)
end
/-- // by any divisor but 0, below 2 ^ 9000 in size -/
def CDivS (_ j : Int) : Prop := j ≠ 0 ∧ j.natAbs.log2 < 9000
theorem op_fdivS {X : Cx} : OpR X (binaryOp .FloorDiv) (rI CDivS fun i j => .int (i.fdiv j)) := opI fun i j _ _ _ _ _ hc q => floordiv_int hc.1 q (.inl (PyProof.noPylong_of_log2 hc.2))
theorem wide_divS {i j : Int} {b : Nat} (h : j ≠ 0) (hb : j.natAbs < 2 ^ b) (h0 : 0 < b) (h9 : b ≤ 9000) : CDivS i j := ⟨h, Nat.lt_of_lt_of_le (PySem.Flt.log2_lt_of h0 hb) h9⟩
section
variable {X : Cx} {CX : CXT} {k : Nat} {f C : Addr} {fd : FuncData} {ps : List Str} {sp : Sp} {E : L2.St → XK} {dvs : List V} {ds : List Value} {x m : Str} {p pos apos : Pos} {e o : Expr} {es : List Expr} {ta : TE} {t : TA}
theorem run_makeS {pins : List (Addr × Obj)} {σ : L2.St} {H : Hp} {s : Shared} {Q : VK} {us : List Value} {vs : List V} (M : Mk X.K C f) (F : FnOk X.prog X.w X.K X.mg X.base CX k f fd ps sp) (hr : Room (k + 1) X.A) (hb : Binds X.K fd ps ds) (hd : Vals dvs ds)
    (hx : PassesAt CX X σ (E σ)) (I : Inv X pins σ H s) (r : Vals vs us)
    (h : ∀ x dx, H x = none → H dx = none → dx ≠ x → sp (.ref x :: (vs ++ dvs)) (upd (upd H dx (.own x)) x (.ins C dx [])) (fun v H2 => v = .non ∧ Q (.ref x) H2) (E σ)) :
    wpAny (model X.prog X.w) X.A (call (.ref C) us) (EP X pins σ Q) X.xe s := by
  have hq := h (s.heap.objs.size + 1) s.heap.objs.size (I.hok.fresh (Nat.le_succ _)) (I.hok.fresh (Nat.le_refl _)) (Nat.ne_of_lt (Nat.lt_succ_self _))
  have I2 := Inv.made (C := C) I
  have r2 : Vals (V.ref (s.heap.objs.size + 1) :: (vs ++ dvs)) (Value.ref (s.heap.objs.size + 1) :: (us ++ ds)) := .cons rfl (r.append hd)
  have hl : (Value.ref (s.heap.objs.size + 1) :: us ++ ds).length = ps.length := by
    have e := r2.length
    rw [F.len _ _ _ _ hq] at e
    exact e.symm
  refine wpAny_call (make_map (f := f) I.kIn M.makes M.init (beq_iff_eq.mp M.fn) (codeAny_mono (F.run _ X.stack _ _ ⟨Value.ref (s.heap.objs.size + 1) :: us, []⟩ (Value.ref (s.heap.objs.size + 1) :: (us ++ ds)) _ _ (E σ) (hr.make C us [])
    (I2.env0.make C us []) (hb _ (Value.ref (s.heap.objs.size + 1) :: us) I2.kIn hl) r2 hq) fun r s' hq' => ?_))
  cases r with
  | error e => exact hx pins _ _ e s' I2 hq'
  | ok fl =>
    cases fl with
    | ret u =>
      obtain ⟨v, H', I3, rv, ev, q3⟩ := I2.after hq'
      subst ev
      exact ⟨rv, ⟨V.ref (s.heap.objs.size + 1), H', I3, rfl, q3⟩⟩
    | next => exact False.elim hq'
    | brk => exact False.elim hq'
    | cont => exact False.elim hq'
def tMakeS (C : Addr) (sp : Sp) (dvs : List V) (E : L2.St → XK) (t : TA) : TE := fun σ H Q => t σ H fun vs H1 => ∀ x dx, H1 x = none → H1 dx = none → dx ≠ x →
  sp (.ref x :: (vs ++ dvs)) (upd (upd H1 dx (.own x)) x (.ins C dx [])) (fun v H2 => v = .non ∧ Q (.ref x) H2) (E σ)
/-- C(..) within a try -/
theorem pe_makeS (M : Mk X.K C f) (F : FnOk X.prog X.w X.K X.mg X.base CX k f fd ps sp) (hr : Room (k + 1) X.A) (hg : Gl X x) (hm : X.mg x = some (.ref C)) (hb : Binds X.K fd ps ds) (hd : Vals dvs ds) (hx : ∀ σ, PassesAt CX X σ (E σ))
    (ha : PA X (e :: es) t) (hdb : (x == ("__debug__" : Str)) = false := by decide) (he : starEach (e :: es) X.env = (false, eval e X.env) :: starEach es X.env := by rfl) (hpl : (backTo pos (starEach es X.env)).any (·.1) = false := by rfl) :
    PE X (.Call (.Name x p) (e :: es) [] pos) (tMakeS C sp dvs E t) := by
  refine ⟨fun pins s σ H Q I h => ?_⟩
  refine wpAny_Call_Name_kw (ld_glob I hg hm ?_ hdb)
  refine PySem.W.callWith_K (h₀ := X.base) I.ok.mod.kin M.kp (thn (ha.run pos pins s σ H _ I h) fun us s1 ⟨vs, H1, I1, r, q⟩ => ⟨I1.kIn, ?_⟩) he hpl
  exact run_makeS M F hr hb hd (hx σ) I1 r q
def tMethS (C : Addr) (m : Str) (sp : Sp) (E : L2.St → XK) (ta : TE) (t : TA) : TE := fun σ H Q => ta σ H fun x H1 => ∃ a dx fs, x = .ref a ∧ H1 a = some (.ins C dx fs) ∧ fs.lookup m = none ∧
  t σ H1 fun vs H2 => sp (x :: vs) H2 Q (E σ)
/-- o.m(e, ..) within a try -/
theorem pe_methT {pl : Sem Bool} (he : PE X o ta) (c : Cls X.K C) (hm : Meth X.K C m f) (F : FnOk X.prog X.w X.K X.mg X.base CX k f fd ps sp) (hr : Room k X.A) (hb : Binds X.K fd ps []) (hx : ∀ σ, PassesAt CX X σ (E σ)) (ha : PA X (e :: es) t)
    (hst : starEach (e :: es) X.env = (false, eval e X.env) :: starEach es X.env := by rfl) (hpl : (backTo pos (starEach es X.env)).any (·.1) = false := by rfl)
    (ht : eval (.Call (.Attribute o m apos) (e :: es) [] pos) X.env = (do
      let ov ← eval o X.env
      standAt apos.atName
      let (f, first) ← holding [ov] (getMethod ov m pl)
      callWith pos f first (backTo pos (starEach (e :: es) X.env)) (backToKw pos (keywordEach [] X.env))) := by rfl) :
    PE X (.Call (.Attribute o m apos) (e :: es) [] pos) (tMethS C m sp E ta t) := by
  refine ⟨fun pins s σ H Q I h => ?_⟩
  refine PySem.W.methodCall_KW (pl := pl) (thn (he.run pins s σ H _ I h) fun u s1 ⟨x, H1, I1, rx, a, dx, fs, ex, ea, l, q⟩ => ?_) ht
  subst ex
  obtain rfl : u = Value.ref a := rx
  refine getmeth_ok I1 ea c hm l ?_
  refine PySem.W.callWith_K (first := [.ref a]) (h₀ := X.base) I.ok.mod.kin hm.kp (thn (ha.run pos pins s1 σ H1 _ I1 q) fun us s2 ⟨vs, H2, I2, r, q2⟩ => ⟨I2.kIn, ?_⟩) hst hpl
  exact run_fnS (us := .ref a :: us) (vs := .ref a :: vs) F hr hb (hx σ) I2 (.cons rfl r) q2
end
/-- what is asked ahead of a block's rule -/
def tWhen (p : Prop) (t : TS) : TS := fun D σ H => p ∧ t D σ H
theorem pss_when {X : Cx} {p : Prop} {sts : List Stmt} {t : TS} (h : p → PSs X sts t) : PSs X sts (tWhen p t) := ⟨fun pins s σ H D I hq => (h hq.1).run pins s σ H D I hq.2⟩
section
variable {X : Cx} {x n : Str} {c : Value} {D : Addr} {i : Nat} {body suite : List Stmt} {b₀ : Stmt} {np pos pos' : Pos} {tb : WX → TS} {ts : Addr → TS} {Wout : WX}
/-- try .. except X as n, of exceptions of the class D without a dict of their own -/
theorem ps_try_asN (hs : X.stack = X.env :: X.outer) (hf : X.env.frame = some X.env.locals) (hN : X.N.Nodup) (hi : X.N[i]? = some n) (hln : X.env.kindOf n = some .local) (hc : Names X x c) (tk : Takes X Wout)
    (hb : ∀ (W : WX) (pn : List (Addr × Obj)) (xe : Value → Shared → Prop), Takes (X.tr pn xe) W → PassesOwn (model X.prog X.w) X.A X.env xe → PSs (X.tr pn xe) body (tb W))
    (hsu : ∀ (a : Addr) (oe : Obj) (pn : List (Addr × Obj)), Zc (.ref D) none oe → (∃ vs, oe.data = .fields vs) → PSs (X.suite a ((a, oe) :: pn)) (b₀ :: suite) (ts a)) :
    PS X (.Try body [.ExceptHandler (some (.Name x np)) (some n) (b₀ :: suite) pos'] [] [] pos) (fun D' σ H => tb (wAs X.K c i (fun a cls d => tWhen (cls = .ref D ∧ d = none) (ts a)) Wout D') D' σ H) :=
  ps_try_as hs hf hN hi hln hc tk hb fun a oe cls d pn hz hf => pss_when fun e => by
    obtain ⟨rfl, rfl⟩ := e
    exact hsu a oe pn hz hf
end
theorem excC_of {K : PySem.W.Frag} {D : Addr} (hg : PySem.W.findIn K (.ref D) "__getattribute__" = some (some (.builtin "BaseException.__getattribute__"))) (hk : PySem.W.findIn K (.ref D) "__getattr__" = some none) (hs : PySem.W.subIn K (.ref D) (.type "BaseException") = some true)
    (hd : PySem.W.hasDictIn K D = true) (ha : PySem.W.findIn K (.ref D) "__class__" = some (some (.builtin "object.__class__"))) (hn : PySem.W.specialIn K (.builtin "object.__class__") "__get__" = some (some (.builtin "getset_descriptor.__get__")))
    (ht : PySem.W.takesIn K (.builtin "object.__class__") = some true) (hm : PySem.W.mroIn K D (.type "object") = some true) : ExcC K D := ⟨hg, hk, hs, hd, ha, hn, ht, hm⟩
theorem binds_z {K : PySem.W.Frag} {fd : FuncData} {ps : List Str} (h : ∃ ds, Vals [] ds ∧ Binds K fd ps ds) : Binds K fd ps [] := by
  obtain ⟨ds, hv, hb⟩ := h
  cases hv
  exact hb
section
variable {X : Cx} {CX : CXT} {k : Nat} {f C : Addr} {fd : FuncData} {ps : List Str} {sp : Sp} {E : XK}
/-- the callee runs one unit deeper -/
theorem run_fnIn {pins : List (Addr × Obj)} {σ : L2.St} {H : Hp} {s : Shared} {Q : VK} {us : List Value} {vs : List V} (F : FnOk X.prog X.w X.K X.mg X.base CX k f fd ps sp) (hr : Room (k + 1) X.A) (hb : Binds X.K fd ps []) (hx : Passes CX X E)
    (I : Inv X pins σ H s) (r : Vals vs us) (h : sp vs H Q E) : wpAny (model X.prog X.w) X.A.in1 (call (.ref f) us) (EP X pins σ Q) X.xe s := by
  have hl : (us ++ []).length = ps.length := by rw [List.append_nil, ← r.length]; exact F.len _ _ _ _ h
  have b := hb s us I.kIn hl
  rw [List.append_nil] at b
  refine wpAny_call (codeAny_mono (F.run X.A.in1 X.stack s H ⟨us, []⟩ us vs Q E hr.in1 I.env0.in1 b r h) fun r s' hq => ?_)
  cases r with
  | error e => exact hx pins σ H s e s' I hq
  | ok fl =>
    cases fl with
    | ret u => exact I.after hq
    | next => exact False.elim hq
    | brk => exact False.elim hq
    | cont => exact False.elim hq
/-- abs(x), x of a class with an own __abs__ -/
theorem call_absOwn (F : FnOk X.prog X.w X.K X.mg X.base CX k f fd ps sp) (hr : Room (k + 1) X.A) (hb : Binds X.K fd ps []) (hx : Passes CX X E) (m : Meth X.K C "__abs__" f) :
    CallR X (.builtin "abs") (fun xs H Q => ∃ a dx fs, xs = [.ref a] ∧ H a = some (.ins C dx fs) ∧ sp [.ref a] H Q E) := by
  intro pins s σ H xs us Q I r h
  obtain ⟨a, dx, fs, rfl, ha, q⟩ := h
  obtain rfl := Vals.ref1 r
  obtain ⟨ox, od, J⟩ := inst_of I ha
  refine Calls.call_function_entry kind_abs plain_abs entry_abs (args_abs _) ?_
  unfold Builtin.«abs»
  refine wpAny_bind (m := oneArg "abs" _) (wpAny_pure ?_)
  refine wpAny_bind (m := callSpecial? (.ref a) (Str.ofString "__abs__")) (PySem.W.special_fn I.kIn J m.at_ (beq_iff_eq.mp m.fn) (wpAny_mono (run_fnIn (us := [.ref a]) (vs := [.ref a]) F hr hb hx I (.cons rfl .nil) q) (fun v s' hv => ?_) fun _ _ e => e))
  exact wpAny_pure ⟨_, rfl, hv⟩
end
end Tr
set_option Elab.async false
set_option linter.all false
set_option maxRecDepth 100000
set_option maxHeartbeats 4000000
/-! TrRatio: ratios in lowest terms, and Euclid's steps: plain mathematics. -/
namespace Tr
/-- the divisor, with the bottom's sign -/
def sd (t b : Int) : Int := if b < 0 then -((Int.gcd t b : Nat) : Int) else ((Int.gcd t b : Nat) : Int)
def nT (t b : Int) : Int := t.fdiv (sd t b)
def nB (t b : Int) : Int := b.fdiv (sd t b)
theorem gcd_pos {t b : Int} (h : b ≠ 0) : 0 < Int.gcd t b := Int.gcd_pos_of_ne_zero_right t h
theorem sd_ne {t b : Int} (h : b ≠ 0) : sd t b ≠ 0 := by
  have := gcd_pos (t := t) h
  unfold sd
  split <;> omega
theorem sd_abs (t b : Int) : (sd t b).natAbs = Int.gcd t b := by
  unfold sd
  split <;> omega
theorem sd_dt (t b : Int) : sd t b ∣ t := by
  rw [← Int.natAbs_dvd_natAbs, sd_abs]
  exact Nat.gcd_dvd_left _ _
theorem sd_db (t b : Int) : sd t b ∣ b := by
  rw [← Int.natAbs_dvd_natAbs, sd_abs]
  exact Nat.gcd_dvd_right _ _
theorem fdiv_ex {a d : Int} (h : d ∣ a) : a.fdiv d * d = a := by
  rw [Int.fdiv_eq_ediv_of_dvd h]
  exact Int.ediv_mul_cancel h
theorem nT_mul (t b : Int) : nT t b * sd t b = t := fdiv_ex (sd_dt t b)
theorem nB_mul (t b : Int) : nB t b * sd t b = b := fdiv_ex (sd_db t b)
theorem pos_left {a g : Int} (h : 0 < a * g) (hg : 0 < g) : 0 < a := by
  by_cases c : a ≤ 0
  · have := Int.mul_le_mul_of_nonneg_right c (Int.le_of_lt hg)
    omega
  · omega
theorem nB_pos {t b : Int} (h : b ≠ 0) : 1 ≤ nB t b := by
  have e := nB_mul t b
  have g := gcd_pos (t := t) h
  unfold sd at e
  split at e
  · rename_i hb
    have e2 : nB t b * ((Int.gcd t b : Nat) : Int) = -b := by rw [Int.mul_neg] at e; omega
    have : 0 < nB t b * ((Int.gcd t b : Nat) : Int) := by omega
    have := pos_left this (by omega)
    omega
  · have : 0 < nB t b * ((Int.gcd t b : Nat) : Int) := by omega
    have := pos_left this (by omega)
    omega
theorem val_eq {t b : Int} (h : b ≠ 0) : nT t b * b = t * nB t b := by
  have e1 := nT_mul t b
  have e2 := nB_mul t b
  have : nT t b * (nB t b * sd t b) = (nT t b * sd t b) * nB t b := by rw [Int.mul_comm (nB t b), Int.mul_assoc]
  rw [e1, e2] at this
  exact this
theorem nT_le {t b : Int} (h : b ≠ 0) : (nT t b).natAbs ≤ t.natAbs := by
  have e := congrArg Int.natAbs (nT_mul t b)
  rw [Int.natAbs_mul, sd_abs] at e
  rw [← e]
  exact Nat.le_mul_of_pos_right _ (gcd_pos h)
theorem nB_le {t b : Int} (h : b ≠ 0) : (nB t b).natAbs ≤ b.natAbs := by
  have e := congrArg Int.natAbs (nB_mul t b)
  rw [Int.natAbs_mul, sd_abs] at e
  rw [← e]
  exact Nat.le_mul_of_pos_right _ (gcd_pos h)
theorem n_cop {t b : Int} (h : b ≠ 0) : Nat.gcd (nT t b).natAbs (nB t b).natAbs = 1 := by
  have e1 := congrArg Int.natAbs (nT_mul t b)
  have e2 := congrArg Int.natAbs (nB_mul t b)
  rw [Int.natAbs_mul, sd_abs] at e1 e2
  have e3 : Nat.gcd ((nT t b).natAbs * Int.gcd t b) ((nB t b).natAbs * Int.gcd t b) = Int.gcd t b := by rw [e1, e2]; rfl
  rw [Nat.gcd_mul_right] at e3
  have g := gcd_pos (t := t) h
  exact Nat.eq_of_mul_eq_mul_right g (by rw [e3, Nat.one_mul])
/-- a ratio of the value T / B in lowest terms -/
structure LowT (t b T B : Int) : Prop where
  pos : 1 ≤ b
  cop : Nat.gcd t.natAbs b.natAbs = 1
  val : t * B = T * b
theorem low_n {t b T B : Int} (h : b ≠ 0) (e : t * B = T * b) : LowT (nT t b) (nB t b) T B := by
  refine ⟨nB_pos h, n_cop h, ?_⟩
  have e1 := nT_mul t b
  have e2 := nB_mul t b
  have hs := sd_ne (t := t) h
  apply Int.eq_of_mul_eq_mul_right hs
  rw [Int.mul_assoc, Int.mul_comm B, ← Int.mul_assoc, e1, Int.mul_assoc, e2, e]
theorem LowT.cast {t b N D N' D' : Int} (L : LowT t b N D) (hD : D ≠ 0) (e : N * D' = N' * D) : LowT t b N' D' := by
  refine ⟨L.pos, L.cop, ?_⟩
  apply Int.eq_of_mul_eq_mul_right hD
  have h := L.val
  calc t * D' * D = t * D * D' := by rw [Int.mul_assoc, Int.mul_comm D', ← Int.mul_assoc]
    _ = N * b * D' := by rw [h]
    _ = N * D' * b := by rw [Int.mul_assoc, Int.mul_comm b, ← Int.mul_assoc]
    _ = N' * D * b := by rw [e]
    _ = N' * b * D := by rw [Int.mul_assoc, Int.mul_comm D, ← Int.mul_assoc]
theorem LowT.le {t b N D : Int} (L : LowT t b N D) (hD : D ≠ 0) : t.natAbs ≤ N.natAbs ∧ b.natAbs ≤ D.natAbs := by
  have e := congrArg Int.natAbs L.val
  rw [Int.natAbs_mul, Int.natAbs_mul] at e
  have hd : 0 < D.natAbs := by omega
  have h1 : b.natAbs ∣ D.natAbs := by
    have : b.natAbs ∣ t.natAbs * D.natAbs := ⟨N.natAbs, by rw [e, Nat.mul_comm]⟩
    exact (show Nat.Coprime b.natAbs t.natAbs from by rw [Nat.coprime_comm]; exact L.cop).dvd_of_dvd_mul_left this
  have h2 := Nat.le_of_dvd hd h1
  refine ⟨?_, h2⟩
  have h3 : t.natAbs * D.natAbs ≤ N.natAbs * D.natAbs := by rw [e]; exact Nat.mul_le_mul_left _ h2
  exact Nat.le_of_mul_le_mul_right h3 hd
/-- sizes of a ratio's parts -/
structure B5 (t b : Int) : Prop where
  bt : t.natAbs < 2 ^ 500
  bb : b.natAbs < 2 ^ 500
  ps : 1 ≤ b
theorem B5.ne {t b : Int} (h : B5 t b) : b ≠ 0 := by have := h.ps; omega
theorem pr5 {a b : Int} (ha : a.natAbs < 2 ^ 500) (hb : b.natAbs < 2 ^ 500) : (a * b).natAbs < 2 ^ 1000 := by
  rw [Int.natAbs_mul, show (1000 : Nat) = 500 + 500 from rfl, Nat.pow_add]
  exact Nat.mul_lt_mul'' ha hb
theorem dbl {n : Nat} : (2 : Nat) ^ (n + 1) = 2 * 2 ^ n := by rw [Nat.pow_succ, Nat.mul_comm]
theorem sm5 {a b : Int} (ha : a.natAbs < 2 ^ 1000) (hb : b.natAbs < 2 ^ 1000) : (a + b).natAbs < 2 ^ 1001 := by
  rw [show (1001 : Nat) = 1000 + 1 from rfl, dbl]
  generalize (2 : Nat) ^ 1000 = z at *
  omega
theorem u10 {a : Int} (h : a.natAbs < 2 ^ 1000) : a.natAbs < 2 ^ 2000 := Nat.lt_trans h (Nat.pow_lt_pow_right (by decide) (by decide))
theorem u11 {a : Int} (h : a.natAbs < 2 ^ 1001) : a.natAbs < 2 ^ 2000 := Nat.lt_trans h (Nat.pow_lt_pow_right (by decide) (by decide))
theorem u50 {a : Int} (h : a.natAbs < 2 ^ 500) : a.natAbs < 2 ^ 2000 := Nat.lt_trans h (Nat.pow_lt_pow_right (by decide) (by decide))
/-! ### Euclid's steps -/
structure Euc (g i a b : Nat) : Prop where
  gc : Nat.gcd a b = g
  z : i = 0 → a < 2 ^ 2000 ∧ b < 2 ^ 2000
  s : ∀ j, i = j + 1 → b < a ∧ a * b * 2 ^ j < 2 ^ 4000
theorem Euc.start {a b : Nat} (ha : a < 2 ^ 2000) (hb : b < 2 ^ 2000) : Euc (Nat.gcd a b) 0 a b := ⟨rfl, fun _ => ⟨ha, hb⟩, fun j e => by omega⟩
theorem Euc.step {g i a b : Nat} (h : Euc g i a b) (hb : b ≠ 0) : Euc g (i + 1) b (a % b) := by
  have hr : a % b < b := Nat.mod_lt _ (by omega)
  refine ⟨?_, fun e => by omega, fun j e => ?_⟩
  · rw [← h.gc, Nat.gcd_comm a b, Nat.gcd_rec b a, Nat.gcd_comm]
  · have ej : j = i := by omega
    subst ej
    refine ⟨hr, ?_⟩
    cases j with
    | zero =>
      obtain ⟨_, h2⟩ := h.z rfl
      rw [Nat.pow_zero, Nat.mul_one]
      have e4 : (2 : Nat) ^ 4000 = 2 ^ 2000 * 2 ^ 2000 := by rw [← Nat.pow_add]
      rw [e4]
      exact Nat.mul_lt_mul'' h2 (Nat.lt_trans hr h2)
    | succ j =>
      obtain ⟨h1, h2⟩ := h.s j rfl
      have hd := Nat.div_add_mod a b
      have hq : 1 ≤ a / b := Nat.div_pos (Nat.le_of_lt h1) (by omega)
      have hq2 : b * 1 ≤ b * (a / b) := Nat.mul_le_mul_left b hq
      have h3 : 2 * (a % b) ≤ a := by omega
      refine Nat.lt_of_le_of_lt ?_ h2
      rw [Nat.pow_succ]
      have h4 : b * (2 * (a % b)) ≤ b * a := Nat.mul_le_mul_left b h3
      calc b * (a % b) * (2 ^ j * 2) = b * (2 * (a % b)) * 2 ^ j := by
            rw [Nat.mul_comm (2 ^ j) 2, ← Nat.mul_assoc, Nat.mul_assoc b, Nat.mul_comm (a % b) 2]
        _ ≤ b * a * 2 ^ j := Nat.mul_le_mul_right _ h4
        _ = a * b * 2 ^ j := by rw [Nat.mul_comm b a]
theorem Euc.fin {g a b : Nat} (h : Euc g 9000 a b) : b = 0 := by
  obtain ⟨h1, h2⟩ := h.s 8999 rfl
  cases b with
  | zero => rfl
  | succ b =>
    exfalso
    have h3 : 1 ≤ a * (b + 1) := Nat.mul_pos (by omega) (by omega)
    have h4 : 1 * 2 ^ 8999 ≤ a * (b + 1) * 2 ^ 8999 := Nat.mul_le_mul_right _ h3
    have h5 : (2 : Nat) ^ 4000 < 2 ^ 8999 := Nat.pow_lt_pow_right (by decide) (by decide)
    generalize (2 : Nat) ^ 8999 = u at *
    generalize (2 : Nat) ^ 4000 = v at *
    omega
theorem fmod_nat (a b : Nat) : ((a : Nat) : Int).fmod (b : Int) = ((a % b : Nat) : Int) := by
  rw [Int.fmod_eq_emod_of_nonneg _ (by omega)]
  rfl
theorem abs_nat (a : Int) : (if a < 0 then -a else a) = ((a.natAbs : Nat) : Int) := by split <;> omega
end Tr
set_option Elab.async false
set_option linter.all false
set_option maxRecDepth 100000
set_option maxHeartbeats 4000000
/-! TrCmp: a > b, a >= b of two instances of a class that defines only < and <=; an own operator within a try. -/
namespace Tr
open PySem PySem.Spec PyProof.Rows L2
theorem gt_bind (self : Value) : bindSpecial (.builtin "object.__gt__") self = pure (.builtin "object.__gt__", [self]) :=
  (Slot.of (T := "object") (name := "__gt__") (owner := "object") (n := "__gt__") (by rw [typeLookup_type, builtinLookup_eq_fast]; kernel_rfl) (by decide +kernel) (by decide +kernel) (by decide +kernel)
    (.inl (by decide +kernel)) (by rw [isSubtype_type]; kernel_rfl)).bind self
theorem ge_bind (self : Value) : bindSpecial (.builtin "object.__ge__") self = pure (.builtin "object.__ge__", [self]) :=
  (Slot.of (T := "object") (name := "__ge__") (owner := "object") (n := "__ge__") (by rw [typeLookup_type, builtinLookup_eq_fast]; kernel_rfl) (by decide +kernel) (by decide +kernel) (by decide +kernel)
    (.inl (by decide +kernel)) (by rw [isSubtype_type]; kernel_rfl)).bind self
theorem entry_gt : entryFor table "object.__gt__" = some Builtin.«object.__gt__» := entryFor_of_tree (by kernel_rfl)
theorem entry_ge : entryFor table "object.__ge__" = some Builtin.«object.__ge__» := entryFor_of_tree (by kernel_rfl)
theorem gt_args (a b : Value) : argsOk "object.__gt__" ⟨[a, b], []⟩ := by unfold argsOk; kernel_rfl
theorem ge_args (a b : Value) : argsOk "object.__ge__" ⟨[a, b], []⟩ := by unfold argsOk; kernel_rfl
theorem gt_run (a b : Value) : Builtin.«object.__gt__» ⟨[a, b], []⟩ = pure (.done (.ret .notImplemented)) := by kernel_rfl
theorem ge_run (a b : Value) : Builtin.«object.__ge__» ⟨[a, b], []⟩ = pure (.done (.ret .notImplemented)) := by kernel_rfl
/-- a slot of object that declines -/
structure Declines (nm : Str) (id : String) : Prop where
  bnd : ∀ self, bindSpecial (.builtin id) self = pure (.builtin id, [self])
  run : ∃ (B : Builtin) (n : String), entryFor table id = some B ∧ plainId id = true ∧ builtinKind id = some .slot ∧ splitId id = some ("object", n) ∧ (∀ a b : Value, argsOk id ⟨[a, b], []⟩) ∧ ∀ a b : Value, B ⟨[a, b], []⟩ = pure (.done (.ret .notImplemented))
theorem dec_gt : Declines "__gt__" "object.__gt__" := ⟨gt_bind, _, "__gt__", entry_gt, by decide +kernel, by decide +kernel, by decide +kernel, gt_args, gt_run⟩
theorem dec_ge : Declines "__ge__" "object.__ge__" := ⟨ge_bind, _, "__ge__", entry_ge, by decide +kernel, by decide +kernel, by decide +kernel, ge_args, ge_run⟩
section
open PySem.W
variable {prog : Program} {w : World} {A : Around} {E : Value → Shared → Prop} {s : Shared} {K : Frag} {x y C L f : Addr} {h₀ : Heap} {m : Str → Option Value} {ox oy : Obj} {od oe : Option Obj} {name : Str} {b : Value} {id : String}
theorem try_declines {Q : Option Value → Shared → Prop} (D : Declines name id) (X : K.In s.heap) (I : InstAt s.heap x ox C od) (hs : findIn K (.ref C) name = some (some (.builtin id))) (ho : mroIn K C (.type "object") = some true)
    (h : Q none s) : wpAny (model prog w) A (tryCompare (.ref x) name b) Q E s := by
  obtain ⟨B, n, e1, e2, e3, e4, e5, e6⟩ := D.run
  have hi : Looks (model prog w) s.heap (isInstance (.ref x) (.type "object")) true := I.type.andThen (looks_mroIn X ho)
  have hc : ∀ {A : Around} {E : Value → Shared → Prop}, wpAny (model prog w) A (call (.builtin id) [.ref x, b]) (fun v s' => v = .notImplemented ∧ s' = s) E s := fun {A} {E} => by
    refine wpAny_call (codeAny_call_builtin e2 e1 (check_slot e3 e4 hi (e5 _ _) ?_))
    rw [e6]
    exact wpAny_pure ⟨rfl, rfl⟩
  have bn : Looks (model prog w) s.heap (bindSpecial (.builtin id) (.ref x)) (.builtin id, [.ref x]) := Looks.of_pure (D.bnd _)
  unfold tryCompare
  refine wpAny_bind ?_
  simp only [callSpecialIfBound?, bindSpecialIfBound?]
  refine wpAny_holding (wpAny_bind (wpAny_bind (wpAny_bind (I.type.here ((looks_findIn X hs).here ?_)))))
  refine wpAny_bind (wpAny_askSetting (wpAny_ite ?_))
  have fin : wpAny (model prog w) A (call (.builtin id) ([.ref x] ++ [b]) >>= fun v => pure (some v)) (fun r s1 => wpAny (model prog w) A (match r with | some .notImplemented | none => pure none | some v => pure (some v)) Q E s1) E s :=
    wpAny_bind (wpAny_mono hc (fun v s' h' => by obtain ⟨rfl, rfl⟩ := h'; exact wpAny_pure (wpAny_pure h)) fun _ _ h' => h')
  split
  · exact wpAny_bind (bn.here (wpAny_pure (by exact fin)))
  · exact wpAny_tryCatch (wpAny_bind (bn.here (wpAny_pure (by exact fin))))
theorem cmp_refl {op : CmpOp} {Q : Value → Shared → Prop} (hu : A.units < cLine) (F : Fr h₀ L s.heap m) (X₀ : K.In h₀) (I : InstAt s.heap x ox C od) (J : InstAt s.heap y oy C oe)
    (h1 : oneThing? op (.ref x) (.ref y) = none) (D : Declines (cmpInfo op).2.1 id) (hs : findIn K (.ref C) (cmpInfo op).2.1 = some (some (.builtin id))) (ho : mroIn K C (.type "object") = some true)
    (hs2 : findIn K (.ref C) (cmpInfo op).2.2 = some (some (.ref f))) (hf : isFn K (.ref f) = true)
    (h : wpAny (model prog w) A (call (.ref f) [.ref y, .ref x]) (PySem.W.CmpBack Q) E s) : wpAny (model prog w) A (richCompare op (.ref x) (.ref y)) Q E s := by
  have X := X₀.keeps F.keep
  have one : wpAny (model prog w) A (tryCompare (.ref y) (cmpInfo op).2.2 (.ref x)) (fun r s' => ∃ v, r = some v ∧ Q v s') E s := by
    unfold tryCompare
    refine wpAny_bind (ifBound_K X J hs2 hf (wpAny_mono h (fun v s' hv => ?_) fun _ _ e => e))
    cases v <;> first | exact hv.elim | exact wpAny_pure ⟨_, rfl, hv⟩
  unfold richCompare
  simp only [oneThing_ref]
  refine wpAny_holding (wpAny_bind (wpAny_cRoomFor hu ?_))
  refine wpAny_bind (I.type.here (wpAny_bind (J.type.here ?_)))
  have e0 : (Value.ref C != Value.ref C) = false := by simp
  simp only [e0, Bool.false_eq_true, if_false]
  refine wpAny_bind (wpAny_pure ?_)
  simp only [Bool.false_eq_true, if_false, Bool.not_false, if_true]
  refine wpAny_bind (try_declines D X I hs ho ?_)
  dsimp only
  refine wpAny_bind (wpAny_mono one (fun r s' z => ?_) fun _ _ e => e)
  obtain ⟨v, rfl, hq⟩ := z
  exact wpAny_pure hq
end
section
variable {X : Cx} {CX : CXT} {k : Nat} {C f : Addr} {fd : FuncData} {ps : List Str} {sp : Sp} {E : XK} {id : String}
/-- b's method gets a -/
def rOwnX (C : Addr) (sp : Sp) (E : XK) : R2 := fun x y H Q => ∃ a dx fs b dy gs, x = .ref a ∧ y = .ref b ∧ H a = some (.ins C dx fs) ∧ H b = some (.ins C dy gs) ∧ sp [y, x] H Q E
theorem op_cmpX {op : CmpOp} (hop : ∀ v u : Value, compareOp op v u = richCompare op v u) (h1 : ∀ a b : Addr, oneThing? op (.ref a) (.ref b) = none) (F : FnOk X.prog X.w X.K X.mg X.base CX k f fd ps sp) (hr : Room k X.A) (hb : Binds X.K fd ps []) (hx : Passes CX X E)
    (D : Declines (cmpInfo op).2.1 id) (hs : PySem.W.findIn X.K (.ref C) (cmpInfo op).2.1 = some (some (.builtin id))) (ho : PySem.W.mroIn X.K C (.type "object") = some true) (m : Meth X.K C (cmpInfo op).2.2 f) :
    OpR X (compareOp op) (rOwnX C sp E) := by
  intro pins s σ H x y v u Q I rx ry h
  obtain ⟨a, dx, fs, b, dy, gs, rfl, rfl, ha, hb', q⟩ := h
  cases (show v = Value.ref a from rx)
  cases (show u = Value.ref b from ry)
  obtain ⟨ox, od, J⟩ := inst_of I ha
  obtain ⟨ox2, od2, J2⟩ := inst_of I hb'
  obtain ⟨mm, Fm⟩ := I.fr
  rw [hop]
  refine cmp_refl hr.units0 Fm I.mod.kin J J2 (h1 a b) D hs ho m.at_ m.fn ?_
  exact thn (run_fn (us := [.ref b, .ref a]) (vs := [.ref b, .ref a]) F hr hb .nil hx I (.cons rfl (.cons rfl .nil)) q) fun r s' hq => back_of hq
theorem hop_gt (v u : Value) : compareOp .Gt v u = richCompare .Gt v u := rfl
theorem hop_ge (v u : Value) : compareOp .GtE v u = richCompare .GtE v u := rfl
theorem one_ref {op : CmpOp} (a b : Addr) : oneThing? op (.ref a) (.ref b) = none := oneThing_ref ..
end
/-! ### an own operator within a try -/
section
variable {X : Cx} {CX : CXT} {k : Nat} {C f : Addr} {fd : FuncData} {ps : List Str} {sp : Sp} {E : L2.St → XK} {a b : Expr} {pos : Pos} {ta tb : TE}
/-- a op b, a an instance, b an instance of the class or an int -/
def tOwnS (C : Addr) (sp : Sp) (E : L2.St → XK) (ta tb : TE) : TE := fun σ H Q => ta σ H fun x H1 => tb σ H1 fun y H2 => ∃ a dx fs, x = .ref a ∧ H2 a = some (.ins C dx fs) ∧ ((∃ b dy gs, y = .ref b ∧ H2 b = some (.ins C dy gs)) ∨ ∃ j, y = .int j) ∧ sp [x, y] H2 Q (E σ)
theorem pe_opS {op : Operator} (F : FnOk X.prog X.w X.K X.mg X.base CX k f fd ps sp) (hr : Room k X.A) (hb : Binds X.K fd ps []) (hx : ∀ σ, PassesAt CX X σ (E σ)) (t : OwnT X.K C op.info.2) (m : Meth X.K C (PySem.dunder op.info.2) f)
    (ha : PE X a ta) (hb2 : PE X b tb) : PE X (.BinOp a op b pos) (tOwnS C sp E ta tb) := by
  refine ⟨fun pins s σ H Q I h => ?_⟩
  refine wpAny_BinOp (binT ha hb2 I h fun v u s2 x y H2 I2 rx ry q => ?_)
  obtain ⟨p, dx, fs, rfl, hp, hy, q⟩ := q
  cases (show v = Value.ref p from rx)
  obtain ⟨ox, od, J⟩ := inst_of I2 hp
  obtain ⟨mm, Fm⟩ := I2.fr
  rcases hy with ⟨b, dy, gs, rfl, hb'⟩ | ⟨j, rfl⟩
  · cases (show u = Value.ref b from ry)
    obtain ⟨ox2, od2, J2⟩ := inst_of I2 hb'
    refine PySem.W.binop_K Fm I2.mod.kin J J2.type t.sf m.at_ m.fn ?_
    exact thn (run_fnS (us := [.ref p, .ref b]) (vs := [.ref p, .ref b]) F hr hb (hx σ) I2 (.cons rfl (.cons rfl .nil)) q) fun r s' hq => back_of hq
  · obtain ⟨tk, rfl⟩ := (show ∃ t, u = Value.int j t from ry)
    obtain ⟨rc, r1, r2⟩ := t.ru
    obtain ⟨fo, f1⟩ := t.i1
    obtain ⟨ro, o1⟩ := t.i2
    refine PySem.W.ksp_binT (T := "int") Fm I2.mod.kin J rfl t.sf m.at_ m.fn r1 r2 f1 o1 t.su ?_
    exact thn (run_fnS (us := [.ref p, .int j tk]) (vs := [.ref p, .int j]) F hr hb (hx σ) I2 (.cons rfl (.cons ⟨tk, rfl⟩ .nil)) q) fun r s' hq => back_of hq
end
end Tr
namespace Tr
open PySem L2
/-- a block's rest read once, behind a statement of many ways -/
theorem joinS {t rest : TS} {D : Ends} {σ : L2.St} {H : Hp} (W : L2.St → Hp → Prop) (h2 : ∀ σ' H', W σ' H' → rest D σ' H') (h1 : ∀ D2 : Ends, (∀ σ' H', W σ' H' → D2.nx σ' H') → t D2 σ H) : tSeq t rest D σ H := h1 { D with nx := rest D } h2
theorem joinI {tc : TT} {ta tb rest : TS} {D : Ends} {σ : L2.St} {H : Hp} (W : L2.St → Hp → Prop) (h2 : ∀ σ' H', W σ' H' → rest D σ' H') (h1 : ∀ D2 : Ends, (∀ σ' H', W σ' H' → D2.nx σ' H') → tIfS tc ta tb D2 σ H) : tSeq (tIfS tc ta tb) rest D σ H := h1 { D with nx := rest D } h2
/-! ### comparison of ratios, and floors -/
theorem scale_lt {x y X Y m n : Int} (hm : 0 < m) (hn : 0 < n) (e1 : x * m = X * n) (e2 : y * m = Y * n) : (x < y ↔ X < Y) := by
  constructor
  · intro h
    have := Int.mul_lt_mul_of_pos_right h hm
    rw [e1, e2] at this
    exact Int.lt_of_mul_lt_mul_right this (Int.le_of_lt hn)
  · intro h
    have := Int.mul_lt_mul_of_pos_right h hn
    rw [← e1, ← e2] at this
    exact Int.lt_of_mul_lt_mul_right this (Int.le_of_lt hm)
theorem scale_le {x y X Y m n : Int} (hm : 0 < m) (hn : 0 < n) (e1 : x * m = X * n) (e2 : y * m = Y * n) : (x ≤ y ↔ X ≤ Y) := by
  have := scale_lt hm hn e2 e1
  omega
theorem scale_eq {x y X Y m n : Int} (hm : 0 < m) (hn : 0 < n) (e1 : x * m = X * n) (e2 : y * m = Y * n) : (x = y ↔ X = Y) := by
  have h1 := scale_lt hm hn e2 e1
  have h2 := scale_lt hm hn e1 e2
  omega
section
variable {a b c d p q r s k : Int}
theorem LowT.mul (La : LowT a b p q) : a * q = p * b := La.val
theorem cmpE (La : LowT a b p q) (Lb : LowT c d r s) (hq : 1 ≤ q) (hs : 1 ≤ s) : (a * d) * (q * s) = (p * s) * (b * d) ∧ (c * b) * (q * s) = (r * q) * (b * d) := by
  have h := La.val
  have g := Lb.val
  constructor <;> grind
theorem cmp_lt (La : LowT a b p q) (Lb : LowT c d r s) (hq : 1 ≤ q) (hs : 1 ≤ s) : decide (a * d < c * b) = decide (p * s < r * q) := by
  obtain ⟨e1, e2⟩ := cmpE La Lb hq hs
  exact decide_eq_decide.mpr (scale_lt (Int.mul_pos (by omega) (by omega)) (Int.mul_pos La.pos Lb.pos) e1 e2)
theorem cmp_le (La : LowT a b p q) (Lb : LowT c d r s) (hq : 1 ≤ q) (hs : 1 ≤ s) : decide (a * d ≤ c * b) = decide (p * s ≤ r * q) := by
  obtain ⟨e1, e2⟩ := cmpE La Lb hq hs
  exact decide_eq_decide.mpr (scale_le (Int.mul_pos (by omega) (by omega)) (Int.mul_pos La.pos Lb.pos) e1 e2)
theorem dvdN {a b c d : Int} (h : Nat.gcd a.natAbs b.natAbs = 1) (e : a * d = c * b) : b.natAbs ∣ d.natAbs := by
  have e' := congrArg Int.natAbs e
  rw [Int.natAbs_mul, Int.natAbs_mul] at e'
  have : b.natAbs ∣ a.natAbs * d.natAbs := ⟨c.natAbs, by rw [e', Nat.mul_comm]⟩
  exact (show Nat.Coprime b.natAbs a.natAbs from by rw [Nat.coprime_comm]; exact h).dvd_of_dvd_mul_left this
theorem low_uni (hb : 1 ≤ b) (hd : 1 ≤ d) (h1 : Nat.gcd a.natAbs b.natAbs = 1) (h2 : Nat.gcd c.natAbs d.natAbs = 1) (e : a * d = c * b) : a = c ∧ b = d := by
  have x := Nat.le_of_dvd (by omega) (dvdN h1 e)
  have y := Nat.le_of_dvd (by omega) (dvdN h2 e.symm)
  have z : b = d := by omega
  subst z
  exact ⟨Int.eq_of_mul_eq_mul_right (by omega) e, rfl⟩
theorem cmp_eq (La : LowT a b p q) (Lb : LowT c d r s) (hq : 1 ≤ q) (hs : 1 ≤ s) : (decide (a = c) && decide (b = d)) = decide (V.int (p * s) = V.int (r * q)) := by
  obtain ⟨e1, e2⟩ := cmpE La Lb hq hs
  have z := scale_eq (Int.mul_pos (by omega) (by omega)) (Int.mul_pos La.pos Lb.pos) e1 e2
  by_cases h : p * s = r * q
  · obtain ⟨u, v⟩ := low_uni La.pos Lb.pos La.cop Lb.cop (z.mpr h)
    rw [decide_eq_true u, decide_eq_true v, h, decide_eq_true rfl]; rfl
  · rw [decide_eq_false (neI h)]
    by_cases u : a = c
    · by_cases v : b = d
      · exact absurd (z.mp (by rw [u, v])) h
      · rw [decide_eq_false v, Bool.and_false]
    · rw [decide_eq_false u, Bool.false_and]
theorem lowI (k : Int) : LowT k 1 k 1 := ⟨by decide, Nat.gcd_one_right _, rfl⟩
theorem cmp_ltI (La : LowT a b p q) (hq : 1 ≤ q) : decide (a * 1 < k * b) = decide (p < k * q) := by
  have := cmp_lt La (lowI k) hq (by decide)
  rw [Int.mul_one p] at this
  exact this
theorem cmp_leI (La : LowT a b p q) (hq : 1 ≤ q) : decide (a * 1 ≤ k * b) = decide (p ≤ k * q) := by
  have := cmp_le La (lowI k) hq (by decide)
  rw [Int.mul_one p] at this
  exact this
theorem cmp_eqI (La : LowT a b p q) (hq : 1 ≤ q) : (decide (b = 1) && decide (a = k)) = decide (V.int p = V.int (k * q)) := by
  have := cmp_eq La (lowI k) hq (by decide)
  rw [Int.mul_one p] at this
  rw [Bool.and_comm]
  exact this
theorem floorB {t b T B : Int} (hb : 1 ≤ b) (hB : 0 < B) (e : t * B = T * b) : t.fdiv b * B ≤ T ∧ T < (t.fdiv b + 1) * B := by
  rw [Int.fdiv_eq_ediv_of_nonneg _ (by omega)]
  have h1 := Int.mul_ediv_add_emod t b
  have h2 := Int.emod_nonneg t (show b ≠ 0 by omega)
  have h3 := Int.emod_lt_of_pos t (show 0 < b by omega)
  generalize t / b = u at *
  generalize t % b = v at *
  have e2 : T * b = u * B * b + v * B := by rw [← e, ← h1]; grind
  constructor
  · refine Int.le_of_mul_le_mul_right (a := b) ?_ (by omega)
    rw [e2]
    have := Int.mul_nonneg h2 (Int.le_of_lt hB)
    omega
  · refine Int.lt_of_mul_lt_mul_right (a := b) ?_ (by omega)
    rw [e2]
    have := Int.mul_lt_mul_of_pos_right h3 hB
    have e3 : (u + 1) * B * b = u * B * b + b * B := by grind
    omega
theorem fdiv_abs {t b : Int} (hb : 1 ≤ b) : (t.fdiv b).natAbs ≤ t.natAbs := by
  rw [Int.fdiv_eq_ediv_of_nonneg _ (by omega)]
  exact Int.natAbs_ediv_le_natAbs t b
end
end Tr
set_option Elab.async false
set_option linter.all false
set_option maxRecDepth 100000
set_option maxHeartbeats 4000000
namespace K03
open PySem L2 Tr
/-! the text by places -/
def top (i : Nat) : Stmt := PySem.Challenge.pw_toldridges_k03_ratio_order_and_floor.main.body.getD i (.Pass ⟨0, 0, 0, 0⟩)
abbrev s_Ratio_init : Stmt := inClass (top 7) 0
abbrev s_as_ratio : Stmt := top 6
abbrev s_Ratio_eq : Stmt := inClass (top 7) 10
abbrev s_Ratio_lt : Stmt := inClass (top 7) 11
abbrev s_Ratio_le : Stmt := inClass (top 7) 12
abbrev s_Ratio_over : Stmt := inClass (top 7) 13
abbrev s_Ratio_floordiv : Stmt := inClass (top 7) 7
abbrev s_law_pool : Stmt := top 9
abbrev s_law_take : Stmt := top 10
abbrev s_law_whole : Stmt := top 11
abbrev s_law_number : Stmt := top 12
abbrev s_law_bottom : Stmt := top 13
abbrev s_law_truth : Stmt := top 14
abbrev s_law_floor : Stmt := top 15
abbrev s_law : Stmt := top 16
/-- the addresses -/
structure Ad where
  f_Ratio_init : Addr
  d_Ratio_init : FuncData
  f_as_ratio : Addr
  d_as_ratio : FuncData
  f_Ratio_eq : Addr
  d_Ratio_eq : FuncData
  f_Ratio_lt : Addr
  d_Ratio_lt : FuncData
  f_Ratio_le : Addr
  d_Ratio_le : FuncData
  f_Ratio_over : Addr
  d_Ratio_over : FuncData
  f_Ratio_floordiv : Addr
  d_Ratio_floordiv : FuncData
  f_law_pool : Addr
  d_law_pool : FuncData
  f_law_take : Addr
  d_law_take : FuncData
  f_law_whole : Addr
  d_law_whole : FuncData
  f_law_number : Addr
  d_law_number : FuncData
  f_law_bottom : Addr
  d_law_bottom : FuncData
  f_law_truth : Addr
  d_law_truth : FuncData
  f_law_floor : Addr
  d_law_floor : FuncData
  f_law : Addr
  d_law : FuncData
  c_Ratio : Addr
  c_ZeroBottom : Addr
structure Txt (K : PySem.W.Frag) (mg : Str → Option Value) (ad : Ad) : Prop where
  F_Ratio_init : FunD K "__init__" "Ratio.__init__" (defArgs s_Ratio_init) (defBody s_Ratio_init) (defScope s_Ratio_init) [.int 1] [] ad.f_Ratio_init ad.d_Ratio_init
  B1_Ratio_init : ∃ ds, Vals [.int 1] ds ∧ Binds K ad.d_Ratio_init ["self", "top", "bottom"] ds
  B_Ratio_init : Binds K ad.d_Ratio_init ["self", "top", "bottom"] []
  m_Ratio_init : Meth K ad.c_Ratio "__init__" ad.f_Ratio_init
  F_as_ratio : Fun K "as_ratio" "as_ratio" s_as_ratio ad.f_as_ratio ad.d_as_ratio
  B_as_ratio : Binds K ad.d_as_ratio ["value"] []
  g_as_ratio : mg "as_ratio" = some (.ref ad.f_as_ratio)
  F_Ratio_eq : Fun K "__eq__" "Ratio.__eq__" s_Ratio_eq ad.f_Ratio_eq ad.d_Ratio_eq
  B_Ratio_eq : Binds K ad.d_Ratio_eq ["self", "other"] []
  m_Ratio_eq : Meth K ad.c_Ratio "__eq__" ad.f_Ratio_eq
  F_Ratio_lt : Fun K "__lt__" "Ratio.__lt__" s_Ratio_lt ad.f_Ratio_lt ad.d_Ratio_lt
  B_Ratio_lt : Binds K ad.d_Ratio_lt ["self", "other"] []
  m_Ratio_lt : Meth K ad.c_Ratio "__lt__" ad.f_Ratio_lt
  F_Ratio_le : Fun K "__le__" "Ratio.__le__" s_Ratio_le ad.f_Ratio_le ad.d_Ratio_le
  B_Ratio_le : Binds K ad.d_Ratio_le ["self", "other"] []
  m_Ratio_le : Meth K ad.c_Ratio "__le__" ad.f_Ratio_le
  F_Ratio_over : Fun K "over" "Ratio.over" s_Ratio_over ad.f_Ratio_over ad.d_Ratio_over
  B_Ratio_over : Binds K ad.d_Ratio_over ["self", "other"] []
  m_Ratio_over : Meth K ad.c_Ratio "over" ad.f_Ratio_over
  F_Ratio_floordiv : Fun K "__floordiv__" "Ratio.__floordiv__" s_Ratio_floordiv ad.f_Ratio_floordiv ad.d_Ratio_floordiv
  B_Ratio_floordiv : Binds K ad.d_Ratio_floordiv ["self", "other"] []
  m_Ratio_floordiv : Meth K ad.c_Ratio "__floordiv__" ad.f_Ratio_floordiv
  F_law_pool : Fun K "_law_pool" "_law_pool" s_law_pool ad.f_law_pool ad.d_law_pool
  B_law_pool : Binds K ad.d_law_pool ["_law_script"] []
  g_law_pool : mg "_law_pool" = some (.ref ad.f_law_pool)
  F_law_take : Fun K "_law_take" "_law_take" s_law_take ad.f_law_take ad.d_law_take
  B_law_take : Binds K ad.d_law_take ["_law_pool_here", "_law_many"] []
  g_law_take : mg "_law_take" = some (.ref ad.f_law_take)
  F_law_whole : Fun K "_law_whole" "_law_whole" s_law_whole ad.f_law_whole ad.d_law_whole
  B_law_whole : Binds K ad.d_law_whole ["_law_x"] []
  g_law_whole : mg "_law_whole" = some (.ref ad.f_law_whole)
  F_law_number : Fun K "_law_number" "_law_number" s_law_number ad.f_law_number ad.d_law_number
  B_law_number : Binds K ad.d_law_number ["_law_pool_here"] []
  g_law_number : mg "_law_number" = some (.ref ad.f_law_number)
  F_law_bottom : Fun K "_law_bottom" "_law_bottom" s_law_bottom ad.f_law_bottom ad.d_law_bottom
  B_law_bottom : Binds K ad.d_law_bottom ["_law_pool_here"] []
  g_law_bottom : mg "_law_bottom" = some (.ref ad.f_law_bottom)
  F_law_truth : Fun K "_law_truth" "_law_truth" s_law_truth ad.f_law_truth ad.d_law_truth
  B_law_truth : Binds K ad.d_law_truth ["_law_told", "_law_due"] []
  g_law_truth : mg "_law_truth" = some (.ref ad.f_law_truth)
  F_law_floor : Fun K "_law_floor" "_law_floor" s_law_floor ad.f_law_floor ad.d_law_floor
  B_law_floor : Binds K ad.d_law_floor ["_law_a", "_law_b", "_law_top", "_law_bottom_here"] []
  g_law_floor : mg "_law_floor" = some (.ref ad.f_law_floor)
  F_law : Fun K "law" "law" s_law ad.f_law ad.d_law
  B_law : Binds K ad.d_law ["_law_script"] []
  g_law : mg "law" = some (.ref ad.f_law)
  cl_Ratio : Cls K ad.c_Ratio
  g_Ratio : mg "Ratio" = some (.ref ad.c_Ratio)
  mk_Ratio : Mk K ad.c_Ratio ad.f_Ratio_init
  na_Ratio_top : NoAttr K ad.c_Ratio "top"
  na_Ratio_bottom : NoAttr K ad.c_Ratio "bottom"
  sf_Ratio : PySem.W.selfFirst K ad.c_Ratio = true
  nf_Ratio : PySem.W.notFirst K ad.c_Ratio (.ref ad.c_Ratio) = true
  nfi_Ratio : PySem.W.notFirst K ad.c_Ratio (.type "int") = true
  ia_Ratio : PySem.W.findIn K (.ref ad.c_Ratio) "__class__" = some (some (.builtin "object.__class__"))
  im_Ratio : PySem.W.mroIn K ad.c_Ratio (.type "object") = some true
  ik_Ratio : PySem.W.kitOne K (.ref ad.c_Ratio) (.ref ad.c_Ratio) = some true
  g_ZeroBottom : mg "ZeroBottom" = some (.ref ad.c_ZeroBottom)
  x_ZeroBottom : PySem.W.excIn K ad.c_ZeroBottom [.type "ValueError", .type "Exception", .type "BaseException", .type "object"] "ValueError.__new__" = true
  kp_ZeroBottom : PySem.W.keepIn K (.ref ad.c_ZeroBottom) = true
  bs_ZeroBottom : PySem.W.subIn K (.ref ad.c_ZeroBottom) (.type "BaseException") = some true
  ty_ZeroBottom : PySem.W.typeIn K (.ref ad.c_ZeroBottom) = some (.type "type")
  ss_ZeroBottom : PySem.W.subIn K (.ref ad.c_ZeroBottom) (.ref ad.c_ZeroBottom) = some true
  ec_ZeroBottom : ExcC K ad.c_ZeroBottom
  dc_Ratio_gt : PySem.W.findIn K (.ref ad.c_Ratio) "__gt__" = some (some (.builtin "object.__gt__"))
  dc_Ratio_ge : PySem.W.findIn K (.ref ad.c_Ratio) "__ge__" = some (some (.builtin "object.__ge__"))
  kt_int_Ratio : PySem.W.kitOne K (.type "int") (.ref ad.c_Ratio) = some false
  kt_Ratio_int : PySem.W.kitOne K (.ref ad.c_Ratio) (.type "int") = some false
  ign : PySem.W.specialIn K (.builtin "object.__class__") "__get__" = some (some (.builtin "getset_descriptor.__get__"))
  igt : PySem.W.takesIn K (.builtin "object.__class__") = some true
  ow_Ratio_floordiv : OwnT K ad.c_Ratio "floordiv"
  z_isinstance : mg "isinstance" = none
  z_int : mg "int" = none
  z_abs : mg "abs" = none
  z_range : mg "range" = none
  z_bool : mg "bool" = none
  z_gcd : mg "gcd" = some (.builtin "math.gcd")
theorem sc_Ratio_init : FnScope ["self", "top", "bottom", "divisor"] ["self", "top", "bottom"] (defScope s_Ratio_init) := ⟨rfl, rfl, rfl, by decide +kernel, rfl, by decide +kernel, by decide +kernel⟩
theorem sc_as_ratio : FnScope ["value"] ["value"] (defScope s_as_ratio) := ⟨rfl, rfl, rfl, by decide +kernel, rfl, by decide +kernel, by decide +kernel⟩
theorem sc_Ratio_eq : FnScope ["self", "other"] ["self", "other"] (defScope s_Ratio_eq) := ⟨rfl, rfl, rfl, by decide +kernel, rfl, by decide +kernel, by decide +kernel⟩
theorem sc_Ratio_lt : FnScope ["self", "other"] ["self", "other"] (defScope s_Ratio_lt) := ⟨rfl, rfl, rfl, by decide +kernel, rfl, by decide +kernel, by decide +kernel⟩
theorem sc_Ratio_le : FnScope ["self", "other"] ["self", "other"] (defScope s_Ratio_le) := ⟨rfl, rfl, rfl, by decide +kernel, rfl, by decide +kernel, by decide +kernel⟩
theorem sc_Ratio_over : FnScope ["self", "other"] ["self", "other"] (defScope s_Ratio_over) := ⟨rfl, rfl, rfl, by decide +kernel, rfl, by decide +kernel, by decide +kernel⟩
theorem sc_Ratio_floordiv : FnScope ["self", "other", "quotient"] ["self", "other"] (defScope s_Ratio_floordiv) := ⟨rfl, rfl, rfl, by decide +kernel, rfl, by decide +kernel, by decide +kernel⟩
theorem sc_law_pool : FnScope ["_law_script", "_law_pool_here", "_law_cell", "_law_rest", "_law_k", "_law_mixed"] ["_law_script"] (defScope s_law_pool) := ⟨rfl, rfl, rfl, by decide +kernel, rfl, by decide +kernel, by decide +kernel⟩
theorem sc_law_take : FnScope ["_law_pool_here", "_law_many"] ["_law_pool_here", "_law_many"] (defScope s_law_take) := ⟨rfl, rfl, rfl, by decide +kernel, rfl, by decide +kernel, by decide +kernel⟩
theorem sc_law_whole : FnScope ["_law_x"] ["_law_x"] (defScope s_law_whole) := ⟨rfl, rfl, rfl, by decide +kernel, rfl, by decide +kernel, by decide +kernel⟩
theorem sc_law_number : FnScope ["_law_pool_here", "_law_kind", "_law_number_here", "_law_k"] ["_law_pool_here"] (defScope s_law_number) := ⟨rfl, rfl, rfl, by decide +kernel, rfl, by decide +kernel, by decide +kernel⟩
theorem sc_law_bottom : FnScope ["_law_pool_here", "_law_number_here"] ["_law_pool_here"] (defScope s_law_bottom) := ⟨rfl, rfl, rfl, by decide +kernel, rfl, by decide +kernel, by decide +kernel⟩
theorem sc_law_truth : FnScope ["_law_told", "_law_due"] ["_law_told", "_law_due"] (defScope s_law_truth) := ⟨rfl, rfl, rfl, by decide +kernel, rfl, by decide +kernel, by decide +kernel⟩
theorem sc_law_floor : FnScope ["_law_a", "_law_b", "_law_top", "_law_bottom_here", "_law_whole_here"] ["_law_a", "_law_b", "_law_top", "_law_bottom_here"] (defScope s_law_floor) := ⟨rfl, rfl, rfl, by decide +kernel, rfl, by decide +kernel, by decide +kernel⟩
theorem sc_law : FnScope ["_law_script", "_law_pool_here", "_law_p", "_law_q", "_law_r", "_law_s", "_law_kind", "_law_k", "_law_a", "_law_b", "_law_good"] ["_law_script"] (defScope s_law) := ⟨rfl, rfl, rfl, by decide +kernel, rfl, by decide +kernel, by decide +kernel⟩
theorem ktb : ¬ (("top" : Str) = "bottom") := by decide +kernel
theorem kbt : (("bottom" : Str) == "top") = false := by decide +kernel
def rF (t b : Int) : List (Str × V) := [("top", V.int t), ("bottom", V.int b)]
theorem RatioF_top {t b : Int} : (rF t b).lookup ("top" : Str) = some (.int t) := lookup1
theorem RatioF_bottom {t b : Int} : (rF t b).lookup ("bottom" : Str) = some (.int b) := lookup2 kbt
abbrev ratio (ad : Ad) (dx : Addr) (t b : Int) : HO := .ins ad.c_Ratio dx (rF t b)
def sp_Ratio_init (K : PySem.W.Frag) (ad : Ad) : Sp := fun vs H Q E => ∃ p dx t b, vs = [.ref p, .int t, .int b] ∧ H p = some (.ins ad.c_Ratio dx []) ∧ t.natAbs < 2 ^ 2000 ∧ b.natAbs < 2 ^ 2000 ∧
  (b = 0 → E (.ref ad.c_ZeroBottom) none H) ∧ (b ≠ 0 → Q .non (upd H p (ratio ad dx (nT t b) (nB t b))))
theorem sd_div {t b : Int} (h : b ≠ 0) (hb : b.natAbs < 2 ^ 2000) (x : Int) : CDivS x (sd t b) := by
  refine wide_divS (b := 2000) (sd_ne h) ?_ (by decide) (by decide)
  rw [sd_abs]
  exact Nat.lt_of_le_of_lt (Nat.gcd_le_right _ (by omega)) hb
theorem st_Ratio_init (a0 a1 a2 : V) : start ["self", "top", "bottom", "divisor"] [a0, a1, a2] = [some a0, some a1, some a2, none] := rfl
section
variable {P : Program} {w : World} {K : PySem.W.Frag} {mg : Str → Option Value} {base : Heap} {ad : Ad}
theorem ok_Ratio_init (T : Txt K mg ad) : FnOk P w K mg base (L2.CX P w) 1 ad.f_Ratio_init ad.d_Ratio_init ["self", "top", "bottom"] (sp_Ratio_init K ad) := by
  refine T.F_Ratio_init.ok (CX := L2.CX P w) sc_Ratio_init (fun vs H Q E h => by obtain ⟨p, dx, t, b, rfl, _⟩ := h; rfl) (fun cdv A outer s H vs Q E hr h => ?_)
  have hu := hu_of hr
  obtain ⟨p, dx, t, b, rfl, hp, ht, hb, k0, k1⟩ := h
  refine ⟨_, (pss_cons (ps_if (pt_cmpR op_eq (pv 2) pe_int (nomark _)) (pss_one (ps_raise rfl (takes_of rfl rfl rfl rfl) (pmk_own0 PySem.F.excBase_ValueError T.x_ZeroBottom T.g_ZeroBottom T.kp_ZeroBottom (raises_own T.bs_ZeroBottom T.ty_ZeroBottom) (by rfl)))) pss_nil)
      (pss_cons (ps_set (i := 3) sc_Ratio_init.nd rfl (by first | exact Or.inl rfl | exact Or.inr rfl) (pe_callBfun cr_gcd (by rfl) T.z_gcd (pa_cons (pv 1) (pa_cons (pv 2) pa_nil))))
      (pss_cons (ps_if (pt_cmpR op_lt (pv 2) pe_int (nomark _)) (pss_one (ps_set (i := 3) sc_Ratio_init.nd rfl (by first | exact Or.inl rfl | exact Or.inr rfl) (pe_un un_neg (pv 3)))) pss_nil)
      (pss_cons (ps_fld (pv 0) (pe_op op_fdivS (pv 1) (pv 3)) rfl)
      (pss_one (ps_fld (pv 0) (pe_op op_fdivS (pv 2) (pv 3)) rfl)))))), ?_⟩
  try simp only [cxK, cxK2]
  rw [st_Ratio_init]
  refine ⟨_, rfl, rfl, _, rfl, ite2 (fun e => ?_) (fun e => ?_)⟩
  · have e0 : b = 0 := by
      have := of_decide_eq_true e
      injection this
    exact k0 e0
  · have e0 : b ≠ 0 := fun z => e (by subst z; rfl)
    have k := k1 e0
    refine ⟨_, rfl, _, rfl, t, b, rfl, ?_⟩
    refine gs3 ?_
    have fin : ∀ d, d = sd t b → (Q .non (upd H p (ratio ad dx (t.fdiv d) (b.fdiv d)))) := fun d ed => by subst ed; exact k
    refine ⟨_, rfl, _, _, rfl, rfl, _, rfl, ite2 (fun f => ?_) (fun f => ?_)⟩
    · have f0 : b < 0 := of_decide_eq_true f
      have ed : -((Nat.gcd t.natAbs b.natAbs : Nat) : Int) = sd t b := by unfold sd; rw [if_pos f0]; rfl
      refine ⟨_, rfl, _, rfl, ?_⟩
      refine gs3 ?_
      try dsimp only
      rw [ed]
      refine ⟨_, rfl, _, rfl, _, _, rfl, rfl, sd_div e0 hb _, _, rfl, p, ad.c_Ratio, dx, [], rfl, hp, T.cl_Ratio, T.na_Ratio_top, (by show 0 < 1000; decide), ?_⟩
      refine ⟨_, rfl, _, rfl, _, _, rfl, rfl, sd_div e0 hb _, _, rfl, p, ad.c_Ratio, dx, _, rfl, upd_same, T.cl_Ratio, T.na_Ratio_bottom, (by show 1 < 1000; decide), ?_⟩
      rw [upd_upd, putF2 ktb]
      exact k
    · have f0 : ¬ b < 0 := fun z => f (decide_eq_true z)
      have ed : ((Nat.gcd t.natAbs b.natAbs : Nat) : Int) = sd t b := by unfold sd; rw [if_neg f0]; rfl
      try dsimp only
      rw [ed]
      refine ⟨_, rfl, _, rfl, _, _, rfl, rfl, sd_div e0 hb _, _, rfl, p, ad.c_Ratio, dx, [], rfl, hp, T.cl_Ratio, T.na_Ratio_top, (by show 0 < 1000; decide), ?_⟩
      refine ⟨_, rfl, _, rfl, _, _, rfl, rfl, sd_div e0 hb _, _, rfl, p, ad.c_Ratio, dx, _, rfl, upd_same, T.cl_Ratio, T.na_Ratio_bottom, (by show 1 < 1000; decide), ?_⟩
      rw [upd_upd, putF2 ktb]
      exact k
end
theorem ty_ratio {P : Program} {w : World} {K : PySem.W.Frag} {mg : Str → Option Value} {ad : Ad} (T : Txt K mg ad) {H : Hp} {p dx : Addr} {fs : List (Str × V)} (h : H p = some (.ins ad.c_Ratio dx fs)) : TyX K H (.ref p) (.ref ad.c_Ratio) :=
  .base (.ins h T.cl_Ratio T.ia_Ratio T.ign T.igt T.im_Ratio)
theorem sd1 (t : Int) : sd t 1 = 1 := by
  unfold sd
  rw [if_neg (by decide), show Int.gcd t 1 = 1 from Nat.gcd_one_right _]
  rfl
theorem nT1 (t : Int) : nT t 1 = t := by
  have e := nT_mul t 1
  rw [sd1, Int.mul_one] at e
  exact e
theorem nB1 (t : Int) : nB t 1 = 1 := by
  have e := nB_mul t 1
  rw [sd1, Int.mul_one] at e
  exact e
theorem one2 : (1 : Int).natAbs < 2 ^ 2000 := Nat.lt_of_lt_of_le (show (1 : Int).natAbs < 2 ^ 1 by decide) (Nat.pow_le_pow_right (by decide) (by decide))
/-- a ratio, or a whole number, of the value t / b -/
def RV (ad : Ad) (H : Hp) (v : V) (t b : Int) : Prop := (∃ p dx, v = .ref p ∧ H p = some (ratio ad dx t b)) ∨ (v = .int t ∧ b = 1)
def sp_as_ratio (K : PySem.W.Frag) (ad : Ad) : Sp := fun vs H Q _ => ∃ v t b, vs = [v] ∧ RV ad H v t b ∧ t.natAbs < 2 ^ 500 ∧ ∀ r dr H', Sub H H' → H' r = some (ratio ad dr t b) → Q (.ref r) H'
theorem st_as_ratio (a0 : V) : start ["value"] [a0] = [some a0] := rfl
section
variable {P : Program} {w : World} {K : PySem.W.Frag} {mg : Str → Option Value} {base : Heap} {ad : Ad}
theorem ok_as_ratio (T : Txt K mg ad) : FnOk P w K mg base CX0 3 ad.f_as_ratio ad.d_as_ratio ["value"] (sp_as_ratio K ad) := by
  refine T.F_as_ratio.ok sc_as_ratio (fun vs H Q E h => by obtain ⟨v, t, b, rfl, _⟩ := h; rfl) (fun cdv A outer s H vs Q E hr h => ?_)
  obtain ⟨ds1_Ratio_init, hd1_Ratio_init, B1_Ratio_init⟩ := T.B1_Ratio_init
  have hu := hu_of hr
  obtain ⟨v, t, b, rfl, hv, ht, k⟩ := h
  refine ⟨_, (pss_cons (ps_if (pt_val (pe_callB call_isi (by rfl) T.z_isinstance (by decide +kernel) (pa_cons (pv 0) (pa_cons (pe_glob (v := .ref ad.c_Ratio) (by rfl) T.g_Ratio rfl) pa_nil)))) (pss_one (ps_ret (pv 0))) pss_nil)
      (pss_one (ps_ret (pe_make T.mk_Ratio (ok_Ratio_init (P := P) (w := w) (K := K) (mg := mg) (base := base) T) (hr.mono (by decide)) (by rfl) T.g_Ratio B1_Ratio_init hd1_Ratio_init passL (pa_cons (pv 0) pa_nil))))), ?_⟩
  try simp only [cxK, cxK2]
  rw [st_as_ratio]
  rcases hv with ⟨p, dx, rfl, hp⟩ | ⟨rfl, rfl⟩
  · refine ⟨_, rfl, .ref p, .ref ad.c_Ratio, _, _, true, rfl, .own _, ty_ratio (P := P) (w := w) T hp, T.ik_Ratio, true, rfl, iteT ?_⟩
    exact ⟨_, rfl, k p dx H (Sub.refl H) hp⟩
  · refine ⟨_, rfl, .int t, .ref ad.c_Ratio, _, _, false, rfl, .own _, .base (.int t), T.kt_int_Ratio, false, rfl, iteF ?_⟩
    refine ⟨_, rfl, fun r dr nr ndr ne => ⟨r, dr, t, 1, rfl, upd_same, u50 ht, one2, fun z => absurd z (by decide), fun _ => ⟨rfl, ?_⟩⟩⟩
    rw [nT1, nB1]
    exact k r dr _ (made nr ndr) upd_same
end
theorem kit_ii0 {K : PySem.W.Frag} : PySem.W.kitOne K (.type "int") (.type "int") = some true := kit_ty (by decide +kernel)
def sp_Ratio_eq (K : PySem.W.Frag) (ad : Ad) : Sp := fun vs H Q _ => ∃ (p dx : Addr) (t b : Int) (v : V), vs = [.ref p, v] ∧ H p = some (ratio ad dx t b) ∧
  ((∃ (q dq : Addr) (t2 b2 : Int), v = .ref q ∧ H q = some (ratio ad dq t2 b2) ∧ Q (.bl (decide (t = t2) && decide (b = b2))) H) ∨ (∃ j, v = .int j ∧ Q (.bl (decide (b = 1) && decide (t = j))) H))
theorem st_Ratio_eq (a0 a1 : V) : start ["self", "other"] [a0, a1] = [some a0, some a1] := rfl
section
variable {P : Program} {w : World} {K : PySem.W.Frag} {mg : Str → Option Value} {base : Heap} {ad : Ad}
theorem ok_Ratio_eq (T : Txt K mg ad) : FnOk P w K mg base CX0 1 ad.f_Ratio_eq ad.d_Ratio_eq ["self", "other"] (sp_Ratio_eq K ad) := by
  refine T.F_Ratio_eq.ok sc_Ratio_eq (fun vs H Q E h => by obtain ⟨p, dx, t, b, v, rfl, _⟩ := h; rfl) (fun cdv A outer s H vs Q E hr h => ?_)
  have hu := hu_of hr
  obtain ⟨p, dx, t, b, v, rfl, hp, hv⟩ := h
  refine ⟨_, (pss_cons (ps_if (pt_val (pe_callB call_isi (by rfl) T.z_isinstance (by decide +kernel) (pa_cons (pv 1) (pa_cons (pe_bltn (v := .ty "int") (by rfl) T.z_int (by decide +kernel) rfl) pa_nil)))) (pss_one (ps_ret (pe_and (pe_cmpR op_eq (pe_fld (pv 0) rfl) pe_int (nomark _)) (pe_one (pe_cmpR op_eq (pe_fld (pv 0) rfl) (pv 1) (nomark _)))))) pss_nil)
      (pss_one (ps_ret (pe_and (pe_callB call_isi (by rfl) T.z_isinstance (by decide +kernel) (pa_cons (pv 1) (pa_cons (pe_glob (v := .ref ad.c_Ratio) (by rfl) T.g_Ratio rfl) pa_nil))) (pe_and (pe_cmpR op_eq (pe_fld (pv 0) rfl) (pe_fld (pv 1) rfl) (nomark _)) (pe_one (pe_cmpR op_eq (pe_fld (pv 0) rfl) (pe_fld (pv 1) rfl) (nomark _)))))))), ?_⟩
  try simp only [cxK, cxK2]
  rw [st_Ratio_eq]
  rcases hv with ⟨q, dq, t2, b2, rfl, hq, k⟩ | ⟨j, rfl, k⟩
  · refine ⟨_, rfl, .ref q, .ty "int", _, _, false, rfl, .ty _, ty_ratio (P := P) (w := w) T hq, T.kt_Ratio_int, false, rfl, iteF ?_⟩
    refine ⟨_, rfl, .ref q, .ref ad.c_Ratio, _, _, true, rfl, .own _, ty_ratio (P := P) (w := w) T hq, T.ik_Ratio, true, rfl, iteT ?_⟩
    refine ⟨_, rfl, p, _, _, _, _, rfl, hp, T.cl_Ratio, T.na_Ratio_top, RatioF_top, _, rfl, q, _, _, _, _, rfl, hq, T.cl_Ratio, T.na_Ratio_top, RatioF_top, rfl, _, rfl, ?_⟩
    have e1 : decide (V.int t = V.int t2) = decide (t = t2) := by simp
    have e2 : decide (V.int b = V.int b2) = decide (b = b2) := by simp
    rw [e1]
    by_cases e : t = t2
    · rw [decide_eq_true e] at k ⊢
      refine iteT ⟨_, rfl, p, _, _, _, _, rfl, hp, T.cl_Ratio, T.na_Ratio_bottom, RatioF_bottom, _, rfl, q, _, _, _, _, rfl, hq, T.cl_Ratio, T.na_Ratio_bottom, RatioF_bottom, rfl, ?_⟩
      rw [e2]
      exact k
    · rw [decide_eq_false e] at k ⊢
      exact iteF k
  · refine ⟨_, rfl, .int j, .ty "int", _, _, true, rfl, .ty _, .base (.int j), kit_ii0, true, rfl, iteT ?_⟩
    refine ⟨_, rfl, p, _, _, _, _, rfl, hp, T.cl_Ratio, T.na_Ratio_bottom, RatioF_bottom, rfl, _, rfl, ?_⟩
    have e1 : decide (V.int b = V.int 1) = decide (b = 1) := by simp
    have e2 : decide (V.int t = V.int j) = decide (t = j) := by simp
    rw [e1]
    by_cases e : b = 1
    · rw [decide_eq_true e] at k ⊢
      refine iteT ⟨_, rfl, p, _, _, _, _, rfl, hp, T.cl_Ratio, T.na_Ratio_top, RatioF_top, _, rfl, rfl, ?_⟩
      rw [e2]
      exact k
    · rw [decide_eq_false e] at k ⊢
      exact iteF k
end
theorem m5 {a b : Int} (ha : a.natAbs < 2 ^ 500) (hb : b.natAbs < 2 ^ 500) : CMulW a b := wide_mul (a := 500) (b := 500) ha hb (by decide) (by decide) (by decide)
def sp_Ratio_lt (K : PySem.W.Frag) (ad : Ad) : Sp := fun vs H Q _ => ∃ (p dx : Addr) (t b : Int) (v : V) (t2 b2 : Int), vs = [.ref p, v] ∧ H p = some (ratio ad dx t b) ∧ RV ad H v t2 b2 ∧ B5 t b ∧ B5 t2 b2 ∧
  ∀ H', Sub H H' → Q (.bl (decide (t * b2 < t2 * b))) H'
theorem st_Ratio_lt (a0 a1 : V) : start ["self", "other"] [a0, a1] = [some a0, some a1] := rfl
section
variable {P : Program} {w : World} {K : PySem.W.Frag} {mg : Str → Option Value} {base : Heap} {ad : Ad}
theorem ok_Ratio_lt (T : Txt K mg ad) : FnOk P w K mg base CX0 4 ad.f_Ratio_lt ad.d_Ratio_lt ["self", "other"] (sp_Ratio_lt K ad) := by
  refine T.F_Ratio_lt.ok sc_Ratio_lt (fun vs H Q E h => by obtain ⟨p, dx, t, b, v, t2, b2, rfl, _⟩ := h; rfl) (fun cdv A outer s H vs Q E hr h => ?_)
  have hu := hu_of hr
  obtain ⟨p, dx, t, b, v, t2, b2, rfl, hp, hv, bA, bB, k⟩ := h
  refine ⟨_, (pss_cons (ps_set (i := 1) sc_Ratio_lt.nd rfl (by first | exact Or.inl rfl | exact Or.inr rfl) (pe_call (ok_as_ratio (P := P) (w := w) (K := K) (mg := mg) (base := base) T) (hr.mono (by decide)) (by rfl) T.g_as_ratio T.F_as_ratio.kp T.B_as_ratio .nil pass0 (pa_cons (pv 1) pa_nil)))
      (pss_one (ps_ret (pe_cmpR op_lt (pe_op op_mulW (pe_fld (pv 0) rfl) (pe_fld (pv 1) rfl)) (pe_op op_mulW (pe_fld (pv 1) rfl) (pe_fld (pv 0) rfl)) (nomark _))))), ?_⟩
  try simp only [cxK, cxK2]
  rw [st_Ratio_lt]
  refine ⟨_, rfl, v, t2, b2, rfl, hv, bB.bt, fun q dq H1 s1 hq => ?_⟩
  refine gs1 ?_
  have hp1 := s1 _ _ hp
  exact ⟨_, rfl, p, _, _, _, _, rfl, hp1, T.cl_Ratio, T.na_Ratio_top, RatioF_top, _, rfl, q, _, _, _, _, rfl, hq, T.cl_Ratio, T.na_Ratio_bottom, RatioF_bottom, _, _, rfl, rfl, m5 bA.bt bB.bb, _, rfl, q, _, _, _, _, rfl, hq, T.cl_Ratio, T.na_Ratio_top, RatioF_top, _, rfl, p, _, _, _, _, rfl, hp1, T.cl_Ratio, T.na_Ratio_bottom, RatioF_bottom, _, _, rfl, rfl, m5 bB.bt bA.bb, _, _, rfl, rfl, k _ s1⟩
end
def sp_Ratio_le (K : PySem.W.Frag) (ad : Ad) : Sp := fun vs H Q _ => ∃ (p dx : Addr) (t b : Int) (v : V) (t2 b2 : Int), vs = [.ref p, v] ∧ H p = some (ratio ad dx t b) ∧ RV ad H v t2 b2 ∧ B5 t b ∧ B5 t2 b2 ∧
  ∀ H', Sub H H' → Q (.bl (decide (t * b2 ≤ t2 * b))) H'
theorem st_Ratio_le (a0 a1 : V) : start ["self", "other"] [a0, a1] = [some a0, some a1] := rfl
section
variable {P : Program} {w : World} {K : PySem.W.Frag} {mg : Str → Option Value} {base : Heap} {ad : Ad}
theorem ok_Ratio_le (T : Txt K mg ad) : FnOk P w K mg base CX0 4 ad.f_Ratio_le ad.d_Ratio_le ["self", "other"] (sp_Ratio_le K ad) := by
  refine T.F_Ratio_le.ok sc_Ratio_le (fun vs H Q E h => by obtain ⟨p, dx, t, b, v, t2, b2, rfl, _⟩ := h; rfl) (fun cdv A outer s H vs Q E hr h => ?_)
  have hu := hu_of hr
  obtain ⟨p, dx, t, b, v, t2, b2, rfl, hp, hv, bA, bB, k⟩ := h
  refine ⟨_, (pss_cons (ps_set (i := 1) sc_Ratio_le.nd rfl (by first | exact Or.inl rfl | exact Or.inr rfl) (pe_call (ok_as_ratio (P := P) (w := w) (K := K) (mg := mg) (base := base) T) (hr.mono (by decide)) (by rfl) T.g_as_ratio T.F_as_ratio.kp T.B_as_ratio .nil pass0 (pa_cons (pv 1) pa_nil)))
      (pss_one (ps_ret (pe_cmpR op_le (pe_op op_mulW (pe_fld (pv 0) rfl) (pe_fld (pv 1) rfl)) (pe_op op_mulW (pe_fld (pv 1) rfl) (pe_fld (pv 0) rfl)) (nomark _))))), ?_⟩
  try simp only [cxK, cxK2]
  rw [st_Ratio_le]
  refine ⟨_, rfl, v, t2, b2, rfl, hv, bB.bt, fun q dq H1 s1 hq => ?_⟩
  refine gs1 ?_
  have hp1 := s1 _ _ hp
  exact ⟨_, rfl, p, _, _, _, _, rfl, hp1, T.cl_Ratio, T.na_Ratio_top, RatioF_top, _, rfl, q, _, _, _, _, rfl, hq, T.cl_Ratio, T.na_Ratio_bottom, RatioF_bottom, _, _, rfl, rfl, m5 bA.bt bB.bb, _, rfl, q, _, _, _, _, rfl, hq, T.cl_Ratio, T.na_Ratio_top, RatioF_top, _, rfl, p, _, _, _, _, rfl, hp1, T.cl_Ratio, T.na_Ratio_bottom, RatioF_bottom, _, _, rfl, rfl, m5 bB.bt bA.bb, _, _, rfl, rfl, k _ s1⟩
end
def sp_Ratio_over (K : PySem.W.Frag) (ad : Ad) : Sp := fun vs H Q E => ∃ (p dx : Addr) (t b : Int) (v : V) (t2 b2 : Int), vs = [.ref p, v] ∧ H p = some (ratio ad dx t b) ∧ RV ad H v t2 b2 ∧ B5 t b ∧ B5 t2 b2 ∧
  (t2 = 0 → ∀ H', Sub H H' → E (.ref ad.c_ZeroBottom) none H') ∧
  (t2 ≠ 0 → ∀ r dr H' t' b', Sub H H' → H' r = some (ratio ad dr t' b') → LowT t' b' (t * b2) (b * t2) → Q (.ref r) H')
theorem own_made {H : Hp} {r dr : Addr} {o1 : HO} (h1 : H r = none) (h2 : H dr = none) : Sub H (upd (upd H dr (.own r)) r o1) := fun a x e => by
  rw [upd_ne (ne_of_none e h1), upd_ne (ne_of_none e h2)]
  exact e
theorem st_Ratio_over (a0 a1 : V) : start ["self", "other"] [a0, a1] = [some a0, some a1] := rfl
section
variable {P : Program} {w : World} {K : PySem.W.Frag} {mg : Str → Option Value} {base : Heap} {ad : Ad}
theorem ok_Ratio_over (T : Txt K mg ad) : FnOk P w K mg base (L2.CX P w) 4 ad.f_Ratio_over ad.d_Ratio_over ["self", "other"] (sp_Ratio_over K ad) := by
  refine T.F_Ratio_over.okX sc_Ratio_over (fun vs H Q E h => by obtain ⟨p, dx, t, b, v, t2, b2, rfl, _⟩ := h; rfl) (fun cdv A outer s H vs Q E hr h => ?_)
  have hu := hu_of hr
  obtain ⟨p, dx, t, b, v, t2, b2, rfl, hp, hv, bA, bB, k0, k1⟩ := h
  refine ⟨_, (pss_cons (ps_set (i := 1) sc_Ratio_over.nd rfl (by first | exact Or.inl rfl | exact Or.inr rfl) (pe_call (ok_as_ratio (P := P) (w := w) (K := K) (mg := mg) (base := base) T) (hr.mono (by decide)) (by rfl) T.g_as_ratio T.F_as_ratio.kp T.B_as_ratio .nil pass0 (pa_cons (pv 1) pa_nil)))
      (pss_one (ps_ret (pe_make T.mk_Ratio (ok_Ratio_init (P := P) (w := w) (K := K) (mg := mg) (base := base) T) (hr.mono (by decide)) (by rfl) T.g_Ratio T.B_Ratio_init .nil (passes_call (takes_of rfl rfl rfl rfl) (fun _ _ _ _ h => h)) (pa_cons (pe_op op_mulW (pe_fld (pv 0) rfl) (pe_fld (pv 1) rfl)) (pa_cons (pe_op op_mulW (pe_fld (pv 0) rfl) (pe_fld (pv 1) rfl)) pa_nil)))))), ?_⟩
  try simp only [cxK, cxK2]
  rw [st_Ratio_over]
  refine ⟨_, rfl, v, t2, b2, rfl, hv, bB.bt, fun q dq H1 s1 hq => ?_⟩
  refine gs1 ?_
  have hp1 := s1 _ _ hp
  refine ⟨_, rfl, p, _, _, _, _, rfl, hp1, T.cl_Ratio, T.na_Ratio_top, RatioF_top, _, rfl, q, _, _, _, _, rfl, hq, T.cl_Ratio, T.na_Ratio_bottom, RatioF_bottom, _, _, rfl, rfl, m5 bA.bt bB.bb, _, rfl, p, _, _, _, _, rfl, hp1, T.cl_Ratio, T.na_Ratio_bottom, RatioF_bottom, _, rfl, q, _, _, _, _, rfl, hq, T.cl_Ratio, T.na_Ratio_top, RatioF_top, _, _, rfl, rfl, m5 bA.bb bB.bt, ?_⟩
  intro r dr nr ndr ne
  refine ⟨r, dr, _, _, rfl, upd_same, u10 (pr5 bA.bt bB.bb), u10 (pr5 bA.bb bB.bt), fun z => ?_, fun hne => ⟨rfl, ?_⟩⟩
  · exact k0 ((Int.mul_eq_zero.mp z).elim (fun y => absurd y bA.ne) (fun y => y)) _ (s1.trans (own_made nr ndr))
  · exact k1 (fun y => hne (by rw [y, Int.mul_zero])) r dr _ _ _ (s1.trans (made nr ndr)) upd_same (low_n hne rfl)
end
def sp_Ratio_floordiv (K : PySem.W.Frag) (ad : Ad) : Sp := fun vs H Q E => ∃ (p dx : Addr) (t b : Int) (v : V) (t2 b2 : Int), vs = [.ref p, v] ∧ H p = some (ratio ad dx t b) ∧ RV ad H v t2 b2 ∧ B5 t b ∧ B5 t2 b2 ∧
  (t2 = 0 → ∀ H', Sub H H' → E (.ref ad.c_ZeroBottom) none H') ∧
  (t2 ≠ 0 → ∀ H' t' b', Sub H H' → LowT t' b' (t * b2) (b * t2) → Q (.int (t'.fdiv b')) H')
theorem rF_over {t b : Int} : (rF t b).lookup ("over" : Str) = none := by
  unfold rF
  simp only [List.lookup_cons, show (("over" : Str) == "top") = false by decide +kernel, show (("over" : Str) == "bottom") = false by decide +kernel, List.lookup_nil]
theorem st_Ratio_floordiv (a0 a1 : V) : start ["self", "other", "quotient"] [a0, a1] = [some a0, some a1, none] := rfl
section
variable {P : Program} {w : World} {K : PySem.W.Frag} {mg : Str → Option Value} {base : Heap} {ad : Ad}
theorem ok_Ratio_floordiv (T : Txt K mg ad) : FnOk P w K mg base (L2.CX P w) 5 ad.f_Ratio_floordiv ad.d_Ratio_floordiv ["self", "other"] (sp_Ratio_floordiv K ad) := by
  refine T.F_Ratio_floordiv.okX sc_Ratio_floordiv (fun vs H Q E h => by obtain ⟨p, dx, t, b, v, t2, b2, rfl, _⟩ := h; rfl) (fun cdv A outer s H vs Q E hr h => ?_)
  have hu := hu_of hr
  obtain ⟨p, dx, t, b, v, t2, b2, rfl, hp, hv, bA, bB, k0, k1⟩ := h
  refine ⟨_, (pss_cons (ps_set (i := 2) sc_Ratio_floordiv.nd rfl (by first | exact Or.inl rfl | exact Or.inr rfl) (pe_meth (pv 0) T.cl_Ratio T.m_Ratio_over (ok_Ratio_over (P := P) (w := w) (K := K) (mg := mg) (base := base) T) (hr.mono (by decide)) T.B_Ratio_over .nil (passes_call (takes_of rfl rfl rfl rfl) (fun _ _ _ _ h => h)) (pa_cons (pv 1) pa_nil)))
      (pss_one (ps_ret (pe_op op_fdivS (pe_fld (pv 2) rfl) (pe_fld (pv 2) rfl))))), ?_⟩
  try simp only [cxK, cxK2]
  rw [st_Ratio_floordiv]
  refine ⟨_, rfl, p, dx, _, rfl, hp, rF_over, _, rfl, p, dx, t, b, v, t2, b2, rfl, hp, hv, bA, bB, k0, fun hz r dr H1 t1 b1 s1 hr1 L => ?_⟩
  refine gs2 ?_
  have hd : b * t2 ≠ 0 := fun z => (Int.mul_eq_zero.mp z).elim bA.ne hz
  have hb1 := Nat.lt_of_le_of_lt (L.le hd).2 (pr5 bA.bb bB.bt)
  refine ⟨_, rfl, r, _, _, _, _, rfl, hr1, T.cl_Ratio, T.na_Ratio_top, RatioF_top, _, rfl, r, _, _, _, _, rfl, hr1, T.cl_Ratio, T.na_Ratio_bottom, RatioF_bottom, _, _, rfl, rfl, wide_divS (b := 1000) (by have := L.pos; omega) hb1 (by decide) (by decide), k1 hz _ _ _ s1 L⟩
end
def sp_law_pool (K : PySem.W.Frag) (ad : Ad) : Sp := fun vs H Q _ => ∃ (a : Addr) (ns : List Int), vs = [.ref a] ∧ SqL K H a (ns.map V.int) ∧ ns.length ≤ 63 ∧
  ∀ p ms H', H p = none → Sub H H' → H' p = some (pool ms) → PoolOk ms → Q (.ref p) H'
/-- what the pool's list holds between two turns -/
structure PlAt (H : Hp) (o : Addr) (n : Nat) (ms : List Int) (H' : Hp) : Prop where
  sub : Sub H H'
  at_ : H' o = some (pool ms)
  len : ms.length ≤ n
  rng : ∀ x ∈ ms, 0 ≤ x ∧ x < 4096
theorem PlAt.add {H H' : Hp} {o : Addr} {n : Nat} {ms : List Int} {x : Int} (h : PlAt H o n ms H') (no : H o = none) (h0 : 0 ≤ x) (h1 : x < 4096) : PlAt H o (n + 1) (ms ++ [x]) (upd H' o (.lst (ms.map V.int ++ [V.int x]))) := by
  refine ⟨fun a u e => ?_, ?_, ?_, fun y hy => ?_⟩
  · rw [upd_ne (ne_of_none e no)]; exact h.sub a u e
  · rw [upd_same]
    show some (HO.lst (List.map V.int ms ++ [V.int x])) = some (HO.lst ((ms ++ [x]).map V.int))
    rw [List.map_append]; rfl
  · have := h.len; rw [List.length_append, List.length_singleton]; omega
  · rcases List.mem_append.mp hy with hy | hy
    · exact h.rng y hy
    · rw [List.mem_singleton] at hy; subst hy; exact ⟨h0, h1⟩
theorem PlAt.mono {H H' : Hp} {o : Addr} {n m : Nat} {ms : List Int} (h : PlAt H o n ms H') (l : n ≤ m) : PlAt H o m ms H' := ⟨h.sub, h.at_, Nat.le_trans h.len l, h.rng⟩
theorem PlAt.ne {H H' : Hp} {o c : Addr} {n : Nat} {ms : List Int} (h : PlAt H o n ms H') (no : H o = none) {xs : List V} (e : H c = some (.lst xs)) : c ≠ o := ne_of_none e no
theorem fmod_rng (x m : Int) (hm : 0 < m) : 0 ≤ x.fmod m ∧ x.fmod m < m := by
  rw [Int.fmod_eq_emod_of_nonneg _ (by omega)]
  exact ⟨Int.emod_nonneg _ (by omega), Int.emod_lt_of_pos _ hm⟩
theorem nab62 {x : Int} (h0 : 0 ≤ x) (h1 : x < 4611686018427387904) : x.natAbs < 2 ^ 62 := by
  have e : (2 : Nat) ^ 62 = 4611686018427387904 := by decide
  rw [e]; omega
theorem st_law_pool (a0 : V) : start ["_law_script", "_law_pool_here", "_law_cell", "_law_rest", "_law_k", "_law_mixed"] [a0] = [some a0, none, none, none, none, none] := rfl
section
variable {P : Program} {w : World} {K : PySem.W.Frag} {mg : Str → Option Value} {base : Heap} {ad : Ad}
theorem ok_law_pool (T : Txt K mg ad) : FnOk P w K mg base CX0 1 ad.f_law_pool ad.d_law_pool ["_law_script"] (sp_law_pool K ad) := by
  refine T.F_law_pool.ok sc_law_pool (fun vs H Q E h => by obtain ⟨a, ns, rfl, _⟩ := h; rfl) (fun cdv A outer s H vs Q E hr h => ?_)
  have hu := hu_of hr
  obtain ⟨a, ns, rfl, hS, hlen, k⟩ := h
  refine ⟨_, (pss_cons (ps_set (i := 1) sc_law_pool.nd rfl (by first | exact Or.inl rfl | exact Or.inr rfl) (pe_lst pa_nil))
      (pss_cons (ps_for PassesOwn.never rfl (pi_list (pe_slice sl_list (pv 0) po_none (po_some pe_int))) (pg_name (i := 2) sc_law_pool.nd rfl (by first | exact Or.inl rfl | exact Or.inr rfl))
      (pss_cons (ps_set (i := 3) sc_law_pool.nd rfl (by first | exact Or.inl rfl | exact Or.inr rfl) (pe_callB call_abs (by rfl) T.z_abs (by decide +kernel) (pa_cons (pv 2) pa_nil)))
      (pss_one (ps_if (pt_cmpR op_lt (pv 3) (pe_op op_pow pe_int pe_int) (nomark _)) (pss_one (ps_for PassesOwn.never rfl (pi_range1 rfl T.z_range (pa_cons pe_int pa_nil)) (pg_name (i := 4) sc_law_pool.nd rfl (by first | exact Or.inl rfl | exact Or.inr rfl))
      (pss_cons (ps_set (i := 5) sc_law_pool.nd rfl (by first | exact Or.inl rfl | exact Or.inr rfl) (pe_op op_modN (pe_op op_mulW (pe_op op_mulW (pe_op op_add (pv 3) pe_int) (pe_op op_add (pv 4) pe_int)) pe_int) pe_int))
      (pss_one (ps_expr (pe_bm PySem.F.plainAttrs_list PySem.F.slot_list_append PySem.F.type_list_append mt_append (pv 1) (pa_cons (pe_op op_modN (pe_op op_fdivW (pe_op op_modN (pe_op op_mulW (pv 5) pe_int) pe_int) pe_int) pe_int) pa_nil))))))) (pss_one (ps_for PassesOwn.never rfl (pi_range1 rfl T.z_range (pa_cons pe_int pa_nil)) (pg_name (i := 4) sc_law_pool.nd rfl (by first | exact Or.inl rfl | exact Or.inr rfl))
      (pss_one (ps_if (pt_cmpR op_gt (pv 3) pe_int (nomark _)) (pss_cons (ps_expr (pe_bm PySem.F.plainAttrs_list PySem.F.slot_list_append PySem.F.type_list_append mt_append (pv 1) (pa_cons (pe_op op_modN (pe_callTy call_int1 (by rfl) T.z_int (by decide +kernel) (pa_cons (pv 3) pa_nil)) pe_int) pa_nil)))
      (pss_one (ps_set (i := 3) sc_law_pool.nd rfl (by first | exact Or.inl rfl | exact Or.inr rfl) (pe_op op_fdivW (pv 3) pe_int)))) pss_nil))))))))
      (pss_one (ps_ret (pv 1))))), ?_⟩
  try simp only [cxK, cxK2]
  rw [st_law_pool]
  -- _law_pool_here = []
  refine ⟨Nat.zero_le _, fun o no => ?_⟩
  have s1 : Sub H (upd H o (.lst [])) := Sub.new no
  -- for _law_cell in _law_script[:63]
  refine ⟨.ref a, rfl, 63, rfl, a, ns.map V.int, rfl, s1.seq hS, fun c nc => ?_⟩
  have hco : c ≠ o := fun e => by rw [e, upd_same] at nc; cases nc
  have nc0 : H c = none := by rw [upd_ne hco] at nc; exact nc
  have ecut : cutV (ns.map V.int) none (some 63) = ns.map V.int := by
    unfold cutV
    rw [HT.sIx_none, show HT.sIx (ns.map V.int).length (ns.map V.int).length (some 63) = min 63 (ns.map V.int).length from HT.sIx_nat _ _ 63, List.drop_zero, Nat.sub_zero]
    exact List.take_of_length_le (by rw [List.length_map]; omega)
  rw [ecut]
  refine ⟨c, rfl, ⟨_, .inl (.inl upd_same)⟩, for_list (xs := ns.map V.int) (fun i σ H' => ∃ y2 y3 y4 y5 ms, σ = [some (.ref a), some (.ref o), y2, y3, y4, y5] ∧ H' c = some (.lst (ns.map V.int)) ∧ PlAt H o (60 * i) ms H') ?_ (fun i σ H' _ hW => ?_) (fun i x σ H' hx hW => ?_) (fun σ H' hW => ?_)⟩
  · refine ⟨none, none, none, none, [], rfl, upd_same, ⟨s1.trans (Sub.new nc), ?_, Nat.zero_le _, fun x hx => nomatch hx⟩⟩
    rw [upd_ne hco.symm, upd_same]; rfl
  · obtain ⟨_, _, _, _, _, _, ec, _⟩ := hW
    exact .inl (.inl ec)
  · obtain ⟨y2, y3, y4, y5, ms, rfl, ec, W⟩ := hW
    obtain ⟨z, rfl⟩ : ∃ z, x = .int z := by
      rw [List.getElem?_map] at hx
      cases e : ns[i]? with
      | none => rw [e] at hx; cases hx
      | some z => rw [e] at hx; cases hx; exact ⟨z, rfl⟩
    -- _law_rest = abs(_law_cell)
    refine ⟨_, rfl, z, rfl, ?_⟩
    generalize hr0 : (if z < 0 then -z else z) = r
    have r0 : 0 ≤ r := by rw [← hr0]; split <;> omega
    -- if _law_rest < 10 ** 18
    refine ⟨_, rfl, _, _, rfl, rfl, ⟨by decide, by decide, by decide⟩, _, _, rfl, rfl, _, rfl, ite2 (fun e => ?_) (fun e => ?_)⟩
    · have r1 : r < 10 ^ 18 := of_decide_eq_true e
      -- for _law_k in range(40)
      refine ⟨40, rfl, by decide, by decide, for_range (lo := 0) (n := 40) (fun j σ H' => ∃ y4 y5 ms, σ = [some (.ref a), some (.ref o), some (.int z), some (.int r), y4, y5] ∧ H' c = some (.lst (ns.map V.int)) ∧ PlAt H o (60 * i + j) ms H') ?_ (fun j σ H' hj hW => ?_) (fun σ H' hW => ?_)⟩
      · exact ⟨y4, y5, ms, rfl, ec, W⟩
      · obtain ⟨y4, y5, ms, rfl, ec, W⟩ := hW
        -- _law_mixed = ..
        refine ⟨_, rfl, _, _, rfl, rfl, _, rfl, _, _, rfl, rfl, _, _, rfl, rfl, ?_, ?_⟩
        · exact wide_mul (a := 62) (b := 62) (nab62 (by omega) (by omega)) (nab62 (by omega) (by omega)) (by decide) (by decide) (by decide)
        refine ⟨_, _, rfl, rfl, ?_, ?_⟩
        · exact wide_mul (a := 124) (b := 62) (wide_lt (nab62 (by omega) (by omega)) (nab62 (by omega) (by omega))) (by decide) (by decide) (by decide) (by decide)
        refine ⟨_, _, rfl, rfl, (by show (2147483647 : Int) ≠ 0; decide), ?_⟩
        have q0 := fmod_rng ((r + 1) * ((0 : Int) + j + 3) * 48271) 2147483647 (by decide)
        -- _law_pool_here.append(..)
        refine ⟨_, rfl, .inl ⟨rfl, _, SqL.of W.at_⟩, _, rfl, _, _, rfl, rfl, ?_, _, _, rfl, rfl, (by show (2147483629 : Int) ≠ 0; decide), _, _, rfl, rfl, ⟨(by show (0 : Int) < 5; decide), (by show (5 : Int).natAbs.log2 < 9000; decide)⟩, _, _, rfl, rfl, (by show (4096 : Int) ≠ 0; decide), ?_⟩
        · exact wide_mul (a := 62) (b := 62) (nab62 q0.1 (Int.lt_trans q0.2 (by decide))) (by decide) (by decide) (by decide) (by decide)
        have vr := fmod_rng (((((r + 1) * ((0 : Int) + j + 3) * 48271).fmod 2147483647) * 69621).fmod 2147483629 / 5) 4096 (by decide)
        refine ⟨o, _, _, rfl, rfl, W.at_, ?_, ?_⟩
        · rw [List.length_map]; exact Nat.lt_of_le_of_lt W.len (by have : i < (ns.map V.int).length := (List.getElem?_eq_some_iff.mp hx).1; rw [List.length_map] at this; exact Nat.lt_of_lt_of_le (show 60 * i + j < 10000 by omega) (by decide))
        · refine ⟨_, _, _, rfl, ?_, W.add no vr.1 vr.2⟩
          rw [upd_ne hco]; exact ec
      · obtain ⟨y4, y5, ms, rfl, ec, W⟩ := hW
        exact ⟨_, _, y4, y5, ms, rfl, ec, W.mono (by omega)⟩
    · -- for _law_k in range(60)
      refine ⟨60, rfl, by decide, by decide, for_range (lo := 0) (n := 60) (fun j σ H' => ∃ r y4 y5 ms, σ = [some (.ref a), some (.ref o), some (.int z), some (.int r), y4, y5] ∧ H' c = some (.lst (ns.map V.int)) ∧ PlAt H o (60 * i + j) ms H') ?_ (fun j σ H' hj hW => ?_) (fun σ H' hW => ?_)⟩
      · exact ⟨r, y4, y5, ms, rfl, ec, W⟩
      · obtain ⟨r, y4, y5, ms, rfl, ec, W⟩ := hW
        refine ⟨_, rfl, _, _, rfl, rfl, _, rfl, ite2 (fun e => ?_) (fun e => ?_)⟩
        · refine ⟨_, rfl, .inl ⟨rfl, _, SqL.of W.at_⟩, _, rfl, .inl ⟨_, rfl, _, _, rfl, rfl, (by show (4096 : Int) ≠ 0; decide), ?_⟩⟩
          have vr := fmod_rng r 4096 (by decide)
          refine ⟨o, _, _, rfl, rfl, W.at_, ?_, ?_⟩
          · rw [List.length_map]; exact Nat.lt_of_le_of_lt W.len (by have : i < (ns.map V.int).length := (List.getElem?_eq_some_iff.mp hx).1; rw [List.length_map] at this; exact Nat.lt_of_lt_of_le (show 60 * i + j < 10000 by omega) (by decide))
          · refine ⟨_, rfl, _, _, rfl, rfl, ⟨(by show (0 : Int) < 4096; decide), (by show (4096 : Int).natAbs.log2 < 9000; decide)⟩, ?_⟩
            refine ⟨_, _, _, _, rfl, ?_, W.add no vr.1 vr.2⟩
            rw [upd_ne hco]; exact ec
        · exact ⟨r, _, y5, ms, rfl, ec, W.mono (by omega)⟩
      · obtain ⟨r, y4, y5, ms, rfl, ec, W⟩ := hW
        exact ⟨_, _, y4, y5, ms, rfl, ec, W.mono (by omega)⟩
  · obtain ⟨y2, y3, y4, y5, ms, rfl, ec, W⟩ := hW
    rw [List.length_map] at W
    refine ⟨.ref o, rfl, k o ms H' no W.sub W.at_ ⟨?_, W.rng⟩⟩
    have := W.len
    omega
end
def sp_law_take (K : PySem.W.Frag) (ad : Ad) : Sp := fun vs H Q _ => ∃ p ms m, vs = [.ref p, .int m] ∧ H p = some (pool ms) ∧ PoolOk ms ∧ 0 < m ∧
  ∀ H', Chg p H H' → H' p = some (pool ms.tail) → Q (.int (tkv ms m)) H'
theorem eqv_nil : ∀ ms : List Int, PyData.eqv (.list (ms.map PyData.int)) (.list []) = ms.isEmpty
  | [] => rfl
  | _ :: _ => rfl
theorem dpI {K : PySem.W.Frag} {H : Hp} : ∀ ms : List Int, DpAll K H (ms.map V.int) (ms.map PyData.int)
  | [] => .nil
  | _ :: r => .cons (.int _) (dpI r)
theorem shapedI : ∀ ms : List Int, SeqAt.shaped (.list (ms.map PyData.int)) = true
  | [] => rfl
  | _ :: r => by
    have h := shapedI r
    exact h
theorem st_law_take (a0 a1 : V) : start ["_law_pool_here", "_law_many"] [a0, a1] = [some a0, some a1] := rfl
section
variable {P : Program} {w : World} {K : PySem.W.Frag} {mg : Str → Option Value} {base : Heap} {ad : Ad}
theorem ok_law_take (T : Txt K mg ad) : FnOk P w K mg base CX0 1 ad.f_law_take ad.d_law_take ["_law_pool_here", "_law_many"] (sp_law_take K ad) := by
  refine T.F_law_take.ok sc_law_take (fun vs H Q E h => by obtain ⟨p, ms, m, rfl, _⟩ := h; rfl) (fun cdv A outer s H vs Q E hr h => ?_)
  have hu := hu_of hr
  obtain ⟨p, ms, m, rfl, hp, ok, hm, k⟩ := h
  refine ⟨_, (pss_cons (ps_if (pt_cmpR (op_eqD hr.units) (pv 0) (pe_lst pa_nil) (nomark _)) (pss_one (ps_ret pe_int)) pss_nil)
      (pss_one (ps_ret (pe_op op_modN (pe_callTy call_int1 (by rfl) T.z_int (by decide +kernel) (pa_cons (pe_bm PySem.F.plainAttrs_list PySem.F.slot_list_pop PySem.F.type_list_pop mt_popAt (pv 0) (pa_cons pe_int pa_nil)) pa_nil)) (pv 1))))), ?_⟩
  try simp only [cxK, cxK2]
  rw [st_law_take]
  -- if _law_pool_here == []
  refine ⟨_, rfl, Nat.zero_le _, fun o no => ?_⟩
  have hpo : p ≠ o := ne_of_none hp no
  have hp1 : (upd H o (.lst [])) p = some (pool ms) := by rw [upd_ne hpo]; exact hp
  refine ⟨.list (ms.map PyData.int), .list [], .lst (SqL.of hp1) (dpI ms), .lst (SqL.of upd_same) .nil, shapedI ms, rfl, _, rfl, ?_⟩
  rw [eqv_nil]
  cases ms with
  | nil =>
    refine iteT ?_
    exact k _ (Chg.new no) hp1
  | cons n r =>
    refine iteF ?_
    refine ⟨_, rfl, .inl ⟨rfl, _, SqL.of hp1⟩, p, _, 0, 0, _, rfl, rfl, hp1, by decide, by decide, (by simp [seqIndex?, List.length_cons] <;> omega), rfl, ?_⟩
    refine .inl ⟨n, rfl, _, rfl, _, _, rfl, rfl, by omega, ?_⟩
    exact k _ ((Chg.new no).trans Chg.put) upd_same
end
def sp_law_whole (K : PySem.W.Frag) (ad : Ad) : Sp := fun vs H Q _ => ∃ n, vs = [.int n] ∧ Q (.bl true) H
theorem kit_ii {K : PySem.W.Frag} : PySem.W.kitOne K (.type "int") (.type "int") = some true := kit_ty (by decide +kernel)
theorem kit_ib {K : PySem.W.Frag} : PySem.W.kitOne K (.type "int") (.type "bool") = some false := kit_ty (by decide +kernel)
theorem st_law_whole (a0 : V) : start ["_law_x"] [a0] = [some a0] := rfl
section
variable {P : Program} {w : World} {K : PySem.W.Frag} {mg : Str → Option Value} {base : Heap} {ad : Ad}
theorem ok_law_whole (T : Txt K mg ad) : FnOk P w K mg base CX0 1 ad.f_law_whole ad.d_law_whole ["_law_x"] (sp_law_whole K ad) := by
  refine T.F_law_whole.ok sc_law_whole (fun vs H Q E h => by obtain ⟨n, rfl, _⟩ := h; rfl) (fun cdv A outer s H vs Q E hr h => ?_)
  have hu := hu_of hr
  obtain ⟨n, rfl, k⟩ := h
  refine ⟨_, (pss_one (ps_ret (pe_and (pe_callB call_isi (by rfl) T.z_isinstance (by decide +kernel) (pa_cons (pv 0) (pa_cons (pe_bltn (v := .ty "int") (by rfl) T.z_int (by decide +kernel) rfl) pa_nil))) (pe_one (pe_not (pe_callB call_isi (by rfl) T.z_isinstance (by decide +kernel) (pa_cons (pv 0) (pa_cons (pe_bltn (v := .ty "bool") (by rfl) T.z_bool (by decide +kernel) rfl) pa_nil)))))))), ?_⟩
  try simp only [cxK, cxK2]
  rw [st_law_whole]
  refine ⟨_, rfl, .int n, .ty "int", _, _, true, rfl, .ty _, .base (.int n), kit_ii, true, rfl, iteT ?_⟩
  exact ⟨_, rfl, .int n, .ty "bool", _, _, false, rfl, .ty _, .base (.int n), kit_ib, false, rfl, k⟩
end
def sp_law_number (K : PySem.W.Frag) (ad : Ad) : Sp := fun vs H Q _ => ∃ p ms, vs = [.ref p] ∧ H p = some (pool ms) ∧ PoolOk ms ∧
  ∀ v ms' H', Chg p H H' → H' p = some (pool ms') → PoolOk ms' → v.natAbs < 2 ^ 192 → Q (.int v) H'
theorem p4096 {n : Int} {i : Nat} (h0 : 0 ≤ n) (h : n < 4096 ^ i) (hi : i ≤ 16) : n.natAbs < 2 ^ 192 := by
  have e1 : (4096 : Nat) ^ i ≤ 4096 ^ 16 := Nat.pow_le_pow_right (by decide) hi
  have e2 : (4096 : Nat) ^ 16 = 2 ^ 192 := by decide +kernel
  have e3 : ((4096 ^ i : Nat) : Int) = (4096 : Int) ^ i := Int.natCast_pow 4096 i
  rw [← e3] at h
  rw [e2] at e1
  generalize (4096 : Nat) ^ i = z at h e1
  generalize (2 : Nat) ^ 192 = u at e1 ⊢
  omega
theorem st_law_number (a0 : V) : start ["_law_pool_here", "_law_kind", "_law_number_here", "_law_k"] [a0] = [some a0, none, none, none] := rfl
section
variable {P : Program} {w : World} {K : PySem.W.Frag} {mg : Str → Option Value} {base : Heap} {ad : Ad}
theorem ok_law_number (T : Txt K mg ad) : FnOk P w K mg base CX0 2 ad.f_law_number ad.d_law_number ["_law_pool_here"] (sp_law_number K ad) := by
  refine T.F_law_number.ok sc_law_number (fun vs H Q E h => by obtain ⟨p, ms, rfl, _⟩ := h; rfl) (fun cdv A outer s H vs Q E hr h => ?_)
  have hu := hu_of hr
  obtain ⟨p, ms, rfl, hp, ok, k⟩ := h
  refine ⟨_, (pss_cons (ps_set (i := 1) sc_law_number.nd rfl (by first | exact Or.inl rfl | exact Or.inr rfl) (pe_call (ok_law_take (P := P) (w := w) (K := K) (mg := mg) (base := base) T) (hr.mono (by decide)) (by rfl) T.g_law_take T.F_law_take.kp T.B_law_take .nil pass0 (pa_cons (pv 0) (pa_cons pe_int pa_nil))))
      (pss_cons (ps_if (pt_cmpR op_eq (pv 1) pe_int (nomark _)) (pss_one (ps_ret (pe_op op_sub (pe_call (ok_law_take (P := P) (w := w) (K := K) (mg := mg) (base := base) T) (hr.mono (by decide)) (by rfl) T.g_law_take T.F_law_take.kp T.B_law_take .nil pass0 (pa_cons (pv 0) (pa_cons pe_int pa_nil))) pe_int))) pss_nil)
      (pss_cons (ps_set (i := 2) sc_law_number.nd rfl (by first | exact Or.inl rfl | exact Or.inr rfl) pe_int)
      (pss_cons (ps_for PassesOwn.never rfl (pi_range1 rfl T.z_range (pa_cons (pe_call (ok_law_take (P := P) (w := w) (K := K) (mg := mg) (base := base) T) (hr.mono (by decide)) (by rfl) T.g_law_take T.F_law_take.kp T.B_law_take .nil pass0 (pa_cons (pv 0) (pa_cons pe_int pa_nil))) pa_nil)) (pg_name (i := 3) sc_law_number.nd rfl (by first | exact Or.inl rfl | exact Or.inr rfl))
      (pss_one (ps_set (i := 2) sc_law_number.nd rfl (by first | exact Or.inl rfl | exact Or.inr rfl) (pe_op op_add (pe_op op_mulW (pv 2) pe_int) (pe_call (ok_law_take (P := P) (w := w) (K := K) (mg := mg) (base := base) T) (hr.mono (by decide)) (by rfl) T.g_law_take T.F_law_take.kp T.B_law_take .nil pass0 (pa_cons (pv 0) (pa_cons pe_int pa_nil)))))))
      (pss_cons (ps_if (pt_cmpR op_eq (pv 1) pe_int (nomark _)) (pss_one (ps_ret (pe_un un_neg (pv 2)))) pss_nil)
      (pss_one (ps_ret (pv 2)))))))), ?_⟩
  try simp only [cxK, cxK2]
  rw [st_law_number]
  -- _law_kind = _law_take(_law_pool_here, 3)
  refine ⟨_, rfl, p, ms, 3, rfl, hp, ok, by decide, fun H1 c1 e1 => ?_⟩
  have ok1 := ok.tail
  have k3 := tkv_rng (ms := ms) (show (0 : Int) < 3 by decide)
  generalize tkv ms 3 = kd at k3 ⊢
  generalize ms.tail = ms1 at e1 ok1
  -- if _law_kind == 0
  refine ⟨_, rfl, rfl, _, rfl, ite2 (fun e => ?_) (fun e => ?_)⟩
  · refine ⟨_, rfl, p, ms1, 25, rfl, e1, ok1, by decide, fun H2 c2 e2 => ⟨_, _, rfl, rfl, ?_⟩⟩
    have r := tkv_rng (ms := ms1) (show (0 : Int) < 25 by decide)
    refine k _ _ H2 (c1.trans c2) e2 ok1.tail (Nat.lt_of_lt_of_le (show (tkv ms1 25 - 12).natAbs < 2 ^ 5 by omega) (Nat.pow_le_pow_right (by decide) (by decide)))
  · -- _law_number_here = 0; for _law_k in range(_law_take(_law_pool_here, 17))
    refine ⟨_, rfl, p, ms1, 17, rfl, e1, ok1, by decide, fun H2 c2 e2 => ?_⟩
    have r := tkv_rng (ms := ms1) (show (0 : Int) < 17 by decide)
    have ok2 := ok1.tail
    generalize tkv ms1 17 = tn at r ⊢
    generalize ms1.tail = ms2 at e2 ok2
    refine ⟨tn, rfl, by omega, by omega, for_range (lo := 0) (n := tn.toNat) (fun i σ H' => ∃ y3 n ms', σ = [some (.ref p), some (.int kd), some (.int n), y3] ∧ Chg p H H' ∧ H' p = some (pool ms') ∧ PoolOk ms' ∧ 0 ≤ n ∧ n < 4096 ^ i) ?_ (fun i σ H' hi hW => ?_) (fun σ H' hW => ?_)⟩
    · exact ⟨none, 0, ms2, rfl, c1.trans c2, e2, ok2, by decide, by decide⟩
    · obtain ⟨y3, n, ms', rfl, c', e', ok', n0, n1⟩ := hW
      have hi16 : i ≤ 16 := by omega
      refine ⟨_, rfl, _, _, rfl, rfl, ?_, ?_⟩
      · exact wide_mul (a := 192) (b := 62) (p4096 n0 n1 hi16) (by decide) (by decide) (by decide) (by decide)
      refine ⟨_, rfl, p, ms', 4096, rfl, e', ok', by decide, fun H3 c3 e3 => ⟨_, _, rfl, rfl, ?_⟩⟩
      have q := tkv_rng (ms := ms') (show (0 : Int) < 4096 by decide)
      refine ⟨_, _, _, rfl, c'.trans c3, e3, ok'.tail, by omega, ?_⟩
      rw [Int.pow_succ]
      generalize (4096 : Int) ^ i = z at n1 ⊢
      omega
    · obtain ⟨y3, n, ms', rfl, c', e', ok', n0, n1⟩ := hW
      have b := p4096 n0 n1 (show tn.toNat ≤ 16 by omega)
      -- if _law_kind == 1
      refine ⟨_, rfl, rfl, _, rfl, ite2 (fun e => ?_) (fun e => ?_)⟩
      · exact ⟨_, rfl, n, rfl, k _ _ H' c' e' ok' (by rw [Int.natAbs_neg]; exact b)⟩
      · exact ⟨_, rfl, k _ _ H' c' e' ok' b⟩
end
def sp_law_bottom (K : PySem.W.Frag) (ad : Ad) : Sp := fun vs H Q _ => ∃ p ms, vs = [.ref p] ∧ H p = some (pool ms) ∧ PoolOk ms ∧
  ∀ v ms' H', Chg p H H' → H' p = some (pool ms') → PoolOk ms' → v.natAbs < 2 ^ 192 → v ≠ 0 → Q (.int v) H'
theorem st_law_bottom (a0 : V) : start ["_law_pool_here", "_law_number_here"] [a0] = [some a0, none] := rfl
section
variable {P : Program} {w : World} {K : PySem.W.Frag} {mg : Str → Option Value} {base : Heap} {ad : Ad}
theorem ok_law_bottom (T : Txt K mg ad) : FnOk P w K mg base CX0 3 ad.f_law_bottom ad.d_law_bottom ["_law_pool_here"] (sp_law_bottom K ad) := by
  refine T.F_law_bottom.ok sc_law_bottom (fun vs H Q E h => by obtain ⟨p, ms, rfl, _⟩ := h; rfl) (fun cdv A outer s H vs Q E hr h => ?_)
  have hu := hu_of hr
  obtain ⟨p, ms, rfl, hp, ok, k⟩ := h
  refine ⟨_, (pss_cons (ps_set (i := 1) sc_law_bottom.nd rfl (by first | exact Or.inl rfl | exact Or.inr rfl) (pe_call (ok_law_number (P := P) (w := w) (K := K) (mg := mg) (base := base) T) (hr.mono (by decide)) (by rfl) T.g_law_number T.F_law_number.kp T.B_law_number .nil pass0 (pa_cons (pv 0) pa_nil)))
      (pss_cons (ps_if (pt_cmpR op_eq (pv 1) pe_int (nomark _)) (pss_one (ps_ret pe_int)) pss_nil)
      (pss_one (ps_ret (pv 1))))), ?_⟩
  try simp only [cxK, cxK2]
  rw [st_law_bottom]
  refine ⟨_, rfl, p, ms, rfl, hp, ok, fun v ms' H' c e ok' bv => ?_⟩
  refine gs1 ?_
  refine ⟨_, rfl, rfl, _, rfl, ?_⟩
  by_cases hv : v = 0
  · exact iteY (congrArg V.int hv) (k 1 ms' H' c e ok' (Nat.lt_of_lt_of_le (show (1 : Int).natAbs < 2 ^ 1 by decide) (Nat.pow_le_pow_right (by decide) (by decide))) (by decide))
  · exact iteN (neI hv) ⟨_, rfl, k v ms' H' c e ok' bv hv⟩
end
theorem kit_bb {K : PySem.W.Frag} : PySem.W.kitOne K (.type "bool") (.type "bool") = some true := kit_ty (by decide +kernel)
def sp_law_truth (K : PySem.W.Frag) (ad : Ad) : Sp := fun vs H Q _ => ∃ x y, vs = [.bl x, .bl y] ∧ x = y ∧ Q (.bl true) H
theorem st_law_truth (a0 a1 : V) : start ["_law_told", "_law_due"] [a0, a1] = [some a0, some a1] := rfl
section
variable {P : Program} {w : World} {K : PySem.W.Frag} {mg : Str → Option Value} {base : Heap} {ad : Ad}
theorem ok_law_truth (T : Txt K mg ad) : FnOk P w K mg base CX0 1 ad.f_law_truth ad.d_law_truth ["_law_told", "_law_due"] (sp_law_truth K ad) := by
  refine T.F_law_truth.ok sc_law_truth (fun vs H Q E h => by obtain ⟨x, y, rfl, _⟩ := h; rfl) (fun cdv A outer s H vs Q E hr h => ?_)
  have hu := hu_of hr
  obtain ⟨x, y, rfl, rfl, k⟩ := h
  refine ⟨_, (pss_one (ps_ret (pe_and (pe_callB call_isi (by rfl) T.z_isinstance (by decide +kernel) (pa_cons (pv 0) (pa_cons (pe_bltn (v := .ty "bool") (by rfl) T.z_bool (by decide +kernel) rfl) pa_nil))) (pe_one (pe_cmpR op_eq (pv 0) (pv 1) (nomark _)))))), ?_⟩
  try simp only [cxK, cxK2]
  rw [st_law_truth]
  refine ⟨_, rfl, .bl x, .ty "bool", _, _, true, rfl, .ty _, .base (.bl x), kit_bb, true, rfl, iteT ?_⟩
  refine ⟨_, rfl, _, rfl, rfl, ?_⟩
  rw [decide_eq_true (rfl : V.bl x = V.bl x)]
  exact k
end
def sp_law_floor (K : PySem.W.Frag) (ad : Ad) : Sp := fun vs H Q _ => ∃ (p dx : Addr) (t b : Int) (v : V) (t2 b2 T B : Int), vs = [.ref p, v, .int T, .int B] ∧ H p = some (ratio ad dx t b) ∧ RV ad H v t2 b2 ∧ B5 t b ∧ B5 t2 b2 ∧
  T.natAbs < 2 ^ 1000 ∧ B.natAbs < 2 ^ 1000 ∧ (t2 = 0 ↔ B = 0) ∧ t * b2 * B = T * (b * t2) ∧ ∀ H', Sub H H' → Q (.bl true) H'
theorem m10 {a b : Int} (ha : a.natAbs < 2 ^ 1001) (hb : b.natAbs < 2 ^ 1000) : CMulW a b := wide_mul (a := 1001) (b := 1000) ha hb (by decide) (by decide) (by decide)
theorem p1001 {a : Int} (ha : a.natAbs < 2 ^ 1000) : a.natAbs < 2 ^ 1001 ∧ (a + 1).natAbs < 2 ^ 1001 := by
  rw [show (2 : Nat) ^ 1001 = 2 * 2 ^ 1000 from by rw [Nat.pow_succ, Nat.mul_comm]]
  generalize (2 : Nat) ^ 1000 = z at *
  omega
theorem st_law_floor (a0 a1 a2 a3 : V) : start ["_law_a", "_law_b", "_law_top", "_law_bottom_here", "_law_whole_here"] [a0, a1, a2, a3] = [some a0, some a1, some a2, some a3, none] := rfl
section
variable {P : Program} {w : World} {K : PySem.W.Frag} {mg : Str → Option Value} {base : Heap} {ad : Ad}
theorem ok_law_floor (T : Txt K mg ad) : FnOk P w K mg base CX0 6 ad.f_law_floor ad.d_law_floor ["_law_a", "_law_b", "_law_top", "_law_bottom_here"] (sp_law_floor K ad) := by
  refine T.F_law_floor.ok sc_law_floor (fun vs H Q E h => by obtain ⟨p, dx, t, b, v, t2, b2, T1, B1, rfl, _⟩ := h; rfl) (fun cdv A outer s H vs Q E hr h => ?_)
  have hu := hu_of hr
  obtain ⟨p, dx, t, b, v, t2, b2, T0, B0, rfl, hp, hv, bA, bB, hT, hB, hz, hval, k⟩ := h
  refine ⟨_, (pss_cons (ps_if (pt_cmpR op_lt (pv 3) pe_int (nomark _)) (pss_cons (ps_set (i := 2) sc_law_floor.nd rfl (by first | exact Or.inl rfl | exact Or.inr rfl) (pe_un un_neg (pv 2)))
      (pss_one (ps_set (i := 3) sc_law_floor.nd rfl (by first | exact Or.inl rfl | exact Or.inr rfl) (pe_un un_neg (pv 3))))) pss_nil)
      (pss_cons (ps_try_only (Wout := fun _ _ _ _ => False) rfl rfl ⟨rfl, by decide, .inl T.g_ZeroBottom⟩ takes0
      (fun W pn xe tk _ => (pss_one (ps_set (i := 4) sc_law_floor.nd rfl (by first | exact Or.inl rfl | exact Or.inr rfl) (pe_opS (ok_Ratio_floordiv (P := P) (w := w) (K := K) (mg := mg) (base := base) T) (hr.mono (by decide)) T.B_Ratio_floordiv (fun σ => passAt tk σ) T.ow_Ratio_floordiv T.m_Ratio_floordiv (pv 0) (pv 1)))))
      (fun a oe cls d pn _ _ => (pss_one (ps_ret (pe_cmpR op_eq (pv 3) pe_int (nomark _))))))
      (pss_cons (ps_if (PW.pt (pw_or (pt_cmpR op_eq (pv 3) pe_int (nomark _)) (pw_or1 (pt_not (pt_val (pe_call (ok_law_whole (P := P) (w := w) (K := K) (mg := mg) (base := base) T) (hr.mono (by decide)) (by rfl) T.g_law_whole T.F_law_whole.kp T.B_law_whole .nil pass0 (pa_cons (pv 4) pa_nil))))))) (pss_one (ps_ret pe_bl)) pss_nil)
      (pss_one (ps_ret (pe_and (pe_cmpR op_le (pe_op op_mulW (pv 4) (pv 3)) (pv 2) (nomark _)) (pe_one (pe_cmpR op_lt (pv 2) (pe_op op_mulW (pe_op op_add (pv 4) pe_int) (pv 3)) (nomark _))))))))), ?_⟩
  try simp only [cxK, cxK2]
  rw [st_law_floor]
  refine joinS (W := fun σ H' => H' = H ∧ ∃ T1 B1 : Int, σ = [some (.ref p), some v, some (.int T1), some (.int B1), none] ∧ 0 ≤ B1 ∧ T1.natAbs < 2 ^ 1000 ∧ B1.natAbs < 2 ^ 1000 ∧ (t2 = 0 ↔ B1 = 0) ∧ t * b2 * B1 = T1 * (b * t2)) ?_ (fun D2 hD => ?_)
  rotate_left
  · refine ⟨_, rfl, _, _, rfl, rfl, _, rfl, ite2 (fun f => ?_) (fun f => ?_)⟩
    · have f0 : B0 < 0 := of_decide_eq_true f
      refine ⟨_, rfl, _, rfl, ?_⟩
      refine gs2 ?_
      refine ⟨_, rfl, _, rfl, ?_⟩
      refine gs3 ?_
      refine hD _ _ ⟨rfl, _, _, rfl, by omega, by rw [Int.natAbs_neg]; exact hT, by rw [Int.natAbs_neg]; exact hB, by omega, by rw [Int.mul_neg, Int.neg_mul, hval]⟩
    · have f0 : ¬ B0 < 0 := fun z => f (decide_eq_true z)
      exact hD _ _ ⟨rfl, _, _, rfl, by omega, hT, hB, hz, hval⟩
  clear hz hval hT hB
  rintro σ H' ⟨rfl, T1, B1, rfl, hB0, hT, hB, hz, hval⟩
  have hy : (∃ b dy gs, v = .ref b ∧ H' b = some (.ins ad.c_Ratio dy gs)) ∨ ∃ j, v = .int j := by
    rcases hv with ⟨q, dq, rfl, hq⟩ | ⟨rfl, rfl⟩
    · exact .inl ⟨q, dq, _, rfl, hq⟩
    · exact .inr ⟨_, rfl⟩
  refine ⟨_, rfl, _, rfl, p, dx, _, rfl, hp, hy, p, dx, t, b, v, t2, b2, rfl, hp, hv, bA, bB, fun z H1 s1 => ?_, fun hnz H1 t1 b1 s1 L => ?_⟩
  · refine ⟨true, PySem.W.exm_ref T.bs_ZeroBottom T.ec_ZeroBottom.hd T.ty_ZeroBottom T.ss_ZeroBottom, fun _ ea nea => ?_, fun z => (nomatch z)⟩
    have q := k H1 s1
    refine ⟨_, rfl, rfl, ?_⟩
    rw [decide_eq_true (congrArg V.int (hz.mp z))]
    exact q
  · refine gs4 ?_
    have hB1 : B1 ≠ 0 := fun z => hnz (hz.mpr z)
    have hd : b * t2 ≠ 0 := fun z => (Int.mul_eq_zero.mp z).elim bA.ne hnz
    have L2 := L.cast (N' := T1) (D' := B1) hd hval
    have F := floorB L.pos (show 0 < B1 by omega) L2.val
    have fa := Nat.lt_of_le_of_lt (fdiv_abs (t := t1) L.pos) (Nat.lt_of_le_of_lt (L.le hd).1 (pr5 bA.bt bB.bb))
    generalize t1.fdiv b1 = u at F fa ⊢
    refine ⟨_, rfl, rfl, _, rfl, ?_⟩
    try dsimp only
    rw [decide_eq_false (neI hB1)]
    refine iteF ⟨_, rfl, u, rfl, true, rfl, iteF ?_⟩
    refine ⟨_, rfl, _, rfl, _, _, rfl, rfl, m10 (p1001 fa).1 hB, _, rfl, _, _, rfl, rfl, _, rfl, ?_⟩
    rw [decide_eq_true F.1]
    refine iteT ⟨_, rfl, _, rfl, _, _, rfl, rfl, _, rfl, _, _, rfl, rfl, m10 (p1001 fa).2 hB, _, _, rfl, rfl, ?_⟩
    show Q (.bl (decide (T1 < (u + 1) * B1))) H1
    rw [decide_eq_true F.2]
    exact k _ s1
end
def sp_law (K : PySem.W.Frag) : Sp := fun vs H Q _ => ∃ (a : Addr) (ns : List Int), vs = [.ref a] ∧ SqL K H a (ns.map V.int) ∧ ns.length ≤ 63 ∧ ∀ H', Q (.bl true) H'
section
theorem up192 {a : Int} (h : a.natAbs < 2 ^ 192) : a.natAbs < 2 ^ 400 := Nat.lt_trans h (Nat.pow_lt_pow_right (by decide) (by decide))
theorem up384 {a : Int} (h : a.natAbs < 2 ^ 384) : a.natAbs < 2 ^ 399 := Nat.lt_trans h (Nat.pow_lt_pow_right (by decide) (by decide))
theorem up399 {a : Int} (h : a.natAbs < 2 ^ 399) : a.natAbs < 2 ^ 400 := Nat.lt_trans h (Nat.pow_lt_pow_right (by decide) (by decide))
theorem up193 {a : Int} (h : a.natAbs < 2 ^ 192) : a.natAbs < 2 ^ 399 := Nat.lt_trans h (Nat.pow_lt_pow_right (by decide) (by decide))
theorem near3 {a t : Int} (ha : a.natAbs < 2 ^ 399) (h0 : 0 ≤ t) (h1 : t < 3) : (a + t - 1).natAbs < 2 ^ 400 := by
  have e : (2 : Nat) ^ 400 = 2 * 2 ^ 399 := by rw [Nat.pow_succ, Nat.mul_comm]
  have e2 : (2 : Nat) ^ 3 ≤ 2 ^ 399 := Nat.pow_le_pow_right (by decide) (by decide)
  rw [e]
  generalize (2 : Nat) ^ 399 = z at *
  omega
theorem pr192 {a b : Int} (ha : a.natAbs < 2 ^ 192) (hb : b.natAbs < 2 ^ 192) : (a * b).natAbs < 2 ^ 399 := by
  have := wide_lt ha hb
  exact up384 this
theorem m400 {a b : Int} (ha : a.natAbs < 2 ^ 400) (hb : b.natAbs < 2 ^ 400) : CMulW a b := wide_mul (a := 400) (b := 400) ha hb (by decide) (by decide) (by decide)
theorem q2 {a : Int} (h : a.natAbs < 2 ^ 400) : a.natAbs < 2 ^ 2000 := Nat.lt_trans h (Nat.pow_lt_pow_right (by decide) (by decide))
theorem q5 {a : Int} (h : a.natAbs < 2 ^ 400) : a.natAbs < 2 ^ 500 := Nat.lt_trans h (Nat.pow_lt_pow_right (by decide) (by decide))
theorem q10 {a : Int} (h : a.natAbs < 2 ^ 400) : a.natAbs < 2 ^ 1000 := Nat.lt_trans h (Nat.pow_lt_pow_right (by decide) (by decide))
theorem p10 {a b : Int} (ha : a.natAbs < 2 ^ 400) (hb : b.natAbs < 2 ^ 400) : (a * b).natAbs < 2 ^ 1000 := pr5 (q5 ha) (q5 hb)
theorem zero5 : (0 : Int).natAbs < 2 ^ 500 := Nat.pow_pos (by decide)
theorem zero10 : (0 : Int).natAbs < 2 ^ 1000 := Nat.pow_pos (by decide)
theorem zero2 : (0 : Int).natAbs < 2 ^ 2000 := Nat.pow_pos (by decide)
theorem one5 : (1 : Int).natAbs < 2 ^ 500 := Nat.lt_of_lt_of_le (show (1 : Int).natAbs < 2 ^ 1 by decide) (Nat.pow_le_pow_right (by decide) (by decide))
theorem bI {k : Int} (h : k.natAbs < 2 ^ 500) : B5 k 1 := ⟨h, one5, by decide⟩
theorem nT0 {q : Int} (h : q ≠ 0) : nT 0 q = 0 := (Int.mul_eq_zero.mp (nT_mul 0 q)).resolve_right (sd_ne h)
theorem mk5 {t b : Int} (ht : t.natAbs < 2 ^ 400) (hb : b.natAbs < 2 ^ 400) (h : b ≠ 0) : B5 (nT t b) (nB t b) := ⟨Nat.lt_of_le_of_lt (nT_le h) (q5 ht), Nat.lt_of_le_of_lt (nB_le h) (q5 hb), nB_pos h⟩
theorem nz5 {q : Int} (hb : q.natAbs < 2 ^ 400) (h : q ≠ 0) : B5 (nT 0 q) (nB 0 q) := ⟨by rw [nT0 h]; exact zero5, Nat.lt_of_le_of_lt (nB_le h) (q5 hb), nB_pos h⟩
variable {p q r s k a b c d : Int}
theorem fval (h : a * q = p * b) (g : c * s = r * d) : a * d * (q * r) = p * s * (b * c) := by grind
theorem fvalk (h : a * q = p * b) : a * 1 * (q * k) = p * (b * k) := by grind
theorem fval1 (h : a * q = p * b) : a * 1 * q = p * (b * 1) := by grind
theorem zmul (hq : 1 ≤ q) (h : c = 0 ↔ r = 0) : c = 0 ↔ q * r = 0 := by
  rw [h]
  constructor
  · rintro rfl; exact Int.mul_zero _
  · intro z; exact (Int.mul_eq_zero.mp z).resolve_left (by omega)
theorem ziff (g : c * s = r * d) (hs : s ≠ 0) (hd : d ≠ 0) : c = 0 ↔ r = 0 := by
  constructor
  · rintro rfl
    rw [Int.zero_mul] at g
    exact (Int.mul_eq_zero.mp g.symm).resolve_right hd
  · rintro rfl
    rw [Int.zero_mul] at g
    exact (Int.mul_eq_zero.mp g).resolve_right hs
theorem absP {v : Int} (h : v ≠ 0) (b : v.natAbs < 2 ^ 192) : 1 ≤ (if v < 0 then -v else v) ∧ (if v < 0 then -v else v).natAbs < 2 ^ 192 := by
  rw [abs_nat, Int.natAbs_natCast]
  exact ⟨by omega, b⟩
end
theorem st_law (a0 : V) : start ["_law_script", "_law_pool_here", "_law_p", "_law_q", "_law_r", "_law_s", "_law_kind", "_law_k", "_law_a", "_law_b", "_law_good"] [a0] = [some a0, none, none, none, none, none, none, none, none, none, none] := rfl
section
variable {P : Program} {w : World} {K : PySem.W.Frag} {mg : Str → Option Value} {base : Heap} {ad : Ad}
theorem ok_law (T : Txt K mg ad) : FnOk P w K mg base CX0 7 ad.f_law ad.d_law ["_law_script"] (sp_law K) := by
  refine T.F_law.ok sc_law (fun vs H Q E h => by obtain ⟨a, ns, rfl, _⟩ := h; rfl) (fun cdv A outer s H vs Q E hr h => ?_)
  have hu := hu_of hr
  obtain ⟨a, ns, rfl, hS, hlen, k⟩ := h
  refine ⟨_, (pss_cons (ps_set (i := 1) sc_law.nd rfl (by first | exact Or.inl rfl | exact Or.inr rfl) (pe_call (ok_law_pool (P := P) (w := w) (K := K) (mg := mg) (base := base) T) (hr.mono (by decide)) (by rfl) T.g_law_pool T.F_law_pool.kp T.B_law_pool .nil pass0 (pa_cons (pv 0) pa_nil)))
      (pss_cons (ps_set (i := 2) sc_law.nd rfl (by first | exact Or.inl rfl | exact Or.inr rfl) (pe_call (ok_law_number (P := P) (w := w) (K := K) (mg := mg) (base := base) T) (hr.mono (by decide)) (by rfl) T.g_law_number T.F_law_number.kp T.B_law_number .nil pass0 (pa_cons (pv 1) pa_nil)))
      (pss_cons (ps_set (i := 3) sc_law.nd rfl (by first | exact Or.inl rfl | exact Or.inr rfl) (pe_callB call_abs (by rfl) T.z_abs (by decide +kernel) (pa_cons (pe_call (ok_law_bottom (P := P) (w := w) (K := K) (mg := mg) (base := base) T) (hr.mono (by decide)) (by rfl) T.g_law_bottom T.F_law_bottom.kp T.B_law_bottom .nil pass0 (pa_cons (pv 1) pa_nil)) pa_nil)))
      (pss_cons (ps_set (i := 4) sc_law.nd rfl (by first | exact Or.inl rfl | exact Or.inr rfl) (pe_call (ok_law_number (P := P) (w := w) (K := K) (mg := mg) (base := base) T) (hr.mono (by decide)) (by rfl) T.g_law_number T.F_law_number.kp T.B_law_number .nil pass0 (pa_cons (pv 1) pa_nil)))
      (pss_cons (ps_set (i := 5) sc_law.nd rfl (by first | exact Or.inl rfl | exact Or.inr rfl) (pe_callB call_abs (by rfl) T.z_abs (by decide +kernel) (pa_cons (pe_call (ok_law_bottom (P := P) (w := w) (K := K) (mg := mg) (base := base) T) (hr.mono (by decide)) (by rfl) T.g_law_bottom T.F_law_bottom.kp T.B_law_bottom .nil pass0 (pa_cons (pv 1) pa_nil)) pa_nil)))
      (pss_cons (ps_set (i := 6) sc_law.nd rfl (by first | exact Or.inl rfl | exact Or.inr rfl) (pe_call (ok_law_take (P := P) (w := w) (K := K) (mg := mg) (base := base) T) (hr.mono (by decide)) (by rfl) T.g_law_take T.F_law_take.kp T.B_law_take .nil pass0 (pa_cons (pv 1) (pa_cons pe_int pa_nil))))
      (pss_cons (ps_if (pt_cmpR op_gt (pv 6) pe_int (nomark _)) (pss_cons (ps_set (i := 4) sc_law.nd rfl (by first | exact Or.inl rfl | exact Or.inr rfl) (pe_op op_mulW (pv 2) (pv 5)))
      (pss_one (ps_set (i := 5) sc_law.nd rfl (by first | exact Or.inl rfl | exact Or.inr rfl) (pe_op op_mulW (pv 3) (pv 5))))) pss_nil)
      (pss_cons (ps_if (pt_cmpR op_eq (pv 6) pe_int (nomark _)) (pss_one (ps_set (i := 4) sc_law.nd rfl (by first | exact Or.inl rfl | exact Or.inr rfl) (pe_op op_sub (pe_op op_add (pv 4) (pe_call (ok_law_take (P := P) (w := w) (K := K) (mg := mg) (base := base) T) (hr.mono (by decide)) (by rfl) T.g_law_take T.F_law_take.kp T.B_law_take .nil pass0 (pa_cons (pv 1) (pa_cons pe_int pa_nil)))) pe_int))) pss_nil)
      (pss_cons (ps_set (i := 7) sc_law.nd rfl (by first | exact Or.inl rfl | exact Or.inr rfl) (pe_call (ok_law_number (P := P) (w := w) (K := K) (mg := mg) (base := base) T) (hr.mono (by decide)) (by rfl) T.g_law_number T.F_law_number.kp T.B_law_number .nil pass0 (pa_cons (pv 1) pa_nil)))
      (pss_cons (ps_if (pt_cmpR op_eq (pe_call (ok_law_take (P := P) (w := w) (K := K) (mg := mg) (base := base) T) (hr.mono (by decide)) (by rfl) T.g_law_take T.F_law_take.kp T.B_law_take .nil pass0 (pa_cons (pv 1) (pa_cons pe_int pa_nil))) pe_int (nomark _)) (pss_one (ps_set (i := 7) sc_law.nd rfl (by first | exact Or.inl rfl | exact Or.inr rfl) (pe_op op_sub (pe_op op_add (pe_op op_fdivS (pv 2) (pv 3)) (pe_call (ok_law_take (P := P) (w := w) (K := K) (mg := mg) (base := base) T) (hr.mono (by decide)) (by rfl) T.g_law_take T.F_law_take.kp T.B_law_take .nil pass0 (pa_cons (pv 1) (pa_cons pe_int pa_nil)))) pe_int))) pss_nil)
      (pss_cons (ps_set (i := 8) sc_law.nd rfl (by first | exact Or.inl rfl | exact Or.inr rfl) (pe_make T.mk_Ratio (ok_Ratio_init (P := P) (w := w) (K := K) (mg := mg) (base := base) T) (hr.mono (by decide)) (by rfl) T.g_Ratio T.B_Ratio_init .nil passL (pa_cons (pv 2) (pa_cons (pv 3) pa_nil))))
      (pss_cons (ps_set (i := 9) sc_law.nd rfl (by first | exact Or.inl rfl | exact Or.inr rfl) (pe_make T.mk_Ratio (ok_Ratio_init (P := P) (w := w) (K := K) (mg := mg) (base := base) T) (hr.mono (by decide)) (by rfl) T.g_Ratio T.B_Ratio_init .nil passL (pa_cons (pv 4) (pa_cons (pv 5) pa_nil))))
      (pss_cons (ps_set (i := 10) sc_law.nd rfl (by first | exact Or.inl rfl | exact Or.inr rfl) (pe_lst (pa_cons (pe_call (ok_law_truth (P := P) (w := w) (K := K) (mg := mg) (base := base) T) (hr.mono (by decide)) (by rfl) T.g_law_truth T.F_law_truth.kp T.B_law_truth .nil pass0 (pa_cons (pe_cmpR (op_cmpOwn hop_eq (ok_Ratio_eq (P := P) (w := w) (K := K) (mg := mg) (base := base) T) (hr.mono (by decide)) T.B_Ratio_eq pass0 T.nf_Ratio T.m_Ratio_eq) (pv 8) (pv 9) (nomark _)) (pa_cons (pe_cmpR op_eq (pe_op op_mulW (pv 2) (pv 5)) (pe_op op_mulW (pv 4) (pv 3)) (nomark _)) pa_nil))) pa_nil)))
      (pss_cons (ps_expr (pe_bm PySem.F.plainAttrs_list PySem.F.slot_list_append PySem.F.type_list_append mt_append (pv 10) (pa_cons (pe_call (ok_law_truth (P := P) (w := w) (K := K) (mg := mg) (base := base) T) (hr.mono (by decide)) (by rfl) T.g_law_truth T.F_law_truth.kp T.B_law_truth .nil pass0 (pa_cons (pe_cmpR (op_cmpOwn hop_lt (ok_Ratio_lt (P := P) (w := w) (K := K) (mg := mg) (base := base) T) (hr.mono (by decide)) T.B_Ratio_lt pass0 T.nf_Ratio T.m_Ratio_lt) (pv 8) (pv 9) (nomark _)) (pa_cons (pe_cmpR op_lt (pe_op op_mulW (pv 2) (pv 5)) (pe_op op_mulW (pv 4) (pv 3)) (nomark _)) pa_nil))) pa_nil)))
      (pss_cons (ps_expr (pe_bm PySem.F.plainAttrs_list PySem.F.slot_list_append PySem.F.type_list_append mt_append (pv 10) (pa_cons (pe_call (ok_law_truth (P := P) (w := w) (K := K) (mg := mg) (base := base) T) (hr.mono (by decide)) (by rfl) T.g_law_truth T.F_law_truth.kp T.B_law_truth .nil pass0 (pa_cons (pe_cmpR (op_cmpOwn hop_le (ok_Ratio_le (P := P) (w := w) (K := K) (mg := mg) (base := base) T) (hr.mono (by decide)) T.B_Ratio_le pass0 T.nf_Ratio T.m_Ratio_le) (pv 8) (pv 9) (nomark _)) (pa_cons (pe_cmpR op_le (pe_op op_mulW (pv 2) (pv 5)) (pe_op op_mulW (pv 4) (pv 3)) (nomark _)) pa_nil))) pa_nil)))
      (pss_cons (ps_expr (pe_bm PySem.F.plainAttrs_list PySem.F.slot_list_append PySem.F.type_list_append mt_append (pv 10) (pa_cons (pe_call (ok_law_truth (P := P) (w := w) (K := K) (mg := mg) (base := base) T) (hr.mono (by decide)) (by rfl) T.g_law_truth T.F_law_truth.kp T.B_law_truth .nil pass0 (pa_cons (pe_cmpR (op_cmpX hop_gt one_ref (ok_Ratio_lt (P := P) (w := w) (K := K) (mg := mg) (base := base) T) (hr.mono (by decide)) T.B_Ratio_lt pass0 dec_gt T.dc_Ratio_gt T.im_Ratio T.m_Ratio_lt) (pv 8) (pv 9) (nomark _)) (pa_cons (pe_cmpR op_gt (pe_op op_mulW (pv 2) (pv 5)) (pe_op op_mulW (pv 4) (pv 3)) (nomark _)) pa_nil))) pa_nil)))
      (pss_cons (ps_expr (pe_bm PySem.F.plainAttrs_list PySem.F.slot_list_append PySem.F.type_list_append mt_append (pv 10) (pa_cons (pe_call (ok_law_truth (P := P) (w := w) (K := K) (mg := mg) (base := base) T) (hr.mono (by decide)) (by rfl) T.g_law_truth T.F_law_truth.kp T.B_law_truth .nil pass0 (pa_cons (pe_cmpR (op_cmpX hop_ge one_ref (ok_Ratio_le (P := P) (w := w) (K := K) (mg := mg) (base := base) T) (hr.mono (by decide)) T.B_Ratio_le pass0 dec_ge T.dc_Ratio_ge T.im_Ratio T.m_Ratio_le) (pv 8) (pv 9) (nomark _)) (pa_cons (pe_cmpR op_ge (pe_op op_mulW (pv 2) (pv 5)) (pe_op op_mulW (pv 4) (pv 3)) (nomark _)) pa_nil))) pa_nil)))
      (pss_cons (ps_expr (pe_bm PySem.F.plainAttrs_list PySem.F.slot_list_append PySem.F.type_list_append mt_append (pv 10) (pa_cons (pe_call (ok_law_truth (P := P) (w := w) (K := K) (mg := mg) (base := base) T) (hr.mono (by decide)) (by rfl) T.g_law_truth T.F_law_truth.kp T.B_law_truth .nil pass0 (pa_cons (pe_cmpR (op_cmpOwn hop_eq (ok_Ratio_eq (P := P) (w := w) (K := K) (mg := mg) (base := base) T) (hr.mono (by decide)) T.B_Ratio_eq pass0 T.nf_Ratio T.m_Ratio_eq) (pv 9) (pv 8) (nomark _)) (pa_cons (pe_cmpR op_eq (pe_op op_mulW (pv 2) (pv 5)) (pe_op op_mulW (pv 4) (pv 3)) (nomark _)) pa_nil))) pa_nil)))
      (pss_cons (ps_expr (pe_bm PySem.F.plainAttrs_list PySem.F.slot_list_append PySem.F.type_list_append mt_append (pv 10) (pa_cons (pe_call (ok_law_truth (P := P) (w := w) (K := K) (mg := mg) (base := base) T) (hr.mono (by decide)) (by rfl) T.g_law_truth T.F_law_truth.kp T.B_law_truth .nil pass0 (pa_cons (pe_cmpR (op_cmpOwnI hop_eq (ok_Ratio_eq (P := P) (w := w) (K := K) (mg := mg) (base := base) T) (hr.mono (by decide)) T.B_Ratio_eq pass0 T.nfi_Ratio T.m_Ratio_eq) (pv 8) (pv 7) (nomark _)) (pa_cons (pe_cmpR op_eq (pv 2) (pe_op op_mulW (pv 7) (pv 3)) (nomark _)) pa_nil))) pa_nil)))
      (pss_cons (ps_expr (pe_bm PySem.F.plainAttrs_list PySem.F.slot_list_append PySem.F.type_list_append mt_append (pv 10) (pa_cons (pe_call (ok_law_truth (P := P) (w := w) (K := K) (mg := mg) (base := base) T) (hr.mono (by decide)) (by rfl) T.g_law_truth T.F_law_truth.kp T.B_law_truth .nil pass0 (pa_cons (pe_cmpR (op_cmpOwnI hop_lt (ok_Ratio_lt (P := P) (w := w) (K := K) (mg := mg) (base := base) T) (hr.mono (by decide)) T.B_Ratio_lt pass0 T.nfi_Ratio T.m_Ratio_lt) (pv 8) (pv 7) (nomark _)) (pa_cons (pe_cmpR op_lt (pv 2) (pe_op op_mulW (pv 7) (pv 3)) (nomark _)) pa_nil))) pa_nil)))
      (pss_cons (ps_expr (pe_bm PySem.F.plainAttrs_list PySem.F.slot_list_append PySem.F.type_list_append mt_append (pv 10) (pa_cons (pe_call (ok_law_truth (P := P) (w := w) (K := K) (mg := mg) (base := base) T) (hr.mono (by decide)) (by rfl) T.g_law_truth T.F_law_truth.kp T.B_law_truth .nil pass0 (pa_cons (pe_cmpR (op_cmpOwnI hop_le (ok_Ratio_le (P := P) (w := w) (K := K) (mg := mg) (base := base) T) (hr.mono (by decide)) T.B_Ratio_le pass0 T.nfi_Ratio T.m_Ratio_le) (pv 8) (pv 7) (nomark _)) (pa_cons (pe_cmpR op_le (pv 2) (pe_op op_mulW (pv 7) (pv 3)) (nomark _)) pa_nil))) pa_nil)))
      (pss_cons (ps_expr (pe_bm PySem.F.plainAttrs_list PySem.F.slot_list_append PySem.F.type_list_append mt_append (pv 10) (pa_cons (pe_call (ok_law_floor (P := P) (w := w) (K := K) (mg := mg) (base := base) T) (hr.mono (by decide)) (by rfl) T.g_law_floor T.F_law_floor.kp T.B_law_floor .nil pass0 (pa_cons (pv 8) (pa_cons (pv 9) (pa_cons (pe_op op_mulW (pv 2) (pv 5)) (pa_cons (pe_op op_mulW (pv 3) (pv 4)) pa_nil))))) pa_nil)))
      (pss_cons (ps_expr (pe_bm PySem.F.plainAttrs_list PySem.F.slot_list_append PySem.F.type_list_append mt_append (pv 10) (pa_cons (pe_call (ok_law_floor (P := P) (w := w) (K := K) (mg := mg) (base := base) T) (hr.mono (by decide)) (by rfl) T.g_law_floor T.F_law_floor.kp T.B_law_floor .nil pass0 (pa_cons (pv 8) (pa_cons (pv 7) (pa_cons (pv 2) (pa_cons (pe_op op_mulW (pv 3) (pv 7)) pa_nil))))) pa_nil)))
      (pss_cons (ps_expr (pe_bm PySem.F.plainAttrs_list PySem.F.slot_list_append PySem.F.type_list_append mt_append (pv 10) (pa_cons (pe_and (pe_call (ok_law_floor (P := P) (w := w) (K := K) (mg := mg) (base := base) T) (hr.mono (by decide)) (by rfl) T.g_law_floor T.F_law_floor.kp T.B_law_floor .nil pass0 (pa_cons (pv 8) (pa_cons pe_int (pa_cons (pv 2) (pa_cons pe_int pa_nil))))) (pe_one (pe_call (ok_law_floor (P := P) (w := w) (K := K) (mg := mg) (base := base) T) (hr.mono (by decide)) (by rfl) T.g_law_floor T.F_law_floor.kp T.B_law_floor .nil pass0 (pa_cons (pv 9) (pa_cons (pe_make T.mk_Ratio (ok_Ratio_init (P := P) (w := w) (K := K) (mg := mg) (base := base) T) (hr.mono (by decide)) (by rfl) T.g_Ratio T.B_Ratio_init .nil passL (pa_cons pe_int (pa_cons (pv 3) pa_nil))) (pa_cons (pv 4) (pa_cons pe_int pa_nil))))))) pa_nil)))
      (pss_cons (ps_expr (pe_bm PySem.F.plainAttrs_list PySem.F.slot_list_append PySem.F.type_list_append mt_append (pv 10) (pa_cons (pe_call (ok_law_floor (P := P) (w := w) (K := K) (mg := mg) (base := base) T) (hr.mono (by decide)) (by rfl) T.g_law_floor T.F_law_floor.kp T.B_law_floor .nil pass0 (pa_cons (pv 8) (pa_cons pe_int (pa_cons (pv 2) (pa_cons (pv 3) pa_nil))))) pa_nil)))
      (pss_one (ps_ret (pe_cmpR op_notIn_seq pe_bl (pv 10) (by rfl))))))))))))))))))))))))))))), ?_⟩
  try simp only [cxK, cxK2]
  rw [st_law]
  refine ⟨_, rfl, a, ns, rfl, hS, hlen, fun pl m1 H1 np s1 e1 ok1 => ?_⟩
  refine gs1 ?_
  have A := (At.self H).more s1 np e1
  refine ⟨_, rfl, pl, m1, rfl, A.hd, ok1, fun p m2 H2 c2 e2 ok2 bp => ?_⟩
  refine gs2 ?_
  replace A := A.chg c2 e2
  refine ⟨_, rfl, pl, m2, rfl, A.hd, ok2, fun q0 m3 H3 c3 e3 ok3 bq0 hq0 => ⟨_, rfl, ?_⟩⟩
  refine gs3 ?_
  replace A := A.chg c3 e3
  obtain ⟨hq, bq⟩ := absP hq0 bq0
  generalize (if q0 < 0 then -q0 else q0) = q at hq bq ⊢
  refine ⟨_, rfl, pl, m3, rfl, A.hd, ok3, fun r m4 H4 c4 e4 ok4 br => ?_⟩
  refine gs4 ?_
  replace A := A.chg c4 e4
  refine ⟨_, rfl, pl, m4, rfl, A.hd, ok4, fun s0 m5 H5 c5 e5 ok5 bs0 hs0 => ⟨_, rfl, ?_⟩⟩
  refine gs5 ?_
  replace A := A.chg c5 e5
  obtain ⟨hs, bs⟩ := absP hs0 bs0
  generalize (if s0 < 0 then -s0 else s0) = s at hs bs ⊢
  refine ⟨_, rfl, pl, m5, 3, rfl, A.hd, ok5, by decide, fun H6 c6 e6 => ?_⟩
  refine gs6 ?_
  replace A := A.chg c6 e6
  have ok6 := ok5.tail
  generalize tkv m5 3 = kd
  generalize m5.tail = m6 at A ok6
  clear c2 c3 c4 c5 c6 e1 e2 e3 e4 e5 e6 s1
  -- if kind > 0
  try dsimp only
  refine joinI (W := fun σ H' => ∃ r s : Int, σ = [some (.ref a), some (.ref pl), some (.int p), some (.int q), some (.int r), some (.int s), some (.int kd), none, none, none, none] ∧ At H [(pl, pool m6)] H' ∧ r.natAbs < 2 ^ 399 ∧ s.natAbs < 2 ^ 399 ∧ 1 ≤ s) ?_ (fun D2 hD => ?_)
  rotate_left
  · refine ⟨_, rfl, _, _, rfl, rfl, _, rfl, ite2 (fun f => ?_) (fun f => ?_)⟩
    · refine ⟨_, rfl, _, rfl, _, _, rfl, rfl, m400 (up192 bp) (up192 bs), ?_⟩
      refine gs4 ?_
      refine ⟨_, rfl, _, rfl, _, _, rfl, rfl, m400 (up192 bq) (up192 bs), ?_⟩
      refine gs5 ?_
      exact hD _ _ ⟨_, _, rfl, A, pr192 bp bs, pr192 bq bs, Int.mul_pos (by omega) (by omega)⟩
    · exact hD _ _ ⟨_, _, rfl, A, up193 br, up193 bs, hs⟩
  clear A br bs hs bs0 hs0
  rintro σ H7 ⟨r, s, rfl, A, br, bs, hs⟩
  -- if kind == 2
  try dsimp only
  refine joinI (W := fun σ H' => ∃ (r : Int) (m : List Int), σ = [some (.ref a), some (.ref pl), some (.int p), some (.int q), some (.int r), some (.int s), some (.int kd), none, none, none, none] ∧ At H [(pl, pool m)] H' ∧ PoolOk m ∧ r.natAbs < 2 ^ 400) ?_ (fun D2 hD => ?_)
  rotate_left
  · refine ⟨_, rfl, rfl, _, rfl, ite2 (fun f => ?_) (fun f => ?_)⟩
    · refine ⟨_, rfl, _, rfl, pl, m6, 3, rfl, A.hd, ok6, by decide, fun H8 c8 e8 => ⟨_, _, rfl, rfl, _, _, rfl, rfl, ?_⟩⟩
      have r3 := tkv_rng (ms := m6) (show (0 : Int) < 3 by decide)
      refine gs4 ?_
      exact hD _ _ ⟨_, _, rfl, A.chg c8 e8, ok6.tail, near3 br r3.1 r3.2⟩
    · exact hD _ _ ⟨_, _, rfl, A, ok6, up399 br⟩
  clear A br ok6
  rintro σ H8 ⟨r, m7, rfl, A, ok7, br⟩
  refine ⟨_, rfl, pl, m7, rfl, A.hd, ok7, fun k0 m8 H9 c9 e9 ok8 bk0 => ?_⟩
  refine gs7 ?_
  replace A := A.chg c9 e9
  clear c9 e9
  -- if take == 1
  try dsimp only
  refine joinI (W := fun σ H' => ∃ (kk : Int) (m : List Int), σ = [some (.ref a), some (.ref pl), some (.int p), some (.int q), some (.int r), some (.int s), some (.int kd), some (.int kk), none, none, none] ∧ At H [(pl, pool m)] H' ∧ kk.natAbs < 2 ^ 400) ?_ (fun D2 hD => ?_)
  rotate_left
  · refine ⟨_, rfl, pl, m8, 2, rfl, A.hd, ok8, by decide, fun H10 c10 e10 => ⟨rfl, _, rfl, ite2 (fun f => ?_) (fun f => ?_)⟩⟩
    · replace A := A.chg c10 e10
      refine ⟨_, rfl, _, rfl, _, _, rfl, rfl, wide_divS (b := 192) (by omega) bq (by decide) (by decide), _, rfl, pl, _, 3, rfl, A.hd, ok8.tail, by decide, fun H11 c11 e11 => ⟨_, _, rfl, rfl, _, _, rfl, rfl, ?_⟩⟩
      have r3 := tkv_rng (ms := m8.tail) (show (0 : Int) < 3 by decide)
      refine gs7 ?_
      exact hD _ _ ⟨_, _, rfl, A.chg c11 e11, near3 (up193 (Nat.lt_of_le_of_lt (fdiv_abs hq) bp)) r3.1 r3.2⟩
    · exact hD _ _ ⟨_, _, rfl, A.chg c10 e10, up192 bk0⟩
  clear A ok7 ok8 bk0
  rintro σ H6 ⟨kk, m9, rfl, A, bk⟩
  replace bp := up192 bp
  replace bq := up192 bq
  replace bs := up399 bs
  have hq1 : q ≠ 0 := by omega
  have hs1 : s ≠ 0 := by omega
  refine ⟨_, rfl, _, rfl, fun ra da nra nda nea => ⟨ra, da, p, q, rfl, upd_same, q2 bp, q2 bq, fun z => absurd z hq1, fun _ => ⟨rfl, ?_⟩⟩⟩
  refine gs8 ?_
  replace A := A.more (made (o1 := .ins ad.c_Ratio da []) (o2 := ratio ad da (nT p q) (nB p q)) nra nda) nra upd_same
  generalize upd (upd (upd H6 da (.own ra)) ra (.ins ad.c_Ratio da [])) ra (ratio ad da (nT p q) (nB p q)) = H7 at A ⊢
  refine ⟨_, rfl, _, rfl, fun rb db nrb ndb neb => ⟨rb, db, r, s, rfl, upd_same, q2 br, q2 bs, fun z => absurd z hs1, fun _ => ⟨rfl, ?_⟩⟩⟩
  refine gs9 ?_
  replace A := A.more (made (o1 := .ins ad.c_Ratio db []) (o2 := ratio ad db (nT r s) (nB r s)) nrb ndb) nrb upd_same
  generalize upd (upd (upd H7 db (.own rb)) rb (.ins ad.c_Ratio db [])) rb (ratio ad db (nT r s) (nB r s)) = H8 at A ⊢
  have La : LowT (nT p q) (nB p q) p q := low_n hq1 rfl
  have Lb : LowT (nT r s) (nB r s) r s := low_n hs1 rfl
  have Ba := mk5 bp bq hq1
  have Bb := mk5 br bs hs1
  generalize nT p q = at_ at *
  generalize nB p q = ab at *
  generalize nT r s = bt at *
  generalize nB r s = bb at *
  have Bk := bI (q5 bk)
  have zro := ziff Lb.val hs1 Bb.ne
  have mps := m400 bp bs
  have mrq := m400 br bq
  have mkq := m400 bk bq
  have mqr := m400 bq br
  have mqk := m400 bq bk
  refine ⟨_, rfl, _, rfl, ra, da, _, rb, db, _, rfl, rfl, A.h1, A.hd, ra, da, at_, ab, .ref rb, rfl, A.h1, .inl ⟨rb, db, bt, bb, rfl, A.hd, ?_⟩⟩
  refine ⟨_, rfl, _, rfl, _, _, rfl, rfl, mps, _, rfl, _, rfl, _, _, rfl, rfl, mrq, rfl, _, _, rfl, cmp_eq La Lb hq hs, (by show 1 ≤ sizeLine; decide), fun l nl => ?_⟩
  refine gs10 ?_
  replace A := (A).new (o := .lst [.bl true]) nl
  generalize hX : upd _ l (.lst [.bl true]) = HX
  replace A : At _ _ HX := hX ▸ A
  clear hX
  refine ⟨_, rfl, .inl ⟨rfl, _, SqL.of A.hd⟩, _, rfl, _, rfl, ra, da, _, rb, db, _, rfl, rfl, A.h2, A.h1, ra, da, at_, ab, .ref rb, bt, bb, rfl, A.h2, .inl ⟨rb, db, rfl, A.h1⟩, Ba, Bb, fun H1 s1 => ?_⟩
  refine ⟨_, rfl, _, rfl, _, _, rfl, rfl, mps, _, rfl, _, rfl, _, _, rfl, rfl, mrq, _, _, rfl, rfl, _, _, rfl, cmp_lt La Lb hq hs, l, _, _, rfl, rfl, (A.ext s1).hd, (by show 1 < sizeLine; decide), ?_⟩
  replace A := ((A.ext s1)).put (u := .lst [V.bl true, V.bl true])
  generalize hX : upd _ l (.lst ([V.bl true] ++ [V.bl true])) = HX
  replace A : At _ _ HX := hX ▸ A
  clear hX
  refine ⟨_, rfl, .inl ⟨rfl, _, SqL.of A.hd⟩, _, rfl, _, rfl, ra, da, _, rb, db, _, rfl, rfl, A.h2, A.h1, ra, da, at_, ab, .ref rb, bt, bb, rfl, A.h2, .inl ⟨rb, db, rfl, A.h1⟩, Ba, Bb, fun H1 s1 => ?_⟩
  refine ⟨_, rfl, _, rfl, _, _, rfl, rfl, mps, _, rfl, _, rfl, _, _, rfl, rfl, mrq, _, _, rfl, rfl, _, _, rfl, cmp_le La Lb hq hs, l, _, _, rfl, rfl, (A.ext s1).hd, (by show 2 < sizeLine; decide), ?_⟩
  replace A := ((A.ext s1)).put (u := .lst [V.bl true, V.bl true, V.bl true])
  generalize hX : upd _ l (.lst ([V.bl true, V.bl true] ++ [V.bl true])) = HX
  replace A : At _ _ HX := hX ▸ A
  clear hX
  refine ⟨_, rfl, .inl ⟨rfl, _, SqL.of A.hd⟩, _, rfl, _, rfl, ra, da, _, rb, db, _, rfl, rfl, A.h2, A.h1, rb, db, bt, bb, .ref ra, at_, ab, rfl, A.h1, .inl ⟨ra, da, rfl, A.h2⟩, Bb, Ba, fun H1 s1 => ?_⟩
  refine ⟨_, rfl, _, rfl, _, _, rfl, rfl, mps, _, rfl, _, rfl, _, _, rfl, rfl, mrq, _, _, rfl, rfl, _, _, rfl, cmp_lt Lb La hs hq, l, _, _, rfl, rfl, (A.ext s1).hd, (by show 3 < sizeLine; decide), ?_⟩
  replace A := ((A.ext s1)).put (u := .lst [V.bl true, V.bl true, V.bl true, V.bl true])
  generalize hX : upd _ l (.lst ([V.bl true, V.bl true, V.bl true] ++ [V.bl true])) = HX
  replace A : At _ _ HX := hX ▸ A
  clear hX
  refine ⟨_, rfl, .inl ⟨rfl, _, SqL.of A.hd⟩, _, rfl, _, rfl, ra, da, _, rb, db, _, rfl, rfl, A.h2, A.h1, rb, db, bt, bb, .ref ra, at_, ab, rfl, A.h1, .inl ⟨ra, da, rfl, A.h2⟩, Bb, Ba, fun H1 s1 => ?_⟩
  refine ⟨_, rfl, _, rfl, _, _, rfl, rfl, mps, _, rfl, _, rfl, _, _, rfl, rfl, mrq, _, _, rfl, rfl, _, _, rfl, cmp_le Lb La hs hq, l, _, _, rfl, rfl, (A.ext s1).hd, (by show 4 < sizeLine; decide), ?_⟩
  replace A := ((A.ext s1)).put (u := .lst [V.bl true, V.bl true, V.bl true, V.bl true, V.bl true])
  generalize hX : upd _ l (.lst ([V.bl true, V.bl true, V.bl true, V.bl true] ++ [V.bl true])) = HX
  replace A : At _ _ HX := hX ▸ A
  clear hX
  refine ⟨_, rfl, .inl ⟨rfl, _, SqL.of A.hd⟩, _, rfl, _, rfl, rb, db, _, ra, da, _, rfl, rfl, A.h1, A.h2, rb, db, bt, bb, .ref ra, rfl, A.h1, .inl ⟨ra, da, at_, ab, rfl, A.h2, ?_⟩⟩
  refine ⟨_, rfl, _, rfl, _, _, rfl, rfl, mps, _, rfl, _, rfl, _, _, rfl, rfl, mrq, rfl, _, _, rfl, (by rw [cmp_eq Lb La hs hq]; exact decide_eq_decide.mpr eq_comm), l, _, _, rfl, rfl, A.hd, (by show 5 < sizeLine; decide), ?_⟩
  replace A := (A).put (u := .lst [V.bl true, V.bl true, V.bl true, V.bl true, V.bl true, V.bl true])
  generalize hX : upd _ l (.lst ([V.bl true, V.bl true, V.bl true, V.bl true, V.bl true] ++ [V.bl true])) = HX
  replace A : At _ _ HX := hX ▸ A
  clear hX
  refine ⟨_, rfl, .inl ⟨rfl, _, SqL.of A.hd⟩, _, rfl, _, rfl, ra, da, _, kk, rfl, rfl, A.h2, ra, da, at_, ab, .int kk, rfl, A.h2, .inr ⟨kk, rfl, ?_⟩⟩
  refine ⟨_, rfl, _, rfl, _, rfl, _, _, rfl, rfl, mkq, rfl, _, _, rfl, cmp_eqI La hq, l, _, _, rfl, rfl, A.hd, (by show 6 < sizeLine; decide), ?_⟩
  replace A := (A).put (u := .lst [V.bl true, V.bl true, V.bl true, V.bl true, V.bl true, V.bl true, V.bl true])
  generalize hX : upd _ l (.lst ([V.bl true, V.bl true, V.bl true, V.bl true, V.bl true, V.bl true] ++ [V.bl true])) = HX
  replace A : At _ _ HX := hX ▸ A
  clear hX
  refine ⟨_, rfl, .inl ⟨rfl, _, SqL.of A.hd⟩, _, rfl, _, rfl, ra, da, _, kk, rfl, rfl, A.h2, ra, da, at_, ab, .int kk, kk, 1, rfl, A.h2, .inr ⟨rfl, rfl⟩, Ba, Bk, fun H1 s1 => ?_⟩
  refine ⟨_, rfl, _, rfl, _, rfl, _, _, rfl, rfl, mkq, _, _, rfl, rfl, _, _, rfl, cmp_ltI La hq, l, _, _, rfl, rfl, (A.ext s1).hd, (by show 7 < sizeLine; decide), ?_⟩
  replace A := ((A.ext s1)).put (u := .lst [V.bl true, V.bl true, V.bl true, V.bl true, V.bl true, V.bl true, V.bl true, V.bl true])
  generalize hX : upd _ l (.lst ([V.bl true, V.bl true, V.bl true, V.bl true, V.bl true, V.bl true, V.bl true] ++ [V.bl true])) = HX
  replace A : At _ _ HX := hX ▸ A
  clear hX
  refine ⟨_, rfl, .inl ⟨rfl, _, SqL.of A.hd⟩, _, rfl, _, rfl, ra, da, _, kk, rfl, rfl, A.h2, ra, da, at_, ab, .int kk, kk, 1, rfl, A.h2, .inr ⟨rfl, rfl⟩, Ba, Bk, fun H1 s1 => ?_⟩
  refine ⟨_, rfl, _, rfl, _, rfl, _, _, rfl, rfl, mkq, _, _, rfl, rfl, _, _, rfl, cmp_leI La hq, l, _, _, rfl, rfl, (A.ext s1).hd, (by show 8 < sizeLine; decide), ?_⟩
  replace A := ((A.ext s1)).put (u := .lst [V.bl true, V.bl true, V.bl true, V.bl true, V.bl true, V.bl true, V.bl true, V.bl true, V.bl true])
  generalize hX : upd _ l (.lst ([V.bl true, V.bl true, V.bl true, V.bl true, V.bl true, V.bl true, V.bl true, V.bl true] ++ [V.bl true])) = HX
  replace A : At _ _ HX := hX ▸ A
  clear hX
  refine ⟨_, rfl, .inl ⟨rfl, _, SqL.of A.hd⟩, _, rfl, _, rfl, _, rfl, _, rfl, _, _, rfl, rfl, mps, _, rfl, _, rfl, _, _, rfl, rfl, mqr, ra, da, at_, ab, .ref rb, bt, bb, _, _, rfl, A.h2, .inl ⟨rb, db, rfl, A.h1⟩, Ba, Bb, p10 bp bs, p10 bq br, zmul hq zro, fval La.val Lb.val, fun H1 s1 => ?_⟩
  refine ⟨l, _, _, rfl, rfl, (A.ext s1).hd, (by show 9 < sizeLine; decide), ?_⟩
  replace A := ((A.ext s1)).put (u := .lst [V.bl true, V.bl true, V.bl true, V.bl true, V.bl true, V.bl true, V.bl true, V.bl true, V.bl true, V.bl true])
  generalize hX : upd _ l (.lst ([V.bl true, V.bl true, V.bl true, V.bl true, V.bl true, V.bl true, V.bl true, V.bl true, V.bl true] ++ [V.bl true])) = HX
  replace A : At _ _ HX := hX ▸ A
  clear hX
  refine ⟨_, rfl, .inl ⟨rfl, _, SqL.of A.hd⟩, _, rfl, _, rfl, _, rfl, _, rfl, _, rfl, _, _, rfl, rfl, mqk, ra, da, at_, ab, .int kk, kk, 1, _, _, rfl, A.h2, .inr ⟨rfl, rfl⟩, Ba, Bk, q10 bp, p10 bq bk, zmul hq Iff.rfl, fvalk La.val, fun H1 s1 => ?_⟩
  refine ⟨l, _, _, rfl, rfl, (A.ext s1).hd, (by show 10 < sizeLine; decide), ?_⟩
  replace A := ((A.ext s1)).put (u := .lst [V.bl true, V.bl true, V.bl true, V.bl true, V.bl true, V.bl true, V.bl true, V.bl true, V.bl true, V.bl true, V.bl true])
  generalize hX : upd _ l (.lst ([V.bl true, V.bl true, V.bl true, V.bl true, V.bl true, V.bl true, V.bl true, V.bl true, V.bl true, V.bl true] ++ [V.bl true])) = HX
  replace A : At _ _ HX := hX ▸ A
  clear hX
  refine ⟨_, rfl, .inl ⟨rfl, _, SqL.of A.hd⟩, _, rfl, _, rfl, ra, da, at_, ab, .int 0, 0, 1, _, _, rfl, A.h2, .inr ⟨rfl, rfl⟩, Ba, bI zero5, q10 bp, zero10, Iff.rfl, by rw [Int.mul_zero, Int.mul_zero, Int.mul_zero], fun H1 s1 => ⟨true, rfl, iteT ⟨_, rfl, _, rfl, fun r2 d2 nr2 nd2 ne2 => ⟨r2, d2, 0, q, rfl, upd_same, zero2, q2 bq, fun z => absurd z hq1, fun _ => ⟨rfl, ?_⟩⟩⟩⟩⟩
  have s2 := s1.trans (made (o1 := .ins ad.c_Ratio d2 []) (o2 := ratio ad d2 (nT 0 q) (nB 0 q)) nr2 nd2)
  refine ⟨_, rfl, rb, db, bt, bb, .ref r2, nT 0 q, nB 0 q, _, _, rfl, s2 _ _ A.h1, .inl ⟨r2, d2, rfl, upd_same⟩, Bb, nz5 bq hq1, q10 br, zero10, ⟨fun _ => rfl, fun _ => nT0 hq1⟩, by rw [nT0 hq1, Int.mul_zero, Int.mul_zero, Int.mul_zero], fun H3 s3 => ?_⟩
  refine ⟨l, _, _, rfl, rfl, (A.ext (s2.trans s3)).hd, (by show 11 < sizeLine; decide), ?_⟩
  replace A := ((A.ext (s2.trans s3))).put (u := .lst [V.bl true, V.bl true, V.bl true, V.bl true, V.bl true, V.bl true, V.bl true, V.bl true, V.bl true, V.bl true, V.bl true, V.bl true])
  generalize hX : upd _ l (.lst ([V.bl true, V.bl true, V.bl true, V.bl true, V.bl true, V.bl true, V.bl true, V.bl true, V.bl true, V.bl true, V.bl true] ++ [V.bl true])) = HX
  replace A : At _ _ HX := hX ▸ A
  clear hX
  refine ⟨_, rfl, .inl ⟨rfl, _, SqL.of A.hd⟩, _, rfl, _, rfl, _, rfl, ra, da, at_, ab, .int 1, 1, 1, _, _, rfl, A.h2, .inr ⟨rfl, rfl⟩, Ba, bI one5, q10 bp, q10 bq, ⟨fun z => absurd z (by decide), fun z => absurd z hq1⟩, fval1 La.val, fun H1 s1 => ?_⟩
  refine ⟨l, _, _, rfl, rfl, (A.ext s1).hd, (by show 12 < sizeLine; decide), ?_⟩
  replace A := ((A.ext s1)).put (u := .lst [V.bl true, V.bl true, V.bl true, V.bl true, V.bl true, V.bl true, V.bl true, V.bl true, V.bl true, V.bl true, V.bl true, V.bl true, V.bl true])
  generalize hX : upd _ l (.lst ([V.bl true, V.bl true, V.bl true, V.bl true, V.bl true, V.bl true, V.bl true, V.bl true, V.bl true, V.bl true, V.bl true, V.bl true] ++ [V.bl true])) = HX
  replace A : At _ _ HX := hX ▸ A
  clear hX
  refine ⟨_, rfl, l, _, rfl, .inl (SqL.of A.hd), rfl, rfl, ?_⟩
  exact k _
end
theorem all_mk {l : PySem.W.OpenLaw} {w : World} {K : PySem.W.Frag} {h : Heap} {mg : Str → Option Value} {fa : Addr} (X : K.In h) (G : h.Ns mainGlobals mg) (hfa : mg "law" = some (.ref fa))
    {f_Ratio_init f_as_ratio f_Ratio_eq f_Ratio_lt f_Ratio_le f_Ratio_over f_Ratio_floordiv f_law_pool f_law_take f_law_whole f_law_number f_law_bottom f_law_truth f_law_floor f_law c_Ratio c_ZeroBottom : Addr}
    {od_Ratio_init an_Ratio_init : Option Addr} {sl_Ratio_init : Array (Option Value)} {oc_Ratio_init kV_Ratio_init dc_Ratio_init pm_Ratio_init cd_Ratio_init ct_Ratio_init : Value}
    {od_as_ratio an_as_ratio : Option Addr} {sl_as_ratio : Array (Option Value)} {oc_as_ratio kV_as_ratio dc_as_ratio pm_as_ratio cd_as_ratio ct_as_ratio : Value}
    {od_Ratio_eq an_Ratio_eq : Option Addr} {sl_Ratio_eq : Array (Option Value)} {oc_Ratio_eq kV_Ratio_eq dc_Ratio_eq pm_Ratio_eq cd_Ratio_eq ct_Ratio_eq : Value}
    {od_Ratio_lt an_Ratio_lt : Option Addr} {sl_Ratio_lt : Array (Option Value)} {oc_Ratio_lt kV_Ratio_lt dc_Ratio_lt pm_Ratio_lt cd_Ratio_lt ct_Ratio_lt : Value}
    {od_Ratio_le an_Ratio_le : Option Addr} {sl_Ratio_le : Array (Option Value)} {oc_Ratio_le kV_Ratio_le dc_Ratio_le pm_Ratio_le cd_Ratio_le ct_Ratio_le : Value}
    {od_Ratio_over an_Ratio_over : Option Addr} {sl_Ratio_over : Array (Option Value)} {oc_Ratio_over kV_Ratio_over dc_Ratio_over pm_Ratio_over cd_Ratio_over ct_Ratio_over : Value}
    {od_Ratio_floordiv an_Ratio_floordiv : Option Addr} {sl_Ratio_floordiv : Array (Option Value)} {oc_Ratio_floordiv kV_Ratio_floordiv dc_Ratio_floordiv pm_Ratio_floordiv cd_Ratio_floordiv ct_Ratio_floordiv : Value}
    {od_law_pool an_law_pool : Option Addr} {sl_law_pool : Array (Option Value)} {oc_law_pool kV_law_pool dc_law_pool pm_law_pool cd_law_pool ct_law_pool : Value}
    {od_law_take an_law_take : Option Addr} {sl_law_take : Array (Option Value)} {oc_law_take kV_law_take dc_law_take pm_law_take cd_law_take ct_law_take : Value}
    {od_law_whole an_law_whole : Option Addr} {sl_law_whole : Array (Option Value)} {oc_law_whole kV_law_whole dc_law_whole pm_law_whole cd_law_whole ct_law_whole : Value}
    {od_law_number an_law_number : Option Addr} {sl_law_number : Array (Option Value)} {oc_law_number kV_law_number dc_law_number pm_law_number cd_law_number ct_law_number : Value}
    {od_law_bottom an_law_bottom : Option Addr} {sl_law_bottom : Array (Option Value)} {oc_law_bottom kV_law_bottom dc_law_bottom pm_law_bottom cd_law_bottom ct_law_bottom : Value}
    {od_law_truth an_law_truth : Option Addr} {sl_law_truth : Array (Option Value)} {oc_law_truth kV_law_truth dc_law_truth pm_law_truth cd_law_truth ct_law_truth : Value}
    {od_law_floor an_law_floor : Option Addr} {sl_law_floor : Array (Option Value)} {oc_law_floor kV_law_floor dc_law_floor pm_law_floor cd_law_floor ct_law_floor : Value}
    {od_law an_law : Option Addr} {sl_law : Array (Option Value)} {oc_law kV_law dc_law pm_law cd_law ct_law : Value}
    (aC_Ratio : PySem.W.nsIn K mainGlobals "Ratio" = some (some (.ref c_Ratio)))
    (aC_ZeroBottom : PySem.W.nsIn K mainGlobals "ZeroBottom" = some (some (.ref c_ZeroBottom)))
    (a_Ratio_init : PySem.W.findIn K (.ref c_Ratio) "__init__" = some (some (.ref f_Ratio_init)))
    (i_Ratio_init : PySem.W.isFn K (.ref f_Ratio_init) = true)
    {tD_Ratio_init : Addr} {tc_Ratio_init : Value} {td_Ratio_init : Option Addr} {tn_Ratio_init : Nat} {ts_Ratio_init : Array (Option Value)} {tk0_Ratio_init : Tok}
    (l_Ratio_init : K.lookup f_Ratio_init = some ⟨oc_Ratio_init, od_Ratio_init, .func (PySem.W.fnOf "__init__" "Ratio.__init__" (defArgs s_Ratio_init) (defBody s_Ratio_init) (defScope s_Ratio_init) (.ref tD_Ratio_init) kV_Ratio_init dc_Ratio_init pm_Ratio_init an_Ratio_init cd_Ratio_init ct_Ratio_init), sl_Ratio_init⟩)
    (lt_Ratio_init : K.lookup tD_Ratio_init = some ⟨tc_Ratio_init, td_Ratio_init, .seq #[.int 1 tk0_Ratio_init] tn_Ratio_init, ts_Ratio_init⟩)
    (co_Ratio_init : PySem.W.codeIn K cd_Ratio_init "Ratio.__init__" = true)
    (k_Ratio_init : PySem.W.keepIn K (.ref f_Ratio_init) = true)
    (a_as_ratio : PySem.W.nsIn K mainGlobals "as_ratio" = some (some (.ref f_as_ratio)))
    (l_as_ratio : K.lookup f_as_ratio = some ⟨oc_as_ratio, od_as_ratio, .func (PySem.W.fnOf "as_ratio" "as_ratio" (defArgs s_as_ratio) (defBody s_as_ratio) (defScope s_as_ratio) .none kV_as_ratio dc_as_ratio pm_as_ratio an_as_ratio cd_as_ratio ct_as_ratio), sl_as_ratio⟩)
    (co_as_ratio : PySem.W.codeIn K cd_as_ratio "as_ratio" = true)
    (k_as_ratio : PySem.W.keepIn K (.ref f_as_ratio) = true)
    (a_Ratio_eq : PySem.W.findIn K (.ref c_Ratio) "__eq__" = some (some (.ref f_Ratio_eq)))
    (i_Ratio_eq : PySem.W.isFn K (.ref f_Ratio_eq) = true)
    (l_Ratio_eq : K.lookup f_Ratio_eq = some ⟨oc_Ratio_eq, od_Ratio_eq, .func (PySem.W.fnOf "__eq__" "Ratio.__eq__" (defArgs s_Ratio_eq) (defBody s_Ratio_eq) (defScope s_Ratio_eq) .none kV_Ratio_eq dc_Ratio_eq pm_Ratio_eq an_Ratio_eq cd_Ratio_eq ct_Ratio_eq), sl_Ratio_eq⟩)
    (co_Ratio_eq : PySem.W.codeIn K cd_Ratio_eq "Ratio.__eq__" = true)
    (k_Ratio_eq : PySem.W.keepIn K (.ref f_Ratio_eq) = true)
    (a_Ratio_lt : PySem.W.findIn K (.ref c_Ratio) "__lt__" = some (some (.ref f_Ratio_lt)))
    (i_Ratio_lt : PySem.W.isFn K (.ref f_Ratio_lt) = true)
    (l_Ratio_lt : K.lookup f_Ratio_lt = some ⟨oc_Ratio_lt, od_Ratio_lt, .func (PySem.W.fnOf "__lt__" "Ratio.__lt__" (defArgs s_Ratio_lt) (defBody s_Ratio_lt) (defScope s_Ratio_lt) .none kV_Ratio_lt dc_Ratio_lt pm_Ratio_lt an_Ratio_lt cd_Ratio_lt ct_Ratio_lt), sl_Ratio_lt⟩)
    (co_Ratio_lt : PySem.W.codeIn K cd_Ratio_lt "Ratio.__lt__" = true)
    (k_Ratio_lt : PySem.W.keepIn K (.ref f_Ratio_lt) = true)
    (a_Ratio_le : PySem.W.findIn K (.ref c_Ratio) "__le__" = some (some (.ref f_Ratio_le)))
    (i_Ratio_le : PySem.W.isFn K (.ref f_Ratio_le) = true)
    (l_Ratio_le : K.lookup f_Ratio_le = some ⟨oc_Ratio_le, od_Ratio_le, .func (PySem.W.fnOf "__le__" "Ratio.__le__" (defArgs s_Ratio_le) (defBody s_Ratio_le) (defScope s_Ratio_le) .none kV_Ratio_le dc_Ratio_le pm_Ratio_le an_Ratio_le cd_Ratio_le ct_Ratio_le), sl_Ratio_le⟩)
    (co_Ratio_le : PySem.W.codeIn K cd_Ratio_le "Ratio.__le__" = true)
    (k_Ratio_le : PySem.W.keepIn K (.ref f_Ratio_le) = true)
    (a_Ratio_over : PySem.W.findIn K (.ref c_Ratio) "over" = some (some (.ref f_Ratio_over)))
    (i_Ratio_over : PySem.W.isFn K (.ref f_Ratio_over) = true)
    (l_Ratio_over : K.lookup f_Ratio_over = some ⟨oc_Ratio_over, od_Ratio_over, .func (PySem.W.fnOf "over" "Ratio.over" (defArgs s_Ratio_over) (defBody s_Ratio_over) (defScope s_Ratio_over) .none kV_Ratio_over dc_Ratio_over pm_Ratio_over an_Ratio_over cd_Ratio_over ct_Ratio_over), sl_Ratio_over⟩)
    (co_Ratio_over : PySem.W.codeIn K cd_Ratio_over "Ratio.over" = true)
    (k_Ratio_over : PySem.W.keepIn K (.ref f_Ratio_over) = true)
    (a_Ratio_floordiv : PySem.W.findIn K (.ref c_Ratio) "__floordiv__" = some (some (.ref f_Ratio_floordiv)))
    (i_Ratio_floordiv : PySem.W.isFn K (.ref f_Ratio_floordiv) = true)
    (l_Ratio_floordiv : K.lookup f_Ratio_floordiv = some ⟨oc_Ratio_floordiv, od_Ratio_floordiv, .func (PySem.W.fnOf "__floordiv__" "Ratio.__floordiv__" (defArgs s_Ratio_floordiv) (defBody s_Ratio_floordiv) (defScope s_Ratio_floordiv) .none kV_Ratio_floordiv dc_Ratio_floordiv pm_Ratio_floordiv an_Ratio_floordiv cd_Ratio_floordiv ct_Ratio_floordiv), sl_Ratio_floordiv⟩)
    (co_Ratio_floordiv : PySem.W.codeIn K cd_Ratio_floordiv "Ratio.__floordiv__" = true)
    (k_Ratio_floordiv : PySem.W.keepIn K (.ref f_Ratio_floordiv) = true)
    (a_law_pool : PySem.W.nsIn K mainGlobals "_law_pool" = some (some (.ref f_law_pool)))
    (l_law_pool : K.lookup f_law_pool = some ⟨oc_law_pool, od_law_pool, .func (PySem.W.fnOf "_law_pool" "_law_pool" (defArgs s_law_pool) (defBody s_law_pool) (defScope s_law_pool) .none kV_law_pool dc_law_pool pm_law_pool an_law_pool cd_law_pool ct_law_pool), sl_law_pool⟩)
    (co_law_pool : PySem.W.codeIn K cd_law_pool "_law_pool" = true)
    (k_law_pool : PySem.W.keepIn K (.ref f_law_pool) = true)
    (a_law_take : PySem.W.nsIn K mainGlobals "_law_take" = some (some (.ref f_law_take)))
    (l_law_take : K.lookup f_law_take = some ⟨oc_law_take, od_law_take, .func (PySem.W.fnOf "_law_take" "_law_take" (defArgs s_law_take) (defBody s_law_take) (defScope s_law_take) .none kV_law_take dc_law_take pm_law_take an_law_take cd_law_take ct_law_take), sl_law_take⟩)
    (co_law_take : PySem.W.codeIn K cd_law_take "_law_take" = true)
    (k_law_take : PySem.W.keepIn K (.ref f_law_take) = true)
    (a_law_whole : PySem.W.nsIn K mainGlobals "_law_whole" = some (some (.ref f_law_whole)))
    (l_law_whole : K.lookup f_law_whole = some ⟨oc_law_whole, od_law_whole, .func (PySem.W.fnOf "_law_whole" "_law_whole" (defArgs s_law_whole) (defBody s_law_whole) (defScope s_law_whole) .none kV_law_whole dc_law_whole pm_law_whole an_law_whole cd_law_whole ct_law_whole), sl_law_whole⟩)
    (co_law_whole : PySem.W.codeIn K cd_law_whole "_law_whole" = true)
    (k_law_whole : PySem.W.keepIn K (.ref f_law_whole) = true)
    (a_law_number : PySem.W.nsIn K mainGlobals "_law_number" = some (some (.ref f_law_number)))
    (l_law_number : K.lookup f_law_number = some ⟨oc_law_number, od_law_number, .func (PySem.W.fnOf "_law_number" "_law_number" (defArgs s_law_number) (defBody s_law_number) (defScope s_law_number) .none kV_law_number dc_law_number pm_law_number an_law_number cd_law_number ct_law_number), sl_law_number⟩)
    (co_law_number : PySem.W.codeIn K cd_law_number "_law_number" = true)
    (k_law_number : PySem.W.keepIn K (.ref f_law_number) = true)
    (a_law_bottom : PySem.W.nsIn K mainGlobals "_law_bottom" = some (some (.ref f_law_bottom)))
    (l_law_bottom : K.lookup f_law_bottom = some ⟨oc_law_bottom, od_law_bottom, .func (PySem.W.fnOf "_law_bottom" "_law_bottom" (defArgs s_law_bottom) (defBody s_law_bottom) (defScope s_law_bottom) .none kV_law_bottom dc_law_bottom pm_law_bottom an_law_bottom cd_law_bottom ct_law_bottom), sl_law_bottom⟩)
    (co_law_bottom : PySem.W.codeIn K cd_law_bottom "_law_bottom" = true)
    (k_law_bottom : PySem.W.keepIn K (.ref f_law_bottom) = true)
    (a_law_truth : PySem.W.nsIn K mainGlobals "_law_truth" = some (some (.ref f_law_truth)))
    (l_law_truth : K.lookup f_law_truth = some ⟨oc_law_truth, od_law_truth, .func (PySem.W.fnOf "_law_truth" "_law_truth" (defArgs s_law_truth) (defBody s_law_truth) (defScope s_law_truth) .none kV_law_truth dc_law_truth pm_law_truth an_law_truth cd_law_truth ct_law_truth), sl_law_truth⟩)
    (co_law_truth : PySem.W.codeIn K cd_law_truth "_law_truth" = true)
    (k_law_truth : PySem.W.keepIn K (.ref f_law_truth) = true)
    (a_law_floor : PySem.W.nsIn K mainGlobals "_law_floor" = some (some (.ref f_law_floor)))
    (l_law_floor : K.lookup f_law_floor = some ⟨oc_law_floor, od_law_floor, .func (PySem.W.fnOf "_law_floor" "_law_floor" (defArgs s_law_floor) (defBody s_law_floor) (defScope s_law_floor) .none kV_law_floor dc_law_floor pm_law_floor an_law_floor cd_law_floor ct_law_floor), sl_law_floor⟩)
    (co_law_floor : PySem.W.codeIn K cd_law_floor "_law_floor" = true)
    (k_law_floor : PySem.W.keepIn K (.ref f_law_floor) = true)
    (a_law : PySem.W.nsIn K mainGlobals "law" = some (some (.ref f_law)))
    (l_law : K.lookup f_law = some ⟨oc_law, od_law, .func (PySem.W.fnOf "law" "law" (defArgs s_law) (defBody s_law) (defScope s_law) .none kV_law dc_law pm_law an_law cd_law ct_law), sl_law⟩)
    (co_law : PySem.W.codeIn K cd_law "law" = true)
    (k_law : PySem.W.keepIn K (.ref f_law) = true)
    (pg_Ratio : PySem.W.plainGet K c_Ratio Str.empty = true)
    (hd_Ratio : PySem.W.hasDictIn K c_Ratio = true)
    (po_Ratio : PySem.W.plainOver K c_Ratio = true)
    (sa_Ratio : PySem.W.findIn K (.ref c_Ratio) "__setattr__" = some (some (.builtin "object.__setattr__")))
    (ms_Ratio : PySem.W.makesIn K c_Ratio = true)
    (kc_Ratio : PySem.W.keepIn K (.ref c_Ratio) = true)
    (na_Ratio_top : PySem.W.findIn K (.ref c_Ratio) "top" = some none)
    (na_Ratio_bottom : PySem.W.findIn K (.ref c_Ratio) "bottom" = some none)
    (sf_Ratio : PySem.W.selfFirst K c_Ratio = true)
    (nf_Ratio : PySem.W.notFirst K c_Ratio (.ref c_Ratio) = true)
    (nfi_Ratio : PySem.W.notFirst K c_Ratio (.type "int") = true)
    (ia_Ratio : PySem.W.findIn K (.ref c_Ratio) "__class__" = some (some (.builtin "object.__class__")))
    (im_Ratio : PySem.W.mroIn K c_Ratio (.type "object") = some true)
    (x_ZeroBottom : PySem.W.excIn K c_ZeroBottom [.type "ValueError", .type "Exception", .type "BaseException", .type "object"] "ValueError.__new__" = true)
    (kp_ZeroBottom : PySem.W.keepIn K (.ref c_ZeroBottom) = true)
    (bs_ZeroBottom : PySem.W.subIn K (.ref c_ZeroBottom) (.type "BaseException") = some true)
    (ty_ZeroBottom : PySem.W.typeIn K (.ref c_ZeroBottom) = some (.type "type"))
    (ss_ZeroBottom : PySem.W.subIn K (.ref c_ZeroBottom) (.ref c_ZeroBottom) = some true)
    (eg_ZeroBottom : PySem.W.findIn K (.ref c_ZeroBottom) "__getattribute__" = some (some (.builtin "BaseException.__getattribute__")))
    (ek_ZeroBottom : PySem.W.findIn K (.ref c_ZeroBottom) "__getattr__" = some none)
    (ed_ZeroBottom : PySem.W.hasDictIn K c_ZeroBottom = true)
    (ea_ZeroBottom : PySem.W.findIn K (.ref c_ZeroBottom) "__class__" = some (some (.builtin "object.__class__")))
    (em_ZeroBottom : PySem.W.mroIn K c_ZeroBottom (.type "object") = some true)
    (kt_int_Ratio : PySem.W.kitOne K (.type "int") (.ref c_Ratio) = some false)
    (kt_Ratio_int : PySem.W.kitOne K (.ref c_Ratio) (.type "int") = some false)
    (ign : PySem.W.specialIn K (.builtin "object.__class__") "__get__" = some (some (.builtin "getset_descriptor.__get__")))
    (igt : PySem.W.takesIn K (.builtin "object.__class__") = some true)
    {gc_Ratio_floordiv go_Ratio_floordiv gr_Ratio_floordiv : Option Value}
    (w0_Ratio_floordiv : PySem.W.findIn K (.ref c_Ratio) (PySem.dunderR "floordiv") = some gc_Ratio_floordiv)
    (w5_Ratio_floordiv : gc_Ratio_floordiv = none ∨ ∃ g : Addr, gc_Ratio_floordiv = some (.ref g))
    (w1_Ratio_floordiv : PySem.W.findIn K (.type "int") (PySem.dunder "floordiv") = some go_Ratio_floordiv)
    (w2_Ratio_floordiv : PySem.W.findIn K (.type "int") (PySem.dunderR "floordiv") = some gr_Ratio_floordiv)
    (w4_Ratio_floordiv : PySem.W.subIn K (.type "int") (.ref c_Ratio) = some false)
    (dc_Ratio_gt : PySem.W.findIn K (.ref c_Ratio) "__gt__" = some (some (.builtin "object.__gt__")))
    (dc_Ratio_ge : PySem.W.findIn K (.ref c_Ratio) "__ge__" = some (some (.builtin "object.__ge__")))
    (z_isinstance : PySem.W.nsIn K mainGlobals "isinstance" = some none)
    (z_int : PySem.W.nsIn K mainGlobals "int" = some none)
    (z_abs : PySem.W.nsIn K mainGlobals "abs" = some none)
    (z_range : PySem.W.nsIn K mainGlobals "range" = some none)
    (z_bool : PySem.W.nsIn K mainGlobals "bool" = some none)
    (r_gcd : PySem.W.nsIn K mainGlobals "gcd" = some (some (.builtin "math.gcd")))
    : ∃ fd : FuncData, (∀ (s : Shared) (v : Value), BindsTo s fd ⟨[v], []⟩ [("_law_script", v)]) ∧ ∀ base : Heap, K.In base → base.Ns mainGlobals mg → FnOk l.prog w K mg base CX0 7 fa fd ["_law_script"] (sp_law K) := by
  have e := hfa.symm.trans (PySem.W.mg_of X G a_law)
  cases e
  have F_Ratio_init : FunD K "__init__" "Ratio.__init__" (defArgs s_Ratio_init) (defBody s_Ratio_init) (defScope s_Ratio_init) [.int 1] [] f_Ratio_init (PySem.W.fnOf "__init__" "Ratio.__init__" (defArgs s_Ratio_init) (defBody s_Ratio_init) (defScope s_Ratio_init) (.ref tD_Ratio_init) kV_Ratio_init dc_Ratio_init pm_Ratio_init an_Ratio_init cd_Ratio_init ct_Ratio_init) := ⟨⟨_, _, _, _, _, _, _, _, _, _, rfl, l_Ratio_init, co_Ratio_init, .inr ⟨by decide, _, _, [.int 1 tk0_Ratio_init], _, rfl, lt_Ratio_init, rfl, .cons ⟨_, rfl⟩ (.nil)⟩, .inl rfl⟩, k_Ratio_init⟩
  have Bz_Ratio_init := F_Ratio_init.binds1 (ps := ["self", "top", "bottom"]) 3 1 (by decide) (by decide) fun T kV doc pm an cdv ct us its h1 h2 => match us, its, h1, h2 with | [_, _, _], [_], _, _ => ⟨_, rfl, rfl⟩
  have B1_Ratio_init := F_Ratio_init.binds1 (ps := ["self", "top", "bottom"]) 2 0 (by decide) (by decide) fun T kV doc pm an cdv ct us its h1 h2 => match us, its, h1, h2 with | [_, _], [_], _, _ => ⟨_, rfl, rfl⟩
  have B_Ratio_init := Tr.binds_z Bz_Ratio_init
  have F_as_ratio := fun_mk (st := s_as_ratio) l_as_ratio co_as_ratio k_as_ratio
  have B_as_ratio := F_as_ratio.binds (ps := ["value"]) fun _ _ _ _ _ _ us hl => match us, hl with | [_], _ => rfl
  have F_Ratio_eq := fun_mk (st := s_Ratio_eq) l_Ratio_eq co_Ratio_eq k_Ratio_eq
  have B_Ratio_eq := F_Ratio_eq.binds (ps := ["self", "other"]) fun _ _ _ _ _ _ us hl => match us, hl with | [_, _], _ => rfl
  have F_Ratio_lt := fun_mk (st := s_Ratio_lt) l_Ratio_lt co_Ratio_lt k_Ratio_lt
  have B_Ratio_lt := F_Ratio_lt.binds (ps := ["self", "other"]) fun _ _ _ _ _ _ us hl => match us, hl with | [_, _], _ => rfl
  have F_Ratio_le := fun_mk (st := s_Ratio_le) l_Ratio_le co_Ratio_le k_Ratio_le
  have B_Ratio_le := F_Ratio_le.binds (ps := ["self", "other"]) fun _ _ _ _ _ _ us hl => match us, hl with | [_, _], _ => rfl
  have F_Ratio_over := fun_mk (st := s_Ratio_over) l_Ratio_over co_Ratio_over k_Ratio_over
  have B_Ratio_over := F_Ratio_over.binds (ps := ["self", "other"]) fun _ _ _ _ _ _ us hl => match us, hl with | [_, _], _ => rfl
  have F_Ratio_floordiv := fun_mk (st := s_Ratio_floordiv) l_Ratio_floordiv co_Ratio_floordiv k_Ratio_floordiv
  have B_Ratio_floordiv := F_Ratio_floordiv.binds (ps := ["self", "other"]) fun _ _ _ _ _ _ us hl => match us, hl with | [_, _], _ => rfl
  have F_law_pool := fun_mk (st := s_law_pool) l_law_pool co_law_pool k_law_pool
  have B_law_pool := F_law_pool.binds (ps := ["_law_script"]) fun _ _ _ _ _ _ us hl => match us, hl with | [_], _ => rfl
  have F_law_take := fun_mk (st := s_law_take) l_law_take co_law_take k_law_take
  have B_law_take := F_law_take.binds (ps := ["_law_pool_here", "_law_many"]) fun _ _ _ _ _ _ us hl => match us, hl with | [_, _], _ => rfl
  have F_law_whole := fun_mk (st := s_law_whole) l_law_whole co_law_whole k_law_whole
  have B_law_whole := F_law_whole.binds (ps := ["_law_x"]) fun _ _ _ _ _ _ us hl => match us, hl with | [_], _ => rfl
  have F_law_number := fun_mk (st := s_law_number) l_law_number co_law_number k_law_number
  have B_law_number := F_law_number.binds (ps := ["_law_pool_here"]) fun _ _ _ _ _ _ us hl => match us, hl with | [_], _ => rfl
  have F_law_bottom := fun_mk (st := s_law_bottom) l_law_bottom co_law_bottom k_law_bottom
  have B_law_bottom := F_law_bottom.binds (ps := ["_law_pool_here"]) fun _ _ _ _ _ _ us hl => match us, hl with | [_], _ => rfl
  have F_law_truth := fun_mk (st := s_law_truth) l_law_truth co_law_truth k_law_truth
  have B_law_truth := F_law_truth.binds (ps := ["_law_told", "_law_due"]) fun _ _ _ _ _ _ us hl => match us, hl with | [_, _], _ => rfl
  have F_law_floor := fun_mk (st := s_law_floor) l_law_floor co_law_floor k_law_floor
  have B_law_floor := F_law_floor.binds (ps := ["_law_a", "_law_b", "_law_top", "_law_bottom_here"]) fun _ _ _ _ _ _ us hl => match us, hl with | [_, _, _, _], _ => rfl
  have F_law := fun_mk (st := s_law) l_law co_law k_law
  have B_law := F_law.binds (ps := ["_law_script"]) fun _ _ _ _ _ _ us hl => match us, hl with | [_], _ => rfl
  let ad : Ad := { f_Ratio_init := f_Ratio_init, d_Ratio_init := PySem.W.fnOf "__init__" "Ratio.__init__" (defArgs s_Ratio_init) (defBody s_Ratio_init) (defScope s_Ratio_init) (.ref tD_Ratio_init) kV_Ratio_init dc_Ratio_init pm_Ratio_init an_Ratio_init cd_Ratio_init ct_Ratio_init, f_as_ratio := f_as_ratio, d_as_ratio := PySem.W.fnOf "as_ratio" "as_ratio" (defArgs s_as_ratio) (defBody s_as_ratio) (defScope s_as_ratio) .none kV_as_ratio dc_as_ratio pm_as_ratio an_as_ratio cd_as_ratio ct_as_ratio, f_Ratio_eq := f_Ratio_eq, d_Ratio_eq := PySem.W.fnOf "__eq__" "Ratio.__eq__" (defArgs s_Ratio_eq) (defBody s_Ratio_eq) (defScope s_Ratio_eq) .none kV_Ratio_eq dc_Ratio_eq pm_Ratio_eq an_Ratio_eq cd_Ratio_eq ct_Ratio_eq, f_Ratio_lt := f_Ratio_lt, d_Ratio_lt := PySem.W.fnOf "__lt__" "Ratio.__lt__" (defArgs s_Ratio_lt) (defBody s_Ratio_lt) (defScope s_Ratio_lt) .none kV_Ratio_lt dc_Ratio_lt pm_Ratio_lt an_Ratio_lt cd_Ratio_lt ct_Ratio_lt, f_Ratio_le := f_Ratio_le, d_Ratio_le := PySem.W.fnOf "__le__" "Ratio.__le__" (defArgs s_Ratio_le) (defBody s_Ratio_le) (defScope s_Ratio_le) .none kV_Ratio_le dc_Ratio_le pm_Ratio_le an_Ratio_le cd_Ratio_le ct_Ratio_le, f_Ratio_over := f_Ratio_over, d_Ratio_over := PySem.W.fnOf "over" "Ratio.over" (defArgs s_Ratio_over) (defBody s_Ratio_over) (defScope s_Ratio_over) .none kV_Ratio_over dc_Ratio_over pm_Ratio_over an_Ratio_over cd_Ratio_over ct_Ratio_over, f_Ratio_floordiv := f_Ratio_floordiv, d_Ratio_floordiv := PySem.W.fnOf "__floordiv__" "Ratio.__floordiv__" (defArgs s_Ratio_floordiv) (defBody s_Ratio_floordiv) (defScope s_Ratio_floordiv) .none kV_Ratio_floordiv dc_Ratio_floordiv pm_Ratio_floordiv an_Ratio_floordiv cd_Ratio_floordiv ct_Ratio_floordiv, f_law_pool := f_law_pool, d_law_pool := PySem.W.fnOf "_law_pool" "_law_pool" (defArgs s_law_pool) (defBody s_law_pool) (defScope s_law_pool) .none kV_law_pool dc_law_pool pm_law_pool an_law_pool cd_law_pool ct_law_pool, f_law_take := f_law_take, d_law_take := PySem.W.fnOf "_law_take" "_law_take" (defArgs s_law_take) (defBody s_law_take) (defScope s_law_take) .none kV_law_take dc_law_take pm_law_take an_law_take cd_law_take ct_law_take, f_law_whole := f_law_whole, d_law_whole := PySem.W.fnOf "_law_whole" "_law_whole" (defArgs s_law_whole) (defBody s_law_whole) (defScope s_law_whole) .none kV_law_whole dc_law_whole pm_law_whole an_law_whole cd_law_whole ct_law_whole, f_law_number := f_law_number, d_law_number := PySem.W.fnOf "_law_number" "_law_number" (defArgs s_law_number) (defBody s_law_number) (defScope s_law_number) .none kV_law_number dc_law_number pm_law_number an_law_number cd_law_number ct_law_number, f_law_bottom := f_law_bottom, d_law_bottom := PySem.W.fnOf "_law_bottom" "_law_bottom" (defArgs s_law_bottom) (defBody s_law_bottom) (defScope s_law_bottom) .none kV_law_bottom dc_law_bottom pm_law_bottom an_law_bottom cd_law_bottom ct_law_bottom, f_law_truth := f_law_truth, d_law_truth := PySem.W.fnOf "_law_truth" "_law_truth" (defArgs s_law_truth) (defBody s_law_truth) (defScope s_law_truth) .none kV_law_truth dc_law_truth pm_law_truth an_law_truth cd_law_truth ct_law_truth, f_law_floor := f_law_floor, d_law_floor := PySem.W.fnOf "_law_floor" "_law_floor" (defArgs s_law_floor) (defBody s_law_floor) (defScope s_law_floor) .none kV_law_floor dc_law_floor pm_law_floor an_law_floor cd_law_floor ct_law_floor, f_law := fa, d_law := PySem.W.fnOf "law" "law" (defArgs s_law) (defBody s_law) (defScope s_law) .none kV_law dc_law pm_law an_law cd_law ct_law, c_Ratio := c_Ratio, c_ZeroBottom := c_ZeroBottom }
  have T : Txt K mg ad := { F_Ratio_init := F_Ratio_init, B_Ratio_init := B_Ratio_init, B1_Ratio_init := B1_Ratio_init, m_Ratio_init := ⟨a_Ratio_init, i_Ratio_init, k_Ratio_init⟩, F_as_ratio := F_as_ratio, B_as_ratio := B_as_ratio, g_as_ratio := PySem.W.mg_of X G a_as_ratio, F_Ratio_eq := F_Ratio_eq, B_Ratio_eq := B_Ratio_eq, m_Ratio_eq := ⟨a_Ratio_eq, i_Ratio_eq, k_Ratio_eq⟩, F_Ratio_lt := F_Ratio_lt, B_Ratio_lt := B_Ratio_lt, m_Ratio_lt := ⟨a_Ratio_lt, i_Ratio_lt, k_Ratio_lt⟩, F_Ratio_le := F_Ratio_le, B_Ratio_le := B_Ratio_le, m_Ratio_le := ⟨a_Ratio_le, i_Ratio_le, k_Ratio_le⟩, F_Ratio_over := F_Ratio_over, B_Ratio_over := B_Ratio_over, m_Ratio_over := ⟨a_Ratio_over, i_Ratio_over, k_Ratio_over⟩, F_Ratio_floordiv := F_Ratio_floordiv, B_Ratio_floordiv := B_Ratio_floordiv, m_Ratio_floordiv := ⟨a_Ratio_floordiv, i_Ratio_floordiv, k_Ratio_floordiv⟩, F_law_pool := F_law_pool, B_law_pool := B_law_pool, g_law_pool := PySem.W.mg_of X G a_law_pool, F_law_take := F_law_take, B_law_take := B_law_take, g_law_take := PySem.W.mg_of X G a_law_take, F_law_whole := F_law_whole, B_law_whole := B_law_whole, g_law_whole := PySem.W.mg_of X G a_law_whole, F_law_number := F_law_number, B_law_number := B_law_number, g_law_number := PySem.W.mg_of X G a_law_number, F_law_bottom := F_law_bottom, B_law_bottom := B_law_bottom, g_law_bottom := PySem.W.mg_of X G a_law_bottom, F_law_truth := F_law_truth, B_law_truth := B_law_truth, g_law_truth := PySem.W.mg_of X G a_law_truth, F_law_floor := F_law_floor, B_law_floor := B_law_floor, g_law_floor := PySem.W.mg_of X G a_law_floor, F_law := F_law, B_law := B_law, g_law := PySem.W.mg_of X G a_law, cl_Ratio := ⟨pg_Ratio, hd_Ratio, po_Ratio, sa_Ratio⟩, g_Ratio := PySem.W.mg_of X G aC_Ratio, mk_Ratio := ⟨ms_Ratio, a_Ratio_init, i_Ratio_init, kc_Ratio⟩, na_Ratio_top := na_Ratio_top, na_Ratio_bottom := na_Ratio_bottom, sf_Ratio := sf_Ratio, nf_Ratio := nf_Ratio, nfi_Ratio := nfi_Ratio, ia_Ratio := ia_Ratio, im_Ratio := im_Ratio, ik_Ratio := kit_self, ign := ign, igt := igt, x_ZeroBottom := x_ZeroBottom, kp_ZeroBottom := kp_ZeroBottom, bs_ZeroBottom := bs_ZeroBottom, ty_ZeroBottom := ty_ZeroBottom, ss_ZeroBottom := ss_ZeroBottom, g_ZeroBottom := PySem.W.mg_of X G aC_ZeroBottom, ec_ZeroBottom := excC_of eg_ZeroBottom ek_ZeroBottom bs_ZeroBottom ed_ZeroBottom ea_ZeroBottom ign igt em_ZeroBottom, kt_int_Ratio := kt_int_Ratio, kt_Ratio_int := kt_Ratio_int, ow_Ratio_floordiv := ⟨sf_Ratio, ⟨_, w0_Ratio_floordiv, w5_Ratio_floordiv⟩, ⟨_, w1_Ratio_floordiv⟩, ⟨_, w2_Ratio_floordiv⟩, w4_Ratio_floordiv⟩, dc_Ratio_gt := dc_Ratio_gt, dc_Ratio_ge := dc_Ratio_ge, z_isinstance := PySem.W.mg_none_of X G z_isinstance, z_int := PySem.W.mg_none_of X G z_int, z_abs := PySem.W.mg_none_of X G z_abs, z_range := PySem.W.mg_none_of X G z_range, z_bool := PySem.W.mg_none_of X G z_bool, z_gcd := PySem.W.mg_of X G r_gcd }
  exact ⟨_, fun s v => .of_eq rfl, fun base _ _ => ok_law T⟩
end K03
open PySem PySem.W PyProof.Rows
set_option maxRecDepth 100000 in
set_option maxHeartbeats 0 in
theorem PySem.Challenge.cw_toldridges_k03_ratio_order_and_floor_holds : PySem.Challenge.rw_toldridges_k03_ratio_order_and_floor.Holds := by
  w_on; o_law; k_head; (case hw => w_witness2)
  k_fill
  refine L2.walk_of (l := PySem.Challenge.rw_toldridges_k03_ratio_order_and_floor) (n := 63) (k := 7) (x := "_law_script") (CX := fun _ => L2.CX0) (sp := fun w => K03.sp_law _) rfl (by decide) rfl ⟨rfl, by decide, by decide⟩ (fun w h Y => PySem.W.kIn_of Y) ?F (fun _ _ a ns hl _ hS => ⟨a, ns, rfl, hS, hl, fun _ => rfl⟩) (fun _ _ _ _ _ h => h)
  case F =>
    intro w mg fa h KX G hmg
    refine' K03.all_mk KX G hmg ?aC_Ratio ?aC_ZeroBottom ?a_Ratio_init ?i_Ratio_init ?l_Ratio_init ?lt_Ratio_init ?co_Ratio_init ?k_Ratio_init ?a_as_ratio ?l_as_ratio ?co_as_ratio ?k_as_ratio ?a_Ratio_eq ?i_Ratio_eq ?l_Ratio_eq ?co_Ratio_eq ?k_Ratio_eq ?a_Ratio_lt ?i_Ratio_lt ?l_Ratio_lt ?co_Ratio_lt ?k_Ratio_lt ?a_Ratio_le ?i_Ratio_le ?l_Ratio_le ?co_Ratio_le ?k_Ratio_le ?a_Ratio_over ?i_Ratio_over ?l_Ratio_over ?co_Ratio_over ?k_Ratio_over ?a_Ratio_floordiv ?i_Ratio_floordiv ?l_Ratio_floordiv ?co_Ratio_floordiv ?k_Ratio_floordiv ?a_law_pool ?l_law_pool ?co_law_pool ?k_law_pool ?a_law_take ?l_law_take ?co_law_take ?k_law_take ?a_law_whole ?l_law_whole ?co_law_whole ?k_law_whole ?a_law_number ?l_law_number ?co_law_number ?k_law_number ?a_law_bottom ?l_law_bottom ?co_law_bottom ?k_law_bottom ?a_law_truth ?l_law_truth ?co_law_truth ?k_law_truth ?a_law_floor ?l_law_floor ?co_law_floor ?k_law_floor ?a_law ?l_law ?co_law ?k_law ?pg_Ratio ?hd_Ratio ?po_Ratio ?sa_Ratio ?ms_Ratio ?kc_Ratio ?na_Ratio_top ?na_Ratio_bottom ?sf_Ratio ?nf_Ratio ?nfi_Ratio ?ia_Ratio ?im_Ratio ?x_ZeroBottom ?kp_ZeroBottom ?bs_ZeroBottom ?ty_ZeroBottom ?ss_ZeroBottom ?eg_ZeroBottom ?ek_ZeroBottom ?ed_ZeroBottom ?ea_ZeroBottom ?em_ZeroBottom ?kt_int_Ratio ?kt_Ratio_int ?ign ?igt ?w0_Ratio_floordiv ?w5_Ratio_floordiv ?w1_Ratio_floordiv ?w2_Ratio_floordiv ?w4_Ratio_floordiv ?dc_Ratio_gt ?dc_Ratio_ge ?z_isinstance ?z_int ?z_abs ?z_range ?z_bool ?r_gcd
    (case aC_Ratio => k_is)
    (case aC_ZeroBottom => k_is)
    (case a_Ratio_init => k_is)
    (case i_Ratio_init => k_is)
    (case l_Ratio_init => k_is)
    (case lt_Ratio_init => k_is)
    (case co_Ratio_init => k_is)
    (case k_Ratio_init => k_is)
    (case a_as_ratio => k_is)
    (case l_as_ratio => k_is)
    (case co_as_ratio => k_is)
    (case k_as_ratio => k_is)
    (case a_Ratio_eq => k_is)
    (case i_Ratio_eq => k_is)
    (case l_Ratio_eq => k_is)
    (case co_Ratio_eq => k_is)
    (case k_Ratio_eq => k_is)
    (case a_Ratio_lt => k_is)
    (case i_Ratio_lt => k_is)
    (case l_Ratio_lt => k_is)
    (case co_Ratio_lt => k_is)
    (case k_Ratio_lt => k_is)
    (case a_Ratio_le => k_is)
    (case i_Ratio_le => k_is)
    (case l_Ratio_le => k_is)
    (case co_Ratio_le => k_is)
    (case k_Ratio_le => k_is)
    (case a_Ratio_over => k_is)
    (case i_Ratio_over => k_is)
    (case l_Ratio_over => k_is)
    (case co_Ratio_over => k_is)
    (case k_Ratio_over => k_is)
    (case a_Ratio_floordiv => k_is)
    (case i_Ratio_floordiv => k_is)
    (case l_Ratio_floordiv => k_is)
    (case co_Ratio_floordiv => k_is)
    (case k_Ratio_floordiv => k_is)
    (case a_law_pool => k_is)
    (case l_law_pool => k_is)
    (case co_law_pool => k_is)
    (case k_law_pool => k_is)
    (case a_law_take => k_is)
    (case l_law_take => k_is)
    (case co_law_take => k_is)
    (case k_law_take => k_is)
    (case a_law_whole => k_is)
    (case l_law_whole => k_is)
    (case co_law_whole => k_is)
    (case k_law_whole => k_is)
    (case a_law_number => k_is)
    (case l_law_number => k_is)
    (case co_law_number => k_is)
    (case k_law_number => k_is)
    (case a_law_bottom => k_is)
    (case l_law_bottom => k_is)
    (case co_law_bottom => k_is)
    (case k_law_bottom => k_is)
    (case a_law_truth => k_is)
    (case l_law_truth => k_is)
    (case co_law_truth => k_is)
    (case k_law_truth => k_is)
    (case a_law_floor => k_is)
    (case l_law_floor => k_is)
    (case co_law_floor => k_is)
    (case k_law_floor => k_is)
    (case a_law => k_is)
    (case l_law => k_is)
    (case co_law => k_is)
    (case k_law => k_is)
    (case pg_Ratio => k_is)
    (case hd_Ratio => k_is)
    (case po_Ratio => k_is)
    (case sa_Ratio => k_is)
    (case ms_Ratio => k_is)
    (case kc_Ratio => k_is)
    (case na_Ratio_top => k_is)
    (case na_Ratio_bottom => k_is)
    (case sf_Ratio => k_is)
    (case nf_Ratio => k_is)
    (case nfi_Ratio => k_is)
    (case ia_Ratio => k_is)
    (case im_Ratio => k_is)
    (case x_ZeroBottom => k_exc)
    (case kp_ZeroBottom => k_is)
    (case bs_ZeroBottom => k_is)
    (case ty_ZeroBottom => k_is)
    (case ss_ZeroBottom => k_is)
    (case eg_ZeroBottom => k_is)
    (case ek_ZeroBottom => k_is)
    (case ed_ZeroBottom => k_is)
    (case ea_ZeroBottom => k_is)
    (case em_ZeroBottom => k_is)
    (case kt_int_Ratio => kit_is)
    (case kt_Ratio_int => kit_is)
    (case ign => k_is)
    (case igt => k_is)
    (case w0_Ratio_floordiv => k_is)
    (case w5_Ratio_floordiv => first | exact .inl rfl | exact .inr ⟨_, rfl⟩)
    (case w1_Ratio_floordiv => k_is)
    (case w2_Ratio_floordiv => k_is)
    (case w4_Ratio_floordiv => k_is)
    (case dc_Ratio_gt => k_is)
    (case dc_Ratio_ge => k_is)
    (case z_isinstance => k_is)
    (case z_int => k_is)
    (case z_abs => k_is)
    (case z_range => k_is)
    (case z_bool => k_is)
    (case r_gcd => k_is)
#print axioms PySem.Challenge.cw_toldridges_k03_ratio_order_and_floor_holds
