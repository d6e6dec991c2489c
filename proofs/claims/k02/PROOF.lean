import PyProof.Rows.All
import Wide.All
import OpenK.AllK
import Wide.FinOn
import HandS.ForMost
import HandS.Steps
import HandS.IsInst
import HandS.Wide
import HandS.Flow
import HandS.ClsMeth
import HandS.TryOnly
import HandS.WordsExc
import HandS.ExcIs
import HandS.Defaults
import HandS.Gcd
import HandS.FStr
import KE.RegKIsAll
import PySem.Challenge.RW_toldridges_k02_ratio_arithmetic
set_option Elab.async false
set_option linter.all false
set_option maxRecDepth 100000
set_option maxHeartbeats 4000000
/-! TrBase: the world G (what never changes), the owned objects M, the heap H; typed values. -/
namespace Tr
open PySem PySem.Spec PyProof.Rows L2

/-! ### worlds -/
def Sub (G H : Hp) : Prop := ∀ a o, G a = some o → H a = some o
theorem Sub.refl (H : Hp) : Sub H H := fun _ _ h => h
theorem Sub.trans {G H I : Hp} (a : Sub G H) (b : Sub H I) : Sub G I := fun x o h => b x o (a x o h)
theorem Sub.new {H : Hp} {p : Addr} {o : HO} (h : H p = none) : Sub H (upd H p o) := fun a u e => by
  rw [upd_ne (ne_of_none e h)]
  exact e
theorem Sub.seq {K : PySem.W.Frag} {G H : Hp} {a : Addr} {xs : List V} (e : Sub G H) (h : SqL K G a xs) : SqL K H a xs := by
  rcases h with (h | ⟨o, h⟩) | h
  · exact .inl (.inl (e _ _ h))
  · exact .inl (.inr ⟨o, e _ _ h⟩)
  · exact .inr h
abbrev Mu := List (Addr × HO)
/-- G never changes, M is owned, H is the heap -/
structure At (G : Hp) (M : Mu) (H : Hp) : Prop where
  sub : Sub G H
  own : ∀ q ∈ M, H q.1 = some q.2 ∧ G q.1 = none
  nd : (M.map (·.1)).Nodup
section
variable {G H : Hp} {M : Mu} {p q : Addr} {o u : HO}
theorem At.hd (A : At G ((p, o) :: M) H) : H p = some o := (A.own (p, o) (List.mem_cons_self)).1
theorem At.gn (A : At G ((p, o) :: M) H) : G p = none := (A.own (p, o) (List.mem_cons_self)).2
theorem At.tl (A : At G ((p, o) :: M) H) : At G M H := ⟨A.sub, fun q h => A.own q (List.mem_cons_of_mem _ h), (List.nodup_cons.mp A.nd).2⟩
theorem At.nm (A : At G ((p, o) :: M) H) : ∀ q ∈ M, q.1 ≠ p := fun q h e => (List.nodup_cons.mp A.nd).1 (by
  have h1 := List.mem_map_of_mem (f := fun q : Addr × HO => q.1) h
  rw [show q.1 = p from e] at h1
  exact h1)
theorem At.fresh (A : At G M H) (h : H p = none) : G p = none := by
  cases e : G p with
  | none => rfl
  | some x => rw [A.sub p x e] at h; cases h
theorem At.new (A : At G M H) (h : H p = none) : At G ((p, o) :: M) (upd H p o) := by
  refine ⟨A.sub.trans (Sub.new h), fun q hq => ?_, ?_⟩
  · rcases List.mem_cons.mp hq with rfl | hq
    · exact ⟨upd_same, A.fresh h⟩
    · obtain ⟨h1, h2⟩ := A.own q hq
      exact ⟨by rw [upd_ne (ne_of_none h1 h)]; exact h1, h2⟩
  · rw [List.map_cons, List.nodup_cons]
    refine ⟨fun hm => ?_, A.nd⟩
    obtain ⟨q, hq, e⟩ := List.mem_map.mp hm
    have h1 := (A.own q hq).1
    rw [e, h] at h1; cases h1
theorem At.put (A : At G ((p, o) :: M) H) : At G ((p, u) :: M) (upd H p u) := by
  refine ⟨fun a x e => ?_, fun q hq => ?_, A.nd⟩
  · have n : a ≠ p := fun z => by rw [z, A.gn] at e; cases e
    rw [upd_ne n]; exact A.sub a x e
  · rcases List.mem_cons.mp hq with rfl | hq
    · exact ⟨upd_same, A.gn⟩
    · obtain ⟨h1, h2⟩ := A.own q (List.mem_cons_of_mem _ hq)
      exact ⟨by rw [upd_ne (A.nm q hq)]; exact h1, h2⟩
/-- an owned object is given to the world -/
theorem At.frz (A : At G ((p, o) :: M) H) : At (upd G p o) M H := by
  refine ⟨fun a x e => ?_, fun q hq => ?_, (List.nodup_cons.mp A.nd).2⟩
  · by_cases z : a = p
    · subst z; rw [upd_same] at e; cases e; exact A.hd
    · rw [upd_ne z] at e; exact A.sub a x e
  · obtain ⟨h1, h2⟩ := A.own q (List.mem_cons_of_mem _ hq)
    exact ⟨h1, by rw [upd_ne (A.nm q hq)]; exact h2⟩
theorem At.frzS (A : At G ((p, o) :: M) H) : Sub G (upd G p o) := Sub.new A.gn
/-- a new object goes into the world at once -/
theorem At.newG (A : At G M H) (h : H p = none) : At (upd G p o) M (upd H p o) := (A.new (o := o) h).frz
theorem At.newS (A : At G M H) (h : H p = none) : Sub G (upd G p o) := Sub.new (A.fresh h)
theorem At.swap {a b : Addr × HO} (A : At G (a :: b :: M) H) : At G (b :: a :: M) H := by
  refine ⟨A.sub, fun q hq => A.own q ?_, ?_⟩
  · rcases List.mem_cons.mp hq with h | hq
    · exact h ▸ List.mem_cons_of_mem _ List.mem_cons_self
    · rcases List.mem_cons.mp hq with h | hq
      · exact h ▸ List.mem_cons_self
      · exact List.mem_cons_of_mem _ (List.mem_cons_of_mem _ hq)
  · have := A.nd
    simp only [List.map_cons, List.nodup_cons, List.mem_cons, not_or] at this ⊢
    exact ⟨⟨fun e => this.1.1 e.symm, this.2.1⟩, this.1.2, this.2.2⟩
theorem At.rot {a b c : Addr × HO} (A : At G (a :: b :: c :: M) H) : At G (c :: a :: b :: M) H := by
  refine ⟨A.sub, fun q hq => A.own q ?_, ?_⟩
  · simp only [List.mem_cons] at hq ⊢
    rcases hq with h | h | h | h
    · exact .inr (.inr (.inl h))
    · exact .inl h
    · exact .inr (.inl h)
    · exact .inr (.inr (.inr h))
  · have := A.nd
    simp only [List.map_cons, List.nodup_cons, List.mem_cons, not_or] at this ⊢
    exact ⟨⟨fun e => this.1.2.1 e.symm, fun e => this.2.1.1 e.symm, this.2.2.1⟩, ⟨this.1.1, this.1.2.2⟩, this.2.1.2, this.2.2.2⟩
/-- the world alone -/
theorem At.nil (A : At G M H) : At G [] H := ⟨A.sub, fun q h => (nomatch h), List.nodup_nil⟩
theorem At.self (H : Hp) : At H [] H := ⟨Sub.refl H, fun q h => (nomatch h), List.nodup_nil⟩
end

/-! ### typed values -/
class Enc (α : Type) where
  den : Hp → V → α → Prop
  mono : ∀ {G H : Hp} {v : V} {x : α}, Sub G H → den G v x → den H v x
open Enc (den)
instance : Enc Int := ⟨fun _ v x => v = .int x, fun _ h => h⟩
instance : Enc Bool := ⟨fun _ v x => v = .bl x, fun _ h => h⟩
instance : Enc Str := ⟨fun _ v x => v = .str x, fun _ h => h⟩
instance : Enc Unit := ⟨fun _ v _ => v = .non, fun _ h => h⟩
end Tr
set_option Elab.async false
set_option linter.all false
set_option maxRecDepth 100000
set_option maxHeartbeats 4000000
/-! TrOps: operators, comparisons and unary operators that an own class defines, as rules of the hand layer. -/
namespace Tr
open PySem PySem.Spec PyProof.Rows L2
section
variable {X : Cx} {CX : CXT} {k : Nat} {C f : Addr} {fd : FuncData} {ps : List Str} {sp : Sp} {E : XK}

theorem inst_of {pins : List (Addr × Obj)} {σ : L2.St} {H : Hp} {s : Shared} {a C dx : Addr} {fs : List (Str × V)} (I : Inv X pins σ H s) (e : H a = some (.ins C dx fs)) : ∃ ox od, PySem.W.InstAt s.heap a ox C od := by
  obtain ⟨mA, O, _⟩ := ins_get I.hok e
  obtain ⟨od, J, _⟩ := O.look
  exact ⟨_, _, J⟩
theorem back_of {pins : List (Addr × Obj)} {σ : L2.St} {Q : VK} {r : Value} {s' : Shared} (h : EP X pins σ Q r s') : PySem.W.CmpBack (EP X pins σ Q) r s' := by
  obtain ⟨v, H', I', rv, q'⟩ := h
  cases r with
  | notImplemented =>
    exfalso
    cases v <;> first | (obtain ⟨_, e⟩ := rv; cases e) | cases rv
  | _ => exact ⟨v, H', I', rv, q'⟩
/-- a, b instances of one class -/
def rOwn (C : Addr) (sp : Sp) (E : XK) : R2 := fun x y H Q => ∃ a dx fs b dy gs, x = .ref a ∧ y = .ref b ∧ H a = some (.ins C dx fs) ∧ H b = some (.ins C dy gs) ∧ sp [x, y] H Q E
theorem op_own {op : Operator} (F : FnOk X.prog X.w X.K X.mg X.base CX k f fd ps sp) (hr : Room k X.A) (hb : Binds X.K fd ps []) (hx : Passes CX X E) (hc : PySem.W.selfFirst X.K C = true) (m : Meth X.K C (PySem.dunder op.info.2) f) :
    OpR X (binaryOp op) (rOwn C sp E) := by
  intro pins s σ H x y v u Q I rx ry h
  obtain ⟨a, dx, fs, b, dy, gs, rfl, rfl, ha, hb', q⟩ := h
  cases (show v = Value.ref a from rx)
  cases (show u = Value.ref b from ry)
  obtain ⟨ox, od, J⟩ := inst_of I ha
  obtain ⟨ox2, od2, J2⟩ := inst_of I hb'
  obtain ⟨mm, Fm⟩ := I.fr
  refine PySem.W.binop_K Fm I.mod.kin J J2.type hc m.at_ m.fn ?_
  exact thn (run_fn (us := [.ref a, .ref b]) (vs := [.ref a, .ref b]) F hr hb .nil hx I (.cons rfl (.cons rfl .nil)) q) fun r s' hq => back_of hq
/-- what of the text an operator of an own class with an int on the other side must have -/
structure OwnT (K : PySem.W.Frag) (C : Addr) (nm : String) : Prop where
  sf : PySem.W.selfFirst K C = true
  ru : ∃ rc, PySem.W.findIn K (.ref C) (PySem.dunderR nm) = some rc ∧ (rc = none ∨ ∃ g : Addr, rc = some (.ref g))
  i1 : ∃ fo, PySem.W.findIn K (.type "int") (PySem.dunder nm) = some fo
  i2 : ∃ ro, PySem.W.findIn K (.type "int") (PySem.dunderR nm) = some ro
  su : PySem.W.subIn K (.type "int") (.ref C) = some false
def rOwnI (C : Addr) (sp : Sp) (E : XK) : R2 := fun x y H Q => ∃ a dx fs j, x = .ref a ∧ y = .int j ∧ H a = some (.ins C dx fs) ∧ sp [x, y] H Q E
theorem op_ownI {op : Operator} (F : FnOk X.prog X.w X.K X.mg X.base CX k f fd ps sp) (hr : Room k X.A) (hb : Binds X.K fd ps []) (hx : Passes CX X E) (t : OwnT X.K C op.info.2) (m : Meth X.K C (PySem.dunder op.info.2) f) :
    OpR X (binaryOp op) (rOwnI C sp E) := by
  intro pins s σ H x y v u Q I rx ry h
  obtain ⟨a, dx, fs, j, rfl, rfl, ha, q⟩ := h
  cases (show v = Value.ref a from rx)
  obtain ⟨tk, rfl⟩ := (show ∃ t, u = Value.int j t from ry)
  obtain ⟨ox, od, J⟩ := inst_of I ha
  obtain ⟨mm, Fm⟩ := I.fr
  obtain ⟨rc, r1, r2⟩ := t.ru
  obtain ⟨fo, f1⟩ := t.i1
  obtain ⟨ro, o1⟩ := t.i2
  refine PySem.W.ksp_binT (T := "int") Fm I.mod.kin J rfl t.sf m.at_ m.fn r1 r2 f1 o1 t.su ?_
  exact thn (run_fn (us := [.ref a, .int j tk]) (vs := [.ref a, .int j]) F hr hb .nil hx I (.cons rfl (.cons ⟨tk, rfl⟩ .nil)) q) fun r s' hq => back_of hq
/-- -a, ~a -/
def rOwnU (C : Addr) (sp : Sp) (E : XK) : V → Hp → VK → Prop := fun x H Q => ∃ a dx fs, x = .ref a ∧ H a = some (.ins C dx fs) ∧ sp [x] H Q E
theorem un_ownNeg (F : FnOk X.prog X.w X.K X.mg X.base CX k f fd ps sp) (hr : Room k X.A) (hb : Binds X.K fd ps []) (hx : Passes CX X E) (m : Meth X.K C "__neg__" f) : UnR X (unaryOp .USub) (rOwnU C sp E) := by
  intro pins s σ H x v Q I rx h
  obtain ⟨a, dx, fs, rfl, ha, q⟩ := h
  cases (show v = Value.ref a from rx)
  obtain ⟨ox, od, J⟩ := inst_of I ha
  obtain ⟨mm, Fm⟩ := I.fr
  refine PySem.W.ksp_neg Fm I.mod.kin J m.at_ m.fn ?_
  exact run_fn (us := [.ref a]) (vs := [.ref a]) F hr hb .nil hx I (.cons rfl .nil) q
theorem un_ownInv (F : FnOk X.prog X.w X.K X.mg X.base CX k f fd ps sp) (hr : Room k X.A) (hb : Binds X.K fd ps []) (hx : Passes CX X E) (m : Meth X.K C "__invert__" f) : UnR X (unaryOp .Invert) (rOwnU C sp E) := by
  intro pins s σ H x v Q I rx h
  obtain ⟨a, dx, fs, rfl, ha, q⟩ := h
  cases (show v = Value.ref a from rx)
  obtain ⟨ox, od, J⟩ := inst_of I ha
  obtain ⟨mm, Fm⟩ := I.fr
  refine PySem.W.ksp_inv Fm I.mod.kin J m.at_ m.fn ?_
  exact run_fn (us := [.ref a]) (vs := [.ref a]) F hr hb .nil hx I (.cons rfl .nil) q
/-- a == b, a < b .. of two instances of one class -/
theorem op_cmpOwn {op : CmpOp} (hop : ∀ v u : Value, compareOp op v u = richCompare op v u) (F : FnOk X.prog X.w X.K X.mg X.base CX k f fd ps sp) (hr : Room k X.A) (hb : Binds X.K fd ps []) (hx : Passes CX X E)
    (hn : PySem.W.notFirst X.K C (.ref C) = true) (m : Meth X.K C (cmpInfo op).2.1 f) :
    OpR X (compareOp op) (rOwn C sp E) := by
  intro pins s σ H x y v u Q I rx ry h
  obtain ⟨a, dx, fs, b, dy, gs, rfl, rfl, ha, hb', q⟩ := h
  cases (show v = Value.ref a from rx)
  cases (show u = Value.ref b from ry)
  obtain ⟨ox, od, J⟩ := inst_of I ha
  obtain ⟨ox2, od2, J2⟩ := inst_of I hb'
  obtain ⟨mm, Fm⟩ := I.fr
  rw [hop]
  refine PySem.W.cmp_K hr.units0 Fm I.mod.kin J J2.type hn m.at_ m.fn ?_
  exact thn (run_fn (us := [.ref a, .ref b]) (vs := [.ref a, .ref b]) F hr hb .nil hx I (.cons rfl (.cons rfl .nil)) q) fun r s' hq => back_of hq
theorem op_cmpOwnI {op : CmpOp} (hop : ∀ v u : Value, compareOp op v u = richCompare op v u) (F : FnOk X.prog X.w X.K X.mg X.base CX k f fd ps sp) (hr : Room k X.A) (hb : Binds X.K fd ps []) (hx : Passes CX X E)
    (hn : PySem.W.notFirst X.K C (.type "int") = true) (m : Meth X.K C (cmpInfo op).2.1 f) :
    OpR X (compareOp op) (rOwnI C sp E) := by
  intro pins s σ H x y v u Q I rx ry h
  obtain ⟨a, dx, fs, j, rfl, rfl, ha, q⟩ := h
  cases (show v = Value.ref a from rx)
  obtain ⟨tk, rfl⟩ := (show ∃ t, u = Value.int j t from ry)
  obtain ⟨ox, od, J⟩ := inst_of I ha
  obtain ⟨mm, Fm⟩ := I.fr
  rw [hop]
  refine PySem.W.cmp_K (tb := .type "int") hr.units0 Fm I.mod.kin J (PySem.W.Looks.of_pure rfl) hn m.at_ m.fn ?_
  exact thn (run_fn (us := [.ref a, .int j tk]) (vs := [.ref a, .int j]) F hr hb .nil hx I (.cons rfl (.cons ⟨tk, rfl⟩ .nil)) q) fun r s' hq => back_of hq
theorem hop_eq (v u : Value) : compareOp .Eq v u = richCompare .Eq v u := rfl
theorem hop_lt (v u : Value) : compareOp .Lt v u = richCompare .Lt v u := rfl
theorem hop_le (v u : Value) : compareOp .LtE v u = richCompare .LtE v u := rfl
end
end Tr
set_option Elab.async false
set_option linter.all false
set_option maxRecDepth 100000
set_option maxHeartbeats 4000000
/-! TrOpsR: an int on the left, an instance of an own class on the right: the class's reflected method. -/
namespace Tr
open PySem PySem.Spec PyProof.Rows L2
theorem int_add_inst (i : Int) (t : Tok) (x C dx : Addr) :
    Meets (Builtin.«int.__add__» ⟨[.int i t, .ref x], []⟩) (fun _ R s => s.heap.get? x = some (PySem.W.instObj C dx) ∧ R (.ok (.ret Value.notImplemented)) s) :=
  .of_wp fun prog w A R s h => by obtain ⟨hp, g, d, tk, os⟩ := s; obtain ⟨hl, h⟩ := h; wp_walk; exact ⟨_, rfl, h⟩
theorem int_sub_inst (i : Int) (t : Tok) (x C dx : Addr) :
    Meets (Builtin.«int.__sub__» ⟨[.int i t, .ref x], []⟩) (fun _ R s => s.heap.get? x = some (PySem.W.instObj C dx) ∧ R (.ok (.ret Value.notImplemented)) s) :=
  .of_wp fun prog w A R s h => by obtain ⟨hp, g, d, tk, os⟩ := s; obtain ⟨hl, h⟩ := h; wp_walk; exact ⟨_, rfl, h⟩
theorem int_mul_inst (i : Int) (t : Tok) (x C dx : Addr) :
    Meets (Builtin.«int.__mul__» ⟨[.int i t, .ref x], []⟩) (fun _ R s => s.heap.get? x = some (PySem.W.instObj C dx) ∧ R (.ok (.ret Value.notImplemented)) s) :=
  .of_wp fun prog w A R s h => by obtain ⟨hp, g, d, tk, os⟩ := s; obtain ⟨hl, h⟩ := h; wp_walk; exact ⟨_, rfl, h⟩
section
variable {prog : Program} {w : World} {A : Around} {E : Value → Shared → Prop} {s : Shared} {K : PySem.W.Frag} {x C L f f0 : Addr} {h₀ : Heap} {m : Str → Option Value} {ox : Obj} {od : Option Obj}
open PySem.W in
theorem bin_refl {op : Operator} {i : Int} {t : Tok} {Q : Value → Shared → Prop} (F : Fr h₀ L s.heap m) (X₀ : K.In h₀) (I : PySem.W.InstAt s.heap x ox C od) (hc : PySem.W.selfFirst K C = true)
    (h0 : PySem.W.findIn K (.ref C) (PySem.dunder op.info.2) = some (some (.ref f0)))
    (hs : PySem.W.findIn K (.ref C) (PySem.dunderR op.info.2) = some (some (.ref f))) (hf : PySem.W.isFn K (.ref f) = true)
    {fo ro : Option Value} (h1 : PySem.W.findIn K (.type "int") (PySem.dunder op.info.2) = some fo) (h2 : PySem.W.findIn K (.type "int") (PySem.dunderR op.info.2) = some ro)
    (hlf : ((fo.isSome && !isSeqSlot fo) || (ro.isSome && !isSeqSlot ro)) = true)
    (hsub : PySem.W.subIn K (.ref C) (.type "int") = some false)
    (hd : ∀ {Q' : Option Value → Shared → Prop}, Q' none s → wpAny (model prog w) A (tryMethod (.int i t) (PySem.dunder op.info.2) (.ref x)) Q' E s)
    (h : wpAny (model prog w) A (call (.ref f) [.ref x, .int i t]) (PySem.W.CmpBack Q) E s) : wpAny (model prog w) A (binaryOp op (.int i t) (.ref x)) Q E s := by
  have X := X₀.keeps F.keep
  obtain ⟨cd, rest, hcd, hm⟩ := PySem.W.ksp_first hc
  rcases hi : op.info with ⟨sym, nm'⟩
  rw [hi] at hs h0 h1 h2 hd
  dsimp only at hs h0 h1 h2 hd
  have one := PySem.W.ksp_try X I hs hf h
  have decl := @hd
  clear hd h
  have L1 : PySem.W.Looks (model prog w) s.heap (typeOf (.int i t)) (.type "int") := PySem.W.Looks.of_pure rfl
  have L2 : PySem.W.Looks (model prog w) s.heap (typeOf (.ref x)) (.ref C) := I.type
  have L3 : PySem.W.Looks (model prog w) s.heap (fillsNumberSlot (.type "int") nm') true := hlf ▸ PySem.W.ksp_fillsT X h1 h2
  have L4 : PySem.W.Looks (model prog w) s.heap (fillsNumberSlot (.ref C) nm') true := PySem.W.fills_K X hcd hm h0
  have L5 : PySem.W.Looks (model prog w) s.heap (isSubtype (.ref C) (.type "int")) false := PySem.W.looks_subIn X hsub
  have hne : (Value.type "int" == Value.ref C) = false := Bool.eq_false_iff.mpr fun q => by cases beq_iff_eq.mp q
  simp only [binaryOp, hi]
  refine wpAny_holding (wpAny_bind ?_)
  unfold binaryOp1
  refine wpAny_bind (L1.here (wpAny_bind (L2.here (wpAny_bind (L3.here ?_)))))
  simp only [hne, Bool.false_eq_true, if_false]
  refine wpAny_bind (L4.here ?_)
  simp only [Bool.and_self, if_true]
  refine wpAny_bind (L5.here ?_)
  have hpy : numberSlotInPython (.type "int") nm' = pure false := rfl
  simp only [Bool.false_eq_true, if_false, pure_bind, Bool.not_false, Bool.and_self, if_true, hpy]
  refine wpAny_bind (decl ?_)
  dsimp only
  refine wpAny_bind (wpAny_mono one (fun r s' hr' => ?_) fun _ _ e => e)
  obtain ⟨v, rfl, hq⟩ := hr'
  dsimp only
  exact wpAny_bind (wpAny_rule (wpAny_pure (wpAny_pure hq)))
end
end Tr
namespace Tr
open PySem PySem.Spec PyProof.Rows L2
/-- what of the text a reflected operator must have -/
structure OwnR (K : PySem.W.Frag) (C : Addr) (nm : String) : Prop where
  sf : PySem.W.selfFirst K C = true
  fw : ∃ f0 : Addr, PySem.W.findIn K (.ref C) (PySem.dunder nm) = some (some (.ref f0))
  ii : ∃ fo ro, PySem.W.findIn K (.type "int") (PySem.dunder nm) = some fo ∧ PySem.W.findIn K (.type "int") (PySem.dunderR nm) = some ro ∧ ((fo.isSome && !isSeqSlot fo) || (ro.isSome && !isSeqSlot ro)) = true
  su : PySem.W.subIn K (.ref C) (.type "int") = some false
section
variable {X : Cx} {CX : CXT} {k : Nat} {C f : Addr} {fd : FuncData} {ps : List Str} {sp : Sp} {E : XK}
def rOwnR (C : Addr) (sp : Sp) (E : XK) : R2 := fun x y H Q => ∃ i b dx fs, x = .int i ∧ y = .ref b ∧ H b = some (.ins C dx fs) ∧ sp [y, x] H Q E
theorem op_ownR {op : Operator} (F : FnOk X.prog X.w X.K X.mg X.base CX k f fd ps sp) (hr : Room k X.A) (hb : Binds X.K fd ps []) (hx : Passes CX X E) (t : OwnR X.K C op.info.2) (m : Meth X.K C (PySem.dunderR op.info.2) f)
    (hd : ∀ (i : Int) (tk : Tok) (x C dx : Addr) (s : Shared) (Q' : Option Value → Shared → Prop), s.heap.get? x = some (PySem.W.instObj C dx) → Q' none s → wpAny (model X.prog X.w) X.A (tryMethod (.int i tk) (PySem.dunder op.info.2) (.ref x)) Q' X.xe s) :
    OpR X (binaryOp op) (rOwnR C sp E) := by
  intro pins s σ H x y v u Q I rx ry h
  obtain ⟨i, b, dx, fs, rfl, rfl, ha, q⟩ := h
  obtain ⟨tk, rfl⟩ := (show ∃ t, v = Value.int i t from rx)
  cases (show u = Value.ref b from ry)
  obtain ⟨ox, od, J⟩ := inst_of I ha
  obtain ⟨mA, O, _⟩ := ins_get I.hok ha
  obtain ⟨mm, Fm⟩ := I.fr
  obtain ⟨f0, w0⟩ := t.fw
  obtain ⟨fo, ro, h1, h2, h3⟩ := t.ii
  refine bin_refl Fm I.mod.kin J t.sf w0 m.at_ m.fn h1 h2 h3 t.su (fun {Q'} z => hd i tk b C dx s Q' O.1 z) ?_
  exact thn (run_fn (us := [.ref b, .int i tk]) (vs := [.ref b, .int i]) F hr hb .nil hx I (.cons rfl (.cons ⟨tk, rfl⟩ .nil)) q) fun r s' hq => back_of hq
theorem decl_mul (i : Int) (tk : Tok) (x C dx : Addr) (s : Shared) (Q' : Option Value → Shared → Prop) (h : s.heap.get? x = some (PySem.W.instObj C dx)) (q : Q' none s) : wpAny (model X.prog X.w) X.A (tryMethod (.int i tk) (PySem.dunder (Operator.Mult).info.2) (.ref x)) Q' X.xe s :=
  by
  refine wpAny_tryMethod_declines (T := "int") (name := dunder "mul") (id := "int.__mul__") (typeIs_int s i tk) PySem.F.slot_int_mul ?_
  exact call_meets (T := "int") (name := dunder "mul") (B := Builtin.«int.__mul__») PySem.F.slot_int_mul (typeIs_int s i tk) PySem.F.entry_int_mul (PySem.F.args_int_mul_2 _ _) (int_mul_inst i tk x C dx) ⟨h, rfl, q⟩
theorem decl_add (i : Int) (tk : Tok) (x C dx : Addr) (s : Shared) (Q' : Option Value → Shared → Prop) (h : s.heap.get? x = some (PySem.W.instObj C dx)) (q : Q' none s) : wpAny (model X.prog X.w) X.A (tryMethod (.int i tk) (PySem.dunder (Operator.Add).info.2) (.ref x)) Q' X.xe s :=
  by
  refine wpAny_tryMethod_declines (T := "int") (name := dunder "add") (id := "int.__add__") (typeIs_int s i tk) PySem.F.slot_int_add ?_
  exact call_meets (T := "int") (name := dunder "add") (B := Builtin.«int.__add__») PySem.F.slot_int_add (typeIs_int s i tk) PySem.F.entry_int_add (PySem.F.args_int_add_2 _ _) (int_add_inst i tk x C dx) ⟨h, rfl, q⟩
theorem decl_sub (i : Int) (tk : Tok) (x C dx : Addr) (s : Shared) (Q' : Option Value → Shared → Prop) (h : s.heap.get? x = some (PySem.W.instObj C dx)) (q : Q' none s) : wpAny (model X.prog X.w) X.A (tryMethod (.int i tk) (PySem.dunder (Operator.Sub).info.2) (.ref x)) Q' X.xe s :=
  by
  refine wpAny_tryMethod_declines (T := "int") (name := dunder "sub") (id := "int.__sub__") (typeIs_int s i tk) PySem.F.slot_int_sub ?_
  exact call_meets (T := "int") (name := dunder "sub") (B := Builtin.«int.__sub__») PySem.F.slot_int_sub (typeIs_int s i tk) PySem.F.entry_int_sub (PySem.F.args_int_sub_2 _ _) (int_sub_inst i tk x C dx) ⟨h, rfl, q⟩
end
end Tr
set_option Elab.async false
set_option linter.all false
set_option maxRecDepth 100000
set_option maxHeartbeats 4000000
/-! TrLaw: what the laws' own helpers need: the pool. -/
namespace Tr
open PySem PySem.Spec PyProof.Rows L2
/-- the numbers of a pool: few, and each below 4096 -/
structure PoolOk (ms : List Int) : Prop where
  len : ms.length ≤ 10000
  rng : ∀ n ∈ ms, 0 ≤ n ∧ n < 4096
theorem PoolOk.tail {ms : List Int} (h : PoolOk ms) : PoolOk ms.tail := by
  refine ⟨?_, fun n hn => h.rng n (List.mem_of_mem_tail hn)⟩
  have := h.len
  rw [List.length_tail]; omega
/-- the value that take gives -/
def tkv (ms : List Int) (m : Int) : Int := match ms with
  | [] => 0
  | n :: _ => n.fmod m
theorem tkv_rng {ms : List Int} {m : Int} (hm : 0 < m) : 0 ≤ tkv ms m ∧ tkv ms m < m := by
  cases ms with
  | nil => exact ⟨Int.le_refl 0, hm⟩
  | cons n r =>
    show 0 ≤ n.fmod m ∧ n.fmod m < m
    rw [Int.fmod_eq_emod_of_nonneg _ (by omega)]
    exact ⟨Int.emod_nonneg _ (by omega), Int.emod_lt_of_pos _ hm⟩
abbrev pool (ms : List Int) : HO := .lst (ms.map V.int)
/-- all but p stays -/
def Chg (p : Addr) (H H' : Hp) : Prop := ∀ a x, a ≠ p → H a = some x → H' a = some x
theorem Chg.trans {p : Addr} {G H I : Hp} (a : Chg p G H) (b : Chg p H I) : Chg p G I := fun x o n h => b x o n (a x o n h)
theorem Chg.of {p : Addr} {H I : Hp} (a : Sub H I) : Chg p H I := fun x o _ h => a x o h
theorem Chg.put {p : Addr} {H : Hp} {o : HO} : Chg p H (upd H p o) := fun x u n h => by rw [upd_ne n]; exact h
theorem Chg.new {p q : Addr} {H : Hp} {o : HO} (h : H q = none) : Chg p H (upd H q o) := Chg.of (Sub.new h)
section
variable {G H H' : Hp} {M : Mu} {p q : Addr} {o u : HO}
theorem At.chg (A : At G ((p, o) :: M) H) (c : Chg p H H') (h : H' p = some u) : At G ((p, u) :: M) H' := by
  refine ⟨fun a x e => ?_, fun q hq => ?_, A.nd⟩
  · have n : a ≠ p := fun z => by rw [z, A.gn] at e; cases e
    exact c a x n (A.sub a x e)
  · rcases List.mem_cons.mp hq with rfl | hq
    · exact ⟨h, A.gn⟩
    · obtain ⟨h1, h2⟩ := A.own q (List.mem_cons_of_mem _ hq)
      exact ⟨c _ _ (A.nm q hq) h1, h2⟩
theorem At.ext (A : At G M H) (c : Sub H H') : At G M H' := ⟨A.sub.trans c, fun q hq => ⟨c _ _ (A.own q hq).1, (A.own q hq).2⟩, A.nd⟩
theorem At.more (A : At G M H) (c : Sub H H') (n : H p = none) (h : H' p = some o) : At G ((p, o) :: M) H' := by
  refine ⟨A.sub.trans c, fun q hq => ?_, ?_⟩
  · rcases List.mem_cons.mp hq with rfl | hq
    · exact ⟨h, A.fresh n⟩
    · exact ⟨c _ _ (A.own q hq).1, (A.own q hq).2⟩
  · rw [List.map_cons, List.nodup_cons]
    refine ⟨fun hm => ?_, A.nd⟩
    obtain ⟨q, hq, e⟩ := List.mem_map.mp hm
    have h1 := (A.own q hq).1
    rw [e, n] at h1; cases h1
theorem At.h1 {a : Addr × HO} (A : At G (a :: (p, o) :: M) H) : H p = some o := A.tl.hd
theorem At.h2 {a b : Addr × HO} (A : At G (a :: b :: (p, o) :: M) H) : H p = some o := A.tl.tl.hd
theorem At.h3 {a b c : Addr × HO} (A : At G (a :: b :: c :: (p, o) :: M) H) : H p = some o := A.tl.tl.tl.hd
end
theorem cxK {CX : CXT} {P : Program} {w : World} {K : PySem.W.Frag} {mg : Str → Option Value} {base : Heap} {N : List Str} {qual : Str} {scope : Scope} {f : Addr} {cd : Value} {A : Around} {outer : List Env} {s : Shared} {H : Hp} {E : XK} :
    (cxOf CX P w K mg base N qual scope f cd A outer s H E).nox.K = K := rfl
theorem cxK2 {CX : CXT} {P : Program} {w : World} {K : PySem.W.Frag} {mg : Str → Option Value} {base : Heap} {N : List Str} {qual : Str} {scope : Scope} {f : Addr} {cd : Value} {A : Around} {outer : List Env} {s : Shared} {H : Hp} {E : XK} :
    (cxOf CX P w K mg base N qual scope f cd A outer s H E).K = K := rfl
/-! a name is stored: the slots written out again -/
section
variable {v : V} {σ : L2.St} {H : Hp} {nx : L2.St → Hp → Prop}
theorem gs0 {a0 : Option V} (h : nx (some v :: σ) H) : gName 0 v (a0 :: σ) H nx := h
theorem gs1 {a0 a1 : Option V} (h : nx (a0 :: some v :: σ) H) : gName 1 v (a0 :: a1 :: σ) H nx := h
theorem gs2 {a0 a1 a2 : Option V} (h : nx (a0 :: a1 :: some v :: σ) H) : gName 2 v (a0 :: a1 :: a2 :: σ) H nx := h
theorem gs3 {a0 a1 a2 a3 : Option V} (h : nx (a0 :: a1 :: a2 :: some v :: σ) H) : gName 3 v (a0 :: a1 :: a2 :: a3 :: σ) H nx := h
theorem gs4 {a0 a1 a2 a3 a4 : Option V} (h : nx (a0 :: a1 :: a2 :: a3 :: some v :: σ) H) : gName 4 v (a0 :: a1 :: a2 :: a3 :: a4 :: σ) H nx := h
theorem gs5 {a0 a1 a2 a3 a4 a5 : Option V} (h : nx (a0 :: a1 :: a2 :: a3 :: a4 :: some v :: σ) H) : gName 5 v (a0 :: a1 :: a2 :: a3 :: a4 :: a5 :: σ) H nx := h
theorem gs6 {a0 a1 a2 a3 a4 a5 a6 : Option V} (h : nx (a0 :: a1 :: a2 :: a3 :: a4 :: a5 :: some v :: σ) H) : gName 6 v (a0 :: a1 :: a2 :: a3 :: a4 :: a5 :: a6 :: σ) H nx := h
theorem gs7 {a0 a1 a2 a3 a4 a5 a6 a7 : Option V} (h : nx (a0 :: a1 :: a2 :: a3 :: a4 :: a5 :: a6 :: some v :: σ) H) : gName 7 v (a0 :: a1 :: a2 :: a3 :: a4 :: a5 :: a6 :: a7 :: σ) H nx := h
theorem gs8 {a0 a1 a2 a3 a4 a5 a6 a7 a8 : Option V} (h : nx (a0 :: a1 :: a2 :: a3 :: a4 :: a5 :: a6 :: a7 :: some v :: σ) H) : gName 8 v (a0 :: a1 :: a2 :: a3 :: a4 :: a5 :: a6 :: a7 :: a8 :: σ) H nx := h
theorem gs9 {a0 a1 a2 a3 a4 a5 a6 a7 a8 a9 : Option V} (h : nx (a0 :: a1 :: a2 :: a3 :: a4 :: a5 :: a6 :: a7 :: a8 :: some v :: σ) H) : gName 9 v (a0 :: a1 :: a2 :: a3 :: a4 :: a5 :: a6 :: a7 :: a8 :: a9 :: σ) H nx := h
theorem gs10 {a0 a1 a2 a3 a4 a5 a6 a7 a8 a9 a10 : Option V} (h : nx (a0 :: a1 :: a2 :: a3 :: a4 :: a5 :: a6 :: a7 :: a8 :: a9 :: some v :: σ) H) : gName 10 v (a0 :: a1 :: a2 :: a3 :: a4 :: a5 :: a6 :: a7 :: a8 :: a9 :: a10 :: σ) H nx := h
theorem gs11 {a0 a1 a2 a3 a4 a5 a6 a7 a8 a9 a10 a11 : Option V} (h : nx (a0 :: a1 :: a2 :: a3 :: a4 :: a5 :: a6 :: a7 :: a8 :: a9 :: a10 :: some v :: σ) H) : gName 11 v (a0 :: a1 :: a2 :: a3 :: a4 :: a5 :: a6 :: a7 :: a8 :: a9 :: a10 :: a11 :: σ) H nx := h
theorem gs12 {a0 a1 a2 a3 a4 a5 a6 a7 a8 a9 a10 a11 a12 : Option V} (h : nx (a0 :: a1 :: a2 :: a3 :: a4 :: a5 :: a6 :: a7 :: a8 :: a9 :: a10 :: a11 :: some v :: σ) H) : gName 12 v (a0 :: a1 :: a2 :: a3 :: a4 :: a5 :: a6 :: a7 :: a8 :: a9 :: a10 :: a11 :: a12 :: σ) H nx := h
theorem gs13 {a0 a1 a2 a3 a4 a5 a6 a7 a8 a9 a10 a11 a12 a13 : Option V} (h : nx (a0 :: a1 :: a2 :: a3 :: a4 :: a5 :: a6 :: a7 :: a8 :: a9 :: a10 :: a11 :: a12 :: some v :: σ) H) : gName 13 v (a0 :: a1 :: a2 :: a3 :: a4 :: a5 :: a6 :: a7 :: a8 :: a9 :: a10 :: a11 :: a12 :: a13 :: σ) H nx := h
theorem gs14 {a0 a1 a2 a3 a4 a5 a6 a7 a8 a9 a10 a11 a12 a13 a14 : Option V} (h : nx (a0 :: a1 :: a2 :: a3 :: a4 :: a5 :: a6 :: a7 :: a8 :: a9 :: a10 :: a11 :: a12 :: a13 :: some v :: σ) H) : gName 14 v (a0 :: a1 :: a2 :: a3 :: a4 :: a5 :: a6 :: a7 :: a8 :: a9 :: a10 :: a11 :: a12 :: a13 :: a14 :: σ) H nx := h
theorem gs15 {a0 a1 a2 a3 a4 a5 a6 a7 a8 a9 a10 a11 a12 a13 a14 a15 : Option V} (h : nx (a0 :: a1 :: a2 :: a3 :: a4 :: a5 :: a6 :: a7 :: a8 :: a9 :: a10 :: a11 :: a12 :: a13 :: a14 :: some v :: σ) H) : gName 15 v (a0 :: a1 :: a2 :: a3 :: a4 :: a5 :: a6 :: a7 :: a8 :: a9 :: a10 :: a11 :: a12 :: a13 :: a14 :: a15 :: σ) H nx := h
theorem gs16 {a0 a1 a2 a3 a4 a5 a6 a7 a8 a9 a10 a11 a12 a13 a14 a15 a16 : Option V} (h : nx (a0 :: a1 :: a2 :: a3 :: a4 :: a5 :: a6 :: a7 :: a8 :: a9 :: a10 :: a11 :: a12 :: a13 :: a14 :: a15 :: some v :: σ) H) : gName 16 v (a0 :: a1 :: a2 :: a3 :: a4 :: a5 :: a6 :: a7 :: a8 :: a9 :: a10 :: a11 :: a12 :: a13 :: a14 :: a15 :: a16 :: σ) H nx := h
theorem gs17 {a0 a1 a2 a3 a4 a5 a6 a7 a8 a9 a10 a11 a12 a13 a14 a15 a16 a17 : Option V} (h : nx (a0 :: a1 :: a2 :: a3 :: a4 :: a5 :: a6 :: a7 :: a8 :: a9 :: a10 :: a11 :: a12 :: a13 :: a14 :: a15 :: a16 :: some v :: σ) H) : gName 17 v (a0 :: a1 :: a2 :: a3 :: a4 :: a5 :: a6 :: a7 :: a8 :: a9 :: a10 :: a11 :: a12 :: a13 :: a14 :: a15 :: a16 :: a17 :: σ) H nx := h
theorem gs18 {a0 a1 a2 a3 a4 a5 a6 a7 a8 a9 a10 a11 a12 a13 a14 a15 a16 a17 a18 : Option V} (h : nx (a0 :: a1 :: a2 :: a3 :: a4 :: a5 :: a6 :: a7 :: a8 :: a9 :: a10 :: a11 :: a12 :: a13 :: a14 :: a15 :: a16 :: a17 :: some v :: σ) H) : gName 18 v (a0 :: a1 :: a2 :: a3 :: a4 :: a5 :: a6 :: a7 :: a8 :: a9 :: a10 :: a11 :: a12 :: a13 :: a14 :: a15 :: a16 :: a17 :: a18 :: σ) H nx := h
theorem gs19 {a0 a1 a2 a3 a4 a5 a6 a7 a8 a9 a10 a11 a12 a13 a14 a15 a16 a17 a18 a19 : Option V} (h : nx (a0 :: a1 :: a2 :: a3 :: a4 :: a5 :: a6 :: a7 :: a8 :: a9 :: a10 :: a11 :: a12 :: a13 :: a14 :: a15 :: a16 :: a17 :: a18 :: some v :: σ) H) : gName 19 v (a0 :: a1 :: a2 :: a3 :: a4 :: a5 :: a6 :: a7 :: a8 :: a9 :: a10 :: a11 :: a12 :: a13 :: a14 :: a15 :: a16 :: a17 :: a18 :: a19 :: σ) H nx := h
theorem gs20 {a0 a1 a2 a3 a4 a5 a6 a7 a8 a9 a10 a11 a12 a13 a14 a15 a16 a17 a18 a19 a20 : Option V} (h : nx (a0 :: a1 :: a2 :: a3 :: a4 :: a5 :: a6 :: a7 :: a8 :: a9 :: a10 :: a11 :: a12 :: a13 :: a14 :: a15 :: a16 :: a17 :: a18 :: a19 :: some v :: σ) H) : gName 20 v (a0 :: a1 :: a2 :: a3 :: a4 :: a5 :: a6 :: a7 :: a8 :: a9 :: a10 :: a11 :: a12 :: a13 :: a14 :: a15 :: a16 :: a17 :: a18 :: a19 :: a20 :: σ) H nx := h
theorem gs21 {a0 a1 a2 a3 a4 a5 a6 a7 a8 a9 a10 a11 a12 a13 a14 a15 a16 a17 a18 a19 a20 a21 : Option V} (h : nx (a0 :: a1 :: a2 :: a3 :: a4 :: a5 :: a6 :: a7 :: a8 :: a9 :: a10 :: a11 :: a12 :: a13 :: a14 :: a15 :: a16 :: a17 :: a18 :: a19 :: a20 :: some v :: σ) H) : gName 21 v (a0 :: a1 :: a2 :: a3 :: a4 :: a5 :: a6 :: a7 :: a8 :: a9 :: a10 :: a11 :: a12 :: a13 :: a14 :: a15 :: a16 :: a17 :: a18 :: a19 :: a20 :: a21 :: σ) H nx := h
theorem gs22 {a0 a1 a2 a3 a4 a5 a6 a7 a8 a9 a10 a11 a12 a13 a14 a15 a16 a17 a18 a19 a20 a21 a22 : Option V} (h : nx (a0 :: a1 :: a2 :: a3 :: a4 :: a5 :: a6 :: a7 :: a8 :: a9 :: a10 :: a11 :: a12 :: a13 :: a14 :: a15 :: a16 :: a17 :: a18 :: a19 :: a20 :: a21 :: some v :: σ) H) : gName 22 v (a0 :: a1 :: a2 :: a3 :: a4 :: a5 :: a6 :: a7 :: a8 :: a9 :: a10 :: a11 :: a12 :: a13 :: a14 :: a15 :: a16 :: a17 :: a18 :: a19 :: a20 :: a21 :: a22 :: σ) H nx := h
theorem gs23 {a0 a1 a2 a3 a4 a5 a6 a7 a8 a9 a10 a11 a12 a13 a14 a15 a16 a17 a18 a19 a20 a21 a22 a23 : Option V} (h : nx (a0 :: a1 :: a2 :: a3 :: a4 :: a5 :: a6 :: a7 :: a8 :: a9 :: a10 :: a11 :: a12 :: a13 :: a14 :: a15 :: a16 :: a17 :: a18 :: a19 :: a20 :: a21 :: a22 :: some v :: σ) H) : gName 23 v (a0 :: a1 :: a2 :: a3 :: a4 :: a5 :: a6 :: a7 :: a8 :: a9 :: a10 :: a11 :: a12 :: a13 :: a14 :: a15 :: a16 :: a17 :: a18 :: a19 :: a20 :: a21 :: a22 :: a23 :: σ) H nx := h
theorem gs24 {a0 a1 a2 a3 a4 a5 a6 a7 a8 a9 a10 a11 a12 a13 a14 a15 a16 a17 a18 a19 a20 a21 a22 a23 a24 : Option V} (h : nx (a0 :: a1 :: a2 :: a3 :: a4 :: a5 :: a6 :: a7 :: a8 :: a9 :: a10 :: a11 :: a12 :: a13 :: a14 :: a15 :: a16 :: a17 :: a18 :: a19 :: a20 :: a21 :: a22 :: a23 :: some v :: σ) H) : gName 24 v (a0 :: a1 :: a2 :: a3 :: a4 :: a5 :: a6 :: a7 :: a8 :: a9 :: a10 :: a11 :: a12 :: a13 :: a14 :: a15 :: a16 :: a17 :: a18 :: a19 :: a20 :: a21 :: a22 :: a23 :: a24 :: σ) H nx := h
theorem gs25 {a0 a1 a2 a3 a4 a5 a6 a7 a8 a9 a10 a11 a12 a13 a14 a15 a16 a17 a18 a19 a20 a21 a22 a23 a24 a25 : Option V} (h : nx (a0 :: a1 :: a2 :: a3 :: a4 :: a5 :: a6 :: a7 :: a8 :: a9 :: a10 :: a11 :: a12 :: a13 :: a14 :: a15 :: a16 :: a17 :: a18 :: a19 :: a20 :: a21 :: a22 :: a23 :: a24 :: some v :: σ) H) : gName 25 v (a0 :: a1 :: a2 :: a3 :: a4 :: a5 :: a6 :: a7 :: a8 :: a9 :: a10 :: a11 :: a12 :: a13 :: a14 :: a15 :: a16 :: a17 :: a18 :: a19 :: a20 :: a21 :: a22 :: a23 :: a24 :: a25 :: σ) H nx := h
theorem gs26 {a0 a1 a2 a3 a4 a5 a6 a7 a8 a9 a10 a11 a12 a13 a14 a15 a16 a17 a18 a19 a20 a21 a22 a23 a24 a25 a26 : Option V} (h : nx (a0 :: a1 :: a2 :: a3 :: a4 :: a5 :: a6 :: a7 :: a8 :: a9 :: a10 :: a11 :: a12 :: a13 :: a14 :: a15 :: a16 :: a17 :: a18 :: a19 :: a20 :: a21 :: a22 :: a23 :: a24 :: a25 :: some v :: σ) H) : gName 26 v (a0 :: a1 :: a2 :: a3 :: a4 :: a5 :: a6 :: a7 :: a8 :: a9 :: a10 :: a11 :: a12 :: a13 :: a14 :: a15 :: a16 :: a17 :: a18 :: a19 :: a20 :: a21 :: a22 :: a23 :: a24 :: a25 :: a26 :: σ) H nx := h
theorem gs27 {a0 a1 a2 a3 a4 a5 a6 a7 a8 a9 a10 a11 a12 a13 a14 a15 a16 a17 a18 a19 a20 a21 a22 a23 a24 a25 a26 a27 : Option V} (h : nx (a0 :: a1 :: a2 :: a3 :: a4 :: a5 :: a6 :: a7 :: a8 :: a9 :: a10 :: a11 :: a12 :: a13 :: a14 :: a15 :: a16 :: a17 :: a18 :: a19 :: a20 :: a21 :: a22 :: a23 :: a24 :: a25 :: a26 :: some v :: σ) H) : gName 27 v (a0 :: a1 :: a2 :: a3 :: a4 :: a5 :: a6 :: a7 :: a8 :: a9 :: a10 :: a11 :: a12 :: a13 :: a14 :: a15 :: a16 :: a17 :: a18 :: a19 :: a20 :: a21 :: a22 :: a23 :: a24 :: a25 :: a26 :: a27 :: σ) H nx := h
theorem gs28 {a0 a1 a2 a3 a4 a5 a6 a7 a8 a9 a10 a11 a12 a13 a14 a15 a16 a17 a18 a19 a20 a21 a22 a23 a24 a25 a26 a27 a28 : Option V} (h : nx (a0 :: a1 :: a2 :: a3 :: a4 :: a5 :: a6 :: a7 :: a8 :: a9 :: a10 :: a11 :: a12 :: a13 :: a14 :: a15 :: a16 :: a17 :: a18 :: a19 :: a20 :: a21 :: a22 :: a23 :: a24 :: a25 :: a26 :: a27 :: some v :: σ) H) : gName 28 v (a0 :: a1 :: a2 :: a3 :: a4 :: a5 :: a6 :: a7 :: a8 :: a9 :: a10 :: a11 :: a12 :: a13 :: a14 :: a15 :: a16 :: a17 :: a18 :: a19 :: a20 :: a21 :: a22 :: a23 :: a24 :: a25 :: a26 :: a27 :: a28 :: σ) H nx := h
theorem gs29 {a0 a1 a2 a3 a4 a5 a6 a7 a8 a9 a10 a11 a12 a13 a14 a15 a16 a17 a18 a19 a20 a21 a22 a23 a24 a25 a26 a27 a28 a29 : Option V} (h : nx (a0 :: a1 :: a2 :: a3 :: a4 :: a5 :: a6 :: a7 :: a8 :: a9 :: a10 :: a11 :: a12 :: a13 :: a14 :: a15 :: a16 :: a17 :: a18 :: a19 :: a20 :: a21 :: a22 :: a23 :: a24 :: a25 :: a26 :: a27 :: a28 :: some v :: σ) H) : gName 29 v (a0 :: a1 :: a2 :: a3 :: a4 :: a5 :: a6 :: a7 :: a8 :: a9 :: a10 :: a11 :: a12 :: a13 :: a14 :: a15 :: a16 :: a17 :: a18 :: a19 :: a20 :: a21 :: a22 :: a23 :: a24 :: a25 :: a26 :: a27 :: a28 :: a29 :: σ) H nx := h
end
/-- an instance that __init__ has just filled -/
theorem made {H : Hp} {r dr : Addr} {o1 o2 : HO} (h1 : H r = none) (h2 : H dr = none) : Sub H (upd (upd (upd H dr (.own r)) r o1) r o2) := fun a x e => by
  rw [upd_ne (ne_of_none e h1), upd_ne (ne_of_none e h1), upd_ne (ne_of_none e h2)]
  exact e
theorem lookup2 {f g : Str} {u v : V} (h : (g == f) = false) : ([(f, u), (g, v)] : List (Str × V)).lookup g = some v := by
  show (match g == f with | true => some u | false => ([(g, v)] : List (Str × V)).lookup g) = _
  rw [h]
  show (match g == g with | true => some v | false => ([] : List (Str × V)).lookup g) = _
  rw [show (g == g) = true from beq_self_eq_true g]
theorem lookup1 {f : Str} {u : V} {r : List (Str × V)} : ((f, u) :: r : List (Str × V)).lookup f = some u := by
  show (match f == f with | true => some u | false => r.lookup f) = _
  rw [show (f == f) = true from beq_self_eq_true f]
theorem putF2 {f g : Str} {u v : V} (h : ¬ f = g) : putF g v (putF f u []) = [(f, u), (g, v)] := by
  unfold putF
  simp [putF, h]
theorem kit_self {K : PySem.W.Frag} {C : Addr} : PySem.W.kitOne K (.ref C) (.ref C) = some true := by
  unfold PySem.W.kitOne
  simp
/-- a test that is true -/
theorem dq {p : Prop} [Decidable p] {Q : Bool → Prop} (h : p) (k : Q true) : Q (decide p) := by
  rw [decide_eq_true h]
  exact k
theorem dqn {p : Prop} [Decidable p] {Q : Bool → Prop} (h : ¬ p) (k : Q false) : Q (decide p) := by
  rw [decide_eq_false h]
  exact k
theorem iteNT {c A B : Prop} [Decidable c] (hc : ¬ c) (h : A) : if (!decide c) = true then A else B := by
  rw [decide_eq_false hc]
  exact iteT h
theorem iteY {c A B : Prop} [Decidable c] (hc : c) (h : A) : if decide c = true then A else B := by
  rw [decide_eq_true hc]
  exact iteT h
theorem iteN {c A B : Prop} [Decidable c] (hc : ¬ c) (h : B) : if decide c = true then A else B := by
  rw [decide_eq_false hc]
  exact iteF h
theorem neI {a b : Int} (h : a ≠ b) : ¬ (V.int a = V.int b) := fun e => h (by injection e)
end Tr
set_option Elab.async false
set_option linter.all false
set_option maxRecDepth 100000
set_option maxHeartbeats 4000000
/-! TrStat: C.m(..) of a static method. -/
namespace Tr
open PySem PySem.Spec PyProof.Rows L2
/-- C.m is a static method: its record at p, its def at g -/
structure CStat (K : PySem.W.Frag) (C : Addr) (m : Str) (g : Addr) : Prop where
  rd : PySem.W.readsIn K C (.type "type") = true
  ga : PySem.W.specialIn K (.ref C) "__getattribute__" = some (some (.builtin "type.__getattribute__"))
  at_ : ∃ p, PySem.W.findCls K (.ref C) (.type "type") m = some (.get (.builtin "staticmethod.__get__") (.ref p) .none (.ref C)) ∧ ∃ rest, PySem.W.recIn K p "staticmethod" = some (.ref g :: rest)
  kp : PySem.W.keepIn K (.ref g) = true
def tStat (C : Addr) (sp : Sp) (E : XK) (ta : TE) (t : TA) : TE := fun σ H Q => ta σ H fun x H1 => x = .ref C ∧ t σ H1 fun vs H2 => sp vs H2 Q E
section
variable {X : Cx} {CX : CXT} {k : Nat} {C g : Addr} {fd : FuncData} {ps : List Str} {sp : Sp} {E : XK} {o e : Expr} {es : List Expr} {m : Str} {pos apos : Pos} {ta : TE} {t : TA} {pl : Sem Bool}
theorem getmethst_ok {pins : List (Addr × Obj)} {σ : L2.St} {H : Hp} {s : Shared} {A : Around} {E : Value → Shared → Prop} {Q : Value × List Value → Shared → Prop} (I : Inv X pins σ H s) (c : CStat X.K C m g)
    (h : ∀ s', Inv X pins σ H s' → Q (.ref g, []) s') : wpAny (model X.prog X.w) A (getMethod (.ref C) m pl) Q E s := by
  obtain ⟨p, hat, rest, hp⟩ := c.at_
  refine PySem.W.method_cls I.kIn c.ga ?_
  refine PySem.W.cls_bind I.kIn c.rd hat ?_
  exact wpAny_call (PySem.W.sm_get (s := { s with toks := s.toks + 1 }) I.kIn hp (PySem.W.handed_on rfl (h _ (I.tok _))))
theorem pe_stat (he : PE X o ta) (c : CStat X.K C m g) (F : FnOk X.prog X.w X.K X.mg X.base CX k g fd ps sp) (hr : Room k X.A) (hb : Binds X.K fd ps []) (hx : Passes CX X E) (ha : PA X (e :: es) t)
    (hst : starEach (e :: es) X.env = (false, eval e X.env) :: starEach es X.env := by rfl) (hpl : (backTo pos (starEach es X.env)).any (·.1) = false := by rfl)
    (ht : eval (.Call (.Attribute o m apos) (e :: es) [] pos) X.env = (do
      let ov ← eval o X.env
      standAt apos.atName
      let (f, first) ← holding [ov] (getMethod ov m pl)
      callWith pos f first (backTo pos (starEach (e :: es) X.env)) (backToKw pos (keywordEach [] X.env))) := by rfl) :
    PE X (.Call (.Attribute o m apos) (e :: es) [] pos) (tStat C sp E ta t) := by
  refine ⟨fun pins s σ H Q I h => ?_⟩
  refine PySem.W.methodCall_KW (pl := pl) (thn (he.run pins s σ H _ I h) fun u s1 ⟨x, H1, I1, rx, ex, q⟩ => ?_) ht
  subst ex
  obtain rfl : u = Value.ref C := rx
  refine getmethst_ok I1 c fun s2 I2 => ?_
  refine PySem.W.callWith_K (first := []) (h₀ := X.base) I.ok.mod.kin c.kp (thn (ha.run pos pins s2 σ H1 _ I2 q) fun us s3 ⟨vs, H2, I3, r, q2⟩ => ⟨I3.kIn, ?_⟩) hst hpl
  exact run_fn (us := us) (vs := vs) F hr hb .nil hx I3 r (by rw [List.append_nil]; exact q2)
end
/-- one name stored under a test: one way -/
theorem ifset {tc : TT} {te : TE} {i : Nat} {v : V} {D : Ends} {σ σ' : L2.St} {H : Hp} (b : Bool) (hc : ∀ Q : Bool → Hp → Prop, Q b H → tc σ H Q) (hv : b = true → ∀ Q : VK, Q v H → te σ H Q) (e1 : b = true → σ.set i (some v) = σ') (e2 : b = false → σ = σ') (h : D.nx σ' H) :
    tIfS tc (tAsg te (gName i)) tNext D σ H := by
  refine hc _ ?_
  cases b with
  | true =>
    refine iteT (hv rfl _ ?_)
    show D.nx (σ.set i (some v)) H
    rw [e1 rfl]; exact h
  | false =>
    refine iteF ?_
    show D.nx σ H
    rw [e2 rfl]; exact h
/-- .. where the name has a value: the value chosen -/
theorem ifsetI {tc : TT} {te : TE} {i : Nat} {v u : V} {D : Ends} {σ : L2.St} {H : Hp} (b : Bool) (hc : ∀ Q : Bool → Hp → Prop, Q b H → tc σ H Q) (hv : ∀ Q : VK, Q v H → te σ H Q) (hu : σ[i]? = some (some u)) (h : gName i (if b = true then v else u) σ H D.nx) :
    tIfS tc (tAsg te (gName i)) tNext D σ H := by
  refine hc _ ?_
  cases b with
  | true => exact iteT (hv _ h)
  | false =>
    refine iteF ?_
    show D.nx σ H
    have e : σ.set i (some u) = σ := by
      apply List.ext_getElem?
      intro j
      rw [List.getElem?_set]
      split
      · rename_i e; subst e
        split
        · exact hu.symm
        · rename_i h'; rw [List.getElem?_eq_none (by omega)] at hu; cases hu
      · rfl
    have h' : D.nx (σ.set i (some u)) H := h
    rw [e] at h'
    exact h'
theorem At.laid {G H : Hp} {M : Mu} {p : Addr} {o : HO} (A : At G M H) (h : H p = none) : ∃ G', At G' M (upd H p o) ∧ Sub G G' ∧ G' p = some o := ⟨_, A.newG h, A.newS h, upd_same⟩
theorem asgC {v : V} {D : Ends} {σ : L2.St} {H : Hp} {rest : TS} {i : Nat} (h : gName i v σ H (rest D)) : tSeq (tAsg (tC v) (gName i)) rest D σ H := h
theorem ifsetS {tc : TT} {te : TE} {i : Nat} {v u : V} {D : Ends} {σ : L2.St} {H : Hp} {rest : TS} (b : Bool) (hc : ∀ Q : Bool → Hp → Prop, Q b H → tc σ H Q) (hv : ∀ Q : VK, Q v H → te σ H Q) (hu : σ[i]? = some (some u)) (h : gName i (if b = true then v else u) σ H (rest D)) :
    tSeq (tIfS tc (tAsg te (gName i)) tNext) rest D σ H := ifsetI (D := { D with nx := rest D }) b hc hv hu h
end Tr
set_option Elab.async false
set_option linter.all false
set_option maxRecDepth 100000
set_option maxHeartbeats 4000000
/-! TrExc: X() of an own exception class raised; instances made and methods called within a try; // of great numbers of either sign. -/
namespace Tr
open PySem PySem.Spec PyProof.Rows L2
section
variable {X : Cx}
/-- X(), X an own exception class without own __init__ -/
theorem pmk_own0 {C : Addr} {bmB : List Value} {B newId initId : String} {x : Str} {p pos : Pos} (F : ExcBaseFacts B newId initId bmB) (q : PySem.W.excIn X.K C bmB newId = true) (gC : X.mg x = some (.ref C))
    (kC : PySem.W.keepIn X.K (.ref C) = true) (r : Raises X (.ref C)) (hg : Gl X x) (hdb : (x == ("__debug__" : Str)) = false := by decide) :
    PMk X (.Call (.Name x p) [] [] pos) (fun σ H Q => Q (.ref C) none H) := by
  intro pins s σ H Q I h
  refine wpAny_Call_Name_kw (ld_glob I hg gC ?_ hdb)
  refine PySem.W.callWith_K0 I.kIn kC ?_
  show wpAny _ _ (call (.ref C) []) _ _ _
  obtain ⟨bm, N, nm, qn, bs, hdct, sn, sub, ab, col, dd, k0, k1, k2, k3, k5, mN, hC, hN, hni, T⟩ := exc_obj I.kIn q
  refine wpAny_call_exc_subT F T hC hN hni (fun h' e hm => ?_) (Nat.zero_le _)
  exact mk_of I hm r h (I.hok.gone hm.new)
end
/-- // by any divisor but 0, below 2 ^ 9000 in size -/
def CDivS (_ j : Int) : Prop := j ≠ 0 ∧ j.natAbs.log2 < 9000
theorem op_fdivS {X : Cx} : OpR X (binaryOp .FloorDiv) (rI CDivS fun i j => .int (i.fdiv j)) := opI fun i j _ _ _ _ _ hc q => floordiv_int hc.1 q (.inl (PyProof.noPylong_of_log2 hc.2))
theorem wide_divS {i j : Int} {b : Nat} (h : j ≠ 0) (hb : j.natAbs < 2 ^ b) (h0 : 0 < b) (h9 : b ≤ 9000) : CDivS i j := ⟨h, Nat.lt_of_lt_of_le (PySem.Flt.log2_lt_of h0 hb) h9⟩
section
variable {X : Cx} {CX : CXT} {k : Nat} {f C : Addr} {fd : FuncData} {ps : List Str} {sp : Sp} {E : L2.St → XK} {dvs : List V} {ds : List Value} {x m : Str} {p pos apos : Pos} {e o : Expr} {es : List Expr} {ta : TE} {t : TA}
theorem run_makeS {pins : List (Addr × Obj)} {σ : L2.St} {H : Hp} {s : Shared} {Q : VK} {us : List Value} {vs : List V} (M : Mk X.K C f) (F : FnOk X.prog X.w X.K X.mg X.base CX k f fd ps sp) (hr : Room (k + 1) X.A) (hb : Binds X.K fd ps ds) (hd : Vals dvs ds)
    (hx : PassesAt CX X σ (E σ)) (I : Inv X pins σ H s) (r : Vals vs us)
    (h : ∀ x dx, H x = none → H dx = none → dx ≠ x → sp (.ref x :: (vs ++ dvs)) (upd (upd H dx (.own x)) x (.ins C dx [])) (fun v H2 => v = .non ∧ Q (.ref x) H2) (E σ)) :
    wpAny (model X.prog X.w) X.A (call (.ref C) us) (EP X pins σ Q) X.xe s := by
  have hq := h (s.heap.objs.size + 1) s.heap.objs.size (I.hok.fresh (Nat.le_succ _)) (I.hok.fresh (Nat.le_refl _)) (Nat.ne_of_lt (Nat.lt_succ_self _))
  have I2 := Inv.made (C := C) I
  have r2 : Vals (V.ref (s.heap.objs.size + 1) :: (vs ++ dvs)) (Value.ref (s.heap.objs.size + 1) :: (us ++ ds)) := .cons rfl (r.append hd)
  have hl : (Value.ref (s.heap.objs.size + 1) :: us ++ ds).length = ps.length := by
    have e := r2.length
    rw [F.len _ _ _ _ hq] at e
    exact e.symm
  refine wpAny_call (make_map (f := f) I.kIn M.makes M.init (beq_iff_eq.mp M.fn) (codeAny_mono (F.run _ X.stack _ _ ⟨Value.ref (s.heap.objs.size + 1) :: us, []⟩ (Value.ref (s.heap.objs.size + 1) :: (us ++ ds)) _ _ (E σ) (hr.make C us [])
    (I2.env0.make C us []) (hb _ (Value.ref (s.heap.objs.size + 1) :: us) I2.kIn hl) r2 hq) fun r s' hq' => ?_))
  cases r with
  | error e => exact hx pins _ _ e s' I2 hq'
  | ok fl =>
    cases fl with
    | ret u =>
      obtain ⟨v, H', I3, rv, ev, q3⟩ := I2.after hq'
      subst ev
      exact ⟨rv, ⟨V.ref (s.heap.objs.size + 1), H', I3, rfl, q3⟩⟩
    | next => exact False.elim hq'
    | brk => exact False.elim hq'
    | cont => exact False.elim hq'
def tMakeS (C : Addr) (sp : Sp) (dvs : List V) (E : L2.St → XK) (t : TA) : TE := fun σ H Q => t σ H fun vs H1 => ∀ x dx, H1 x = none → H1 dx = none → dx ≠ x →
  sp (.ref x :: (vs ++ dvs)) (upd (upd H1 dx (.own x)) x (.ins C dx [])) (fun v H2 => v = .non ∧ Q (.ref x) H2) (E σ)
/-- C(..) within a try -/
theorem pe_makeS (M : Mk X.K C f) (F : FnOk X.prog X.w X.K X.mg X.base CX k f fd ps sp) (hr : Room (k + 1) X.A) (hg : Gl X x) (hm : X.mg x = some (.ref C)) (hb : Binds X.K fd ps ds) (hd : Vals dvs ds) (hx : ∀ σ, PassesAt CX X σ (E σ))
    (ha : PA X (e :: es) t) (hdb : (x == ("__debug__" : Str)) = false := by decide) (he : starEach (e :: es) X.env = (false, eval e X.env) :: starEach es X.env := by rfl) (hpl : (backTo pos (starEach es X.env)).any (·.1) = false := by rfl) :
    PE X (.Call (.Name x p) (e :: es) [] pos) (tMakeS C sp dvs E t) := by
  refine ⟨fun pins s σ H Q I h => ?_⟩
  refine wpAny_Call_Name_kw (ld_glob I hg hm ?_ hdb)
  refine PySem.W.callWith_K (h₀ := X.base) I.ok.mod.kin M.kp (thn (ha.run pos pins s σ H _ I h) fun us s1 ⟨vs, H1, I1, r, q⟩ => ⟨I1.kIn, ?_⟩) he hpl
  exact run_makeS M F hr hb hd (hx σ) I1 r q
def tMethS (C : Addr) (m : Str) (sp : Sp) (E : L2.St → XK) (ta : TE) (t : TA) : TE := fun σ H Q => ta σ H fun x H1 => ∃ a dx fs, x = .ref a ∧ H1 a = some (.ins C dx fs) ∧ fs.lookup m = none ∧
  t σ H1 fun vs H2 => sp (x :: vs) H2 Q (E σ)
/-- o.m(e, ..) within a try -/
theorem pe_methT {pl : Sem Bool} (he : PE X o ta) (c : Cls X.K C) (hm : Meth X.K C m f) (F : FnOk X.prog X.w X.K X.mg X.base CX k f fd ps sp) (hr : Room k X.A) (hb : Binds X.K fd ps []) (hx : ∀ σ, PassesAt CX X σ (E σ)) (ha : PA X (e :: es) t)
    (hst : starEach (e :: es) X.env = (false, eval e X.env) :: starEach es X.env := by rfl) (hpl : (backTo pos (starEach es X.env)).any (·.1) = false := by rfl)
    (ht : eval (.Call (.Attribute o m apos) (e :: es) [] pos) X.env = (do
      let ov ← eval o X.env
      standAt apos.atName
      let (f, first) ← holding [ov] (getMethod ov m pl)
      callWith pos f first (backTo pos (starEach (e :: es) X.env)) (backToKw pos (keywordEach [] X.env))) := by rfl) :
    PE X (.Call (.Attribute o m apos) (e :: es) [] pos) (tMethS C m sp E ta t) := by
  refine ⟨fun pins s σ H Q I h => ?_⟩
  refine PySem.W.methodCall_KW (pl := pl) (thn (he.run pins s σ H _ I h) fun u s1 ⟨x, H1, I1, rx, a, dx, fs, ex, ea, l, q⟩ => ?_) ht
  subst ex
  obtain rfl : u = Value.ref a := rx
  refine getmeth_ok I1 ea c hm l ?_
  refine PySem.W.callWith_K (first := [.ref a]) (h₀ := X.base) I.ok.mod.kin hm.kp (thn (ha.run pos pins s1 σ H1 _ I1 q) fun us s2 ⟨vs, H2, I2, r, q2⟩ => ⟨I2.kIn, ?_⟩) hst hpl
  exact run_fnS (us := .ref a :: us) (vs := .ref a :: vs) F hr hb (hx σ) I2 (.cons rfl r) q2
end
/-- what is asked ahead of a block's rule -/
def tWhen (p : Prop) (t : TS) : TS := fun D σ H => p ∧ t D σ H
theorem pss_when {X : Cx} {p : Prop} {sts : List Stmt} {t : TS} (h : p → PSs X sts t) : PSs X sts (tWhen p t) := ⟨fun pins s σ H D I hq => (h hq.1).run pins s σ H D I hq.2⟩
section
variable {X : Cx} {x n : Str} {c : Value} {D : Addr} {i : Nat} {body suite : List Stmt} {b₀ : Stmt} {np pos pos' : Pos} {tb : WX → TS} {ts : Addr → TS} {Wout : WX}
/-- try .. except X as n, of exceptions of the class D without a dict of their own -/
theorem ps_try_asN (hs : X.stack = X.env :: X.outer) (hf : X.env.frame = some X.env.locals) (hN : X.N.Nodup) (hi : X.N[i]? = some n) (hln : X.env.kindOf n = some .local) (hc : Names X x c) (tk : Takes X Wout)
    (hb : ∀ (W : WX) (pn : List (Addr × Obj)) (xe : Value → Shared → Prop), Takes (X.tr pn xe) W → PassesOwn (model X.prog X.w) X.A X.env xe → PSs (X.tr pn xe) body (tb W))
    (hsu : ∀ (a : Addr) (oe : Obj) (pn : List (Addr × Obj)), Zc (.ref D) none oe → (∃ vs, oe.data = .fields vs) → PSs (X.suite a ((a, oe) :: pn)) (b₀ :: suite) (ts a)) :
    PS X (.Try body [.ExceptHandler (some (.Name x np)) (some n) (b₀ :: suite) pos'] [] [] pos) (fun D' σ H => tb (wAs X.K c i (fun a cls d => tWhen (cls = .ref D ∧ d = none) (ts a)) Wout D') D' σ H) :=
  ps_try_as hs hf hN hi hln hc tk hb fun a oe cls d pn hz hf => pss_when fun e => by
    obtain ⟨rfl, rfl⟩ := e
    exact hsu a oe pn hz hf
end
theorem excC_of {K : PySem.W.Frag} {D : Addr} (hg : PySem.W.findIn K (.ref D) "__getattribute__" = some (some (.builtin "BaseException.__getattribute__"))) (hk : PySem.W.findIn K (.ref D) "__getattr__" = some none) (hs : PySem.W.subIn K (.ref D) (.type "BaseException") = some true)
    (hd : PySem.W.hasDictIn K D = true) (ha : PySem.W.findIn K (.ref D) "__class__" = some (some (.builtin "object.__class__"))) (hn : PySem.W.specialIn K (.builtin "object.__class__") "__get__" = some (some (.builtin "getset_descriptor.__get__")))
    (ht : PySem.W.takesIn K (.builtin "object.__class__") = some true) (hm : PySem.W.mroIn K D (.type "object") = some true) : ExcC K D := ⟨hg, hk, hs, hd, ha, hn, ht, hm⟩
theorem binds_z {K : PySem.W.Frag} {fd : FuncData} {ps : List Str} (h : ∃ ds, Vals [] ds ∧ Binds K fd ps ds) : Binds K fd ps [] := by
  obtain ⟨ds, hv, hb⟩ := h
  cases hv
  exact hb
section
variable {X : Cx} {CX : CXT} {k : Nat} {f C : Addr} {fd : FuncData} {ps : List Str} {sp : Sp} {E : XK}
/-- the callee runs one unit deeper -/
theorem run_fnIn {pins : List (Addr × Obj)} {σ : L2.St} {H : Hp} {s : Shared} {Q : VK} {us : List Value} {vs : List V} (F : FnOk X.prog X.w X.K X.mg X.base CX k f fd ps sp) (hr : Room (k + 1) X.A) (hb : Binds X.K fd ps []) (hx : Passes CX X E)
    (I : Inv X pins σ H s) (r : Vals vs us) (h : sp vs H Q E) : wpAny (model X.prog X.w) X.A.in1 (call (.ref f) us) (EP X pins σ Q) X.xe s := by
  have hl : (us ++ []).length = ps.length := by rw [List.append_nil, ← r.length]; exact F.len _ _ _ _ h
  have b := hb s us I.kIn hl
  rw [List.append_nil] at b
  refine wpAny_call (codeAny_mono (F.run X.A.in1 X.stack s H ⟨us, []⟩ us vs Q E hr.in1 I.env0.in1 b r h) fun r s' hq => ?_)
  cases r with
  | error e => exact hx pins σ H s e s' I hq
  | ok fl =>
    cases fl with
    | ret u => exact I.after hq
    | next => exact False.elim hq
    | brk => exact False.elim hq
    | cont => exact False.elim hq
/-- abs(x), x of a class with an own __abs__ -/
theorem call_absOwn (F : FnOk X.prog X.w X.K X.mg X.base CX k f fd ps sp) (hr : Room (k + 1) X.A) (hb : Binds X.K fd ps []) (hx : Passes CX X E) (m : Meth X.K C "__abs__" f) :
    CallR X (.builtin "abs") (fun xs H Q => ∃ a dx fs, xs = [.ref a] ∧ H a = some (.ins C dx fs) ∧ sp [.ref a] H Q E) := by
  intro pins s σ H xs us Q I r h
  obtain ⟨a, dx, fs, rfl, ha, q⟩ := h
  obtain rfl := Vals.ref1 r
  obtain ⟨ox, od, J⟩ := inst_of I ha
  refine Calls.call_function_entry kind_abs plain_abs entry_abs (args_abs _) ?_
  unfold Builtin.«abs»
  refine wpAny_bind (m := oneArg "abs" _) (wpAny_pure ?_)
  refine wpAny_bind (m := callSpecial? (.ref a) (Str.ofString "__abs__")) (PySem.W.special_fn I.kIn J m.at_ (beq_iff_eq.mp m.fn) (wpAny_mono (run_fnIn (us := [.ref a]) (vs := [.ref a]) F hr hb hx I (.cons rfl .nil) q) (fun v s' hv => ?_) fun _ _ e => e))
  exact wpAny_pure ⟨_, rfl, hv⟩
end
end Tr
set_option Elab.async false
set_option linter.all false
set_option maxRecDepth 100000
set_option maxHeartbeats 4000000
/-! TrRatio: ratios in lowest terms, and Euclid's steps: plain mathematics. -/
namespace Tr
/-- the divisor, with the bottom's sign -/
def sd (t b : Int) : Int := if b < 0 then -((Int.gcd t b : Nat) : Int) else ((Int.gcd t b : Nat) : Int)
def nT (t b : Int) : Int := t.fdiv (sd t b)
def nB (t b : Int) : Int := b.fdiv (sd t b)
theorem gcd_pos {t b : Int} (h : b ≠ 0) : 0 < Int.gcd t b := Int.gcd_pos_of_ne_zero_right t h
theorem sd_ne {t b : Int} (h : b ≠ 0) : sd t b ≠ 0 := by
  have := gcd_pos (t := t) h
  unfold sd
  split <;> omega
theorem sd_abs (t b : Int) : (sd t b).natAbs = Int.gcd t b := by
  unfold sd
  split <;> omega
theorem sd_dt (t b : Int) : sd t b ∣ t := by
  rw [← Int.natAbs_dvd_natAbs, sd_abs]
  exact Nat.gcd_dvd_left _ _
theorem sd_db (t b : Int) : sd t b ∣ b := by
  rw [← Int.natAbs_dvd_natAbs, sd_abs]
  exact Nat.gcd_dvd_right _ _
theorem fdiv_ex {a d : Int} (h : d ∣ a) : a.fdiv d * d = a := by
  rw [Int.fdiv_eq_ediv_of_dvd h]
  exact Int.ediv_mul_cancel h
theorem nT_mul (t b : Int) : nT t b * sd t b = t := fdiv_ex (sd_dt t b)
theorem nB_mul (t b : Int) : nB t b * sd t b = b := fdiv_ex (sd_db t b)
theorem pos_left {a g : Int} (h : 0 < a * g) (hg : 0 < g) : 0 < a := by
  by_cases c : a ≤ 0
  · have := Int.mul_le_mul_of_nonneg_right c (Int.le_of_lt hg)
    omega
  · omega
theorem nB_pos {t b : Int} (h : b ≠ 0) : 1 ≤ nB t b := by
  have e := nB_mul t b
  have g := gcd_pos (t := t) h
  unfold sd at e
  split at e
  · rename_i hb
    have e2 : nB t b * ((Int.gcd t b : Nat) : Int) = -b := by rw [Int.mul_neg] at e; omega
    have : 0 < nB t b * ((Int.gcd t b : Nat) : Int) := by omega
    have := pos_left this (by omega)
    omega
  · have : 0 < nB t b * ((Int.gcd t b : Nat) : Int) := by omega
    have := pos_left this (by omega)
    omega
theorem val_eq {t b : Int} (h : b ≠ 0) : nT t b * b = t * nB t b := by
  have e1 := nT_mul t b
  have e2 := nB_mul t b
  have : nT t b * (nB t b * sd t b) = (nT t b * sd t b) * nB t b := by rw [Int.mul_comm (nB t b), Int.mul_assoc]
  rw [e1, e2] at this
  exact this
theorem nT_le {t b : Int} (h : b ≠ 0) : (nT t b).natAbs ≤ t.natAbs := by
  have e := congrArg Int.natAbs (nT_mul t b)
  rw [Int.natAbs_mul, sd_abs] at e
  rw [← e]
  exact Nat.le_mul_of_pos_right _ (gcd_pos h)
theorem nB_le {t b : Int} (h : b ≠ 0) : (nB t b).natAbs ≤ b.natAbs := by
  have e := congrArg Int.natAbs (nB_mul t b)
  rw [Int.natAbs_mul, sd_abs] at e
  rw [← e]
  exact Nat.le_mul_of_pos_right _ (gcd_pos h)
theorem n_cop {t b : Int} (h : b ≠ 0) : Nat.gcd (nT t b).natAbs (nB t b).natAbs = 1 := by
  have e1 := congrArg Int.natAbs (nT_mul t b)
  have e2 := congrArg Int.natAbs (nB_mul t b)
  rw [Int.natAbs_mul, sd_abs] at e1 e2
  have e3 : Nat.gcd ((nT t b).natAbs * Int.gcd t b) ((nB t b).natAbs * Int.gcd t b) = Int.gcd t b := by rw [e1, e2]; rfl
  rw [Nat.gcd_mul_right] at e3
  have g := gcd_pos (t := t) h
  exact Nat.eq_of_mul_eq_mul_right g (by rw [e3, Nat.one_mul])
/-- a ratio of the value T / B in lowest terms -/
structure LowT (t b T B : Int) : Prop where
  pos : 1 ≤ b
  cop : Nat.gcd t.natAbs b.natAbs = 1
  val : t * B = T * b
theorem low_n {t b T B : Int} (h : b ≠ 0) (e : t * B = T * b) : LowT (nT t b) (nB t b) T B := by
  refine ⟨nB_pos h, n_cop h, ?_⟩
  have e1 := nT_mul t b
  have e2 := nB_mul t b
  have hs := sd_ne (t := t) h
  apply Int.eq_of_mul_eq_mul_right hs
  rw [Int.mul_assoc, Int.mul_comm B, ← Int.mul_assoc, e1, Int.mul_assoc, e2, e]
theorem LowT.cast {t b N D N' D' : Int} (L : LowT t b N D) (hD : D ≠ 0) (e : N * D' = N' * D) : LowT t b N' D' := by
  refine ⟨L.pos, L.cop, ?_⟩
  apply Int.eq_of_mul_eq_mul_right hD
  have h := L.val
  calc t * D' * D = t * D * D' := by rw [Int.mul_assoc, Int.mul_comm D', ← Int.mul_assoc]
    _ = N * b * D' := by rw [h]
    _ = N * D' * b := by rw [Int.mul_assoc, Int.mul_comm b, ← Int.mul_assoc]
    _ = N' * D * b := by rw [e]
    _ = N' * b * D := by rw [Int.mul_assoc, Int.mul_comm D, ← Int.mul_assoc]
theorem LowT.le {t b N D : Int} (L : LowT t b N D) (hD : D ≠ 0) : t.natAbs ≤ N.natAbs ∧ b.natAbs ≤ D.natAbs := by
  have e := congrArg Int.natAbs L.val
  rw [Int.natAbs_mul, Int.natAbs_mul] at e
  have hd : 0 < D.natAbs := by omega
  have h1 : b.natAbs ∣ D.natAbs := by
    have : b.natAbs ∣ t.natAbs * D.natAbs := ⟨N.natAbs, by rw [e, Nat.mul_comm]⟩
    exact (show Nat.Coprime b.natAbs t.natAbs from by rw [Nat.coprime_comm]; exact L.cop).dvd_of_dvd_mul_left this
  have h2 := Nat.le_of_dvd hd h1
  refine ⟨?_, h2⟩
  have h3 : t.natAbs * D.natAbs ≤ N.natAbs * D.natAbs := by rw [e]; exact Nat.mul_le_mul_left _ h2
  exact Nat.le_of_mul_le_mul_right h3 hd
/-- sizes of a ratio's parts -/
structure B5 (t b : Int) : Prop where
  bt : t.natAbs < 2 ^ 500
  bb : b.natAbs < 2 ^ 500
  ps : 1 ≤ b
theorem B5.ne {t b : Int} (h : B5 t b) : b ≠ 0 := by have := h.ps; omega
theorem pr5 {a b : Int} (ha : a.natAbs < 2 ^ 500) (hb : b.natAbs < 2 ^ 500) : (a * b).natAbs < 2 ^ 1000 := by
  rw [Int.natAbs_mul, show (1000 : Nat) = 500 + 500 from rfl, Nat.pow_add]
  exact Nat.mul_lt_mul'' ha hb
theorem dbl {n : Nat} : (2 : Nat) ^ (n + 1) = 2 * 2 ^ n := by rw [Nat.pow_succ, Nat.mul_comm]
theorem sm5 {a b : Int} (ha : a.natAbs < 2 ^ 1000) (hb : b.natAbs < 2 ^ 1000) : (a + b).natAbs < 2 ^ 1001 := by
  rw [show (1001 : Nat) = 1000 + 1 from rfl, dbl]
  generalize (2 : Nat) ^ 1000 = z at *
  omega
theorem u10 {a : Int} (h : a.natAbs < 2 ^ 1000) : a.natAbs < 2 ^ 2000 := Nat.lt_trans h (Nat.pow_lt_pow_right (by decide) (by decide))
theorem u11 {a : Int} (h : a.natAbs < 2 ^ 1001) : a.natAbs < 2 ^ 2000 := Nat.lt_trans h (Nat.pow_lt_pow_right (by decide) (by decide))
theorem u50 {a : Int} (h : a.natAbs < 2 ^ 500) : a.natAbs < 2 ^ 2000 := Nat.lt_trans h (Nat.pow_lt_pow_right (by decide) (by decide))
/-! ### Euclid's steps -/
structure Euc (g i a b : Nat) : Prop where
  gc : Nat.gcd a b = g
  z : i = 0 → a < 2 ^ 2000 ∧ b < 2 ^ 2000
  s : ∀ j, i = j + 1 → b < a ∧ a * b * 2 ^ j < 2 ^ 4000
theorem Euc.start {a b : Nat} (ha : a < 2 ^ 2000) (hb : b < 2 ^ 2000) : Euc (Nat.gcd a b) 0 a b := ⟨rfl, fun _ => ⟨ha, hb⟩, fun j e => by omega⟩
theorem Euc.step {g i a b : Nat} (h : Euc g i a b) (hb : b ≠ 0) : Euc g (i + 1) b (a % b) := by
  have hr : a % b < b := Nat.mod_lt _ (by omega)
  refine ⟨?_, fun e => by omega, fun j e => ?_⟩
  · rw [← h.gc, Nat.gcd_comm a b, Nat.gcd_rec b a, Nat.gcd_comm]
  · have ej : j = i := by omega
    subst ej
    refine ⟨hr, ?_⟩
    cases j with
    | zero =>
      obtain ⟨_, h2⟩ := h.z rfl
      rw [Nat.pow_zero, Nat.mul_one]
      have e4 : (2 : Nat) ^ 4000 = 2 ^ 2000 * 2 ^ 2000 := by rw [← Nat.pow_add]
      rw [e4]
      exact Nat.mul_lt_mul'' h2 (Nat.lt_trans hr h2)
    | succ j =>
      obtain ⟨h1, h2⟩ := h.s j rfl
      have hd := Nat.div_add_mod a b
      have hq : 1 ≤ a / b := Nat.div_pos (Nat.le_of_lt h1) (by omega)
      have hq2 : b * 1 ≤ b * (a / b) := Nat.mul_le_mul_left b hq
      have h3 : 2 * (a % b) ≤ a := by omega
      refine Nat.lt_of_le_of_lt ?_ h2
      rw [Nat.pow_succ]
      have h4 : b * (2 * (a % b)) ≤ b * a := Nat.mul_le_mul_left b h3
      calc b * (a % b) * (2 ^ j * 2) = b * (2 * (a % b)) * 2 ^ j := by
            rw [Nat.mul_comm (2 ^ j) 2, ← Nat.mul_assoc, Nat.mul_assoc b, Nat.mul_comm (a % b) 2]
        _ ≤ b * a * 2 ^ j := Nat.mul_le_mul_right _ h4
        _ = a * b * 2 ^ j := by rw [Nat.mul_comm b a]
theorem Euc.fin {g a b : Nat} (h : Euc g 9000 a b) : b = 0 := by
  obtain ⟨h1, h2⟩ := h.s 8999 rfl
  cases b with
  | zero => rfl
  | succ b =>
    exfalso
    have h3 : 1 ≤ a * (b + 1) := Nat.mul_pos (by omega) (by omega)
    have h4 : 1 * 2 ^ 8999 ≤ a * (b + 1) * 2 ^ 8999 := Nat.mul_le_mul_right _ h3
    have h5 : (2 : Nat) ^ 4000 < 2 ^ 8999 := Nat.pow_lt_pow_right (by decide) (by decide)
    generalize (2 : Nat) ^ 8999 = u at *
    generalize (2 : Nat) ^ 4000 = v at *
    omega
theorem fmod_nat (a b : Nat) : ((a : Nat) : Int).fmod (b : Int) = ((a % b : Nat) : Int) := by
  rw [Int.fmod_eq_emod_of_nonneg _ (by omega)]
  rfl
theorem abs_nat (a : Int) : (if a < 0 then -a else a) = ((a.natAbs : Nat) : Int) := by split <;> omega
end Tr
set_option Elab.async false
set_option linter.all false
set_option maxRecDepth 100000
set_option maxHeartbeats 4000000
namespace K02
open PySem L2 Tr
/-! the text by places -/
def top (i : Nat) : Stmt := PySem.Challenge.pw_toldridges_k02_ratio_arithmetic.main.body.getD i (.Pass ⟨0, 0, 0, 0⟩)
abbrev s_Ratio_init : Stmt := inClass (top 7) 0
abbrev s_as_ratio : Stmt := top 6
abbrev s_Ratio_add : Stmt := inClass (top 7) 1
abbrev s_Ratio_radd : Stmt := inClass (top 7) 2
abbrev s_Ratio_neg : Stmt := inClass (top 7) 8
abbrev s_Ratio_sub : Stmt := inClass (top 7) 3
abbrev s_Ratio_rsub : Stmt := inClass (top 7) 4
abbrev s_Ratio_mul : Stmt := inClass (top 7) 5
abbrev s_Ratio_rmul : Stmt := inClass (top 7) 6
abbrev s_Ratio_abs : Stmt := inClass (top 7) 9
abbrev s_Ratio_over : Stmt := inClass (top 7) 13
abbrev s_law_pool : Stmt := top 9
abbrev s_law_take : Stmt := top 10
abbrev s_law_whole : Stmt := top 11
abbrev s_law_number : Stmt := top 12
abbrev s_law_bottom : Stmt := top 13
abbrev s_law_gcd : Stmt := top 14
abbrev s_law_is_ratio : Stmt := top 15
abbrev s_law_refuses : Stmt := top 16
abbrev s_law : Stmt := top 17
/-- the addresses -/
structure Ad where
  f_Ratio_init : Addr
  d_Ratio_init : FuncData
  f_as_ratio : Addr
  d_as_ratio : FuncData
  f_Ratio_add : Addr
  d_Ratio_add : FuncData
  f_Ratio_radd : Addr
  d_Ratio_radd : FuncData
  f_Ratio_neg : Addr
  d_Ratio_neg : FuncData
  f_Ratio_sub : Addr
  d_Ratio_sub : FuncData
  f_Ratio_rsub : Addr
  d_Ratio_rsub : FuncData
  f_Ratio_mul : Addr
  d_Ratio_mul : FuncData
  f_Ratio_rmul : Addr
  d_Ratio_rmul : FuncData
  f_Ratio_abs : Addr
  d_Ratio_abs : FuncData
  f_Ratio_over : Addr
  d_Ratio_over : FuncData
  f_law_pool : Addr
  d_law_pool : FuncData
  f_law_take : Addr
  d_law_take : FuncData
  f_law_whole : Addr
  d_law_whole : FuncData
  f_law_number : Addr
  d_law_number : FuncData
  f_law_bottom : Addr
  d_law_bottom : FuncData
  f_law_gcd : Addr
  d_law_gcd : FuncData
  f_law_is_ratio : Addr
  d_law_is_ratio : FuncData
  f_law_refuses : Addr
  d_law_refuses : FuncData
  f_law : Addr
  d_law : FuncData
  c_Ratio : Addr
  c_ZeroBottom : Addr
structure Txt (K : PySem.W.Frag) (mg : Str → Option Value) (ad : Ad) : Prop where
  F_Ratio_init : FunD K "__init__" "Ratio.__init__" (defArgs s_Ratio_init) (defBody s_Ratio_init) (defScope s_Ratio_init) [.int 1] [] ad.f_Ratio_init ad.d_Ratio_init
  B1_Ratio_init : ∃ ds, Vals [.int 1] ds ∧ Binds K ad.d_Ratio_init ["self", "top", "bottom"] ds
  B_Ratio_init : Binds K ad.d_Ratio_init ["self", "top", "bottom"] []
  m_Ratio_init : Meth K ad.c_Ratio "__init__" ad.f_Ratio_init
  F_as_ratio : Fun K "as_ratio" "as_ratio" s_as_ratio ad.f_as_ratio ad.d_as_ratio
  B_as_ratio : Binds K ad.d_as_ratio ["value"] []
  g_as_ratio : mg "as_ratio" = some (.ref ad.f_as_ratio)
  F_Ratio_add : Fun K "__add__" "Ratio.__add__" s_Ratio_add ad.f_Ratio_add ad.d_Ratio_add
  B_Ratio_add : Binds K ad.d_Ratio_add ["self", "other"] []
  m_Ratio_add : Meth K ad.c_Ratio "__add__" ad.f_Ratio_add
  F_Ratio_radd : Fun K "__radd__" "Ratio.__radd__" s_Ratio_radd ad.f_Ratio_radd ad.d_Ratio_radd
  B_Ratio_radd : Binds K ad.d_Ratio_radd ["self", "other"] []
  m_Ratio_radd : Meth K ad.c_Ratio "__radd__" ad.f_Ratio_radd
  F_Ratio_neg : Fun K "__neg__" "Ratio.__neg__" s_Ratio_neg ad.f_Ratio_neg ad.d_Ratio_neg
  B_Ratio_neg : Binds K ad.d_Ratio_neg ["self"] []
  m_Ratio_neg : Meth K ad.c_Ratio "__neg__" ad.f_Ratio_neg
  F_Ratio_sub : Fun K "__sub__" "Ratio.__sub__" s_Ratio_sub ad.f_Ratio_sub ad.d_Ratio_sub
  B_Ratio_sub : Binds K ad.d_Ratio_sub ["self", "other"] []
  m_Ratio_sub : Meth K ad.c_Ratio "__sub__" ad.f_Ratio_sub
  F_Ratio_rsub : Fun K "__rsub__" "Ratio.__rsub__" s_Ratio_rsub ad.f_Ratio_rsub ad.d_Ratio_rsub
  B_Ratio_rsub : Binds K ad.d_Ratio_rsub ["self", "other"] []
  m_Ratio_rsub : Meth K ad.c_Ratio "__rsub__" ad.f_Ratio_rsub
  F_Ratio_mul : Fun K "__mul__" "Ratio.__mul__" s_Ratio_mul ad.f_Ratio_mul ad.d_Ratio_mul
  B_Ratio_mul : Binds K ad.d_Ratio_mul ["self", "other"] []
  m_Ratio_mul : Meth K ad.c_Ratio "__mul__" ad.f_Ratio_mul
  F_Ratio_rmul : Fun K "__rmul__" "Ratio.__rmul__" s_Ratio_rmul ad.f_Ratio_rmul ad.d_Ratio_rmul
  B_Ratio_rmul : Binds K ad.d_Ratio_rmul ["self", "other"] []
  m_Ratio_rmul : Meth K ad.c_Ratio "__rmul__" ad.f_Ratio_rmul
  F_Ratio_abs : Fun K "__abs__" "Ratio.__abs__" s_Ratio_abs ad.f_Ratio_abs ad.d_Ratio_abs
  B_Ratio_abs : Binds K ad.d_Ratio_abs ["self"] []
  m_Ratio_abs : Meth K ad.c_Ratio "__abs__" ad.f_Ratio_abs
  F_Ratio_over : Fun K "over" "Ratio.over" s_Ratio_over ad.f_Ratio_over ad.d_Ratio_over
  B_Ratio_over : Binds K ad.d_Ratio_over ["self", "other"] []
  m_Ratio_over : Meth K ad.c_Ratio "over" ad.f_Ratio_over
  F_law_pool : Fun K "_law_pool" "_law_pool" s_law_pool ad.f_law_pool ad.d_law_pool
  B_law_pool : Binds K ad.d_law_pool ["_law_script"] []
  g_law_pool : mg "_law_pool" = some (.ref ad.f_law_pool)
  F_law_take : Fun K "_law_take" "_law_take" s_law_take ad.f_law_take ad.d_law_take
  B_law_take : Binds K ad.d_law_take ["_law_pool_here", "_law_many"] []
  g_law_take : mg "_law_take" = some (.ref ad.f_law_take)
  F_law_whole : Fun K "_law_whole" "_law_whole" s_law_whole ad.f_law_whole ad.d_law_whole
  B_law_whole : Binds K ad.d_law_whole ["_law_x"] []
  g_law_whole : mg "_law_whole" = some (.ref ad.f_law_whole)
  F_law_number : Fun K "_law_number" "_law_number" s_law_number ad.f_law_number ad.d_law_number
  B_law_number : Binds K ad.d_law_number ["_law_pool_here"] []
  g_law_number : mg "_law_number" = some (.ref ad.f_law_number)
  F_law_bottom : Fun K "_law_bottom" "_law_bottom" s_law_bottom ad.f_law_bottom ad.d_law_bottom
  B_law_bottom : Binds K ad.d_law_bottom ["_law_pool_here"] []
  g_law_bottom : mg "_law_bottom" = some (.ref ad.f_law_bottom)
  F_law_gcd : Fun K "_law_gcd" "_law_gcd" s_law_gcd ad.f_law_gcd ad.d_law_gcd
  B_law_gcd : Binds K ad.d_law_gcd ["_law_a", "_law_b"] []
  g_law_gcd : mg "_law_gcd" = some (.ref ad.f_law_gcd)
  F_law_is_ratio : Fun K "_law_is_ratio" "_law_is_ratio" s_law_is_ratio ad.f_law_is_ratio ad.d_law_is_ratio
  B_law_is_ratio : Binds K ad.d_law_is_ratio ["_law_ratio", "_law_top", "_law_bottom_here"] []
  g_law_is_ratio : mg "_law_is_ratio" = some (.ref ad.f_law_is_ratio)
  F_law_refuses : Fun K "_law_refuses" "_law_refuses" s_law_refuses ad.f_law_refuses ad.d_law_refuses
  B_law_refuses : Binds K ad.d_law_refuses ["_law_a", "_law_b"] []
  g_law_refuses : mg "_law_refuses" = some (.ref ad.f_law_refuses)
  F_law : Fun K "law" "law" s_law ad.f_law ad.d_law
  B_law : Binds K ad.d_law ["_law_script"] []
  g_law : mg "law" = some (.ref ad.f_law)
  cl_Ratio : Cls K ad.c_Ratio
  g_Ratio : mg "Ratio" = some (.ref ad.c_Ratio)
  mk_Ratio : Mk K ad.c_Ratio ad.f_Ratio_init
  na_Ratio_top : NoAttr K ad.c_Ratio "top"
  na_Ratio_bottom : NoAttr K ad.c_Ratio "bottom"
  sf_Ratio : PySem.W.selfFirst K ad.c_Ratio = true
  nf_Ratio : PySem.W.notFirst K ad.c_Ratio (.ref ad.c_Ratio) = true
  nfi_Ratio : PySem.W.notFirst K ad.c_Ratio (.type "int") = true
  ia_Ratio : PySem.W.findIn K (.ref ad.c_Ratio) "__class__" = some (some (.builtin "object.__class__"))
  im_Ratio : PySem.W.mroIn K ad.c_Ratio (.type "object") = some true
  ik_Ratio : PySem.W.kitOne K (.ref ad.c_Ratio) (.ref ad.c_Ratio) = some true
  g_ZeroBottom : mg "ZeroBottom" = some (.ref ad.c_ZeroBottom)
  x_ZeroBottom : PySem.W.excIn K ad.c_ZeroBottom [.type "ValueError", .type "Exception", .type "BaseException", .type "object"] "ValueError.__new__" = true
  kp_ZeroBottom : PySem.W.keepIn K (.ref ad.c_ZeroBottom) = true
  bs_ZeroBottom : PySem.W.subIn K (.ref ad.c_ZeroBottom) (.type "BaseException") = some true
  ty_ZeroBottom : PySem.W.typeIn K (.ref ad.c_ZeroBottom) = some (.type "type")
  ss_ZeroBottom : PySem.W.subIn K (.ref ad.c_ZeroBottom) (.ref ad.c_ZeroBottom) = some true
  ec_ZeroBottom : ExcC K ad.c_ZeroBottom
  kt_int_Ratio : PySem.W.kitOne K (.type "int") (.ref ad.c_Ratio) = some false
  ign : PySem.W.specialIn K (.builtin "object.__class__") "__get__" = some (some (.builtin "getset_descriptor.__get__"))
  igt : PySem.W.takesIn K (.builtin "object.__class__") = some true
  or_Ratio_add : OwnR K ad.c_Ratio "add"
  or_Ratio_sub : OwnR K ad.c_Ratio "sub"
  or_Ratio_mul : OwnR K ad.c_Ratio "mul"
  ow_Ratio_add : OwnT K ad.c_Ratio "add"
  ow_Ratio_sub : OwnT K ad.c_Ratio "sub"
  ow_Ratio_mul : OwnT K ad.c_Ratio "mul"
  z_isinstance : mg "isinstance" = none
  z_abs : mg "abs" = none
  z_range : mg "range" = none
  z_int : mg "int" = none
  z_bool : mg "bool" = none
  z_gcd : mg "gcd" = some (.builtin "math.gcd")
theorem sc_Ratio_init : FnScope ["self", "top", "bottom", "divisor"] ["self", "top", "bottom"] (defScope s_Ratio_init) := ⟨rfl, rfl, rfl, by decide +kernel, rfl, by decide +kernel, by decide +kernel⟩
theorem sc_as_ratio : FnScope ["value"] ["value"] (defScope s_as_ratio) := ⟨rfl, rfl, rfl, by decide +kernel, rfl, by decide +kernel, by decide +kernel⟩
theorem sc_Ratio_add : FnScope ["self", "other"] ["self", "other"] (defScope s_Ratio_add) := ⟨rfl, rfl, rfl, by decide +kernel, rfl, by decide +kernel, by decide +kernel⟩
theorem sc_Ratio_radd : FnScope ["self", "other"] ["self", "other"] (defScope s_Ratio_radd) := ⟨rfl, rfl, rfl, by decide +kernel, rfl, by decide +kernel, by decide +kernel⟩
theorem sc_Ratio_neg : FnScope ["self"] ["self"] (defScope s_Ratio_neg) := ⟨rfl, rfl, rfl, by decide +kernel, rfl, by decide +kernel, by decide +kernel⟩
theorem sc_Ratio_sub : FnScope ["self", "other"] ["self", "other"] (defScope s_Ratio_sub) := ⟨rfl, rfl, rfl, by decide +kernel, rfl, by decide +kernel, by decide +kernel⟩
theorem sc_Ratio_rsub : FnScope ["self", "other"] ["self", "other"] (defScope s_Ratio_rsub) := ⟨rfl, rfl, rfl, by decide +kernel, rfl, by decide +kernel, by decide +kernel⟩
theorem sc_Ratio_mul : FnScope ["self", "other"] ["self", "other"] (defScope s_Ratio_mul) := ⟨rfl, rfl, rfl, by decide +kernel, rfl, by decide +kernel, by decide +kernel⟩
theorem sc_Ratio_rmul : FnScope ["self", "other"] ["self", "other"] (defScope s_Ratio_rmul) := ⟨rfl, rfl, rfl, by decide +kernel, rfl, by decide +kernel, by decide +kernel⟩
theorem sc_Ratio_abs : FnScope ["self"] ["self"] (defScope s_Ratio_abs) := ⟨rfl, rfl, rfl, by decide +kernel, rfl, by decide +kernel, by decide +kernel⟩
theorem sc_Ratio_over : FnScope ["self", "other"] ["self", "other"] (defScope s_Ratio_over) := ⟨rfl, rfl, rfl, by decide +kernel, rfl, by decide +kernel, by decide +kernel⟩
theorem sc_law_pool : FnScope ["_law_script", "_law_pool_here", "_law_cell", "_law_rest", "_law_k", "_law_mixed"] ["_law_script"] (defScope s_law_pool) := ⟨rfl, rfl, rfl, by decide +kernel, rfl, by decide +kernel, by decide +kernel⟩
theorem sc_law_take : FnScope ["_law_pool_here", "_law_many"] ["_law_pool_here", "_law_many"] (defScope s_law_take) := ⟨rfl, rfl, rfl, by decide +kernel, rfl, by decide +kernel, by decide +kernel⟩
theorem sc_law_whole : FnScope ["_law_x"] ["_law_x"] (defScope s_law_whole) := ⟨rfl, rfl, rfl, by decide +kernel, rfl, by decide +kernel, by decide +kernel⟩
theorem sc_law_number : FnScope ["_law_pool_here", "_law_kind", "_law_number_here", "_law_k"] ["_law_pool_here"] (defScope s_law_number) := ⟨rfl, rfl, rfl, by decide +kernel, rfl, by decide +kernel, by decide +kernel⟩
theorem sc_law_bottom : FnScope ["_law_pool_here", "_law_number_here"] ["_law_pool_here"] (defScope s_law_bottom) := ⟨rfl, rfl, rfl, by decide +kernel, rfl, by decide +kernel, by decide +kernel⟩
theorem sc_law_gcd : FnScope ["_law_a", "_law_b", "_law_k", "_law_c"] ["_law_a", "_law_b"] (defScope s_law_gcd) := ⟨rfl, rfl, rfl, by decide +kernel, rfl, by decide +kernel, by decide +kernel⟩
theorem sc_law_is_ratio : FnScope ["_law_ratio", "_law_top", "_law_bottom_here"] ["_law_ratio", "_law_top", "_law_bottom_here"] (defScope s_law_is_ratio) := ⟨rfl, rfl, rfl, by decide +kernel, rfl, by decide +kernel, by decide +kernel⟩
theorem sc_law_refuses : FnScope ["_law_a", "_law_b"] ["_law_a", "_law_b"] (defScope s_law_refuses) := ⟨rfl, rfl, rfl, by decide +kernel, rfl, by decide +kernel, by decide +kernel⟩
theorem sc_law : FnScope ["_law_script", "_law_pool_here", "_law_p", "_law_q", "_law_r", "_law_s", "_law_k", "_law_a", "_law_b", "_law_good"] ["_law_script"] (defScope s_law) := ⟨rfl, rfl, rfl, by decide +kernel, rfl, by decide +kernel, by decide +kernel⟩
theorem ktb : ¬ (("top" : Str) = "bottom") := by decide +kernel
theorem kbt : (("bottom" : Str) == "top") = false := by decide +kernel
def rF (t b : Int) : List (Str × V) := [("top", V.int t), ("bottom", V.int b)]
theorem RatioF_top {t b : Int} : (rF t b).lookup ("top" : Str) = some (.int t) := lookup1
theorem RatioF_bottom {t b : Int} : (rF t b).lookup ("bottom" : Str) = some (.int b) := lookup2 kbt
abbrev ratio (ad : Ad) (dx : Addr) (t b : Int) : HO := .ins ad.c_Ratio dx (rF t b)
def sp_Ratio_init (K : PySem.W.Frag) (ad : Ad) : Sp := fun vs H Q E => ∃ p dx t b, vs = [.ref p, .int t, .int b] ∧ H p = some (.ins ad.c_Ratio dx []) ∧ t.natAbs < 2 ^ 2000 ∧ b.natAbs < 2 ^ 2000 ∧
  (b = 0 → E (.ref ad.c_ZeroBottom) none H) ∧ (b ≠ 0 → Q .non (upd H p (ratio ad dx (nT t b) (nB t b))))
theorem sd_div {t b : Int} (h : b ≠ 0) (hb : b.natAbs < 2 ^ 2000) (x : Int) : CDivS x (sd t b) := by
  refine wide_divS (b := 2000) (sd_ne h) ?_ (by decide) (by decide)
  rw [sd_abs]
  exact Nat.lt_of_le_of_lt (Nat.gcd_le_right _ (by omega)) hb
theorem st_Ratio_init (a0 a1 a2 : V) : start ["self", "top", "bottom", "divisor"] [a0, a1, a2] = [some a0, some a1, some a2, none] := rfl
section
variable {P : Program} {w : World} {K : PySem.W.Frag} {mg : Str → Option Value} {base : Heap} {ad : Ad}
theorem ok_Ratio_init (T : Txt K mg ad) : FnOk P w K mg base (L2.CX P w) 1 ad.f_Ratio_init ad.d_Ratio_init ["self", "top", "bottom"] (sp_Ratio_init K ad) := by
  refine T.F_Ratio_init.ok (CX := L2.CX P w) sc_Ratio_init (fun vs H Q E h => by obtain ⟨p, dx, t, b, rfl, _⟩ := h; rfl) (fun cdv A outer s H vs Q E hr h => ?_)
  have hu := hu_of hr
  obtain ⟨p, dx, t, b, rfl, hp, ht, hb, k0, k1⟩ := h
  refine ⟨_, (pss_cons (ps_if (pt_cmpR op_eq (pv 2) pe_int (nomark _)) (pss_one (ps_raise rfl (takes_of rfl rfl rfl rfl) (pmk_own0 PySem.F.excBase_ValueError T.x_ZeroBottom T.g_ZeroBottom T.kp_ZeroBottom (raises_own T.bs_ZeroBottom T.ty_ZeroBottom) (by rfl)))) pss_nil)
      (pss_cons (ps_set (i := 3) sc_Ratio_init.nd rfl (by first | exact Or.inl rfl | exact Or.inr rfl) (pe_callBfun cr_gcd (by rfl) T.z_gcd (pa_cons (pv 1) (pa_cons (pv 2) pa_nil))))
      (pss_cons (ps_if (pt_cmpR op_lt (pv 2) pe_int (nomark _)) (pss_one (ps_set (i := 3) sc_Ratio_init.nd rfl (by first | exact Or.inl rfl | exact Or.inr rfl) (pe_un un_neg (pv 3)))) pss_nil)
      (pss_cons (ps_fld (pv 0) (pe_op op_fdivS (pv 1) (pv 3)) rfl)
      (pss_one (ps_fld (pv 0) (pe_op op_fdivS (pv 2) (pv 3)) rfl)))))), ?_⟩
  try simp only [cxK, cxK2]
  rw [st_Ratio_init]
  refine ⟨_, rfl, rfl, _, rfl, ite2 (fun e => ?_) (fun e => ?_)⟩
  · have e0 : b = 0 := by
      have := of_decide_eq_true e
      injection this
    exact k0 e0
  · have e0 : b ≠ 0 := fun z => e (by subst z; rfl)
    have k := k1 e0
    refine ⟨_, rfl, _, rfl, t, b, rfl, ?_⟩
    refine gs3 ?_
    have fin : ∀ d, d = sd t b → (Q .non (upd H p (ratio ad dx (t.fdiv d) (b.fdiv d)))) := fun d ed => by subst ed; exact k
    refine ⟨_, rfl, _, _, rfl, rfl, _, rfl, ite2 (fun f => ?_) (fun f => ?_)⟩
    · have f0 : b < 0 := of_decide_eq_true f
      have ed : -((Nat.gcd t.natAbs b.natAbs : Nat) : Int) = sd t b := by unfold sd; rw [if_pos f0]; rfl
      refine ⟨_, rfl, _, rfl, ?_⟩
      refine gs3 ?_
      try dsimp only
      rw [ed]
      refine ⟨_, rfl, _, rfl, _, _, rfl, rfl, sd_div e0 hb _, _, rfl, p, ad.c_Ratio, dx, [], rfl, hp, T.cl_Ratio, T.na_Ratio_top, (by show 0 < 1000; decide), ?_⟩
      refine ⟨_, rfl, _, rfl, _, _, rfl, rfl, sd_div e0 hb _, _, rfl, p, ad.c_Ratio, dx, _, rfl, upd_same, T.cl_Ratio, T.na_Ratio_bottom, (by show 1 < 1000; decide), ?_⟩
      rw [upd_upd, putF2 ktb]
      exact k
    · have f0 : ¬ b < 0 := fun z => f (decide_eq_true z)
      have ed : ((Nat.gcd t.natAbs b.natAbs : Nat) : Int) = sd t b := by unfold sd; rw [if_neg f0]; rfl
      try dsimp only
      rw [ed]
      refine ⟨_, rfl, _, rfl, _, _, rfl, rfl, sd_div e0 hb _, _, rfl, p, ad.c_Ratio, dx, [], rfl, hp, T.cl_Ratio, T.na_Ratio_top, (by show 0 < 1000; decide), ?_⟩
      refine ⟨_, rfl, _, rfl, _, _, rfl, rfl, sd_div e0 hb _, _, rfl, p, ad.c_Ratio, dx, _, rfl, upd_same, T.cl_Ratio, T.na_Ratio_bottom, (by show 1 < 1000; decide), ?_⟩
      rw [upd_upd, putF2 ktb]
      exact k
end
theorem ty_ratio {P : Program} {w : World} {K : PySem.W.Frag} {mg : Str → Option Value} {ad : Ad} (T : Txt K mg ad) {H : Hp} {p dx : Addr} {fs : List (Str × V)} (h : H p = some (.ins ad.c_Ratio dx fs)) : TyX K H (.ref p) (.ref ad.c_Ratio) :=
  .base (.ins h T.cl_Ratio T.ia_Ratio T.ign T.igt T.im_Ratio)
theorem sd1 (t : Int) : sd t 1 = 1 := by
  unfold sd
  rw [if_neg (by decide), show Int.gcd t 1 = 1 from Nat.gcd_one_right _]
  rfl
theorem nT1 (t : Int) : nT t 1 = t := by
  have e := nT_mul t 1
  rw [sd1, Int.mul_one] at e
  exact e
theorem nB1 (t : Int) : nB t 1 = 1 := by
  have e := nB_mul t 1
  rw [sd1, Int.mul_one] at e
  exact e
theorem one2 : (1 : Int).natAbs < 2 ^ 2000 := Nat.lt_of_lt_of_le (show (1 : Int).natAbs < 2 ^ 1 by decide) (Nat.pow_le_pow_right (by decide) (by decide))
/-- a ratio, or a whole number, of the value t / b -/
def RV (ad : Ad) (H : Hp) (v : V) (t b : Int) : Prop := (∃ p dx, v = .ref p ∧ H p = some (ratio ad dx t b)) ∨ (v = .int t ∧ b = 1)
def sp_as_ratio (K : PySem.W.Frag) (ad : Ad) : Sp := fun vs H Q _ => ∃ v t b, vs = [v] ∧ RV ad H v t b ∧ t.natAbs < 2 ^ 500 ∧ ∀ r dr H', Sub H H' → H' r = some (ratio ad dr t b) → Q (.ref r) H'
theorem st_as_ratio (a0 : V) : start ["value"] [a0] = [some a0] := rfl
section
variable {P : Program} {w : World} {K : PySem.W.Frag} {mg : Str → Option Value} {base : Heap} {ad : Ad}
theorem ok_as_ratio (T : Txt K mg ad) : FnOk P w K mg base CX0 3 ad.f_as_ratio ad.d_as_ratio ["value"] (sp_as_ratio K ad) := by
  refine T.F_as_ratio.ok sc_as_ratio (fun vs H Q E h => by obtain ⟨v, t, b, rfl, _⟩ := h; rfl) (fun cdv A outer s H vs Q E hr h => ?_)
  obtain ⟨ds1_Ratio_init, hd1_Ratio_init, B1_Ratio_init⟩ := T.B1_Ratio_init
  have hu := hu_of hr
  obtain ⟨v, t, b, rfl, hv, ht, k⟩ := h
  refine ⟨_, (pss_cons (ps_if (pt_val (pe_callB call_isi (by rfl) T.z_isinstance (by decide +kernel) (pa_cons (pv 0) (pa_cons (pe_glob (v := .ref ad.c_Ratio) (by rfl) T.g_Ratio rfl) pa_nil)))) (pss_one (ps_ret (pv 0))) pss_nil)
      (pss_one (ps_ret (pe_make T.mk_Ratio (ok_Ratio_init (P := P) (w := w) (K := K) (mg := mg) (base := base) T) (hr.mono (by decide)) (by rfl) T.g_Ratio B1_Ratio_init hd1_Ratio_init passL (pa_cons (pv 0) pa_nil))))), ?_⟩
  try simp only [cxK, cxK2]
  rw [st_as_ratio]
  rcases hv with ⟨p, dx, rfl, hp⟩ | ⟨rfl, rfl⟩
  · refine ⟨_, rfl, .ref p, .ref ad.c_Ratio, _, _, true, rfl, .own _, ty_ratio (P := P) (w := w) T hp, T.ik_Ratio, true, rfl, iteT ?_⟩
    exact ⟨_, rfl, k p dx H (Sub.refl H) hp⟩
  · refine ⟨_, rfl, .int t, .ref ad.c_Ratio, _, _, false, rfl, .own _, .base (.int t), T.kt_int_Ratio, false, rfl, iteF ?_⟩
    refine ⟨_, rfl, fun r dr nr ndr ne => ⟨r, dr, t, 1, rfl, upd_same, u50 ht, one2, fun z => absurd z (by decide), fun _ => ⟨rfl, ?_⟩⟩⟩
    rw [nT1, nB1]
    exact k r dr _ (made nr ndr) upd_same
end
def sp_Ratio_add (K : PySem.W.Frag) (ad : Ad) : Sp := fun vs H Q _ => ∃ (p dx : Addr) (t b : Int) (v : V) (t2 b2 : Int), vs = [.ref p, v] ∧ H p = some (ratio ad dx t b) ∧ RV ad H v t2 b2 ∧ B5 t b ∧ B5 t2 b2 ∧
  ∀ r dr H' t' b', Sub H H' → H' r = some (ratio ad dr t' b') → LowT t' b' (t * b2 + t2 * b) (b * b2) → Q (.ref r) H'
theorem m5 {a b : Int} (ha : a.natAbs < 2 ^ 500) (hb : b.natAbs < 2 ^ 500) : CMulW a b := wide_mul (a := 500) (b := 500) ha hb (by decide) (by decide) (by decide)
theorem st_Ratio_add (a0 a1 : V) : start ["self", "other"] [a0, a1] = [some a0, some a1] := rfl
section
variable {P : Program} {w : World} {K : PySem.W.Frag} {mg : Str → Option Value} {base : Heap} {ad : Ad}
theorem ok_Ratio_add (T : Txt K mg ad) : FnOk P w K mg base CX0 4 ad.f_Ratio_add ad.d_Ratio_add ["self", "other"] (sp_Ratio_add K ad) := by
  refine T.F_Ratio_add.ok sc_Ratio_add (fun vs H Q E h => by obtain ⟨p, dx, t, b, v, t2, b2, rfl, _⟩ := h; rfl) (fun cdv A outer s H vs Q E hr h => ?_)
  have hu := hu_of hr
  obtain ⟨p, dx, t, b, v, t2, b2, rfl, hp, hv, bA, bB, k⟩ := h
  refine ⟨_, (pss_cons (ps_set (i := 1) sc_Ratio_add.nd rfl (by first | exact Or.inl rfl | exact Or.inr rfl) (pe_call (ok_as_ratio (P := P) (w := w) (K := K) (mg := mg) (base := base) T) (hr.mono (by decide)) (by rfl) T.g_as_ratio T.F_as_ratio.kp T.B_as_ratio .nil pass0 (pa_cons (pv 1) pa_nil)))
      (pss_one (ps_ret (pe_make T.mk_Ratio (ok_Ratio_init (P := P) (w := w) (K := K) (mg := mg) (base := base) T) (hr.mono (by decide)) (by rfl) T.g_Ratio T.B_Ratio_init .nil passL (pa_cons (pe_op op_add (pe_op op_mulW (pe_fld (pv 0) rfl) (pe_fld (pv 1) rfl)) (pe_op op_mulW (pe_fld (pv 1) rfl) (pe_fld (pv 0) rfl))) (pa_cons (pe_op op_mulW (pe_fld (pv 0) rfl) (pe_fld (pv 1) rfl)) pa_nil)))))), ?_⟩
  try simp only [cxK, cxK2]
  rw [st_Ratio_add]
  refine ⟨_, rfl, v, t2, b2, rfl, hv, bB.bt, fun q dq H1 s1 hq => ?_⟩
  refine gs1 ?_
  have hp1 := s1 _ _ hp
  have hne : b * b2 ≠ 0 := fun z => (Int.mul_eq_zero.mp z).elim bA.ne bB.ne
  refine ⟨_, rfl, p, _, _, _, _, rfl, hp1, T.cl_Ratio, T.na_Ratio_top, RatioF_top, _, rfl, q, _, _, _, _, rfl, hq, T.cl_Ratio, T.na_Ratio_bottom, RatioF_bottom, _, _, rfl, rfl, m5 bA.bt bB.bb, _, rfl, q, _, _, _, _, rfl, hq, T.cl_Ratio, T.na_Ratio_top, RatioF_top, _, rfl, p, _, _, _, _, rfl, hp1, T.cl_Ratio, T.na_Ratio_bottom, RatioF_bottom, _, _, rfl, rfl, m5 bB.bt bA.bb, _, _, rfl, rfl, ?_⟩
  refine ⟨_, rfl, p, _, _, _, _, rfl, hp1, T.cl_Ratio, T.na_Ratio_bottom, RatioF_bottom, _, rfl, q, _, _, _, _, rfl, hq, T.cl_Ratio, T.na_Ratio_bottom, RatioF_bottom, _, _, rfl, rfl, m5 bA.bb bB.bb, ?_⟩
  intro r dr nr ndr ne
  refine ⟨r, dr, _, _, rfl, upd_same, u11 (sm5 (pr5 bA.bt bB.bb) (pr5 bB.bt bA.bb)), u10 (pr5 bA.bb bB.bb), fun z => absurd z hne, fun _ => ⟨rfl, ?_⟩⟩
  exact k r dr _ _ _ (s1.trans (made nr ndr)) upd_same (low_n hne rfl)
end
theorem b51 {j : Int} (h : j.natAbs < 2 ^ 500) : B5 j 1 := ⟨h, Nat.lt_of_lt_of_le (show (1 : Int).natAbs < 2 ^ 1 by decide) (Nat.pow_le_pow_right (by decide) (by decide)), by decide⟩
def sp_Ratio_radd (K : PySem.W.Frag) (ad : Ad) : Sp := fun vs H Q _ => ∃ (p dx : Addr) (t b j : Int), vs = [.ref p, .int j] ∧ H p = some (ratio ad dx t b) ∧ B5 t b ∧ j.natAbs < 2 ^ 500 ∧
  ∀ r dr H' t' b', Sub H H' → H' r = some (ratio ad dr t' b') → LowT t' b' (t * 1 + j * b) (b * 1) → Q (.ref r) H'
theorem st_Ratio_radd (a0 a1 : V) : start ["self", "other"] [a0, a1] = [some a0, some a1] := rfl
section
variable {P : Program} {w : World} {K : PySem.W.Frag} {mg : Str → Option Value} {base : Heap} {ad : Ad}
theorem ok_Ratio_radd (T : Txt K mg ad) : FnOk P w K mg base CX0 5 ad.f_Ratio_radd ad.d_Ratio_radd ["self", "other"] (sp_Ratio_radd K ad) := by
  refine T.F_Ratio_radd.ok sc_Ratio_radd (fun vs H Q E h => by obtain ⟨p, dx, t, b, j, rfl, _⟩ := h; rfl) (fun cdv A outer s H vs Q E hr h => ?_)
  have hu := hu_of hr
  obtain ⟨p, dx, t, b, j, rfl, hp, bA, hj, k⟩ := h
  refine ⟨_, (pss_one (ps_ret (pe_op (op_ownI (ok_Ratio_add (P := P) (w := w) (K := K) (mg := mg) (base := base) T) (hr.mono (by decide)) T.B_Ratio_add pass0 T.ow_Ratio_add T.m_Ratio_add) (pv 0) (pv 1)))), ?_⟩
  try simp only [cxK, cxK2]
  rw [st_Ratio_radd]
  exact ⟨_, rfl, _, rfl, p, dx, _, j, rfl, rfl, hp, p, dx, t, b, .int j, j, 1, rfl, hp, .inr ⟨rfl, rfl⟩, bA, b51 hj, fun r dr H' t' b' s' er L => k r dr H' t' b' s' er L⟩
end
def sp_Ratio_neg (K : PySem.W.Frag) (ad : Ad) : Sp := fun vs H Q _ => ∃ (p dx : Addr) (t b : Int), vs = [.ref p] ∧ H p = some (ratio ad dx t b) ∧ B5 t b ∧
  ∀ r dr H' t' b', Sub H H' → H' r = some (ratio ad dr t' b') → LowT t' b' (-t) (b) → Q (.ref r) H'
theorem st_Ratio_neg (a0 : V) : start ["self"] [a0] = [some a0] := rfl
section
variable {P : Program} {w : World} {K : PySem.W.Frag} {mg : Str → Option Value} {base : Heap} {ad : Ad}
theorem ok_Ratio_neg (T : Txt K mg ad) : FnOk P w K mg base CX0 3 ad.f_Ratio_neg ad.d_Ratio_neg ["self"] (sp_Ratio_neg K ad) := by
  refine T.F_Ratio_neg.ok sc_Ratio_neg (fun vs H Q E h => by obtain ⟨p, dx, t, b, rfl, _⟩ := h; rfl) (fun cdv A outer s H vs Q E hr h => ?_)
  have hu := hu_of hr
  obtain ⟨p, dx, t, b, rfl, hp, bA, k⟩ := h
  refine ⟨_, (pss_one (ps_ret (pe_make T.mk_Ratio (ok_Ratio_init (P := P) (w := w) (K := K) (mg := mg) (base := base) T) (hr.mono (by decide)) (by rfl) T.g_Ratio T.B_Ratio_init .nil passL (pa_cons (pe_un un_neg (pe_fld (pv 0) rfl)) (pa_cons (pe_fld (pv 0) rfl) pa_nil))))), ?_⟩
  try simp only [cxK, cxK2]
  rw [st_Ratio_neg]
  have hne := bA.ne
  refine ⟨_, rfl, p, _, _, _, _, rfl, hp, T.cl_Ratio, T.na_Ratio_top, RatioF_top, _, rfl, _, rfl, p, _, _, _, _, rfl, hp, T.cl_Ratio, T.na_Ratio_bottom, RatioF_bottom, ?_⟩
  intro r dr nr ndr ne
  refine ⟨r, dr, _, _, rfl, upd_same, by rw [Int.natAbs_neg]; exact u50 bA.bt, u50 bA.bb, fun z => absurd z hne, fun _ => ⟨rfl, ?_⟩⟩
  exact k r dr _ _ _ (made nr ndr) upd_same (low_n hne rfl)
end
theorem low5 {t b N D : Int} (L : LowT t b N D) (h : B5 N D) : B5 t b := ⟨Nat.lt_of_le_of_lt (L.le h.ne).1 h.bt, Nat.lt_of_le_of_lt (L.le h.ne).2 h.bb, L.pos⟩
theorem neg5 {t b : Int} (h : B5 t b) : B5 (-t) b := ⟨by rw [Int.natAbs_neg]; exact h.bt, h.bb, h.ps⟩
theorem sub_val {t b t2 b2 t3 b3 : Int} (h : t3 * b2 = -t2 * b3) : (t * b3 + t3 * b) * (b * b2) = (t * b2 - t2 * b) * (b * b3) := by grind
def sp_Ratio_sub (K : PySem.W.Frag) (ad : Ad) : Sp := fun vs H Q _ => ∃ (p dx : Addr) (t b : Int) (v : V) (t2 b2 : Int), vs = [.ref p, v] ∧ H p = some (ratio ad dx t b) ∧ RV ad H v t2 b2 ∧ B5 t b ∧ B5 t2 b2 ∧
  ∀ r dr H' t' b', Sub H H' → H' r = some (ratio ad dr t' b') → LowT t' b' (t * b2 - t2 * b) (b * b2) → Q (.ref r) H'
theorem st_Ratio_sub (a0 a1 : V) : start ["self", "other"] [a0, a1] = [some a0, some a1] := rfl
section
variable {P : Program} {w : World} {K : PySem.W.Frag} {mg : Str → Option Value} {base : Heap} {ad : Ad}
theorem ok_Ratio_sub (T : Txt K mg ad) : FnOk P w K mg base CX0 5 ad.f_Ratio_sub ad.d_Ratio_sub ["self", "other"] (sp_Ratio_sub K ad) := by
  refine T.F_Ratio_sub.ok sc_Ratio_sub (fun vs H Q E h => by obtain ⟨p, dx, t, b, v, t2, b2, rfl, _⟩ := h; rfl) (fun cdv A outer s H vs Q E hr h => ?_)
  have hu := hu_of hr
  obtain ⟨p, dx, t, b, v, t2, b2, rfl, hp, hv, bA, bB, k⟩ := h
  refine ⟨_, (pss_one (ps_ret (pe_op (op_own (ok_Ratio_add (P := P) (w := w) (K := K) (mg := mg) (base := base) T) (hr.mono (by decide)) T.B_Ratio_add pass0 T.sf_Ratio T.m_Ratio_add) (pv 0) (pe_un (un_ownNeg (ok_Ratio_neg (P := P) (w := w) (K := K) (mg := mg) (base := base) T) (hr.mono (by decide)) T.B_Ratio_neg pass0 T.m_Ratio_neg) (pe_call (ok_as_ratio (P := P) (w := w) (K := K) (mg := mg) (base := base) T) (hr.mono (by decide)) (by rfl) T.g_as_ratio T.F_as_ratio.kp T.B_as_ratio .nil pass0 (pa_cons (pv 1) pa_nil)))))), ?_⟩
  try simp only [cxK, cxK2]
  rw [st_Ratio_sub]
  refine ⟨_, rfl, _, rfl, v, t2, b2, rfl, hv, bB.bt, fun q dq H1 s1 hq => ?_⟩
  refine ⟨q, dq, _, rfl, hq, q, dq, t2, b2, rfl, hq, bB, fun r3 dr3 H3 t3 b3 s3 e3 L3 => ?_⟩
  have b5 := low5 L3 (neg5 bB)
  have hp3 := s3 _ _ (s1 _ _ hp)
  refine ⟨p, dx, _, r3, dr3, _, rfl, rfl, hp3, e3, p, dx, t, b, .ref r3, t3, b3, rfl, hp3, .inl ⟨r3, dr3, rfl, e3⟩, bA, b5, fun r dr H' t' b' s' er L => ?_⟩
  exact k r dr H' t' b' ((s1.trans s3).trans s') er (L.cast (fun z => (Int.mul_eq_zero.mp z).elim bA.ne b5.ne) (sub_val L3.val))
end
theorem rsub_val {t b j t3 b3 : Int} (h : t3 * b = -t * b3) : (t3 * 1 + j * b3) * b = (j * b - t) * (b3 * 1) := by grind
def sp_Ratio_rsub (K : PySem.W.Frag) (ad : Ad) : Sp := fun vs H Q _ => ∃ (p dx : Addr) (t b j : Int), vs = [.ref p, .int j] ∧ H p = some (ratio ad dx t b) ∧ B5 t b ∧ j.natAbs < 2 ^ 500 ∧
  ∀ r dr H' t' b', Sub H H' → H' r = some (ratio ad dr t' b') → LowT t' b' (j * b - t) (b) → Q (.ref r) H'
theorem st_Ratio_rsub (a0 a1 : V) : start ["self", "other"] [a0, a1] = [some a0, some a1] := rfl
section
variable {P : Program} {w : World} {K : PySem.W.Frag} {mg : Str → Option Value} {base : Heap} {ad : Ad}
theorem ok_Ratio_rsub (T : Txt K mg ad) : FnOk P w K mg base CX0 5 ad.f_Ratio_rsub ad.d_Ratio_rsub ["self", "other"] (sp_Ratio_rsub K ad) := by
  refine T.F_Ratio_rsub.ok sc_Ratio_rsub (fun vs H Q E h => by obtain ⟨p, dx, t, b, j, rfl, _⟩ := h; rfl) (fun cdv A outer s H vs Q E hr h => ?_)
  have hu := hu_of hr
  obtain ⟨p, dx, t, b, j, rfl, hp, bA, hj, k⟩ := h
  refine ⟨_, (pss_one (ps_ret (pe_op (op_ownI (ok_Ratio_add (P := P) (w := w) (K := K) (mg := mg) (base := base) T) (hr.mono (by decide)) T.B_Ratio_add pass0 T.ow_Ratio_add T.m_Ratio_add) (pe_un (un_ownNeg (ok_Ratio_neg (P := P) (w := w) (K := K) (mg := mg) (base := base) T) (hr.mono (by decide)) T.B_Ratio_neg pass0 T.m_Ratio_neg) (pv 0)) (pv 1)))), ?_⟩
  try simp only [cxK, cxK2]
  rw [st_Ratio_rsub]
  refine ⟨_, rfl, p, dx, _, rfl, hp, p, dx, t, b, rfl, hp, bA, fun r3 dr3 H3 t3 b3 s3 e3 L3 => ?_⟩
  have b5 := low5 L3 (neg5 bA)
  refine ⟨_, rfl, r3, dr3, _, j, rfl, rfl, e3, r3, dr3, t3, b3, .int j, j, 1, rfl, e3, .inr ⟨rfl, rfl⟩, b5, b51 hj, fun r dr H' t' b' s' er L => ?_⟩
  exact k r dr H' t' b' (s3.trans s') er (L.cast (fun z => (Int.mul_eq_zero.mp z).elim b5.ne (by decide)) (rsub_val L3.val))
end
def sp_Ratio_mul (K : PySem.W.Frag) (ad : Ad) : Sp := fun vs H Q _ => ∃ (p dx : Addr) (t b : Int) (v : V) (t2 b2 : Int), vs = [.ref p, v] ∧ H p = some (ratio ad dx t b) ∧ RV ad H v t2 b2 ∧ B5 t b ∧ B5 t2 b2 ∧
  ∀ r dr H' t' b', Sub H H' → H' r = some (ratio ad dr t' b') → LowT t' b' (t * t2) (b * b2) → Q (.ref r) H'
theorem st_Ratio_mul (a0 a1 : V) : start ["self", "other"] [a0, a1] = [some a0, some a1] := rfl
section
variable {P : Program} {w : World} {K : PySem.W.Frag} {mg : Str → Option Value} {base : Heap} {ad : Ad}
theorem ok_Ratio_mul (T : Txt K mg ad) : FnOk P w K mg base CX0 4 ad.f_Ratio_mul ad.d_Ratio_mul ["self", "other"] (sp_Ratio_mul K ad) := by
  refine T.F_Ratio_mul.ok sc_Ratio_mul (fun vs H Q E h => by obtain ⟨p, dx, t, b, v, t2, b2, rfl, _⟩ := h; rfl) (fun cdv A outer s H vs Q E hr h => ?_)
  have hu := hu_of hr
  obtain ⟨p, dx, t, b, v, t2, b2, rfl, hp, hv, bA, bB, k⟩ := h
  refine ⟨_, (pss_cons (ps_set (i := 1) sc_Ratio_mul.nd rfl (by first | exact Or.inl rfl | exact Or.inr rfl) (pe_call (ok_as_ratio (P := P) (w := w) (K := K) (mg := mg) (base := base) T) (hr.mono (by decide)) (by rfl) T.g_as_ratio T.F_as_ratio.kp T.B_as_ratio .nil pass0 (pa_cons (pv 1) pa_nil)))
      (pss_one (ps_ret (pe_make T.mk_Ratio (ok_Ratio_init (P := P) (w := w) (K := K) (mg := mg) (base := base) T) (hr.mono (by decide)) (by rfl) T.g_Ratio T.B_Ratio_init .nil passL (pa_cons (pe_op op_mulW (pe_fld (pv 0) rfl) (pe_fld (pv 1) rfl)) (pa_cons (pe_op op_mulW (pe_fld (pv 0) rfl) (pe_fld (pv 1) rfl)) pa_nil)))))), ?_⟩
  try simp only [cxK, cxK2]
  rw [st_Ratio_mul]
  refine ⟨_, rfl, v, t2, b2, rfl, hv, bB.bt, fun q dq H1 s1 hq => ?_⟩
  refine gs1 ?_
  have hp1 := s1 _ _ hp
  have hne : b * b2 ≠ 0 := fun z => (Int.mul_eq_zero.mp z).elim bA.ne bB.ne
  refine ⟨_, rfl, p, _, _, _, _, rfl, hp1, T.cl_Ratio, T.na_Ratio_top, RatioF_top, _, rfl, q, _, _, _, _, rfl, hq, T.cl_Ratio, T.na_Ratio_top, RatioF_top, _, _, rfl, rfl, m5 bA.bt bB.bt, _, rfl, p, _, _, _, _, rfl, hp1, T.cl_Ratio, T.na_Ratio_bottom, RatioF_bottom, _, rfl, q, _, _, _, _, rfl, hq, T.cl_Ratio, T.na_Ratio_bottom, RatioF_bottom, _, _, rfl, rfl, m5 bA.bb bB.bb, ?_⟩
  intro r dr nr ndr ne
  refine ⟨r, dr, _, _, rfl, upd_same, u10 (pr5 bA.bt bB.bt), u10 (pr5 bA.bb bB.bb), fun z => absurd z hne, fun _ => ⟨rfl, ?_⟩⟩
  exact k r dr _ _ _ (s1.trans (made nr ndr)) upd_same (low_n hne rfl)
end
def sp_Ratio_rmul (K : PySem.W.Frag) (ad : Ad) : Sp := fun vs H Q _ => ∃ (p dx : Addr) (t b j : Int), vs = [.ref p, .int j] ∧ H p = some (ratio ad dx t b) ∧ B5 t b ∧ j.natAbs < 2 ^ 500 ∧
  ∀ r dr H' t' b', Sub H H' → H' r = some (ratio ad dr t' b') → LowT t' b' (t * j) (b * 1) → Q (.ref r) H'
theorem st_Ratio_rmul (a0 a1 : V) : start ["self", "other"] [a0, a1] = [some a0, some a1] := rfl
section
variable {P : Program} {w : World} {K : PySem.W.Frag} {mg : Str → Option Value} {base : Heap} {ad : Ad}
theorem ok_Ratio_rmul (T : Txt K mg ad) : FnOk P w K mg base CX0 5 ad.f_Ratio_rmul ad.d_Ratio_rmul ["self", "other"] (sp_Ratio_rmul K ad) := by
  refine T.F_Ratio_rmul.ok sc_Ratio_rmul (fun vs H Q E h => by obtain ⟨p, dx, t, b, j, rfl, _⟩ := h; rfl) (fun cdv A outer s H vs Q E hr h => ?_)
  have hu := hu_of hr
  obtain ⟨p, dx, t, b, j, rfl, hp, bA, hj, k⟩ := h
  refine ⟨_, (pss_one (ps_ret (pe_op (op_ownI (ok_Ratio_mul (P := P) (w := w) (K := K) (mg := mg) (base := base) T) (hr.mono (by decide)) T.B_Ratio_mul pass0 T.ow_Ratio_mul T.m_Ratio_mul) (pv 0) (pv 1)))), ?_⟩
  try simp only [cxK, cxK2]
  rw [st_Ratio_rmul]
  exact ⟨_, rfl, _, rfl, p, dx, _, j, rfl, rfl, hp, p, dx, t, b, .int j, j, 1, rfl, hp, .inr ⟨rfl, rfl⟩, bA, b51 hj, fun r dr H' t' b' s' er L => k r dr H' t' b' s' er L⟩
end
def sp_Ratio_abs (K : PySem.W.Frag) (ad : Ad) : Sp := fun vs H Q _ => ∃ (p dx : Addr) (t b : Int), vs = [.ref p] ∧ H p = some (ratio ad dx t b) ∧ B5 t b ∧
  ∀ r dr H' t' b', Sub H H' → H' r = some (ratio ad dr t' b') → LowT t' b' (((t.natAbs : Nat) : Int)) (b) → Q (.ref r) H'
theorem st_Ratio_abs (a0 : V) : start ["self"] [a0] = [some a0] := rfl
section
variable {P : Program} {w : World} {K : PySem.W.Frag} {mg : Str → Option Value} {base : Heap} {ad : Ad}
theorem ok_Ratio_abs (T : Txt K mg ad) : FnOk P w K mg base CX0 3 ad.f_Ratio_abs ad.d_Ratio_abs ["self"] (sp_Ratio_abs K ad) := by
  refine T.F_Ratio_abs.ok sc_Ratio_abs (fun vs H Q E h => by obtain ⟨p, dx, t, b, rfl, _⟩ := h; rfl) (fun cdv A outer s H vs Q E hr h => ?_)
  have hu := hu_of hr
  obtain ⟨p, dx, t, b, rfl, hp, bA, k⟩ := h
  refine ⟨_, (pss_one (ps_ret (pe_make T.mk_Ratio (ok_Ratio_init (P := P) (w := w) (K := K) (mg := mg) (base := base) T) (hr.mono (by decide)) (by rfl) T.g_Ratio T.B_Ratio_init .nil passL (pa_cons (pe_callB call_abs (by rfl) T.z_abs (by decide +kernel) (pa_cons (pe_fld (pv 0) rfl) pa_nil)) (pa_cons (pe_fld (pv 0) rfl) pa_nil))))), ?_⟩
  try simp only [cxK, cxK2]
  rw [st_Ratio_abs]
  have hne := bA.ne
  refine ⟨_, rfl, p, _, _, _, _, rfl, hp, T.cl_Ratio, T.na_Ratio_top, RatioF_top, t, rfl, _, rfl, p, _, _, _, _, rfl, hp, T.cl_Ratio, T.na_Ratio_bottom, RatioF_bottom, ?_⟩
  rw [abs_nat]
  intro r dr nr ndr ne
  refine ⟨r, dr, _, _, rfl, upd_same, by rw [Int.natAbs_natCast]; exact u50 bA.bt, u50 bA.bb, fun z => absurd z hne, fun _ => ⟨rfl, ?_⟩⟩
  exact k r dr _ _ _ (made nr ndr) upd_same (low_n hne rfl)
end
def sp_Ratio_over (K : PySem.W.Frag) (ad : Ad) : Sp := fun vs H Q E => ∃ (p dx : Addr) (t b : Int) (v : V) (t2 b2 : Int), vs = [.ref p, v] ∧ H p = some (ratio ad dx t b) ∧ RV ad H v t2 b2 ∧ B5 t b ∧ B5 t2 b2 ∧
  (t2 = 0 → ∀ H', Sub H H' → E (.ref ad.c_ZeroBottom) none H') ∧
  (t2 ≠ 0 → ∀ r dr H' t' b', Sub H H' → H' r = some (ratio ad dr t' b') → LowT t' b' (t * b2) (b * t2) → Q (.ref r) H')
theorem own_made {H : Hp} {r dr : Addr} {o1 : HO} (h1 : H r = none) (h2 : H dr = none) : Sub H (upd (upd H dr (.own r)) r o1) := fun a x e => by
  rw [upd_ne (ne_of_none e h1), upd_ne (ne_of_none e h2)]
  exact e
theorem st_Ratio_over (a0 a1 : V) : start ["self", "other"] [a0, a1] = [some a0, some a1] := rfl
section
variable {P : Program} {w : World} {K : PySem.W.Frag} {mg : Str → Option Value} {base : Heap} {ad : Ad}
theorem ok_Ratio_over (T : Txt K mg ad) : FnOk P w K mg base (L2.CX P w) 4 ad.f_Ratio_over ad.d_Ratio_over ["self", "other"] (sp_Ratio_over K ad) := by
  refine T.F_Ratio_over.okX sc_Ratio_over (fun vs H Q E h => by obtain ⟨p, dx, t, b, v, t2, b2, rfl, _⟩ := h; rfl) (fun cdv A outer s H vs Q E hr h => ?_)
  have hu := hu_of hr
  obtain ⟨p, dx, t, b, v, t2, b2, rfl, hp, hv, bA, bB, k0, k1⟩ := h
  refine ⟨_, (pss_cons (ps_set (i := 1) sc_Ratio_over.nd rfl (by first | exact Or.inl rfl | exact Or.inr rfl) (pe_call (ok_as_ratio (P := P) (w := w) (K := K) (mg := mg) (base := base) T) (hr.mono (by decide)) (by rfl) T.g_as_ratio T.F_as_ratio.kp T.B_as_ratio .nil pass0 (pa_cons (pv 1) pa_nil)))
      (pss_one (ps_ret (pe_make T.mk_Ratio (ok_Ratio_init (P := P) (w := w) (K := K) (mg := mg) (base := base) T) (hr.mono (by decide)) (by rfl) T.g_Ratio T.B_Ratio_init .nil (passes_call (takes_of rfl rfl rfl rfl) (fun _ _ _ _ h => h)) (pa_cons (pe_op op_mulW (pe_fld (pv 0) rfl) (pe_fld (pv 1) rfl)) (pa_cons (pe_op op_mulW (pe_fld (pv 0) rfl) (pe_fld (pv 1) rfl)) pa_nil)))))), ?_⟩
  try simp only [cxK, cxK2]
  rw [st_Ratio_over]
  refine ⟨_, rfl, v, t2, b2, rfl, hv, bB.bt, fun q dq H1 s1 hq => ?_⟩
  refine gs1 ?_
  have hp1 := s1 _ _ hp
  refine ⟨_, rfl, p, _, _, _, _, rfl, hp1, T.cl_Ratio, T.na_Ratio_top, RatioF_top, _, rfl, q, _, _, _, _, rfl, hq, T.cl_Ratio, T.na_Ratio_bottom, RatioF_bottom, _, _, rfl, rfl, m5 bA.bt bB.bb, _, rfl, p, _, _, _, _, rfl, hp1, T.cl_Ratio, T.na_Ratio_bottom, RatioF_bottom, _, rfl, q, _, _, _, _, rfl, hq, T.cl_Ratio, T.na_Ratio_top, RatioF_top, _, _, rfl, rfl, m5 bA.bb bB.bt, ?_⟩
  intro r dr nr ndr ne
  refine ⟨r, dr, _, _, rfl, upd_same, u10 (pr5 bA.bt bB.bb), u10 (pr5 bA.bb bB.bt), fun z => ?_, fun hne => ⟨rfl, ?_⟩⟩
  · exact k0 ((Int.mul_eq_zero.mp z).elim (fun y => absurd y bA.ne) (fun y => y)) _ (s1.trans (own_made nr ndr))
  · exact k1 (fun y => hne (by rw [y, Int.mul_zero])) r dr _ _ _ (s1.trans (made nr ndr)) upd_same (low_n hne rfl)
end
def sp_law_pool (K : PySem.W.Frag) (ad : Ad) : Sp := fun vs H Q _ => ∃ (a : Addr) (ns : List Int), vs = [.ref a] ∧ SqL K H a (ns.map V.int) ∧ ns.length ≤ 63 ∧
  ∀ p ms H', H p = none → Sub H H' → H' p = some (pool ms) → PoolOk ms → Q (.ref p) H'
/-- what the pool's list holds between two turns -/
structure PlAt (H : Hp) (o : Addr) (n : Nat) (ms : List Int) (H' : Hp) : Prop where
  sub : Sub H H'
  at_ : H' o = some (pool ms)
  len : ms.length ≤ n
  rng : ∀ x ∈ ms, 0 ≤ x ∧ x < 4096
theorem PlAt.add {H H' : Hp} {o : Addr} {n : Nat} {ms : List Int} {x : Int} (h : PlAt H o n ms H') (no : H o = none) (h0 : 0 ≤ x) (h1 : x < 4096) : PlAt H o (n + 1) (ms ++ [x]) (upd H' o (.lst (ms.map V.int ++ [V.int x]))) := by
  refine ⟨fun a u e => ?_, ?_, ?_, fun y hy => ?_⟩
  · rw [upd_ne (ne_of_none e no)]; exact h.sub a u e
  · rw [upd_same]
    show some (HO.lst (List.map V.int ms ++ [V.int x])) = some (HO.lst ((ms ++ [x]).map V.int))
    rw [List.map_append]; rfl
  · have := h.len; rw [List.length_append, List.length_singleton]; omega
  · rcases List.mem_append.mp hy with hy | hy
    · exact h.rng y hy
    · rw [List.mem_singleton] at hy; subst hy; exact ⟨h0, h1⟩
theorem PlAt.mono {H H' : Hp} {o : Addr} {n m : Nat} {ms : List Int} (h : PlAt H o n ms H') (l : n ≤ m) : PlAt H o m ms H' := ⟨h.sub, h.at_, Nat.le_trans h.len l, h.rng⟩
theorem PlAt.ne {H H' : Hp} {o c : Addr} {n : Nat} {ms : List Int} (h : PlAt H o n ms H') (no : H o = none) {xs : List V} (e : H c = some (.lst xs)) : c ≠ o := ne_of_none e no
theorem fmod_rng (x m : Int) (hm : 0 < m) : 0 ≤ x.fmod m ∧ x.fmod m < m := by
  rw [Int.fmod_eq_emod_of_nonneg _ (by omega)]
  exact ⟨Int.emod_nonneg _ (by omega), Int.emod_lt_of_pos _ hm⟩
theorem nab62 {x : Int} (h0 : 0 ≤ x) (h1 : x < 4611686018427387904) : x.natAbs < 2 ^ 62 := by
  have e : (2 : Nat) ^ 62 = 4611686018427387904 := by decide
  rw [e]; omega
theorem st_law_pool (a0 : V) : start ["_law_script", "_law_pool_here", "_law_cell", "_law_rest", "_law_k", "_law_mixed"] [a0] = [some a0, none, none, none, none, none] := rfl
section
variable {P : Program} {w : World} {K : PySem.W.Frag} {mg : Str → Option Value} {base : Heap} {ad : Ad}
theorem ok_law_pool (T : Txt K mg ad) : FnOk P w K mg base CX0 1 ad.f_law_pool ad.d_law_pool ["_law_script"] (sp_law_pool K ad) := by
  refine T.F_law_pool.ok sc_law_pool (fun vs H Q E h => by obtain ⟨a, ns, rfl, _⟩ := h; rfl) (fun cdv A outer s H vs Q E hr h => ?_)
  have hu := hu_of hr
  obtain ⟨a, ns, rfl, hS, hlen, k⟩ := h
  refine ⟨_, (pss_cons (ps_set (i := 1) sc_law_pool.nd rfl (by first | exact Or.inl rfl | exact Or.inr rfl) (pe_lst pa_nil))
      (pss_cons (ps_for PassesOwn.never rfl (pi_list (pe_slice sl_list (pv 0) po_none (po_some pe_int))) (pg_name (i := 2) sc_law_pool.nd rfl (by first | exact Or.inl rfl | exact Or.inr rfl))
      (pss_cons (ps_set (i := 3) sc_law_pool.nd rfl (by first | exact Or.inl rfl | exact Or.inr rfl) (pe_callB call_abs (by rfl) T.z_abs (by decide +kernel) (pa_cons (pv 2) pa_nil)))
      (pss_one (ps_if (pt_cmpR op_lt (pv 3) (pe_op op_pow pe_int pe_int) (nomark _)) (pss_one (ps_for PassesOwn.never rfl (pi_range1 rfl T.z_range (pa_cons pe_int pa_nil)) (pg_name (i := 4) sc_law_pool.nd rfl (by first | exact Or.inl rfl | exact Or.inr rfl))
      (pss_cons (ps_set (i := 5) sc_law_pool.nd rfl (by first | exact Or.inl rfl | exact Or.inr rfl) (pe_op op_modN (pe_op op_mulW (pe_op op_mulW (pe_op op_add (pv 3) pe_int) (pe_op op_add (pv 4) pe_int)) pe_int) pe_int))
      (pss_one (ps_expr (pe_bm PySem.F.plainAttrs_list PySem.F.slot_list_append PySem.F.type_list_append mt_append (pv 1) (pa_cons (pe_op op_modN (pe_op op_fdivW (pe_op op_modN (pe_op op_mulW (pv 5) pe_int) pe_int) pe_int) pe_int) pa_nil))))))) (pss_one (ps_for PassesOwn.never rfl (pi_range1 rfl T.z_range (pa_cons pe_int pa_nil)) (pg_name (i := 4) sc_law_pool.nd rfl (by first | exact Or.inl rfl | exact Or.inr rfl))
      (pss_one (ps_if (pt_cmpR op_gt (pv 3) pe_int (nomark _)) (pss_cons (ps_expr (pe_bm PySem.F.plainAttrs_list PySem.F.slot_list_append PySem.F.type_list_append mt_append (pv 1) (pa_cons (pe_op op_modN (pe_callTy call_int1 (by rfl) T.z_int (by decide +kernel) (pa_cons (pv 3) pa_nil)) pe_int) pa_nil)))
      (pss_one (ps_set (i := 3) sc_law_pool.nd rfl (by first | exact Or.inl rfl | exact Or.inr rfl) (pe_op op_fdivW (pv 3) pe_int)))) pss_nil))))))))
      (pss_one (ps_ret (pv 1))))), ?_⟩
  try simp only [cxK, cxK2]
  rw [st_law_pool]
  -- _law_pool_here = []
  refine ⟨Nat.zero_le _, fun o no => ?_⟩
  have s1 : Sub H (upd H o (.lst [])) := Sub.new no
  -- for _law_cell in _law_script[:63]
  refine ⟨.ref a, rfl, 63, rfl, a, ns.map V.int, rfl, s1.seq hS, fun c nc => ?_⟩
  have hco : c ≠ o := fun e => by rw [e, upd_same] at nc; cases nc
  have nc0 : H c = none := by rw [upd_ne hco] at nc; exact nc
  have ecut : cutV (ns.map V.int) none (some 63) = ns.map V.int := by
    unfold cutV
    rw [HT.sIx_none, show HT.sIx (ns.map V.int).length (ns.map V.int).length (some 63) = min 63 (ns.map V.int).length from HT.sIx_nat _ _ 63, List.drop_zero, Nat.sub_zero]
    exact List.take_of_length_le (by rw [List.length_map]; omega)
  rw [ecut]
  refine ⟨c, rfl, ⟨_, .inl (.inl upd_same)⟩, for_list (xs := ns.map V.int) (fun i σ H' => ∃ y2 y3 y4 y5 ms, σ = [some (.ref a), some (.ref o), y2, y3, y4, y5] ∧ H' c = some (.lst (ns.map V.int)) ∧ PlAt H o (60 * i) ms H') ?_ (fun i σ H' _ hW => ?_) (fun i x σ H' hx hW => ?_) (fun σ H' hW => ?_)⟩
  · refine ⟨none, none, none, none, [], rfl, upd_same, ⟨s1.trans (Sub.new nc), ?_, Nat.zero_le _, fun x hx => nomatch hx⟩⟩
    rw [upd_ne hco.symm, upd_same]; rfl
  · obtain ⟨_, _, _, _, _, _, ec, _⟩ := hW
    exact .inl (.inl ec)
  · obtain ⟨y2, y3, y4, y5, ms, rfl, ec, W⟩ := hW
    obtain ⟨z, rfl⟩ : ∃ z, x = .int z := by
      rw [List.getElem?_map] at hx
      cases e : ns[i]? with
      | none => rw [e] at hx; cases hx
      | some z => rw [e] at hx; cases hx; exact ⟨z, rfl⟩
    -- _law_rest = abs(_law_cell)
    refine ⟨_, rfl, z, rfl, ?_⟩
    generalize hr0 : (if z < 0 then -z else z) = r
    have r0 : 0 ≤ r := by rw [← hr0]; split <;> omega
    -- if _law_rest < 10 ** 18
    refine ⟨_, rfl, _, _, rfl, rfl, ⟨by decide, by decide, by decide⟩, _, _, rfl, rfl, _, rfl, ite2 (fun e => ?_) (fun e => ?_)⟩
    · have r1 : r < 10 ^ 18 := of_decide_eq_true e
      -- for _law_k in range(40)
      refine ⟨40, rfl, by decide, by decide, for_range (lo := 0) (n := 40) (fun j σ H' => ∃ y4 y5 ms, σ = [some (.ref a), some (.ref o), some (.int z), some (.int r), y4, y5] ∧ H' c = some (.lst (ns.map V.int)) ∧ PlAt H o (60 * i + j) ms H') ?_ (fun j σ H' hj hW => ?_) (fun σ H' hW => ?_)⟩
      · exact ⟨y4, y5, ms, rfl, ec, W⟩
      · obtain ⟨y4, y5, ms, rfl, ec, W⟩ := hW
        -- _law_mixed = ..
        refine ⟨_, rfl, _, _, rfl, rfl, _, rfl, _, _, rfl, rfl, _, _, rfl, rfl, ?_, ?_⟩
        · exact wide_mul (a := 62) (b := 62) (nab62 (by omega) (by omega)) (nab62 (by omega) (by omega)) (by decide) (by decide) (by decide)
        refine ⟨_, _, rfl, rfl, ?_, ?_⟩
        · exact wide_mul (a := 124) (b := 62) (wide_lt (nab62 (by omega) (by omega)) (nab62 (by omega) (by omega))) (by decide) (by decide) (by decide) (by decide)
        refine ⟨_, _, rfl, rfl, (by show (2147483647 : Int) ≠ 0; decide), ?_⟩
        have q0 := fmod_rng ((r + 1) * ((0 : Int) + j + 3) * 48271) 2147483647 (by decide)
        -- _law_pool_here.append(..)
        refine ⟨_, rfl, .inl ⟨rfl, _, SqL.of W.at_⟩, _, rfl, _, _, rfl, rfl, ?_, _, _, rfl, rfl, (by show (2147483629 : Int) ≠ 0; decide), _, _, rfl, rfl, ⟨(by show (0 : Int) < 5; decide), (by show (5 : Int).natAbs.log2 < 9000; decide)⟩, _, _, rfl, rfl, (by show (4096 : Int) ≠ 0; decide), ?_⟩
        · exact wide_mul (a := 62) (b := 62) (nab62 q0.1 (Int.lt_trans q0.2 (by decide))) (by decide) (by decide) (by decide) (by decide)
        have vr := fmod_rng (((((r + 1) * ((0 : Int) + j + 3) * 48271).fmod 2147483647) * 69621).fmod 2147483629 / 5) 4096 (by decide)
        refine ⟨o, _, _, rfl, rfl, W.at_, ?_, ?_⟩
        · rw [List.length_map]; exact Nat.lt_of_le_of_lt W.len (by have : i < (ns.map V.int).length := (List.getElem?_eq_some_iff.mp hx).1; rw [List.length_map] at this; exact Nat.lt_of_lt_of_le (show 60 * i + j < 10000 by omega) (by decide))
        · refine ⟨_, _, _, rfl, ?_, W.add no vr.1 vr.2⟩
          rw [upd_ne hco]; exact ec
      · obtain ⟨y4, y5, ms, rfl, ec, W⟩ := hW
        exact ⟨_, _, y4, y5, ms, rfl, ec, W.mono (by omega)⟩
    · -- for _law_k in range(60)
      refine ⟨60, rfl, by decide, by decide, for_range (lo := 0) (n := 60) (fun j σ H' => ∃ r y4 y5 ms, σ = [some (.ref a), some (.ref o), some (.int z), some (.int r), y4, y5] ∧ H' c = some (.lst (ns.map V.int)) ∧ PlAt H o (60 * i + j) ms H') ?_ (fun j σ H' hj hW => ?_) (fun σ H' hW => ?_)⟩
      · exact ⟨r, y4, y5, ms, rfl, ec, W⟩
      · obtain ⟨r, y4, y5, ms, rfl, ec, W⟩ := hW
        refine ⟨_, rfl, _, _, rfl, rfl, _, rfl, ite2 (fun e => ?_) (fun e => ?_)⟩
        · refine ⟨_, rfl, .inl ⟨rfl, _, SqL.of W.at_⟩, _, rfl, .inl ⟨_, rfl, _, _, rfl, rfl, (by show (4096 : Int) ≠ 0; decide), ?_⟩⟩
          have vr := fmod_rng r 4096 (by decide)
          refine ⟨o, _, _, rfl, rfl, W.at_, ?_, ?_⟩
          · rw [List.length_map]; exact Nat.lt_of_le_of_lt W.len (by have : i < (ns.map V.int).length := (List.getElem?_eq_some_iff.mp hx).1; rw [List.length_map] at this; exact Nat.lt_of_lt_of_le (show 60 * i + j < 10000 by omega) (by decide))
          · refine ⟨_, rfl, _, _, rfl, rfl, ⟨(by show (0 : Int) < 4096; decide), (by show (4096 : Int).natAbs.log2 < 9000; decide)⟩, ?_⟩
            refine ⟨_, _, _, _, rfl, ?_, W.add no vr.1 vr.2⟩
            rw [upd_ne hco]; exact ec
        · exact ⟨r, _, y5, ms, rfl, ec, W.mono (by omega)⟩
      · obtain ⟨r, y4, y5, ms, rfl, ec, W⟩ := hW
        exact ⟨_, _, y4, y5, ms, rfl, ec, W.mono (by omega)⟩
  · obtain ⟨y2, y3, y4, y5, ms, rfl, ec, W⟩ := hW
    rw [List.length_map] at W
    refine ⟨.ref o, rfl, k o ms H' no W.sub W.at_ ⟨?_, W.rng⟩⟩
    have := W.len
    omega
end
def sp_law_take (K : PySem.W.Frag) (ad : Ad) : Sp := fun vs H Q _ => ∃ p ms m, vs = [.ref p, .int m] ∧ H p = some (pool ms) ∧ PoolOk ms ∧ 0 < m ∧
  ∀ H', Chg p H H' → H' p = some (pool ms.tail) → Q (.int (tkv ms m)) H'
theorem eqv_nil : ∀ ms : List Int, PyData.eqv (.list (ms.map PyData.int)) (.list []) = ms.isEmpty
  | [] => rfl
  | _ :: _ => rfl
theorem dpI {K : PySem.W.Frag} {H : Hp} : ∀ ms : List Int, DpAll K H (ms.map V.int) (ms.map PyData.int)
  | [] => .nil
  | _ :: r => .cons (.int _) (dpI r)
theorem shapedI : ∀ ms : List Int, SeqAt.shaped (.list (ms.map PyData.int)) = true
  | [] => rfl
  | _ :: r => by
    have h := shapedI r
    exact h
theorem st_law_take (a0 a1 : V) : start ["_law_pool_here", "_law_many"] [a0, a1] = [some a0, some a1] := rfl
section
variable {P : Program} {w : World} {K : PySem.W.Frag} {mg : Str → Option Value} {base : Heap} {ad : Ad}
theorem ok_law_take (T : Txt K mg ad) : FnOk P w K mg base CX0 1 ad.f_law_take ad.d_law_take ["_law_pool_here", "_law_many"] (sp_law_take K ad) := by
  refine T.F_law_take.ok sc_law_take (fun vs H Q E h => by obtain ⟨p, ms, m, rfl, _⟩ := h; rfl) (fun cdv A outer s H vs Q E hr h => ?_)
  have hu := hu_of hr
  obtain ⟨p, ms, m, rfl, hp, ok, hm, k⟩ := h
  refine ⟨_, (pss_cons (ps_if (pt_cmpR (op_eqD hr.units) (pv 0) (pe_lst pa_nil) (nomark _)) (pss_one (ps_ret pe_int)) pss_nil)
      (pss_one (ps_ret (pe_op op_modN (pe_callTy call_int1 (by rfl) T.z_int (by decide +kernel) (pa_cons (pe_bm PySem.F.plainAttrs_list PySem.F.slot_list_pop PySem.F.type_list_pop mt_popAt (pv 0) (pa_cons pe_int pa_nil)) pa_nil)) (pv 1))))), ?_⟩
  try simp only [cxK, cxK2]
  rw [st_law_take]
  -- if _law_pool_here == []
  refine ⟨_, rfl, Nat.zero_le _, fun o no => ?_⟩
  have hpo : p ≠ o := ne_of_none hp no
  have hp1 : (upd H o (.lst [])) p = some (pool ms) := by rw [upd_ne hpo]; exact hp
  refine ⟨.list (ms.map PyData.int), .list [], .lst (SqL.of hp1) (dpI ms), .lst (SqL.of upd_same) .nil, shapedI ms, rfl, _, rfl, ?_⟩
  rw [eqv_nil]
  cases ms with
  | nil =>
    refine iteT ?_
    exact k _ (Chg.new no) hp1
  | cons n r =>
    refine iteF ?_
    refine ⟨_, rfl, .inl ⟨rfl, _, SqL.of hp1⟩, p, _, 0, 0, _, rfl, rfl, hp1, by decide, by decide, (by simp [seqIndex?, List.length_cons] <;> omega), rfl, ?_⟩
    refine .inl ⟨n, rfl, _, rfl, _, _, rfl, rfl, by omega, ?_⟩
    exact k _ ((Chg.new no).trans Chg.put) upd_same
end
def sp_law_whole (K : PySem.W.Frag) (ad : Ad) : Sp := fun vs H Q _ => ∃ n, vs = [.int n] ∧ Q (.bl true) H
theorem kit_ii {K : PySem.W.Frag} : PySem.W.kitOne K (.type "int") (.type "int") = some true := kit_ty (by decide +kernel)
theorem kit_ib {K : PySem.W.Frag} : PySem.W.kitOne K (.type "int") (.type "bool") = some false := kit_ty (by decide +kernel)
theorem st_law_whole (a0 : V) : start ["_law_x"] [a0] = [some a0] := rfl
section
variable {P : Program} {w : World} {K : PySem.W.Frag} {mg : Str → Option Value} {base : Heap} {ad : Ad}
theorem ok_law_whole (T : Txt K mg ad) : FnOk P w K mg base CX0 1 ad.f_law_whole ad.d_law_whole ["_law_x"] (sp_law_whole K ad) := by
  refine T.F_law_whole.ok sc_law_whole (fun vs H Q E h => by obtain ⟨n, rfl, _⟩ := h; rfl) (fun cdv A outer s H vs Q E hr h => ?_)
  have hu := hu_of hr
  obtain ⟨n, rfl, k⟩ := h
  refine ⟨_, (pss_one (ps_ret (pe_and (pe_callB call_isi (by rfl) T.z_isinstance (by decide +kernel) (pa_cons (pv 0) (pa_cons (pe_bltn (v := .ty "int") (by rfl) T.z_int (by decide +kernel) rfl) pa_nil))) (pe_one (pe_not (pe_callB call_isi (by rfl) T.z_isinstance (by decide +kernel) (pa_cons (pv 0) (pa_cons (pe_bltn (v := .ty "bool") (by rfl) T.z_bool (by decide +kernel) rfl) pa_nil)))))))), ?_⟩
  try simp only [cxK, cxK2]
  rw [st_law_whole]
  refine ⟨_, rfl, .int n, .ty "int", _, _, true, rfl, .ty _, .base (.int n), kit_ii, true, rfl, iteT ?_⟩
  exact ⟨_, rfl, .int n, .ty "bool", _, _, false, rfl, .ty _, .base (.int n), kit_ib, false, rfl, k⟩
end
def sp_law_number (K : PySem.W.Frag) (ad : Ad) : Sp := fun vs H Q _ => ∃ p ms, vs = [.ref p] ∧ H p = some (pool ms) ∧ PoolOk ms ∧
  ∀ v ms' H', Chg p H H' → H' p = some (pool ms') → PoolOk ms' → v.natAbs < 2 ^ 192 → Q (.int v) H'
theorem p4096 {n : Int} {i : Nat} (h0 : 0 ≤ n) (h : n < 4096 ^ i) (hi : i ≤ 16) : n.natAbs < 2 ^ 192 := by
  have e1 : (4096 : Nat) ^ i ≤ 4096 ^ 16 := Nat.pow_le_pow_right (by decide) hi
  have e2 : (4096 : Nat) ^ 16 = 2 ^ 192 := by decide +kernel
  have e3 : ((4096 ^ i : Nat) : Int) = (4096 : Int) ^ i := Int.natCast_pow 4096 i
  rw [← e3] at h
  rw [e2] at e1
  generalize (4096 : Nat) ^ i = z at h e1
  generalize (2 : Nat) ^ 192 = u at e1 ⊢
  omega
theorem st_law_number (a0 : V) : start ["_law_pool_here", "_law_kind", "_law_number_here", "_law_k"] [a0] = [some a0, none, none, none] := rfl
section
variable {P : Program} {w : World} {K : PySem.W.Frag} {mg : Str → Option Value} {base : Heap} {ad : Ad}
theorem ok_law_number (T : Txt K mg ad) : FnOk P w K mg base CX0 2 ad.f_law_number ad.d_law_number ["_law_pool_here"] (sp_law_number K ad) := by
  refine T.F_law_number.ok sc_law_number (fun vs H Q E h => by obtain ⟨p, ms, rfl, _⟩ := h; rfl) (fun cdv A outer s H vs Q E hr h => ?_)
  have hu := hu_of hr
  obtain ⟨p, ms, rfl, hp, ok, k⟩ := h
  refine ⟨_, (pss_cons (ps_set (i := 1) sc_law_number.nd rfl (by first | exact Or.inl rfl | exact Or.inr rfl) (pe_call (ok_law_take (P := P) (w := w) (K := K) (mg := mg) (base := base) T) (hr.mono (by decide)) (by rfl) T.g_law_take T.F_law_take.kp T.B_law_take .nil pass0 (pa_cons (pv 0) (pa_cons pe_int pa_nil))))
      (pss_cons (ps_if (pt_cmpR op_eq (pv 1) pe_int (nomark _)) (pss_one (ps_ret (pe_op op_sub (pe_call (ok_law_take (P := P) (w := w) (K := K) (mg := mg) (base := base) T) (hr.mono (by decide)) (by rfl) T.g_law_take T.F_law_take.kp T.B_law_take .nil pass0 (pa_cons (pv 0) (pa_cons pe_int pa_nil))) pe_int))) pss_nil)
      (pss_cons (ps_set (i := 2) sc_law_number.nd rfl (by first | exact Or.inl rfl | exact Or.inr rfl) pe_int)
      (pss_cons (ps_for PassesOwn.never rfl (pi_range1 rfl T.z_range (pa_cons (pe_call (ok_law_take (P := P) (w := w) (K := K) (mg := mg) (base := base) T) (hr.mono (by decide)) (by rfl) T.g_law_take T.F_law_take.kp T.B_law_take .nil pass0 (pa_cons (pv 0) (pa_cons pe_int pa_nil))) pa_nil)) (pg_name (i := 3) sc_law_number.nd rfl (by first | exact Or.inl rfl | exact Or.inr rfl))
      (pss_one (ps_set (i := 2) sc_law_number.nd rfl (by first | exact Or.inl rfl | exact Or.inr rfl) (pe_op op_add (pe_op op_mulW (pv 2) pe_int) (pe_call (ok_law_take (P := P) (w := w) (K := K) (mg := mg) (base := base) T) (hr.mono (by decide)) (by rfl) T.g_law_take T.F_law_take.kp T.B_law_take .nil pass0 (pa_cons (pv 0) (pa_cons pe_int pa_nil)))))))
      (pss_cons (ps_if (pt_cmpR op_eq (pv 1) pe_int (nomark _)) (pss_one (ps_ret (pe_un un_neg (pv 2)))) pss_nil)
      (pss_one (ps_ret (pv 2)))))))), ?_⟩
  try simp only [cxK, cxK2]
  rw [st_law_number]
  -- _law_kind = _law_take(_law_pool_here, 3)
  refine ⟨_, rfl, p, ms, 3, rfl, hp, ok, by decide, fun H1 c1 e1 => ?_⟩
  have ok1 := ok.tail
  have k3 := tkv_rng (ms := ms) (show (0 : Int) < 3 by decide)
  generalize tkv ms 3 = kd at k3 ⊢
  generalize ms.tail = ms1 at e1 ok1
  -- if _law_kind == 0
  refine ⟨_, rfl, rfl, _, rfl, ite2 (fun e => ?_) (fun e => ?_)⟩
  · refine ⟨_, rfl, p, ms1, 25, rfl, e1, ok1, by decide, fun H2 c2 e2 => ⟨_, _, rfl, rfl, ?_⟩⟩
    have r := tkv_rng (ms := ms1) (show (0 : Int) < 25 by decide)
    refine k _ _ H2 (c1.trans c2) e2 ok1.tail (Nat.lt_of_lt_of_le (show (tkv ms1 25 - 12).natAbs < 2 ^ 5 by omega) (Nat.pow_le_pow_right (by decide) (by decide)))
  · -- _law_number_here = 0; for _law_k in range(_law_take(_law_pool_here, 17))
    refine ⟨_, rfl, p, ms1, 17, rfl, e1, ok1, by decide, fun H2 c2 e2 => ?_⟩
    have r := tkv_rng (ms := ms1) (show (0 : Int) < 17 by decide)
    have ok2 := ok1.tail
    generalize tkv ms1 17 = tn at r ⊢
    generalize ms1.tail = ms2 at e2 ok2
    refine ⟨tn, rfl, by omega, by omega, for_range (lo := 0) (n := tn.toNat) (fun i σ H' => ∃ y3 n ms', σ = [some (.ref p), some (.int kd), some (.int n), y3] ∧ Chg p H H' ∧ H' p = some (pool ms') ∧ PoolOk ms' ∧ 0 ≤ n ∧ n < 4096 ^ i) ?_ (fun i σ H' hi hW => ?_) (fun σ H' hW => ?_)⟩
    · exact ⟨none, 0, ms2, rfl, c1.trans c2, e2, ok2, by decide, by decide⟩
    · obtain ⟨y3, n, ms', rfl, c', e', ok', n0, n1⟩ := hW
      have hi16 : i ≤ 16 := by omega
      refine ⟨_, rfl, _, _, rfl, rfl, ?_, ?_⟩
      · exact wide_mul (a := 192) (b := 62) (p4096 n0 n1 hi16) (by decide) (by decide) (by decide) (by decide)
      refine ⟨_, rfl, p, ms', 4096, rfl, e', ok', by decide, fun H3 c3 e3 => ⟨_, _, rfl, rfl, ?_⟩⟩
      have q := tkv_rng (ms := ms') (show (0 : Int) < 4096 by decide)
      refine ⟨_, _, _, rfl, c'.trans c3, e3, ok'.tail, by omega, ?_⟩
      rw [Int.pow_succ]
      generalize (4096 : Int) ^ i = z at n1 ⊢
      omega
    · obtain ⟨y3, n, ms', rfl, c', e', ok', n0, n1⟩ := hW
      have b := p4096 n0 n1 (show tn.toNat ≤ 16 by omega)
      -- if _law_kind == 1
      refine ⟨_, rfl, rfl, _, rfl, ite2 (fun e => ?_) (fun e => ?_)⟩
      · exact ⟨_, rfl, n, rfl, k _ _ H' c' e' ok' (by rw [Int.natAbs_neg]; exact b)⟩
      · exact ⟨_, rfl, k _ _ H' c' e' ok' b⟩
end
def sp_law_bottom (K : PySem.W.Frag) (ad : Ad) : Sp := fun vs H Q _ => ∃ p ms, vs = [.ref p] ∧ H p = some (pool ms) ∧ PoolOk ms ∧
  ∀ v ms' H', Chg p H H' → H' p = some (pool ms') → PoolOk ms' → v.natAbs < 2 ^ 192 → v ≠ 0 → Q (.int v) H'
theorem st_law_bottom (a0 : V) : start ["_law_pool_here", "_law_number_here"] [a0] = [some a0, none] := rfl
section
variable {P : Program} {w : World} {K : PySem.W.Frag} {mg : Str → Option Value} {base : Heap} {ad : Ad}
theorem ok_law_bottom (T : Txt K mg ad) : FnOk P w K mg base CX0 3 ad.f_law_bottom ad.d_law_bottom ["_law_pool_here"] (sp_law_bottom K ad) := by
  refine T.F_law_bottom.ok sc_law_bottom (fun vs H Q E h => by obtain ⟨p, ms, rfl, _⟩ := h; rfl) (fun cdv A outer s H vs Q E hr h => ?_)
  have hu := hu_of hr
  obtain ⟨p, ms, rfl, hp, ok, k⟩ := h
  refine ⟨_, (pss_cons (ps_set (i := 1) sc_law_bottom.nd rfl (by first | exact Or.inl rfl | exact Or.inr rfl) (pe_call (ok_law_number (P := P) (w := w) (K := K) (mg := mg) (base := base) T) (hr.mono (by decide)) (by rfl) T.g_law_number T.F_law_number.kp T.B_law_number .nil pass0 (pa_cons (pv 0) pa_nil)))
      (pss_cons (ps_if (pt_cmpR op_eq (pv 1) pe_int (nomark _)) (pss_one (ps_ret pe_int)) pss_nil)
      (pss_one (ps_ret (pv 1))))), ?_⟩
  try simp only [cxK, cxK2]
  rw [st_law_bottom]
  refine ⟨_, rfl, p, ms, rfl, hp, ok, fun v ms' H' c e ok' bv => ?_⟩
  refine gs1 ?_
  refine ⟨_, rfl, rfl, _, rfl, ?_⟩
  by_cases hv : v = 0
  · exact iteY (congrArg V.int hv) (k 1 ms' H' c e ok' (Nat.lt_of_lt_of_le (show (1 : Int).natAbs < 2 ^ 1 by decide) (Nat.pow_le_pow_right (by decide) (by decide))) (by decide))
  · exact iteN (neI hv) ⟨_, rfl, k v ms' H' c e ok' bv hv⟩
end
def sp_law_gcd (K : PySem.W.Frag) (ad : Ad) : Sp := fun vs H Q _ => ∃ a b : Int, vs = [.int a, .int b] ∧ a.natAbs < 2 ^ 2000 ∧ b.natAbs < 2 ^ 2000 ∧ Q (.int ((Nat.gcd a.natAbs b.natAbs : Nat) : Int)) H
theorem st_law_gcd (a0 a1 : V) : start ["_law_a", "_law_b", "_law_k", "_law_c"] [a0, a1] = [some a0, some a1, none, none] := rfl
section
variable {P : Program} {w : World} {K : PySem.W.Frag} {mg : Str → Option Value} {base : Heap} {ad : Ad}
theorem ok_law_gcd (T : Txt K mg ad) : FnOk P w K mg base CX0 1 ad.f_law_gcd ad.d_law_gcd ["_law_a", "_law_b"] (sp_law_gcd K ad) := by
  refine T.F_law_gcd.ok sc_law_gcd (fun vs H Q E h => by obtain ⟨a, b, rfl, _⟩ := h; rfl) (fun cdv A outer s H vs Q E hr h => ?_)
  have hu := hu_of hr
  obtain ⟨a, b, rfl, ha, hb, k⟩ := h
  refine ⟨_, (pss_cons (ps_set (i := 0) sc_law_gcd.nd rfl (by first | exact Or.inl rfl | exact Or.inr rfl) (pe_callB call_abs (by rfl) T.z_abs (by decide +kernel) (pa_cons (pv 0) pa_nil)))
      (pss_cons (ps_set (i := 1) sc_law_gcd.nd rfl (by first | exact Or.inl rfl | exact Or.inr rfl) (pe_callB call_abs (by rfl) T.z_abs (by decide +kernel) (pa_cons (pv 1) pa_nil)))
      (pss_cons (ps_for PassesOwn.never rfl (pi_range1 rfl T.z_range (pa_cons pe_int pa_nil)) (pg_name (i := 2) sc_law_gcd.nd rfl (by first | exact Or.inl rfl | exact Or.inr rfl))
      (pss_cons (ps_if (pt_cmpR op_eq (pv 1) pe_int (nomark _)) (pss_one (ps_ret (pv 0))) pss_nil)
      (pss_cons (ps_set (i := 3) sc_law_gcd.nd rfl (by first | exact Or.inl rfl | exact Or.inr rfl) (pe_op op_modN (pe_callTy call_int1 (by rfl) T.z_int (by decide +kernel) (pa_cons (pv 0) pa_nil)) (pv 1)))
      (pss_cons (ps_set (i := 0) sc_law_gcd.nd rfl (by first | exact Or.inl rfl | exact Or.inr rfl) (pv 1))
      (pss_one (ps_set (i := 1) sc_law_gcd.nd rfl (by first | exact Or.inl rfl | exact Or.inr rfl) (pv 3)))))))
      (pss_one (ps_ret (pv 0)))))), ?_⟩
  try simp only [cxK, cxK2]
  rw [st_law_gcd]
  refine ⟨_, rfl, a, rfl, ?_⟩
  refine gs0 ?_
  refine ⟨_, rfl, b, rfl, ?_⟩
  refine gs1 ?_
  rw [abs_nat, abs_nat]
  have S := Euc.start ha hb
  generalize a.natAbs = m at *
  generalize b.natAbs = n at *
  generalize hg : Nat.gcd m n = g at *
  refine ⟨9000, rfl, by decide, by decide, for_range (lo := 0) (n := 9000) (fun i σ H' => ∃ y2 y3, ∃ a b : Nat, σ = [some (.int a), some (.int b), y2, y3] ∧ H' = H ∧ Euc g i a b) ?_ (fun i σ H' hi hW => ?_) (fun σ H' hW => ?_)⟩
  · exact ⟨_, _, m, n, rfl, rfl, S⟩
  · obtain ⟨y2, y3, a, b, rfl, rfl, W⟩ := hW
    refine ⟨_, rfl, rfl, _, rfl, ite2 (fun e => ?_) (fun e => ?_)⟩
    · have e0 : b = 0 := by
        have := of_decide_eq_true e
        injection this with this
        omega
      subst e0
      have eg : a = g := by rw [← W.gc, Nat.gcd_zero_right]
      subst eg
      exact ⟨_, rfl, k⟩
    · have e0 : b ≠ 0 := fun z => e (by subst z; rfl)
      refine ⟨_, rfl, .inl ⟨_, rfl, _, rfl, _, _, rfl, rfl, by omega, ?_⟩⟩
      refine ⟨_, rfl, _, rfl, ?_⟩
      refine ⟨some (.int ((0 : Int) + (i : Nat))), some (.int ((a : Int).fmod b)), b, a % b, ?_, rfl, W.step e0⟩
      rw [← fmod_nat]
      rfl
  · obtain ⟨y2, y3, a, b, rfl, rfl, W⟩ := hW
    have e0 := W.fin
    subst e0
    have eg : a = g := by rw [← W.gc, Nat.gcd_zero_right]
    subst eg
    exact ⟨_, rfl, k⟩
end
def sp_law_is_ratio (K : PySem.W.Frag) (ad : Ad) : Sp := fun vs H Q _ => ∃ p dx t b T0 B0, vs = [.ref p, .int T0, .int B0] ∧ H p = some (ratio ad dx t b) ∧ t.natAbs < 2 ^ 2000 ∧ b.natAbs < 2 ^ 2000 ∧ T0.natAbs < 2 ^ 2000 ∧ B0.natAbs < 2 ^ 2000 ∧ LowT t b T0 B0 ∧ Q (.bl true) H
theorem mul2000 {a b : Int} (ha : a.natAbs < 2 ^ 2000) (hb : b.natAbs < 2 ^ 2000) : CMulW a b := wide_mul (a := 2000) (b := 2000) ha hb (by decide) (by decide) (by decide)
theorem st_law_is_ratio (a0 a1 a2 : V) : start ["_law_ratio", "_law_top", "_law_bottom_here"] [a0, a1, a2] = [some a0, some a1, some a2] := rfl
section
variable {P : Program} {w : World} {K : PySem.W.Frag} {mg : Str → Option Value} {base : Heap} {ad : Ad}
theorem ok_law_is_ratio (T : Txt K mg ad) : FnOk P w K mg base CX0 2 ad.f_law_is_ratio ad.d_law_is_ratio ["_law_ratio", "_law_top", "_law_bottom_here"] (sp_law_is_ratio K ad) := by
  refine T.F_law_is_ratio.ok sc_law_is_ratio (fun vs H Q E h => by obtain ⟨p, dx, t, b, T0, B0, rfl, _⟩ := h; rfl) (fun cdv A outer s H vs Q E hr h => ?_)
  have hu := hu_of hr
  obtain ⟨p, dx, t, b, T0, B0, rfl, hp, ht, hb, hT, hB, L, k⟩ := h
  refine ⟨_, (pss_cons (ps_if (PW.pt (pw_or (pt_not (pt_val (pe_callB call_isi (by rfl) T.z_isinstance (by decide +kernel) (pa_cons (pv 0) (pa_cons (pe_glob (v := .ref ad.c_Ratio) (by rfl) T.g_Ratio rfl) pa_nil))))) (pw_or (pt_not (pt_val (pe_call (ok_law_whole (P := P) (w := w) (K := K) (mg := mg) (base := base) T) (hr.mono (by decide)) (by rfl) T.g_law_whole T.F_law_whole.kp T.B_law_whole .nil pass0 (pa_cons (pe_fld (pv 0) rfl) pa_nil)))) (pw_or1 (pt_not (pt_val (pe_call (ok_law_whole (P := P) (w := w) (K := K) (mg := mg) (base := base) T) (hr.mono (by decide)) (by rfl) T.g_law_whole T.F_law_whole.kp T.B_law_whole .nil pass0 (pa_cons (pe_fld (pv 0) rfl) pa_nil)))))))) (pss_one (ps_ret pe_bl)) pss_nil)
      (pss_cons (ps_if (PW.pt (pw_or (pt_cmpR op_lt (pe_fld (pv 0) rfl) pe_int (nomark _)) (pw_or1 (pt_cmpR op_ne (pe_call (ok_law_gcd (P := P) (w := w) (K := K) (mg := mg) (base := base) T) (hr.mono (by decide)) (by rfl) T.g_law_gcd T.F_law_gcd.kp T.B_law_gcd .nil pass0 (pa_cons (pe_fld (pv 0) rfl) (pa_cons (pe_fld (pv 0) rfl) pa_nil))) pe_int (nomark _))))) (pss_one (ps_ret pe_bl)) pss_nil)
      (pss_one (ps_ret (pe_cmpR op_eq (pe_op op_mulW (pe_fld (pv 0) rfl) (pv 2)) (pe_op op_mulW (pv 1) (pe_fld (pv 0) rfl)) (nomark _)))))), ?_⟩
  try simp only [cxK, cxK2]
  rw [st_law_is_ratio]
  refine ⟨_, rfl, .ref p, .ref ad.c_Ratio, _, _, true, rfl, .own _, ty_ratio (P := P) (w := w) T hp, T.ik_Ratio, true, rfl, iteF ?_⟩
  refine ⟨_, rfl, p, _, _, _, _, rfl, hp, T.cl_Ratio, T.na_Ratio_top, RatioF_top, t, rfl, true, rfl, iteF ?_⟩
  refine ⟨_, rfl, p, _, _, _, _, rfl, hp, T.cl_Ratio, T.na_Ratio_bottom, RatioF_bottom, b, rfl, true, rfl, iteF ?_⟩
  refine ⟨_, rfl, p, _, _, _, _, rfl, hp, T.cl_Ratio, T.na_Ratio_bottom, RatioF_bottom, _, _, rfl, rfl, _, rfl, ?_⟩
  rw [decide_eq_false (show ¬ b < 1 by have := L.pos; omega)]
  refine iteF ⟨_, rfl, p, _, _, _, _, rfl, hp, T.cl_Ratio, T.na_Ratio_top, RatioF_top, _, rfl, p, _, _, _, _, rfl, hp, T.cl_Ratio, T.na_Ratio_bottom, RatioF_bottom, t, b, rfl, ht, hb, rfl, _, rfl, ?_⟩
  rw [L.cop]
  refine iteF ⟨_, rfl, p, _, _, _, _, rfl, hp, T.cl_Ratio, T.na_Ratio_top, RatioF_top, _, rfl, _, _, rfl, rfl, mul2000 ht hB, _, rfl, _, rfl, p, _, _, _, _, rfl, hp, T.cl_Ratio, T.na_Ratio_bottom, RatioF_bottom, _, _, rfl, rfl, mul2000 hT hb, rfl, ?_⟩
  exact dq (Q := fun z => Q (.bl z) H) (congrArg V.int L.val) k
end
def sp_law_refuses (K : PySem.W.Frag) (ad : Ad) : Sp := fun vs H Q _ => ∃ (p dx : Addr) (t b : Int) (v : V) (t2 b2 : Int), vs = [.ref p, v] ∧ H p = some (ratio ad dx t b) ∧ RV ad H v t2 b2 ∧ B5 t b ∧ B5 t2 b2 ∧
  ∀ H', Sub H H' → Q (.bl (decide (t2 = 0))) H'
theorem rF_over {t b : Int} : (rF t b).lookup ("over" : Str) = none := by
  unfold rF
  simp only [List.lookup_cons, show (("over" : Str) == "top") = false by decide +kernel, show (("over" : Str) == "bottom") = false by decide +kernel, List.lookup_nil]
theorem st_law_refuses (a0 a1 : V) : start ["_law_a", "_law_b"] [a0, a1] = [some a0, some a1] := rfl
section
variable {P : Program} {w : World} {K : PySem.W.Frag} {mg : Str → Option Value} {base : Heap} {ad : Ad}
theorem ok_law_refuses (T : Txt K mg ad) : FnOk P w K mg base CX0 5 ad.f_law_refuses ad.d_law_refuses ["_law_a", "_law_b"] (sp_law_refuses K ad) := by
  refine T.F_law_refuses.ok sc_law_refuses (fun vs H Q E h => by obtain ⟨p, dx, t, b, v, t2, b2, rfl, _⟩ := h; rfl) (fun cdv A outer s H vs Q E hr h => ?_)
  have hu := hu_of hr
  obtain ⟨p, dx, t, b, v, t2, b2, rfl, hp, hv, bA, bB, k⟩ := h
  refine ⟨_, (pss_cons (ps_try_only (Wout := fun _ _ _ _ => False) rfl rfl ⟨rfl, by decide, .inl T.g_ZeroBottom⟩ takes0
      (fun W pn xe tk _ => (pss_one (ps_expr (pe_methT (pv 0) T.cl_Ratio T.m_Ratio_over (ok_Ratio_over (P := P) (w := w) (K := K) (mg := mg) (base := base) T) (hr.mono (by decide)) T.B_Ratio_over (fun σ => passAt tk σ) (pa_cons (pv 1) pa_nil)))))
      (fun a oe cls d pn _ _ => (pss_one (ps_ret pe_bl))))
      (pss_one (ps_ret pe_bl))), ?_⟩
  try simp only [cxK, cxK2]
  rw [st_law_refuses]
  refine ⟨_, rfl, p, dx, _, rfl, hp, rF_over, _, rfl, p, dx, t, b, v, t2, b2, rfl, hp, hv, bA, bB, fun hz H' s' => ?_, fun hz r dr H' t' b' s' er L => ?_⟩
  · refine ⟨true, PySem.W.exm_ref T.bs_ZeroBottom T.ec_ZeroBottom.hd T.ty_ZeroBottom T.ss_ZeroBottom, fun _ ea nea => ?_, fun z => (nomatch z)⟩
    have q := k H' s'
    rw [decide_eq_true hz] at q
    exact q
  · have q := k H' s'
    rw [decide_eq_false hz] at q
    exact q
end
def sp_law (K : PySem.W.Frag) : Sp := fun vs H Q _ => ∃ (a : Addr) (ns : List Int), vs = [.ref a] ∧ SqL K H a (ns.map V.int) ∧ ns.length ≤ 63 ∧ ∀ H', Q (.bl true) H'
section
theorem c2 {a : Int} (h : a.natAbs < 2 ^ 192) : a.natAbs < 2 ^ 2000 := Nat.lt_trans h (Nat.pow_lt_pow_right (by decide) (by decide))
theorem c5 {a : Int} (h : a.natAbs < 2 ^ 192) : a.natAbs < 2 ^ 500 := Nat.lt_trans h (Nat.pow_lt_pow_right (by decide) (by decide))
theorem m192 {a b : Int} (ha : a.natAbs < 2 ^ 192) (hb : b.natAbs < 2 ^ 192) : CMulW a b := wide_mul (a := 192) (b := 192) ha hb (by decide) (by decide) (by decide)
theorem n1 {a b : Int} (ha : a.natAbs < 2 ^ 192) (hb : b.natAbs < 2 ^ 192) : (a * b).natAbs < 2 ^ 2000 := u10 (pr5 (c5 ha) (c5 hb))
theorem c10 {a : Int} (h : a.natAbs < 2 ^ 192) : a.natAbs < 2 ^ 1000 := Nat.lt_trans h (Nat.pow_lt_pow_right (by decide) (by decide))
theorem sub5 {a b : Int} (ha : a.natAbs < 2 ^ 1000) (hb : b.natAbs < 2 ^ 1000) : (a - b).natAbs < 2 ^ 1001 := by
  rw [show (1001 : Nat) = 1000 + 1 from rfl, dbl]
  generalize (2 : Nat) ^ 1000 = z at *
  omega
theorem n2a {a b c d : Int} (ha : a.natAbs < 2 ^ 192) (hb : b.natAbs < 2 ^ 192) (hc : c.natAbs < 2 ^ 192) (hd : d.natAbs < 2 ^ 192) : (a * b + c * d).natAbs < 2 ^ 2000 := u11 (sm5 (pr5 (c5 ha) (c5 hb)) (pr5 (c5 hc) (c5 hd)))
theorem n2s {a b c d : Int} (ha : a.natAbs < 2 ^ 192) (hb : b.natAbs < 2 ^ 192) (hc : c.natAbs < 2 ^ 192) (hd : d.natAbs < 2 ^ 192) : (a * b - c * d).natAbs < 2 ^ 2000 := u11 (sub5 (pr5 (c5 ha) (c5 hb)) (pr5 (c5 hc) (c5 hd)))
theorem n3a {a c d : Int} (ha : a.natAbs < 2 ^ 192) (hc : c.natAbs < 2 ^ 192) (hd : d.natAbs < 2 ^ 192) : (a + c * d).natAbs < 2 ^ 2000 := u11 (sm5 (c10 ha) (pr5 (c5 hc) (c5 hd)))
theorem n3s {a c d : Int} (ha : a.natAbs < 2 ^ 192) (hc : c.natAbs < 2 ^ 192) (hd : d.natAbs < 2 ^ 192) : (a - c * d).natAbs < 2 ^ 2000 := u11 (sub5 (c10 ha) (pr5 (c5 hc) (c5 hd)))
theorem n3r {a c d : Int} (ha : a.natAbs < 2 ^ 192) (hc : c.natAbs < 2 ^ 192) (hd : d.natAbs < 2 ^ 192) : (c * d - a).natAbs < 2 ^ 2000 := u11 (sub5 (pr5 (c5 hc) (c5 hd)) (c10 ha))
theorem nn {a : Int} (ha : a.natAbs < 2 ^ 192) : (-a).natAbs < 2 ^ 2000 := by rw [Int.natAbs_neg]; exact c2 ha
theorem mne {a b : Int} (ha : a ≠ 0) (hb : b ≠ 0) : a * b ≠ 0 := fun z => (Int.mul_eq_zero.mp z).elim ha hb
variable {p q r s k a b c d : Int}
theorem vadd (h : a * q = p * b) (g : c * s = r * d) : (a * d + c * b) * (q * s) = (p * s + r * q) * (b * d) := by grind
theorem vsub (h : a * q = p * b) (g : c * s = r * d) : (a * d - c * b) * (q * s) = (p * s - r * q) * (b * d) := by grind
theorem vmul (h : a * q = p * b) (g : c * s = r * d) : (a * c) * (q * s) = (p * r) * (b * d) := by grind
theorem vaddk (h : a * q = p * b) : (a * 1 + k * b) * q = (p + k * q) * (b * 1) := by grind
theorem vsubk (h : a * q = p * b) : (a * 1 - k * b) * q = (p - k * q) * (b * 1) := by grind
theorem vrsubk (h : a * q = p * b) : (k * b - a) * q = (k * q - p) * b := by grind
theorem vmulk (h : a * q = p * b) : (a * k) * q = (p * k) * (b * 1) := by grind
theorem vneg (h : a * q = p * b) : (-a) * q = (-p) * b := by grind
theorem vabs (h : a * q = p * b) (hb : 1 ≤ b) : ((a.natAbs : Nat) : Int) * ((q.natAbs : Nat) : Int) = ((p.natAbs : Nat) : Int) * b := by
  have e := congrArg Int.natAbs h
  rw [Int.natAbs_mul, Int.natAbs_mul] at e
  have eb : b = ((b.natAbs : Nat) : Int) := by omega
  rw [eb, ← Int.natCast_mul, ← Int.natCast_mul, e]
theorem vover (h : a * q = p * b) (g : c * s = r * d) : (a * d) * (q * r) = (p * s) * (b * c) := by grind
theorem voverk (h : a * q = p * b) : (a * 1) * (q * k) = p * (b * k) := by grind
theorem zero5 : (0 : Int).natAbs < 2 ^ 500 := Nat.pow_pos (by decide)
theorem zero2 : (0 : Int).natAbs < 2 ^ 2000 := Nat.pow_pos (by decide)
theorem nT0 (h : q ≠ 0) : nT 0 q = 0 := (Int.mul_eq_zero.mp (nT_mul 0 q)).resolve_right (sd_ne h)
theorem nz5 (hb : q.natAbs < 2 ^ 192) (h : q ≠ 0) : B5 (nT 0 q) (nB 0 q) := ⟨by rw [nT0 h]; exact zero5, Nat.lt_of_le_of_lt (nB_le h) (c5 hb), nB_pos h⟩
theorem mk5 {t b : Int} (ht : t.natAbs < 2 ^ 192) (hb : b.natAbs < 2 ^ 192) (h : b ≠ 0) : B5 (nT t b) (nB t b) := ⟨Nat.lt_of_le_of_lt (nT_le h) (c5 ht), Nat.lt_of_le_of_lt (nB_le h) (c5 hb), nB_pos h⟩
theorem ziff (g : c * s = r * d) (hs : s ≠ 0) (hd : d ≠ 0) : c = 0 ↔ r = 0 := by
  constructor
  · rintro rfl
    rw [Int.zero_mul] at g
    exact (Int.mul_eq_zero.mp g.symm).resolve_right hd
  · rintro rfl
    rw [Int.zero_mul] at g
    exact (Int.mul_eq_zero.mp g).resolve_right hs
theorem dec_z {c r : Int} (h : c = 0 ↔ r = 0) : decide (c = 0) = decide (V.int r = V.int 0) := by
  by_cases z : r = 0
  · rw [decide_eq_true (h.mpr z), decide_eq_true (congrArg V.int z)]
  · rw [decide_eq_false (fun y => z (h.mp y)), decide_eq_false (neI z)]
end
theorem st_law (a0 : V) : start ["_law_script", "_law_pool_here", "_law_p", "_law_q", "_law_r", "_law_s", "_law_k", "_law_a", "_law_b", "_law_good"] [a0] = [some a0, none, none, none, none, none, none, none, none, none] := rfl
section
variable {P : Program} {w : World} {K : PySem.W.Frag} {mg : Str → Option Value} {base : Heap} {ad : Ad}
theorem ok_law (T : Txt K mg ad) : FnOk P w K mg base CX0 6 ad.f_law ad.d_law ["_law_script"] (sp_law K) := by
  refine T.F_law.ok sc_law (fun vs H Q E h => by obtain ⟨a, ns, rfl, _⟩ := h; rfl) (fun cdv A outer s H vs Q E hr h => ?_)
  have hu := hu_of hr
  obtain ⟨a, ns, rfl, hS, hlen, k⟩ := h
  refine ⟨_, (pss_cons (ps_set (i := 1) sc_law.nd rfl (by first | exact Or.inl rfl | exact Or.inr rfl) (pe_call (ok_law_pool (P := P) (w := w) (K := K) (mg := mg) (base := base) T) (hr.mono (by decide)) (by rfl) T.g_law_pool T.F_law_pool.kp T.B_law_pool .nil pass0 (pa_cons (pv 0) pa_nil)))
      (pss_cons (ps_set (i := 2) sc_law.nd rfl (by first | exact Or.inl rfl | exact Or.inr rfl) (pe_call (ok_law_number (P := P) (w := w) (K := K) (mg := mg) (base := base) T) (hr.mono (by decide)) (by rfl) T.g_law_number T.F_law_number.kp T.B_law_number .nil pass0 (pa_cons (pv 1) pa_nil)))
      (pss_cons (ps_set (i := 3) sc_law.nd rfl (by first | exact Or.inl rfl | exact Or.inr rfl) (pe_call (ok_law_bottom (P := P) (w := w) (K := K) (mg := mg) (base := base) T) (hr.mono (by decide)) (by rfl) T.g_law_bottom T.F_law_bottom.kp T.B_law_bottom .nil pass0 (pa_cons (pv 1) pa_nil)))
      (pss_cons (ps_set (i := 4) sc_law.nd rfl (by first | exact Or.inl rfl | exact Or.inr rfl) (pe_call (ok_law_number (P := P) (w := w) (K := K) (mg := mg) (base := base) T) (hr.mono (by decide)) (by rfl) T.g_law_number T.F_law_number.kp T.B_law_number .nil pass0 (pa_cons (pv 1) pa_nil)))
      (pss_cons (ps_set (i := 5) sc_law.nd rfl (by first | exact Or.inl rfl | exact Or.inr rfl) (pe_call (ok_law_bottom (P := P) (w := w) (K := K) (mg := mg) (base := base) T) (hr.mono (by decide)) (by rfl) T.g_law_bottom T.F_law_bottom.kp T.B_law_bottom .nil pass0 (pa_cons (pv 1) pa_nil)))
      (pss_cons (ps_set (i := 6) sc_law.nd rfl (by first | exact Or.inl rfl | exact Or.inr rfl) (pe_call (ok_law_number (P := P) (w := w) (K := K) (mg := mg) (base := base) T) (hr.mono (by decide)) (by rfl) T.g_law_number T.F_law_number.kp T.B_law_number .nil pass0 (pa_cons (pv 1) pa_nil)))
      (pss_cons (ps_set (i := 7) sc_law.nd rfl (by first | exact Or.inl rfl | exact Or.inr rfl) (pe_make T.mk_Ratio (ok_Ratio_init (P := P) (w := w) (K := K) (mg := mg) (base := base) T) (hr.mono (by decide)) (by rfl) T.g_Ratio T.B_Ratio_init .nil passL (pa_cons (pv 2) (pa_cons (pv 3) pa_nil))))
      (pss_cons (ps_set (i := 8) sc_law.nd rfl (by first | exact Or.inl rfl | exact Or.inr rfl) (pe_make T.mk_Ratio (ok_Ratio_init (P := P) (w := w) (K := K) (mg := mg) (base := base) T) (hr.mono (by decide)) (by rfl) T.g_Ratio T.B_Ratio_init .nil passL (pa_cons (pv 4) (pa_cons (pv 5) pa_nil))))
      (pss_cons (ps_set (i := 9) sc_law.nd rfl (by first | exact Or.inl rfl | exact Or.inr rfl) (pe_lst (pa_cons (pe_call (ok_law_is_ratio (P := P) (w := w) (K := K) (mg := mg) (base := base) T) (hr.mono (by decide)) (by rfl) T.g_law_is_ratio T.F_law_is_ratio.kp T.B_law_is_ratio .nil pass0 (pa_cons (pe_op (op_own (ok_Ratio_add (P := P) (w := w) (K := K) (mg := mg) (base := base) T) (hr.mono (by decide)) T.B_Ratio_add pass0 T.sf_Ratio T.m_Ratio_add) (pv 7) (pv 8)) (pa_cons (pe_op op_add (pe_op op_mulW (pv 2) (pv 5)) (pe_op op_mulW (pv 4) (pv 3))) (pa_cons (pe_op op_mulW (pv 3) (pv 5)) pa_nil)))) pa_nil)))
      (pss_cons (ps_expr (pe_bm PySem.F.plainAttrs_list PySem.F.slot_list_append PySem.F.type_list_append mt_append (pv 9) (pa_cons (pe_call (ok_law_is_ratio (P := P) (w := w) (K := K) (mg := mg) (base := base) T) (hr.mono (by decide)) (by rfl) T.g_law_is_ratio T.F_law_is_ratio.kp T.B_law_is_ratio .nil pass0 (pa_cons (pe_op (op_own (ok_Ratio_sub (P := P) (w := w) (K := K) (mg := mg) (base := base) T) (hr.mono (by decide)) T.B_Ratio_sub pass0 T.sf_Ratio T.m_Ratio_sub) (pv 7) (pv 8)) (pa_cons (pe_op op_sub (pe_op op_mulW (pv 2) (pv 5)) (pe_op op_mulW (pv 4) (pv 3))) (pa_cons (pe_op op_mulW (pv 3) (pv 5)) pa_nil)))) pa_nil)))
      (pss_cons (ps_expr (pe_bm PySem.F.plainAttrs_list PySem.F.slot_list_append PySem.F.type_list_append mt_append (pv 9) (pa_cons (pe_call (ok_law_is_ratio (P := P) (w := w) (K := K) (mg := mg) (base := base) T) (hr.mono (by decide)) (by rfl) T.g_law_is_ratio T.F_law_is_ratio.kp T.B_law_is_ratio .nil pass0 (pa_cons (pe_op (op_own (ok_Ratio_mul (P := P) (w := w) (K := K) (mg := mg) (base := base) T) (hr.mono (by decide)) T.B_Ratio_mul pass0 T.sf_Ratio T.m_Ratio_mul) (pv 7) (pv 8)) (pa_cons (pe_op op_mulW (pv 2) (pv 4)) (pa_cons (pe_op op_mulW (pv 3) (pv 5)) pa_nil)))) pa_nil)))
      (pss_cons (ps_expr (pe_bm PySem.F.plainAttrs_list PySem.F.slot_list_append PySem.F.type_list_append mt_append (pv 9) (pa_cons (pe_call (ok_law_is_ratio (P := P) (w := w) (K := K) (mg := mg) (base := base) T) (hr.mono (by decide)) (by rfl) T.g_law_is_ratio T.F_law_is_ratio.kp T.B_law_is_ratio .nil pass0 (pa_cons (pe_op (op_ownI (ok_Ratio_add (P := P) (w := w) (K := K) (mg := mg) (base := base) T) (hr.mono (by decide)) T.B_Ratio_add pass0 T.ow_Ratio_add T.m_Ratio_add) (pv 7) (pv 6)) (pa_cons (pe_op op_add (pv 2) (pe_op op_mulW (pv 6) (pv 3))) (pa_cons (pv 3) pa_nil)))) pa_nil)))
      (pss_cons (ps_expr (pe_bm PySem.F.plainAttrs_list PySem.F.slot_list_append PySem.F.type_list_append mt_append (pv 9) (pa_cons (pe_call (ok_law_is_ratio (P := P) (w := w) (K := K) (mg := mg) (base := base) T) (hr.mono (by decide)) (by rfl) T.g_law_is_ratio T.F_law_is_ratio.kp T.B_law_is_ratio .nil pass0 (pa_cons (pe_op (op_ownR (ok_Ratio_radd (P := P) (w := w) (K := K) (mg := mg) (base := base) T) (hr.mono (by decide)) T.B_Ratio_radd pass0 T.or_Ratio_add T.m_Ratio_radd decl_add) (pv 6) (pv 7)) (pa_cons (pe_op op_add (pv 2) (pe_op op_mulW (pv 6) (pv 3))) (pa_cons (pv 3) pa_nil)))) pa_nil)))
      (pss_cons (ps_expr (pe_bm PySem.F.plainAttrs_list PySem.F.slot_list_append PySem.F.type_list_append mt_append (pv 9) (pa_cons (pe_call (ok_law_is_ratio (P := P) (w := w) (K := K) (mg := mg) (base := base) T) (hr.mono (by decide)) (by rfl) T.g_law_is_ratio T.F_law_is_ratio.kp T.B_law_is_ratio .nil pass0 (pa_cons (pe_op (op_ownI (ok_Ratio_sub (P := P) (w := w) (K := K) (mg := mg) (base := base) T) (hr.mono (by decide)) T.B_Ratio_sub pass0 T.ow_Ratio_sub T.m_Ratio_sub) (pv 7) (pv 6)) (pa_cons (pe_op op_sub (pv 2) (pe_op op_mulW (pv 6) (pv 3))) (pa_cons (pv 3) pa_nil)))) pa_nil)))
      (pss_cons (ps_expr (pe_bm PySem.F.plainAttrs_list PySem.F.slot_list_append PySem.F.type_list_append mt_append (pv 9) (pa_cons (pe_call (ok_law_is_ratio (P := P) (w := w) (K := K) (mg := mg) (base := base) T) (hr.mono (by decide)) (by rfl) T.g_law_is_ratio T.F_law_is_ratio.kp T.B_law_is_ratio .nil pass0 (pa_cons (pe_op (op_ownR (ok_Ratio_rsub (P := P) (w := w) (K := K) (mg := mg) (base := base) T) (hr.mono (by decide)) T.B_Ratio_rsub pass0 T.or_Ratio_sub T.m_Ratio_rsub decl_sub) (pv 6) (pv 7)) (pa_cons (pe_op op_sub (pe_op op_mulW (pv 6) (pv 3)) (pv 2)) (pa_cons (pv 3) pa_nil)))) pa_nil)))
      (pss_cons (ps_expr (pe_bm PySem.F.plainAttrs_list PySem.F.slot_list_append PySem.F.type_list_append mt_append (pv 9) (pa_cons (pe_call (ok_law_is_ratio (P := P) (w := w) (K := K) (mg := mg) (base := base) T) (hr.mono (by decide)) (by rfl) T.g_law_is_ratio T.F_law_is_ratio.kp T.B_law_is_ratio .nil pass0 (pa_cons (pe_op (op_ownI (ok_Ratio_mul (P := P) (w := w) (K := K) (mg := mg) (base := base) T) (hr.mono (by decide)) T.B_Ratio_mul pass0 T.ow_Ratio_mul T.m_Ratio_mul) (pv 7) (pv 6)) (pa_cons (pe_op op_mulW (pv 2) (pv 6)) (pa_cons (pv 3) pa_nil)))) pa_nil)))
      (pss_cons (ps_expr (pe_bm PySem.F.plainAttrs_list PySem.F.slot_list_append PySem.F.type_list_append mt_append (pv 9) (pa_cons (pe_call (ok_law_is_ratio (P := P) (w := w) (K := K) (mg := mg) (base := base) T) (hr.mono (by decide)) (by rfl) T.g_law_is_ratio T.F_law_is_ratio.kp T.B_law_is_ratio .nil pass0 (pa_cons (pe_op (op_ownR (ok_Ratio_rmul (P := P) (w := w) (K := K) (mg := mg) (base := base) T) (hr.mono (by decide)) T.B_Ratio_rmul pass0 T.or_Ratio_mul T.m_Ratio_rmul decl_mul) (pv 6) (pv 7)) (pa_cons (pe_op op_mulW (pv 2) (pv 6)) (pa_cons (pv 3) pa_nil)))) pa_nil)))
      (pss_cons (ps_expr (pe_bm PySem.F.plainAttrs_list PySem.F.slot_list_append PySem.F.type_list_append mt_append (pv 9) (pa_cons (pe_call (ok_law_is_ratio (P := P) (w := w) (K := K) (mg := mg) (base := base) T) (hr.mono (by decide)) (by rfl) T.g_law_is_ratio T.F_law_is_ratio.kp T.B_law_is_ratio .nil pass0 (pa_cons (pe_un (un_ownNeg (ok_Ratio_neg (P := P) (w := w) (K := K) (mg := mg) (base := base) T) (hr.mono (by decide)) T.B_Ratio_neg pass0 T.m_Ratio_neg) (pv 7)) (pa_cons (pe_un un_neg (pv 2)) (pa_cons (pv 3) pa_nil)))) pa_nil)))
      (pss_cons (ps_expr (pe_bm PySem.F.plainAttrs_list PySem.F.slot_list_append PySem.F.type_list_append mt_append (pv 9) (pa_cons (pe_call (ok_law_is_ratio (P := P) (w := w) (K := K) (mg := mg) (base := base) T) (hr.mono (by decide)) (by rfl) T.g_law_is_ratio T.F_law_is_ratio.kp T.B_law_is_ratio .nil pass0 (pa_cons (pe_callB (call_absOwn (ok_Ratio_abs (P := P) (w := w) (K := K) (mg := mg) (base := base) T) (hr.mono (by decide)) T.B_Ratio_abs pass0 T.m_Ratio_abs) (by rfl) T.z_abs (by decide +kernel) (pa_cons (pv 7) pa_nil)) (pa_cons (pe_callB call_abs (by rfl) T.z_abs (by decide +kernel) (pa_cons (pv 2) pa_nil)) (pa_cons (pe_callB call_abs (by rfl) T.z_abs (by decide +kernel) (pa_cons (pv 3) pa_nil)) pa_nil)))) pa_nil)))
      (pss_cons (ps_expr (pe_bm PySem.F.plainAttrs_list PySem.F.slot_list_append PySem.F.type_list_append mt_append (pv 9) (pa_cons (pe_cmpR op_eq (pe_call (ok_law_refuses (P := P) (w := w) (K := K) (mg := mg) (base := base) T) (hr.mono (by decide)) (by rfl) T.g_law_refuses T.F_law_refuses.kp T.B_law_refuses .nil pass0 (pa_cons (pv 7) (pa_cons (pv 8) pa_nil))) (pe_cmpR op_eq (pv 4) pe_int (nomark _)) (nomark _)) pa_nil)))
      (pss_cons (ps_expr (pe_bm PySem.F.plainAttrs_list PySem.F.slot_list_append PySem.F.type_list_append mt_append (pv 9) (pa_cons (pe_cmpR op_eq (pe_call (ok_law_refuses (P := P) (w := w) (K := K) (mg := mg) (base := base) T) (hr.mono (by decide)) (by rfl) T.g_law_refuses T.F_law_refuses.kp T.B_law_refuses .nil pass0 (pa_cons (pv 7) (pa_cons (pv 6) pa_nil))) (pe_cmpR op_eq (pv 6) pe_int (nomark _)) (nomark _)) pa_nil)))
      (pss_cons (ps_expr (pe_bm PySem.F.plainAttrs_list PySem.F.slot_list_append PySem.F.type_list_append mt_append (pv 9) (pa_cons (pe_and (pe_call (ok_law_refuses (P := P) (w := w) (K := K) (mg := mg) (base := base) T) (hr.mono (by decide)) (by rfl) T.g_law_refuses T.F_law_refuses.kp T.B_law_refuses .nil pass0 (pa_cons (pv 7) (pa_cons pe_int pa_nil))) (pe_one (pe_call (ok_law_refuses (P := P) (w := w) (K := K) (mg := mg) (base := base) T) (hr.mono (by decide)) (by rfl) T.g_law_refuses T.F_law_refuses.kp T.B_law_refuses .nil pass0 (pa_cons (pv 8) (pa_cons (pe_make T.mk_Ratio (ok_Ratio_init (P := P) (w := w) (K := K) (mg := mg) (base := base) T) (hr.mono (by decide)) (by rfl) T.g_Ratio T.B_Ratio_init .nil passL (pa_cons pe_int (pa_cons (pv 3) pa_nil))) pa_nil))))) pa_nil)))
      (pss_cons (ps_if (pt_cmpR op_ne (pv 4) pe_int (nomark _)) (pss_one (ps_expr (pe_bm PySem.F.plainAttrs_list PySem.F.slot_list_append PySem.F.type_list_append mt_append (pv 9) (pa_cons (pe_call (ok_law_is_ratio (P := P) (w := w) (K := K) (mg := mg) (base := base) T) (hr.mono (by decide)) (by rfl) T.g_law_is_ratio T.F_law_is_ratio.kp T.B_law_is_ratio .nil pass0 (pa_cons (pe_meth (pv 7) T.cl_Ratio T.m_Ratio_over (ok_Ratio_over (P := P) (w := w) (K := K) (mg := mg) (base := base) T) (hr.mono (by decide)) T.B_Ratio_over .nil passL (pa_cons (pv 8) pa_nil)) (pa_cons (pe_op op_mulW (pv 2) (pv 5)) (pa_cons (pe_op op_mulW (pv 3) (pv 4)) pa_nil)))) pa_nil)))) pss_nil)
      (pss_cons (ps_if (pt_cmpR op_ne (pv 6) pe_int (nomark _)) (pss_one (ps_expr (pe_bm PySem.F.plainAttrs_list PySem.F.slot_list_append PySem.F.type_list_append mt_append (pv 9) (pa_cons (pe_call (ok_law_is_ratio (P := P) (w := w) (K := K) (mg := mg) (base := base) T) (hr.mono (by decide)) (by rfl) T.g_law_is_ratio T.F_law_is_ratio.kp T.B_law_is_ratio .nil pass0 (pa_cons (pe_meth (pv 7) T.cl_Ratio T.m_Ratio_over (ok_Ratio_over (P := P) (w := w) (K := K) (mg := mg) (base := base) T) (hr.mono (by decide)) T.B_Ratio_over .nil passL (pa_cons (pv 6) pa_nil)) (pa_cons (pv 2) (pa_cons (pe_op op_mulW (pv 3) (pv 6)) pa_nil)))) pa_nil)))) pss_nil)
      (pss_cons (ps_expr (pe_bm PySem.F.plainAttrs_list PySem.F.slot_list_append PySem.F.type_list_append mt_append (pv 9) (pa_cons (pe_and (pe_call (ok_law_is_ratio (P := P) (w := w) (K := K) (mg := mg) (base := base) T) (hr.mono (by decide)) (by rfl) T.g_law_is_ratio T.F_law_is_ratio.kp T.B_law_is_ratio .nil pass0 (pa_cons (pv 7) (pa_cons (pv 2) (pa_cons (pv 3) pa_nil)))) (pe_one (pe_call (ok_law_is_ratio (P := P) (w := w) (K := K) (mg := mg) (base := base) T) (hr.mono (by decide)) (by rfl) T.g_law_is_ratio T.F_law_is_ratio.kp T.B_law_is_ratio .nil pass0 (pa_cons (pv 8) (pa_cons (pv 4) (pa_cons (pv 5) pa_nil)))))) pa_nil)))
      (pss_one (ps_ret (pe_cmpR op_notIn_seq pe_bl (pv 9) (by rfl))))))))))))))))))))))))))))), ?_⟩
  try simp only [cxK, cxK2]
  rw [st_law]
  refine ⟨_, rfl, a, ns, rfl, hS, hlen, fun pl m1 H1 np s1 e1 ok1 => ?_⟩
  refine gs1 ?_
  have A := (At.self H).more s1 np e1
  refine ⟨_, rfl, pl, m1, rfl, A.hd, ok1, fun p m2 H2 c2 e2 ok2 bp => ?_⟩
  refine gs2 ?_
  replace A := A.chg c2 e2
  refine ⟨_, rfl, pl, m2, rfl, A.hd, ok2, fun q m3 H3 c3 e3 ok3 bq hq => ?_⟩
  refine gs3 ?_
  replace A := A.chg c3 e3
  refine ⟨_, rfl, pl, m3, rfl, A.hd, ok3, fun r m4 H4 c4 e4 ok4 br => ?_⟩
  refine gs4 ?_
  replace A := A.chg c4 e4
  refine ⟨_, rfl, pl, m4, rfl, A.hd, ok4, fun s_ m5 H5 c5 e5 ok5 bs hs => ?_⟩
  refine gs5 ?_
  replace A := A.chg c5 e5
  refine ⟨_, rfl, pl, m5, rfl, A.hd, ok5, fun kk m6 H6 c6 e6 ok6 bk => ?_⟩
  refine gs6 ?_
  replace A := A.chg c6 e6
  clear c2 c3 c4 c5 c6 e1 e2 e3 e4 e5 e6 s1
  refine ⟨_, rfl, _, rfl, fun ra da nra nda nea => ⟨ra, da, p, q, rfl, upd_same, c2 bp, c2 bq, fun z => absurd z hq, fun _ => ⟨rfl, ?_⟩⟩⟩
  refine gs7 ?_
  replace A := A.more (made (o1 := .ins ad.c_Ratio da []) (o2 := ratio ad da (nT p q) (nB p q)) nra nda) nra upd_same
  generalize upd (upd (upd H6 da (.own ra)) ra (.ins ad.c_Ratio da [])) ra (ratio ad da (nT p q) (nB p q)) = H7 at A ⊢
  refine ⟨_, rfl, _, rfl, fun rb db nrb ndb neb => ⟨rb, db, r, s_, rfl, upd_same, c2 br, c2 bs, fun z => absurd z hs, fun _ => ⟨rfl, ?_⟩⟩⟩
  refine gs8 ?_
  replace A := A.more (made (o1 := .ins ad.c_Ratio db []) (o2 := ratio ad db (nT r s_) (nB r s_)) nrb ndb) nrb upd_same
  generalize upd (upd (upd H7 db (.own rb)) rb (.ins ad.c_Ratio db [])) rb (ratio ad db (nT r s_) (nB r s_)) = H8 at A ⊢
  have La : LowT (nT p q) (nB p q) p q := low_n hq rfl
  have Lb : LowT (nT r s_) (nB r s_) r s_ := low_n hs rfl
  have Ba := mk5 bp bq hq
  have Bb := mk5 br bs hs
  generalize nT p q = at_ at *
  generalize nB p q = ab at *
  generalize nT r s_ = bt at *
  generalize nB r s_ = bb at *
  have hab := mne Ba.ne Bb.ne
  have ha1 : ab * 1 ≠ 0 := by rw [Int.mul_one]; exact Ba.ne
  have hqs := mne hq hs
  have b5k := c5 bk
  have zro := ziff Lb.val hs Bb.ne
  have zr := dec_z zro
  have zk := dec_z (Iff.refl (kk = 0))
  refine ⟨_, rfl, _, rfl, ra, da, _, rb, db, _, rfl, rfl, A.h1, A.hd, ra, da, at_, ab, .ref rb, bt, bb, rfl, A.h1, .inl ⟨rb, db, rfl, A.hd⟩, Ba, Bb, fun r1 d1 H1 t1 b1 s1 e1 L1 => ?_⟩
  have L2 := L1.cast hab (vadd La.val Lb.val)
  have Z := L2.le hqs
  have hN := n2a bp bs br bq
  have hD := n1 bq bs
  refine ⟨_, rfl, _, rfl, _, _, rfl, rfl, m192 bp bs, _, rfl, _, rfl, _, _, rfl, rfl, m192 br bq, _, _, rfl, rfl, _, rfl, _, rfl, _, _, rfl, rfl, m192 bq bs, r1, d1, t1, b1, _, _, rfl, e1, Nat.lt_of_le_of_lt Z.1 hN, Nat.lt_of_le_of_lt Z.2 hD, hN, hD, L2, (by show 1 ≤ sizeLine; decide), fun l nl => ?_⟩
  refine gs9 ?_
  replace A := (A.ext s1).new (o := .lst [.bl true]) nl
  generalize upd H1 l (.lst [.bl true]) = HX at A ⊢
  clear L1 L2 hN hD Z
  refine ⟨_, rfl, .inl ⟨rfl, _, SqL.of A.hd⟩, _, rfl, _, rfl, ra, da, _, rb, db, _, rfl, rfl, A.h2, A.h1, ra, da, at_, ab, .ref rb, bt, bb, rfl, A.h2, .inl ⟨rb, db, rfl, A.h1⟩, Ba, Bb, fun r1 d1 H1 t1 b1 s1 e1 L1 => ?_⟩
  have L2 := L1.cast hab (vsub La.val Lb.val)
  have Z := L2.le hqs
  have hN := n2s bp bs br bq
  have hD := n1 bq bs
  refine ⟨_, rfl, _, rfl, _, _, rfl, rfl, m192 bp bs, _, rfl, _, rfl, _, _, rfl, rfl, m192 br bq, _, _, rfl, rfl, _, rfl, _, rfl, _, _, rfl, rfl, m192 bq bs, r1, d1, t1, b1, _, _, rfl, e1, Nat.lt_of_le_of_lt Z.1 hN, Nat.lt_of_le_of_lt Z.2 hD, hN, hD, L2, l, _, _, rfl, rfl, (A.ext s1).hd, (by show 1 < sizeLine; decide), ?_⟩
  replace A := (A.ext s1).put (u := .lst [V.bl true, V.bl true])
  generalize hX : upd _ l (.lst ([V.bl true] ++ [V.bl true])) = HX
  replace A : At _ _ HX := hX ▸ A
  clear hX
  clear L1 L2 hN hD Z
  refine ⟨_, rfl, .inl ⟨rfl, _, SqL.of A.hd⟩, _, rfl, _, rfl, ra, da, _, rb, db, _, rfl, rfl, A.h2, A.h1, ra, da, at_, ab, .ref rb, bt, bb, rfl, A.h2, .inl ⟨rb, db, rfl, A.h1⟩, Ba, Bb, fun r1 d1 H1 t1 b1 s1 e1 L1 => ?_⟩
  have L2 := L1.cast hab (vmul La.val Lb.val)
  have Z := L2.le hqs
  have hN := n1 bp br
  have hD := n1 bq bs
  refine ⟨_, rfl, _, rfl, _, _, rfl, rfl, m192 bp br, _, rfl, _, rfl, _, _, rfl, rfl, m192 bq bs, r1, d1, t1, b1, _, _, rfl, e1, Nat.lt_of_le_of_lt Z.1 hN, Nat.lt_of_le_of_lt Z.2 hD, hN, hD, L2, l, _, _, rfl, rfl, (A.ext s1).hd, (by show 2 < sizeLine; decide), ?_⟩
  replace A := (A.ext s1).put (u := .lst [V.bl true, V.bl true, V.bl true])
  generalize hX : upd _ l (.lst ([V.bl true, V.bl true] ++ [V.bl true])) = HX
  replace A : At _ _ HX := hX ▸ A
  clear hX
  clear L1 L2 hN hD Z
  refine ⟨_, rfl, .inl ⟨rfl, _, SqL.of A.hd⟩, _, rfl, _, rfl, ra, da, _, kk, rfl, rfl, A.h2, ra, da, at_, ab, .int kk, kk, 1, rfl, A.h2, .inr ⟨rfl, rfl⟩, Ba, b51 b5k, fun r1 d1 H1 t1 b1 s1 e1 L1 => ?_⟩
  have L2 := L1.cast ha1 (vaddk La.val)
  have Z := L2.le hq
  have hN := n3a bp bk bq
  have hD := c2 bq
  refine ⟨_, rfl, _, rfl, _, rfl, _, _, rfl, rfl, m192 bk bq, _, _, rfl, rfl, _, rfl, r1, d1, t1, b1, _, _, rfl, e1, Nat.lt_of_le_of_lt Z.1 hN, Nat.lt_of_le_of_lt Z.2 hD, hN, hD, L2, l, _, _, rfl, rfl, (A.ext s1).hd, (by show 3 < sizeLine; decide), ?_⟩
  replace A := (A.ext s1).put (u := .lst [V.bl true, V.bl true, V.bl true, V.bl true])
  generalize hX : upd _ l (.lst ([V.bl true, V.bl true, V.bl true] ++ [V.bl true])) = HX
  replace A : At _ _ HX := hX ▸ A
  clear hX
  clear L1 L2 hN hD Z
  refine ⟨_, rfl, .inl ⟨rfl, _, SqL.of A.hd⟩, _, rfl, _, rfl, kk, ra, da, _, rfl, rfl, A.h2, ra, da, at_, ab, kk, rfl, A.h2, Ba, b5k, fun r1 d1 H1 t1 b1 s1 e1 L1 => ?_⟩
  have L2 := L1.cast ha1 (vaddk La.val)
  have Z := L2.le hq
  have hN := n3a bp bk bq
  have hD := c2 bq
  refine ⟨_, rfl, _, rfl, _, rfl, _, _, rfl, rfl, m192 bk bq, _, _, rfl, rfl, _, rfl, r1, d1, t1, b1, _, _, rfl, e1, Nat.lt_of_le_of_lt Z.1 hN, Nat.lt_of_le_of_lt Z.2 hD, hN, hD, L2, l, _, _, rfl, rfl, (A.ext s1).hd, (by show 4 < sizeLine; decide), ?_⟩
  replace A := (A.ext s1).put (u := .lst [V.bl true, V.bl true, V.bl true, V.bl true, V.bl true])
  generalize hX : upd _ l (.lst ([V.bl true, V.bl true, V.bl true, V.bl true] ++ [V.bl true])) = HX
  replace A : At _ _ HX := hX ▸ A
  clear hX
  clear L1 L2 hN hD Z
  refine ⟨_, rfl, .inl ⟨rfl, _, SqL.of A.hd⟩, _, rfl, _, rfl, ra, da, _, kk, rfl, rfl, A.h2, ra, da, at_, ab, .int kk, kk, 1, rfl, A.h2, .inr ⟨rfl, rfl⟩, Ba, b51 b5k, fun r1 d1 H1 t1 b1 s1 e1 L1 => ?_⟩
  have L2 := L1.cast ha1 (vsubk La.val)
  have Z := L2.le hq
  have hN := n3s bp bk bq
  have hD := c2 bq
  refine ⟨_, rfl, _, rfl, _, rfl, _, _, rfl, rfl, m192 bk bq, _, _, rfl, rfl, _, rfl, r1, d1, t1, b1, _, _, rfl, e1, Nat.lt_of_le_of_lt Z.1 hN, Nat.lt_of_le_of_lt Z.2 hD, hN, hD, L2, l, _, _, rfl, rfl, (A.ext s1).hd, (by show 5 < sizeLine; decide), ?_⟩
  replace A := (A.ext s1).put (u := .lst [V.bl true, V.bl true, V.bl true, V.bl true, V.bl true, V.bl true])
  generalize hX : upd _ l (.lst ([V.bl true, V.bl true, V.bl true, V.bl true, V.bl true] ++ [V.bl true])) = HX
  replace A : At _ _ HX := hX ▸ A
  clear hX
  clear L1 L2 hN hD Z
  refine ⟨_, rfl, .inl ⟨rfl, _, SqL.of A.hd⟩, _, rfl, _, rfl, kk, ra, da, _, rfl, rfl, A.h2, ra, da, at_, ab, kk, rfl, A.h2, Ba, b5k, fun r1 d1 H1 t1 b1 s1 e1 L1 => ?_⟩
  have L2 := L1.cast Ba.ne (vrsubk La.val)
  have Z := L2.le hq
  have hN := n3r bp bk bq
  have hD := c2 bq
  refine ⟨_, rfl, _, rfl, _, _, rfl, rfl, m192 bk bq, _, rfl, _, _, rfl, rfl, _, rfl, r1, d1, t1, b1, _, _, rfl, e1, Nat.lt_of_le_of_lt Z.1 hN, Nat.lt_of_le_of_lt Z.2 hD, hN, hD, L2, l, _, _, rfl, rfl, (A.ext s1).hd, (by show 6 < sizeLine; decide), ?_⟩
  replace A := (A.ext s1).put (u := .lst [V.bl true, V.bl true, V.bl true, V.bl true, V.bl true, V.bl true, V.bl true])
  generalize hX : upd _ l (.lst ([V.bl true, V.bl true, V.bl true, V.bl true, V.bl true, V.bl true] ++ [V.bl true])) = HX
  replace A : At _ _ HX := hX ▸ A
  clear hX
  clear L1 L2 hN hD Z
  refine ⟨_, rfl, .inl ⟨rfl, _, SqL.of A.hd⟩, _, rfl, _, rfl, ra, da, _, kk, rfl, rfl, A.h2, ra, da, at_, ab, .int kk, kk, 1, rfl, A.h2, .inr ⟨rfl, rfl⟩, Ba, b51 b5k, fun r1 d1 H1 t1 b1 s1 e1 L1 => ?_⟩
  have L2 := L1.cast ha1 (vmulk La.val)
  have Z := L2.le hq
  have hN := n1 bp bk
  have hD := c2 bq
  refine ⟨_, rfl, _, rfl, _, _, rfl, rfl, m192 bp bk, _, rfl, r1, d1, t1, b1, _, _, rfl, e1, Nat.lt_of_le_of_lt Z.1 hN, Nat.lt_of_le_of_lt Z.2 hD, hN, hD, L2, l, _, _, rfl, rfl, (A.ext s1).hd, (by show 7 < sizeLine; decide), ?_⟩
  replace A := (A.ext s1).put (u := .lst [V.bl true, V.bl true, V.bl true, V.bl true, V.bl true, V.bl true, V.bl true, V.bl true])
  generalize hX : upd _ l (.lst ([V.bl true, V.bl true, V.bl true, V.bl true, V.bl true, V.bl true, V.bl true] ++ [V.bl true])) = HX
  replace A : At _ _ HX := hX ▸ A
  clear hX
  clear L1 L2 hN hD Z
  refine ⟨_, rfl, .inl ⟨rfl, _, SqL.of A.hd⟩, _, rfl, _, rfl, kk, ra, da, _, rfl, rfl, A.h2, ra, da, at_, ab, kk, rfl, A.h2, Ba, b5k, fun r1 d1 H1 t1 b1 s1 e1 L1 => ?_⟩
  have L2 := L1.cast ha1 (vmulk La.val)
  have Z := L2.le hq
  have hN := n1 bp bk
  have hD := c2 bq
  refine ⟨_, rfl, _, rfl, _, _, rfl, rfl, m192 bp bk, _, rfl, r1, d1, t1, b1, _, _, rfl, e1, Nat.lt_of_le_of_lt Z.1 hN, Nat.lt_of_le_of_lt Z.2 hD, hN, hD, L2, l, _, _, rfl, rfl, (A.ext s1).hd, (by show 8 < sizeLine; decide), ?_⟩
  replace A := (A.ext s1).put (u := .lst [V.bl true, V.bl true, V.bl true, V.bl true, V.bl true, V.bl true, V.bl true, V.bl true, V.bl true])
  generalize hX : upd _ l (.lst ([V.bl true, V.bl true, V.bl true, V.bl true, V.bl true, V.bl true, V.bl true, V.bl true] ++ [V.bl true])) = HX
  replace A : At _ _ HX := hX ▸ A
  clear hX
  clear L1 L2 hN hD Z
  refine ⟨_, rfl, .inl ⟨rfl, _, SqL.of A.hd⟩, _, rfl, ra, da, _, rfl, A.h2, ra, da, at_, ab, rfl, A.h2, Ba, fun r1 d1 H1 t1 b1 s1 e1 L1 => ?_⟩
  have L2 := L1.cast Ba.ne (vneg La.val)
  have Z := L2.le hq
  have hN := nn bp
  have hD := c2 bq
  refine ⟨_, rfl, _, rfl, _, rfl, r1, d1, t1, b1, _, _, rfl, e1, Nat.lt_of_le_of_lt Z.1 hN, Nat.lt_of_le_of_lt Z.2 hD, hN, hD, L2, l, _, _, rfl, rfl, (A.ext s1).hd, (by show 9 < sizeLine; decide), ?_⟩
  replace A := (A.ext s1).put (u := .lst [V.bl true, V.bl true, V.bl true, V.bl true, V.bl true, V.bl true, V.bl true, V.bl true, V.bl true, V.bl true])
  generalize hX : upd _ l (.lst ([V.bl true, V.bl true, V.bl true, V.bl true, V.bl true, V.bl true, V.bl true, V.bl true, V.bl true] ++ [V.bl true])) = HX
  replace A : At _ _ HX := hX ▸ A
  clear hX
  clear L1 L2 hN hD Z
  refine ⟨_, rfl, .inl ⟨rfl, _, SqL.of A.hd⟩, _, rfl, ra, da, _, rfl, A.h2, ra, da, at_, ab, rfl, A.h2, Ba, fun r1 d1 H1 t1 b1 s1 e1 L1 => ?_⟩
  have L2 := L1.cast Ba.ne (vabs La.val Ba.ps)
  have hN : (((if p < 0 then -p else p) : Int)).natAbs < 2 ^ 192 := by rw [abs_nat, Int.natAbs_natCast]; exact bp
  have hD : (((if q < 0 then -q else q) : Int)).natAbs < 2 ^ 192 := by rw [abs_nat, Int.natAbs_natCast]; exact bq
  have L3 : LowT t1 b1 (if p < 0 then -p else p) (if q < 0 then -q else q) := by rw [abs_nat, abs_nat]; exact L2
  have Z := L3.le (by rw [abs_nat]; omega)
  refine ⟨_, rfl, _, rfl, _, rfl, _, rfl, r1, d1, t1, b1, _, _, rfl, e1, Nat.lt_of_le_of_lt Z.1 (c2 hN), Nat.lt_of_le_of_lt Z.2 (c2 hD), c2 hN, c2 hD, L3, l, _, _, rfl, rfl, (A.ext s1).hd, (by show 10 < sizeLine; decide), ?_⟩
  replace A := (A.ext s1).put (u := .lst [V.bl true, V.bl true, V.bl true, V.bl true, V.bl true, V.bl true, V.bl true, V.bl true, V.bl true, V.bl true, V.bl true])
  generalize hX : upd _ l (.lst ([V.bl true, V.bl true, V.bl true, V.bl true, V.bl true, V.bl true, V.bl true, V.bl true, V.bl true, V.bl true] ++ [V.bl true])) = HX
  replace A : At _ _ HX := hX ▸ A
  clear hX
  clear L1 L2 hN hD Z L3
  refine ⟨_, rfl, .inl ⟨rfl, _, SqL.of A.hd⟩, _, rfl, _, rfl, ra, da, at_, ab, .ref rb, bt, bb, rfl, A.h2, .inl ⟨rb, db, rfl, A.h1⟩, Ba, Bb, fun H1 s1 => ⟨_, rfl, rfl, rfl, l, _, _, rfl, rfl, (A.ext s1).hd, (by show 11 < sizeLine; decide), ?_⟩⟩
  rw [zr, decide_eq_true (rfl : V.bl (decide (V.int r = V.int 0)) = V.bl (decide (V.int r = V.int 0)))]
  replace A := (A.ext s1).put (u := .lst [V.bl true, V.bl true, V.bl true, V.bl true, V.bl true, V.bl true, V.bl true, V.bl true, V.bl true, V.bl true, V.bl true, V.bl true])
  generalize hX : upd _ l (.lst ([V.bl true, V.bl true, V.bl true, V.bl true, V.bl true, V.bl true, V.bl true, V.bl true, V.bl true, V.bl true, V.bl true] ++ [V.bl true])) = HX
  replace A : At _ _ HX := hX ▸ A
  clear hX
  refine ⟨_, rfl, .inl ⟨rfl, _, SqL.of A.hd⟩, _, rfl, _, rfl, ra, da, at_, ab, .int kk, kk, 1, rfl, A.h2, .inr ⟨rfl, rfl⟩, Ba, b51 b5k, fun H1 s1 => ⟨_, rfl, rfl, rfl, l, _, _, rfl, rfl, (A.ext s1).hd, (by show 12 < sizeLine; decide), ?_⟩⟩
  rw [zk, decide_eq_true (rfl : V.bl (decide (V.int kk = V.int 0)) = V.bl (decide (V.int kk = V.int 0)))]
  replace A := (A.ext s1).put (u := .lst [V.bl true, V.bl true, V.bl true, V.bl true, V.bl true, V.bl true, V.bl true, V.bl true, V.bl true, V.bl true, V.bl true, V.bl true, V.bl true])
  generalize hX : upd _ l (.lst ([V.bl true, V.bl true, V.bl true, V.bl true, V.bl true, V.bl true, V.bl true, V.bl true, V.bl true, V.bl true, V.bl true, V.bl true] ++ [V.bl true])) = HX
  replace A : At _ _ HX := hX ▸ A
  clear hX
  refine ⟨_, rfl, .inl ⟨rfl, _, SqL.of A.hd⟩, _, rfl, ra, da, at_, ab, .int 0, 0, 1, rfl, A.h2, .inr ⟨rfl, rfl⟩, Ba, b51 zero5, fun H1 s1 => ⟨true, rfl, iteT ⟨_, rfl, _, rfl, fun r2 d2 nr2 nd2 ne2 => ⟨r2, d2, 0, q, rfl, upd_same, zero2, c2 bq, fun z => absurd z hq, fun _ => ⟨rfl, ?_⟩⟩⟩⟩⟩
  have s2 := s1.trans (made (o1 := .ins ad.c_Ratio d2 []) (o2 := ratio ad d2 (nT 0 q) (nB 0 q)) nr2 nd2)
  refine ⟨rb, db, bt, bb, .ref r2, nT 0 q, nB 0 q, rfl, s2 _ _ A.h1, .inl ⟨r2, d2, rfl, upd_same⟩, Bb, nz5 bq hq, fun H3 s3 => ?_⟩
  rw [decide_eq_true (nT0 hq)]
  refine ⟨l, _, _, rfl, rfl, (A.ext (s2.trans s3)).hd, (by show 13 < sizeLine; decide), ?_⟩
  replace A := (A.ext (s2.trans s3)).put (u := .lst [V.bl true, V.bl true, V.bl true, V.bl true, V.bl true, V.bl true, V.bl true, V.bl true, V.bl true, V.bl true, V.bl true, V.bl true, V.bl true, V.bl true])
  generalize hX : upd _ l (.lst ([V.bl true, V.bl true, V.bl true, V.bl true, V.bl true, V.bl true, V.bl true, V.bl true, V.bl true, V.bl true, V.bl true, V.bl true, V.bl true] ++ [V.bl true])) = HX
  replace A : At _ _ HX := hX ▸ A
  clear hX
  refine ⟨_, rfl, rfl, _, rfl, ?_⟩
  by_cases hr0 : r = 0
  · refine iteNS (congrArg V.int hr0) ?_
    refine ⟨_, rfl, rfl, _, rfl, ?_⟩
    by_cases hk0 : kk = 0
    · refine iteNS (congrArg V.int hk0) ?_
      refine ⟨_, rfl, .inl ⟨rfl, _, SqL.of A.hd⟩, _, rfl, _, rfl, _, rfl, ra, da, at_, ab, p, q, rfl, A.h2, u50 Ba.bt, u50 Ba.bb, c2 bp, c2 bq, La, true, rfl, iteT ⟨_, rfl, _, rfl, _, rfl, rb, db, bt, bb, r, s_, rfl, A.h1, u50 Bb.bt, u50 Bb.bb, c2 br, c2 bs, Lb, l, _, _, rfl, rfl, A.hd, (by show 14 < sizeLine; decide), ?_⟩⟩
      refine ⟨_, rfl, l, _, rfl, .inl (SqL.of upd_same), rfl, rfl, ?_⟩
      exact k _
    · refine iteNT (neI hk0) ?_
      refine ⟨_, rfl, .inl ⟨rfl, _, SqL.of A.hd⟩, _, rfl, ra, da, _, rfl, A.h2, rF_over, _, rfl, ra, da, at_, ab, .int kk, kk, 1, rfl, A.h2, .inr ⟨rfl, rfl⟩, Ba, b51 b5k, fun z => absurd z hk0, fun _ r1 d1 H1 t1 b1 s1 e1 L1 => ?_⟩
      have L2 := L1.cast (mne Ba.ne hk0) (voverk La.val)
      have Z := L2.le (mne hq hk0)
      have hN := c2 bp
      have hD := n1 bq bk
      refine ⟨_, rfl, _, rfl, _, rfl, _, _, rfl, rfl, m192 bq bk, r1, d1, t1, b1, _, _, rfl, e1, Nat.lt_of_le_of_lt Z.1 hN, Nat.lt_of_le_of_lt Z.2 hD, hN, hD, L2, l, _, _, rfl, rfl, (A.ext s1).hd, (by show 14 < sizeLine; decide), ?_⟩
      replace A := (A.ext s1).put (u := .lst [V.bl true, V.bl true, V.bl true, V.bl true, V.bl true, V.bl true, V.bl true, V.bl true, V.bl true, V.bl true, V.bl true, V.bl true, V.bl true, V.bl true, V.bl true])
      generalize hX : upd _ l (.lst ([V.bl true, V.bl true, V.bl true, V.bl true, V.bl true, V.bl true, V.bl true, V.bl true, V.bl true, V.bl true, V.bl true, V.bl true, V.bl true, V.bl true] ++ [V.bl true])) = HX
      replace A : At _ _ HX := hX ▸ A
      clear hX
      clear L1 L2 hN hD Z
      refine ⟨_, rfl, .inl ⟨rfl, _, SqL.of A.hd⟩, _, rfl, _, rfl, _, rfl, ra, da, at_, ab, p, q, rfl, A.h2, u50 Ba.bt, u50 Ba.bb, c2 bp, c2 bq, La, true, rfl, iteT ⟨_, rfl, _, rfl, _, rfl, rb, db, bt, bb, r, s_, rfl, A.h1, u50 Bb.bt, u50 Bb.bb, c2 br, c2 bs, Lb, l, _, _, rfl, rfl, A.hd, (by show 15 < sizeLine; decide), ?_⟩⟩
      refine ⟨_, rfl, l, _, rfl, .inl (SqL.of upd_same), rfl, rfl, ?_⟩
      exact k _
  · refine iteNT (neI hr0) ?_
    have hbt : bt ≠ 0 := fun z => hr0 (zro.mp z)
    refine ⟨_, rfl, .inl ⟨rfl, _, SqL.of A.hd⟩, _, rfl, ra, da, _, rfl, A.h2, rF_over, _, rfl, ra, da, at_, ab, .ref rb, bt, bb, rfl, A.h2, .inl ⟨rb, db, rfl, A.h1⟩, Ba, Bb, fun z => absurd z hbt, fun _ r1 d1 H1 t1 b1 s1 e1 L1 => ?_⟩
    have L2 := L1.cast (mne Ba.ne hbt) (vover La.val Lb.val)
    have Z := L2.le (mne hq hr0)
    have hN := n1 bp bs
    have hD := n1 bq br
    refine ⟨_, rfl, _, rfl, _, _, rfl, rfl, m192 bp bs, _, rfl, _, rfl, _, _, rfl, rfl, m192 bq br, r1, d1, t1, b1, _, _, rfl, e1, Nat.lt_of_le_of_lt Z.1 hN, Nat.lt_of_le_of_lt Z.2 hD, hN, hD, L2, l, _, _, rfl, rfl, (A.ext s1).hd, (by show 14 < sizeLine; decide), ?_⟩
    replace A := (A.ext s1).put (u := .lst [V.bl true, V.bl true, V.bl true, V.bl true, V.bl true, V.bl true, V.bl true, V.bl true, V.bl true, V.bl true, V.bl true, V.bl true, V.bl true, V.bl true, V.bl true])
    generalize hX : upd _ l (.lst ([V.bl true, V.bl true, V.bl true, V.bl true, V.bl true, V.bl true, V.bl true, V.bl true, V.bl true, V.bl true, V.bl true, V.bl true, V.bl true, V.bl true] ++ [V.bl true])) = HX
    replace A : At _ _ HX := hX ▸ A
    clear hX
    clear L1 L2 hN hD Z
    refine ⟨_, rfl, rfl, _, rfl, ?_⟩
    by_cases hk0 : kk = 0
    · refine iteNS (congrArg V.int hk0) ?_
      refine ⟨_, rfl, .inl ⟨rfl, _, SqL.of A.hd⟩, _, rfl, _, rfl, _, rfl, ra, da, at_, ab, p, q, rfl, A.h2, u50 Ba.bt, u50 Ba.bb, c2 bp, c2 bq, La, true, rfl, iteT ⟨_, rfl, _, rfl, _, rfl, rb, db, bt, bb, r, s_, rfl, A.h1, u50 Bb.bt, u50 Bb.bb, c2 br, c2 bs, Lb, l, _, _, rfl, rfl, A.hd, (by show 15 < sizeLine; decide), ?_⟩⟩
      refine ⟨_, rfl, l, _, rfl, .inl (SqL.of upd_same), rfl, rfl, ?_⟩
      exact k _
    · refine iteNT (neI hk0) ?_
      refine ⟨_, rfl, .inl ⟨rfl, _, SqL.of A.hd⟩, _, rfl, ra, da, _, rfl, A.h2, rF_over, _, rfl, ra, da, at_, ab, .int kk, kk, 1, rfl, A.h2, .inr ⟨rfl, rfl⟩, Ba, b51 b5k, fun z => absurd z hk0, fun _ r1 d1 H1 t1 b1 s1 e1 L1 => ?_⟩
      have L2 := L1.cast (mne Ba.ne hk0) (voverk La.val)
      have Z := L2.le (mne hq hk0)
      have hN := c2 bp
      have hD := n1 bq bk
      refine ⟨_, rfl, _, rfl, _, rfl, _, _, rfl, rfl, m192 bq bk, r1, d1, t1, b1, _, _, rfl, e1, Nat.lt_of_le_of_lt Z.1 hN, Nat.lt_of_le_of_lt Z.2 hD, hN, hD, L2, l, _, _, rfl, rfl, (A.ext s1).hd, (by show 15 < sizeLine; decide), ?_⟩
      replace A := (A.ext s1).put (u := .lst [V.bl true, V.bl true, V.bl true, V.bl true, V.bl true, V.bl true, V.bl true, V.bl true, V.bl true, V.bl true, V.bl true, V.bl true, V.bl true, V.bl true, V.bl true, V.bl true])
      generalize hX : upd _ l (.lst ([V.bl true, V.bl true, V.bl true, V.bl true, V.bl true, V.bl true, V.bl true, V.bl true, V.bl true, V.bl true, V.bl true, V.bl true, V.bl true, V.bl true, V.bl true] ++ [V.bl true])) = HX
      replace A : At _ _ HX := hX ▸ A
      clear hX
      clear L1 L2 hN hD Z
      refine ⟨_, rfl, .inl ⟨rfl, _, SqL.of A.hd⟩, _, rfl, _, rfl, _, rfl, ra, da, at_, ab, p, q, rfl, A.h2, u50 Ba.bt, u50 Ba.bb, c2 bp, c2 bq, La, true, rfl, iteT ⟨_, rfl, _, rfl, _, rfl, rb, db, bt, bb, r, s_, rfl, A.h1, u50 Bb.bt, u50 Bb.bb, c2 br, c2 bs, Lb, l, _, _, rfl, rfl, A.hd, (by show 16 < sizeLine; decide), ?_⟩⟩
      refine ⟨_, rfl, l, _, rfl, .inl (SqL.of upd_same), rfl, rfl, ?_⟩
      exact k _
end
theorem all_mk {l : PySem.W.OpenLaw} {w : World} {K : PySem.W.Frag} {h : Heap} {mg : Str → Option Value} {fa : Addr} (X : K.In h) (G : h.Ns mainGlobals mg) (hfa : mg "law" = some (.ref fa))
    {f_Ratio_init f_as_ratio f_Ratio_add f_Ratio_radd f_Ratio_neg f_Ratio_sub f_Ratio_rsub f_Ratio_mul f_Ratio_rmul f_Ratio_abs f_Ratio_over f_law_pool f_law_take f_law_whole f_law_number f_law_bottom f_law_gcd f_law_is_ratio f_law_refuses f_law c_Ratio c_ZeroBottom : Addr}
    {od_Ratio_init an_Ratio_init : Option Addr} {sl_Ratio_init : Array (Option Value)} {oc_Ratio_init kV_Ratio_init dc_Ratio_init pm_Ratio_init cd_Ratio_init ct_Ratio_init : Value}
    {od_as_ratio an_as_ratio : Option Addr} {sl_as_ratio : Array (Option Value)} {oc_as_ratio kV_as_ratio dc_as_ratio pm_as_ratio cd_as_ratio ct_as_ratio : Value}
    {od_Ratio_add an_Ratio_add : Option Addr} {sl_Ratio_add : Array (Option Value)} {oc_Ratio_add kV_Ratio_add dc_Ratio_add pm_Ratio_add cd_Ratio_add ct_Ratio_add : Value}
    {od_Ratio_radd an_Ratio_radd : Option Addr} {sl_Ratio_radd : Array (Option Value)} {oc_Ratio_radd kV_Ratio_radd dc_Ratio_radd pm_Ratio_radd cd_Ratio_radd ct_Ratio_radd : Value}
    {od_Ratio_neg an_Ratio_neg : Option Addr} {sl_Ratio_neg : Array (Option Value)} {oc_Ratio_neg kV_Ratio_neg dc_Ratio_neg pm_Ratio_neg cd_Ratio_neg ct_Ratio_neg : Value}
    {od_Ratio_sub an_Ratio_sub : Option Addr} {sl_Ratio_sub : Array (Option Value)} {oc_Ratio_sub kV_Ratio_sub dc_Ratio_sub pm_Ratio_sub cd_Ratio_sub ct_Ratio_sub : Value}
    {od_Ratio_rsub an_Ratio_rsub : Option Addr} {sl_Ratio_rsub : Array (Option Value)} {oc_Ratio_rsub kV_Ratio_rsub dc_Ratio_rsub pm_Ratio_rsub cd_Ratio_rsub ct_Ratio_rsub : Value}
    {od_Ratio_mul an_Ratio_mul : Option Addr} {sl_Ratio_mul : Array (Option Value)} {oc_Ratio_mul kV_Ratio_mul dc_Ratio_mul pm_Ratio_mul cd_Ratio_mul ct_Ratio_mul : Value}
    {od_Ratio_rmul an_Ratio_rmul : Option Addr} {sl_Ratio_rmul : Array (Option Value)} {oc_Ratio_rmul kV_Ratio_rmul dc_Ratio_rmul pm_Ratio_rmul cd_Ratio_rmul ct_Ratio_rmul : Value}
    {od_Ratio_abs an_Ratio_abs : Option Addr} {sl_Ratio_abs : Array (Option Value)} {oc_Ratio_abs kV_Ratio_abs dc_Ratio_abs pm_Ratio_abs cd_Ratio_abs ct_Ratio_abs : Value}
    {od_Ratio_over an_Ratio_over : Option Addr} {sl_Ratio_over : Array (Option Value)} {oc_Ratio_over kV_Ratio_over dc_Ratio_over pm_Ratio_over cd_Ratio_over ct_Ratio_over : Value}
    {od_law_pool an_law_pool : Option Addr} {sl_law_pool : Array (Option Value)} {oc_law_pool kV_law_pool dc_law_pool pm_law_pool cd_law_pool ct_law_pool : Value}
    {od_law_take an_law_take : Option Addr} {sl_law_take : Array (Option Value)} {oc_law_take kV_law_take dc_law_take pm_law_take cd_law_take ct_law_take : Value}
    {od_law_whole an_law_whole : Option Addr} {sl_law_whole : Array (Option Value)} {oc_law_whole kV_law_whole dc_law_whole pm_law_whole cd_law_whole ct_law_whole : Value}
    {od_law_number an_law_number : Option Addr} {sl_law_number : Array (Option Value)} {oc_law_number kV_law_number dc_law_number pm_law_number cd_law_number ct_law_number : Value}
    {od_law_bottom an_law_bottom : Option Addr} {sl_law_bottom : Array (Option Value)} {oc_law_bottom kV_law_bottom dc_law_bottom pm_law_bottom cd_law_bottom ct_law_bottom : Value}
    {od_law_gcd an_law_gcd : Option Addr} {sl_law_gcd : Array (Option Value)} {oc_law_gcd kV_law_gcd dc_law_gcd pm_law_gcd cd_law_gcd ct_law_gcd : Value}
    {od_law_is_ratio an_law_is_ratio : Option Addr} {sl_law_is_ratio : Array (Option Value)} {oc_law_is_ratio kV_law_is_ratio dc_law_is_ratio pm_law_is_ratio cd_law_is_ratio ct_law_is_ratio : Value}
    {od_law_refuses an_law_refuses : Option Addr} {sl_law_refuses : Array (Option Value)} {oc_law_refuses kV_law_refuses dc_law_refuses pm_law_refuses cd_law_refuses ct_law_refuses : Value}
    {od_law an_law : Option Addr} {sl_law : Array (Option Value)} {oc_law kV_law dc_law pm_law cd_law ct_law : Value}
    (aC_Ratio : PySem.W.nsIn K mainGlobals "Ratio" = some (some (.ref c_Ratio)))
    (aC_ZeroBottom : PySem.W.nsIn K mainGlobals "ZeroBottom" = some (some (.ref c_ZeroBottom)))
    (a_Ratio_init : PySem.W.findIn K (.ref c_Ratio) "__init__" = some (some (.ref f_Ratio_init)))
    (i_Ratio_init : PySem.W.isFn K (.ref f_Ratio_init) = true)
    {tD_Ratio_init : Addr} {tc_Ratio_init : Value} {td_Ratio_init : Option Addr} {tn_Ratio_init : Nat} {ts_Ratio_init : Array (Option Value)} {tk0_Ratio_init : Tok}
    (l_Ratio_init : K.lookup f_Ratio_init = some ⟨oc_Ratio_init, od_Ratio_init, .func (PySem.W.fnOf "__init__" "Ratio.__init__" (defArgs s_Ratio_init) (defBody s_Ratio_init) (defScope s_Ratio_init) (.ref tD_Ratio_init) kV_Ratio_init dc_Ratio_init pm_Ratio_init an_Ratio_init cd_Ratio_init ct_Ratio_init), sl_Ratio_init⟩)
    (lt_Ratio_init : K.lookup tD_Ratio_init = some ⟨tc_Ratio_init, td_Ratio_init, .seq #[.int 1 tk0_Ratio_init] tn_Ratio_init, ts_Ratio_init⟩)
    (co_Ratio_init : PySem.W.codeIn K cd_Ratio_init "Ratio.__init__" = true)
    (k_Ratio_init : PySem.W.keepIn K (.ref f_Ratio_init) = true)
    (a_as_ratio : PySem.W.nsIn K mainGlobals "as_ratio" = some (some (.ref f_as_ratio)))
    (l_as_ratio : K.lookup f_as_ratio = some ⟨oc_as_ratio, od_as_ratio, .func (PySem.W.fnOf "as_ratio" "as_ratio" (defArgs s_as_ratio) (defBody s_as_ratio) (defScope s_as_ratio) .none kV_as_ratio dc_as_ratio pm_as_ratio an_as_ratio cd_as_ratio ct_as_ratio), sl_as_ratio⟩)
    (co_as_ratio : PySem.W.codeIn K cd_as_ratio "as_ratio" = true)
    (k_as_ratio : PySem.W.keepIn K (.ref f_as_ratio) = true)
    (a_Ratio_add : PySem.W.findIn K (.ref c_Ratio) "__add__" = some (some (.ref f_Ratio_add)))
    (i_Ratio_add : PySem.W.isFn K (.ref f_Ratio_add) = true)
    (l_Ratio_add : K.lookup f_Ratio_add = some ⟨oc_Ratio_add, od_Ratio_add, .func (PySem.W.fnOf "__add__" "Ratio.__add__" (defArgs s_Ratio_add) (defBody s_Ratio_add) (defScope s_Ratio_add) .none kV_Ratio_add dc_Ratio_add pm_Ratio_add an_Ratio_add cd_Ratio_add ct_Ratio_add), sl_Ratio_add⟩)
    (co_Ratio_add : PySem.W.codeIn K cd_Ratio_add "Ratio.__add__" = true)
    (k_Ratio_add : PySem.W.keepIn K (.ref f_Ratio_add) = true)
    (a_Ratio_radd : PySem.W.findIn K (.ref c_Ratio) "__radd__" = some (some (.ref f_Ratio_radd)))
    (i_Ratio_radd : PySem.W.isFn K (.ref f_Ratio_radd) = true)
    (l_Ratio_radd : K.lookup f_Ratio_radd = some ⟨oc_Ratio_radd, od_Ratio_radd, .func (PySem.W.fnOf "__radd__" "Ratio.__radd__" (defArgs s_Ratio_radd) (defBody s_Ratio_radd) (defScope s_Ratio_radd) .none kV_Ratio_radd dc_Ratio_radd pm_Ratio_radd an_Ratio_radd cd_Ratio_radd ct_Ratio_radd), sl_Ratio_radd⟩)
    (co_Ratio_radd : PySem.W.codeIn K cd_Ratio_radd "Ratio.__radd__" = true)
    (k_Ratio_radd : PySem.W.keepIn K (.ref f_Ratio_radd) = true)
    (a_Ratio_neg : PySem.W.findIn K (.ref c_Ratio) "__neg__" = some (some (.ref f_Ratio_neg)))
    (i_Ratio_neg : PySem.W.isFn K (.ref f_Ratio_neg) = true)
    (l_Ratio_neg : K.lookup f_Ratio_neg = some ⟨oc_Ratio_neg, od_Ratio_neg, .func (PySem.W.fnOf "__neg__" "Ratio.__neg__" (defArgs s_Ratio_neg) (defBody s_Ratio_neg) (defScope s_Ratio_neg) .none kV_Ratio_neg dc_Ratio_neg pm_Ratio_neg an_Ratio_neg cd_Ratio_neg ct_Ratio_neg), sl_Ratio_neg⟩)
    (co_Ratio_neg : PySem.W.codeIn K cd_Ratio_neg "Ratio.__neg__" = true)
    (k_Ratio_neg : PySem.W.keepIn K (.ref f_Ratio_neg) = true)
    (a_Ratio_sub : PySem.W.findIn K (.ref c_Ratio) "__sub__" = some (some (.ref f_Ratio_sub)))
    (i_Ratio_sub : PySem.W.isFn K (.ref f_Ratio_sub) = true)
    (l_Ratio_sub : K.lookup f_Ratio_sub = some ⟨oc_Ratio_sub, od_Ratio_sub, .func (PySem.W.fnOf "__sub__" "Ratio.__sub__" (defArgs s_Ratio_sub) (defBody s_Ratio_sub) (defScope s_Ratio_sub) .none kV_Ratio_sub dc_Ratio_sub pm_Ratio_sub an_Ratio_sub cd_Ratio_sub ct_Ratio_sub), sl_Ratio_sub⟩)
    (co_Ratio_sub : PySem.W.codeIn K cd_Ratio_sub "Ratio.__sub__" = true)
    (k_Ratio_sub : PySem.W.keepIn K (.ref f_Ratio_sub) = true)
    (a_Ratio_rsub : PySem.W.findIn K (.ref c_Ratio) "__rsub__" = some (some (.ref f_Ratio_rsub)))
    (i_Ratio_rsub : PySem.W.isFn K (.ref f_Ratio_rsub) = true)
    (l_Ratio_rsub : K.lookup f_Ratio_rsub = some ⟨oc_Ratio_rsub, od_Ratio_rsub, .func (PySem.W.fnOf "__rsub__" "Ratio.__rsub__" (defArgs s_Ratio_rsub) (defBody s_Ratio_rsub) (defScope s_Ratio_rsub) .none kV_Ratio_rsub dc_Ratio_rsub pm_Ratio_rsub an_Ratio_rsub cd_Ratio_rsub ct_Ratio_rsub), sl_Ratio_rsub⟩)
    (co_Ratio_rsub : PySem.W.codeIn K cd_Ratio_rsub "Ratio.__rsub__" = true)
    (k_Ratio_rsub : PySem.W.keepIn K (.ref f_Ratio_rsub) = true)
    (a_Ratio_mul : PySem.W.findIn K (.ref c_Ratio) "__mul__" = some (some (.ref f_Ratio_mul)))
    (i_Ratio_mul : PySem.W.isFn K (.ref f_Ratio_mul) = true)
    (l_Ratio_mul : K.lookup f_Ratio_mul = some ⟨oc_Ratio_mul, od_Ratio_mul, .func (PySem.W.fnOf "__mul__" "Ratio.__mul__" (defArgs s_Ratio_mul) (defBody s_Ratio_mul) (defScope s_Ratio_mul) .none kV_Ratio_mul dc_Ratio_mul pm_Ratio_mul an_Ratio_mul cd_Ratio_mul ct_Ratio_mul), sl_Ratio_mul⟩)
    (co_Ratio_mul : PySem.W.codeIn K cd_Ratio_mul "Ratio.__mul__" = true)
    (k_Ratio_mul : PySem.W.keepIn K (.ref f_Ratio_mul) = true)
    (a_Ratio_rmul : PySem.W.findIn K (.ref c_Ratio) "__rmul__" = some (some (.ref f_Ratio_rmul)))
    (i_Ratio_rmul : PySem.W.isFn K (.ref f_Ratio_rmul) = true)
    (l_Ratio_rmul : K.lookup f_Ratio_rmul = some ⟨oc_Ratio_rmul, od_Ratio_rmul, .func (PySem.W.fnOf "__rmul__" "Ratio.__rmul__" (defArgs s_Ratio_rmul) (defBody s_Ratio_rmul) (defScope s_Ratio_rmul) .none kV_Ratio_rmul dc_Ratio_rmul pm_Ratio_rmul an_Ratio_rmul cd_Ratio_rmul ct_Ratio_rmul), sl_Ratio_rmul⟩)
    (co_Ratio_rmul : PySem.W.codeIn K cd_Ratio_rmul "Ratio.__rmul__" = true)
    (k_Ratio_rmul : PySem.W.keepIn K (.ref f_Ratio_rmul) = true)
    (a_Ratio_abs : PySem.W.findIn K (.ref c_Ratio) "__abs__" = some (some (.ref f_Ratio_abs)))
    (i_Ratio_abs : PySem.W.isFn K (.ref f_Ratio_abs) = true)
    (l_Ratio_abs : K.lookup f_Ratio_abs = some ⟨oc_Ratio_abs, od_Ratio_abs, .func (PySem.W.fnOf "__abs__" "Ratio.__abs__" (defArgs s_Ratio_abs) (defBody s_Ratio_abs) (defScope s_Ratio_abs) .none kV_Ratio_abs dc_Ratio_abs pm_Ratio_abs an_Ratio_abs cd_Ratio_abs ct_Ratio_abs), sl_Ratio_abs⟩)
    (co_Ratio_abs : PySem.W.codeIn K cd_Ratio_abs "Ratio.__abs__" = true)
    (k_Ratio_abs : PySem.W.keepIn K (.ref f_Ratio_abs) = true)
    (a_Ratio_over : PySem.W.findIn K (.ref c_Ratio) "over" = some (some (.ref f_Ratio_over)))
    (i_Ratio_over : PySem.W.isFn K (.ref f_Ratio_over) = true)
    (l_Ratio_over : K.lookup f_Ratio_over = some ⟨oc_Ratio_over, od_Ratio_over, .func (PySem.W.fnOf "over" "Ratio.over" (defArgs s_Ratio_over) (defBody s_Ratio_over) (defScope s_Ratio_over) .none kV_Ratio_over dc_Ratio_over pm_Ratio_over an_Ratio_over cd_Ratio_over ct_Ratio_over), sl_Ratio_over⟩)
    (co_Ratio_over : PySem.W.codeIn K cd_Ratio_over "Ratio.over" = true)
    (k_Ratio_over : PySem.W.keepIn K (.ref f_Ratio_over) = true)
    (a_law_pool : PySem.W.nsIn K mainGlobals "_law_pool" = some (some (.ref f_law_pool)))
    (l_law_pool : K.lookup f_law_pool = some ⟨oc_law_pool, od_law_pool, .func (PySem.W.fnOf "_law_pool" "_law_pool" (defArgs s_law_pool) (defBody s_law_pool) (defScope s_law_pool) .none kV_law_pool dc_law_pool pm_law_pool an_law_pool cd_law_pool ct_law_pool), sl_law_pool⟩)
    (co_law_pool : PySem.W.codeIn K cd_law_pool "_law_pool" = true)
    (k_law_pool : PySem.W.keepIn K (.ref f_law_pool) = true)
    (a_law_take : PySem.W.nsIn K mainGlobals "_law_take" = some (some (.ref f_law_take)))
    (l_law_take : K.lookup f_law_take = some ⟨oc_law_take, od_law_take, .func (PySem.W.fnOf "_law_take" "_law_take" (defArgs s_law_take) (defBody s_law_take) (defScope s_law_take) .none kV_law_take dc_law_take pm_law_take an_law_take cd_law_take ct_law_take), sl_law_take⟩)
    (co_law_take : PySem.W.codeIn K cd_law_take "_law_take" = true)
    (k_law_take : PySem.W.keepIn K (.ref f_law_take) = true)
    (a_law_whole : PySem.W.nsIn K mainGlobals "_law_whole" = some (some (.ref f_law_whole)))
    (l_law_whole : K.lookup f_law_whole = some ⟨oc_law_whole, od_law_whole, .func (PySem.W.fnOf "_law_whole" "_law_whole" (defArgs s_law_whole) (defBody s_law_whole) (defScope s_law_whole) .none kV_law_whole dc_law_whole pm_law_whole an_law_whole cd_law_whole ct_law_whole), sl_law_whole⟩)
    (co_law_whole : PySem.W.codeIn K cd_law_whole "_law_whole" = true)
    (k_law_whole : PySem.W.keepIn K (.ref f_law_whole) = true)
    (a_law_number : PySem.W.nsIn K mainGlobals "_law_number" = some (some (.ref f_law_number)))
    (l_law_number : K.lookup f_law_number = some ⟨oc_law_number, od_law_number, .func (PySem.W.fnOf "_law_number" "_law_number" (defArgs s_law_number) (defBody s_law_number) (defScope s_law_number) .none kV_law_number dc_law_number pm_law_number an_law_number cd_law_number ct_law_number), sl_law_number⟩)
    (co_law_number : PySem.W.codeIn K cd_law_number "_law_number" = true)
    (k_law_number : PySem.W.keepIn K (.ref f_law_number) = true)
    (a_law_bottom : PySem.W.nsIn K mainGlobals "_law_bottom" = some (some (.ref f_law_bottom)))
    (l_law_bottom : K.lookup f_law_bottom = some ⟨oc_law_bottom, od_law_bottom, .func (PySem.W.fnOf "_law_bottom" "_law_bottom" (defArgs s_law_bottom) (defBody s_law_bottom) (defScope s_law_bottom) .none kV_law_bottom dc_law_bottom pm_law_bottom an_law_bottom cd_law_bottom ct_law_bottom), sl_law_bottom⟩)
    (co_law_bottom : PySem.W.codeIn K cd_law_bottom "_law_bottom" = true)
    (k_law_bottom : PySem.W.keepIn K (.ref f_law_bottom) = true)
    (a_law_gcd : PySem.W.nsIn K mainGlobals "_law_gcd" = some (some (.ref f_law_gcd)))
    (l_law_gcd : K.lookup f_law_gcd = some ⟨oc_law_gcd, od_law_gcd, .func (PySem.W.fnOf "_law_gcd" "_law_gcd" (defArgs s_law_gcd) (defBody s_law_gcd) (defScope s_law_gcd) .none kV_law_gcd dc_law_gcd pm_law_gcd an_law_gcd cd_law_gcd ct_law_gcd), sl_law_gcd⟩)
    (co_law_gcd : PySem.W.codeIn K cd_law_gcd "_law_gcd" = true)
    (k_law_gcd : PySem.W.keepIn K (.ref f_law_gcd) = true)
    (a_law_is_ratio : PySem.W.nsIn K mainGlobals "_law_is_ratio" = some (some (.ref f_law_is_ratio)))
    (l_law_is_ratio : K.lookup f_law_is_ratio = some ⟨oc_law_is_ratio, od_law_is_ratio, .func (PySem.W.fnOf "_law_is_ratio" "_law_is_ratio" (defArgs s_law_is_ratio) (defBody s_law_is_ratio) (defScope s_law_is_ratio) .none kV_law_is_ratio dc_law_is_ratio pm_law_is_ratio an_law_is_ratio cd_law_is_ratio ct_law_is_ratio), sl_law_is_ratio⟩)
    (co_law_is_ratio : PySem.W.codeIn K cd_law_is_ratio "_law_is_ratio" = true)
    (k_law_is_ratio : PySem.W.keepIn K (.ref f_law_is_ratio) = true)
    (a_law_refuses : PySem.W.nsIn K mainGlobals "_law_refuses" = some (some (.ref f_law_refuses)))
    (l_law_refuses : K.lookup f_law_refuses = some ⟨oc_law_refuses, od_law_refuses, .func (PySem.W.fnOf "_law_refuses" "_law_refuses" (defArgs s_law_refuses) (defBody s_law_refuses) (defScope s_law_refuses) .none kV_law_refuses dc_law_refuses pm_law_refuses an_law_refuses cd_law_refuses ct_law_refuses), sl_law_refuses⟩)
    (co_law_refuses : PySem.W.codeIn K cd_law_refuses "_law_refuses" = true)
    (k_law_refuses : PySem.W.keepIn K (.ref f_law_refuses) = true)
    (a_law : PySem.W.nsIn K mainGlobals "law" = some (some (.ref f_law)))
    (l_law : K.lookup f_law = some ⟨oc_law, od_law, .func (PySem.W.fnOf "law" "law" (defArgs s_law) (defBody s_law) (defScope s_law) .none kV_law dc_law pm_law an_law cd_law ct_law), sl_law⟩)
    (co_law : PySem.W.codeIn K cd_law "law" = true)
    (k_law : PySem.W.keepIn K (.ref f_law) = true)
    (pg_Ratio : PySem.W.plainGet K c_Ratio Str.empty = true)
    (hd_Ratio : PySem.W.hasDictIn K c_Ratio = true)
    (po_Ratio : PySem.W.plainOver K c_Ratio = true)
    (sa_Ratio : PySem.W.findIn K (.ref c_Ratio) "__setattr__" = some (some (.builtin "object.__setattr__")))
    (ms_Ratio : PySem.W.makesIn K c_Ratio = true)
    (kc_Ratio : PySem.W.keepIn K (.ref c_Ratio) = true)
    (na_Ratio_top : PySem.W.findIn K (.ref c_Ratio) "top" = some none)
    (na_Ratio_bottom : PySem.W.findIn K (.ref c_Ratio) "bottom" = some none)
    (sf_Ratio : PySem.W.selfFirst K c_Ratio = true)
    (nf_Ratio : PySem.W.notFirst K c_Ratio (.ref c_Ratio) = true)
    (nfi_Ratio : PySem.W.notFirst K c_Ratio (.type "int") = true)
    (ia_Ratio : PySem.W.findIn K (.ref c_Ratio) "__class__" = some (some (.builtin "object.__class__")))
    (im_Ratio : PySem.W.mroIn K c_Ratio (.type "object") = some true)
    (x_ZeroBottom : PySem.W.excIn K c_ZeroBottom [.type "ValueError", .type "Exception", .type "BaseException", .type "object"] "ValueError.__new__" = true)
    (kp_ZeroBottom : PySem.W.keepIn K (.ref c_ZeroBottom) = true)
    (bs_ZeroBottom : PySem.W.subIn K (.ref c_ZeroBottom) (.type "BaseException") = some true)
    (ty_ZeroBottom : PySem.W.typeIn K (.ref c_ZeroBottom) = some (.type "type"))
    (ss_ZeroBottom : PySem.W.subIn K (.ref c_ZeroBottom) (.ref c_ZeroBottom) = some true)
    (eg_ZeroBottom : PySem.W.findIn K (.ref c_ZeroBottom) "__getattribute__" = some (some (.builtin "BaseException.__getattribute__")))
    (ek_ZeroBottom : PySem.W.findIn K (.ref c_ZeroBottom) "__getattr__" = some none)
    (ed_ZeroBottom : PySem.W.hasDictIn K c_ZeroBottom = true)
    (ea_ZeroBottom : PySem.W.findIn K (.ref c_ZeroBottom) "__class__" = some (some (.builtin "object.__class__")))
    (em_ZeroBottom : PySem.W.mroIn K c_ZeroBottom (.type "object") = some true)
    (kt_int_Ratio : PySem.W.kitOne K (.type "int") (.ref c_Ratio) = some false)
    (ign : PySem.W.specialIn K (.builtin "object.__class__") "__get__" = some (some (.builtin "getset_descriptor.__get__")))
    (igt : PySem.W.takesIn K (.builtin "object.__class__") = some true)
    {fo_Ratio_add ro_Ratio_add : Option Value}
    (r1_Ratio_add : PySem.W.findIn K (.type "int") (PySem.dunder "add") = some fo_Ratio_add)
    (r2_Ratio_add : PySem.W.findIn K (.type "int") (PySem.dunderR "add") = some ro_Ratio_add)
    (r3_Ratio_add : ((fo_Ratio_add.isSome && !isSeqSlot fo_Ratio_add) || (ro_Ratio_add.isSome && !isSeqSlot ro_Ratio_add)) = true)
    (r4_Ratio_add : PySem.W.subIn K (.ref c_Ratio) (.type "int") = some false)
    {fo_Ratio_sub ro_Ratio_sub : Option Value}
    (r1_Ratio_sub : PySem.W.findIn K (.type "int") (PySem.dunder "sub") = some fo_Ratio_sub)
    (r2_Ratio_sub : PySem.W.findIn K (.type "int") (PySem.dunderR "sub") = some ro_Ratio_sub)
    (r3_Ratio_sub : ((fo_Ratio_sub.isSome && !isSeqSlot fo_Ratio_sub) || (ro_Ratio_sub.isSome && !isSeqSlot ro_Ratio_sub)) = true)
    (r4_Ratio_sub : PySem.W.subIn K (.ref c_Ratio) (.type "int") = some false)
    {fo_Ratio_mul ro_Ratio_mul : Option Value}
    (r1_Ratio_mul : PySem.W.findIn K (.type "int") (PySem.dunder "mul") = some fo_Ratio_mul)
    (r2_Ratio_mul : PySem.W.findIn K (.type "int") (PySem.dunderR "mul") = some ro_Ratio_mul)
    (r3_Ratio_mul : ((fo_Ratio_mul.isSome && !isSeqSlot fo_Ratio_mul) || (ro_Ratio_mul.isSome && !isSeqSlot ro_Ratio_mul)) = true)
    (r4_Ratio_mul : PySem.W.subIn K (.ref c_Ratio) (.type "int") = some false)
    {gc_Ratio_add go_Ratio_add gr_Ratio_add : Option Value}
    (w0_Ratio_add : PySem.W.findIn K (.ref c_Ratio) (PySem.dunderR "add") = some gc_Ratio_add)
    (w5_Ratio_add : gc_Ratio_add = none ∨ ∃ g : Addr, gc_Ratio_add = some (.ref g))
    (w1_Ratio_add : PySem.W.findIn K (.type "int") (PySem.dunder "add") = some go_Ratio_add)
    (w2_Ratio_add : PySem.W.findIn K (.type "int") (PySem.dunderR "add") = some gr_Ratio_add)
    (w4_Ratio_add : PySem.W.subIn K (.type "int") (.ref c_Ratio) = some false)
    {gc_Ratio_sub go_Ratio_sub gr_Ratio_sub : Option Value}
    (w0_Ratio_sub : PySem.W.findIn K (.ref c_Ratio) (PySem.dunderR "sub") = some gc_Ratio_sub)
    (w5_Ratio_sub : gc_Ratio_sub = none ∨ ∃ g : Addr, gc_Ratio_sub = some (.ref g))
    (w1_Ratio_sub : PySem.W.findIn K (.type "int") (PySem.dunder "sub") = some go_Ratio_sub)
    (w2_Ratio_sub : PySem.W.findIn K (.type "int") (PySem.dunderR "sub") = some gr_Ratio_sub)
    (w4_Ratio_sub : PySem.W.subIn K (.type "int") (.ref c_Ratio) = some false)
    {gc_Ratio_mul go_Ratio_mul gr_Ratio_mul : Option Value}
    (w0_Ratio_mul : PySem.W.findIn K (.ref c_Ratio) (PySem.dunderR "mul") = some gc_Ratio_mul)
    (w5_Ratio_mul : gc_Ratio_mul = none ∨ ∃ g : Addr, gc_Ratio_mul = some (.ref g))
    (w1_Ratio_mul : PySem.W.findIn K (.type "int") (PySem.dunder "mul") = some go_Ratio_mul)
    (w2_Ratio_mul : PySem.W.findIn K (.type "int") (PySem.dunderR "mul") = some gr_Ratio_mul)
    (w4_Ratio_mul : PySem.W.subIn K (.type "int") (.ref c_Ratio) = some false)
    (z_isinstance : PySem.W.nsIn K mainGlobals "isinstance" = some none)
    (z_abs : PySem.W.nsIn K mainGlobals "abs" = some none)
    (z_range : PySem.W.nsIn K mainGlobals "range" = some none)
    (z_int : PySem.W.nsIn K mainGlobals "int" = some none)
    (z_bool : PySem.W.nsIn K mainGlobals "bool" = some none)
    (r_gcd : PySem.W.nsIn K mainGlobals "gcd" = some (some (.builtin "math.gcd")))
    : ∃ fd : FuncData, (∀ (s : Shared) (v : Value), BindsTo s fd ⟨[v], []⟩ [("_law_script", v)]) ∧ ∀ base : Heap, K.In base → base.Ns mainGlobals mg → FnOk l.prog w K mg base CX0 6 fa fd ["_law_script"] (sp_law K) := by
  have e := hfa.symm.trans (PySem.W.mg_of X G a_law)
  cases e
  have F_Ratio_init : FunD K "__init__" "Ratio.__init__" (defArgs s_Ratio_init) (defBody s_Ratio_init) (defScope s_Ratio_init) [.int 1] [] f_Ratio_init (PySem.W.fnOf "__init__" "Ratio.__init__" (defArgs s_Ratio_init) (defBody s_Ratio_init) (defScope s_Ratio_init) (.ref tD_Ratio_init) kV_Ratio_init dc_Ratio_init pm_Ratio_init an_Ratio_init cd_Ratio_init ct_Ratio_init) := ⟨⟨_, _, _, _, _, _, _, _, _, _, rfl, l_Ratio_init, co_Ratio_init, .inr ⟨by decide, _, _, [.int 1 tk0_Ratio_init], _, rfl, lt_Ratio_init, rfl, .cons ⟨_, rfl⟩ (.nil)⟩, .inl rfl⟩, k_Ratio_init⟩
  have Bz_Ratio_init := F_Ratio_init.binds1 (ps := ["self", "top", "bottom"]) 3 1 (by decide) (by decide) fun T kV doc pm an cdv ct us its h1 h2 => match us, its, h1, h2 with | [_, _, _], [_], _, _ => ⟨_, rfl, rfl⟩
  have B1_Ratio_init := F_Ratio_init.binds1 (ps := ["self", "top", "bottom"]) 2 0 (by decide) (by decide) fun T kV doc pm an cdv ct us its h1 h2 => match us, its, h1, h2 with | [_, _], [_], _, _ => ⟨_, rfl, rfl⟩
  have B_Ratio_init := Tr.binds_z Bz_Ratio_init
  have F_as_ratio := fun_mk (st := s_as_ratio) l_as_ratio co_as_ratio k_as_ratio
  have B_as_ratio := F_as_ratio.binds (ps := ["value"]) fun _ _ _ _ _ _ us hl => match us, hl with | [_], _ => rfl
  have F_Ratio_add := fun_mk (st := s_Ratio_add) l_Ratio_add co_Ratio_add k_Ratio_add
  have B_Ratio_add := F_Ratio_add.binds (ps := ["self", "other"]) fun _ _ _ _ _ _ us hl => match us, hl with | [_, _], _ => rfl
  have F_Ratio_radd := fun_mk (st := s_Ratio_radd) l_Ratio_radd co_Ratio_radd k_Ratio_radd
  have B_Ratio_radd := F_Ratio_radd.binds (ps := ["self", "other"]) fun _ _ _ _ _ _ us hl => match us, hl with | [_, _], _ => rfl
  have F_Ratio_neg := fun_mk (st := s_Ratio_neg) l_Ratio_neg co_Ratio_neg k_Ratio_neg
  have B_Ratio_neg := F_Ratio_neg.binds (ps := ["self"]) fun _ _ _ _ _ _ us hl => match us, hl with | [_], _ => rfl
  have F_Ratio_sub := fun_mk (st := s_Ratio_sub) l_Ratio_sub co_Ratio_sub k_Ratio_sub
  have B_Ratio_sub := F_Ratio_sub.binds (ps := ["self", "other"]) fun _ _ _ _ _ _ us hl => match us, hl with | [_, _], _ => rfl
  have F_Ratio_rsub := fun_mk (st := s_Ratio_rsub) l_Ratio_rsub co_Ratio_rsub k_Ratio_rsub
  have B_Ratio_rsub := F_Ratio_rsub.binds (ps := ["self", "other"]) fun _ _ _ _ _ _ us hl => match us, hl with | [_, _], _ => rfl
  have F_Ratio_mul := fun_mk (st := s_Ratio_mul) l_Ratio_mul co_Ratio_mul k_Ratio_mul
  have B_Ratio_mul := F_Ratio_mul.binds (ps := ["self", "other"]) fun _ _ _ _ _ _ us hl => match us, hl with | [_, _], _ => rfl
  have F_Ratio_rmul := fun_mk (st := s_Ratio_rmul) l_Ratio_rmul co_Ratio_rmul k_Ratio_rmul
  have B_Ratio_rmul := F_Ratio_rmul.binds (ps := ["self", "other"]) fun _ _ _ _ _ _ us hl => match us, hl with | [_, _], _ => rfl
  have F_Ratio_abs := fun_mk (st := s_Ratio_abs) l_Ratio_abs co_Ratio_abs k_Ratio_abs
  have B_Ratio_abs := F_Ratio_abs.binds (ps := ["self"]) fun _ _ _ _ _ _ us hl => match us, hl with | [_], _ => rfl
  have F_Ratio_over := fun_mk (st := s_Ratio_over) l_Ratio_over co_Ratio_over k_Ratio_over
  have B_Ratio_over := F_Ratio_over.binds (ps := ["self", "other"]) fun _ _ _ _ _ _ us hl => match us, hl with | [_, _], _ => rfl
  have F_law_pool := fun_mk (st := s_law_pool) l_law_pool co_law_pool k_law_pool
  have B_law_pool := F_law_pool.binds (ps := ["_law_script"]) fun _ _ _ _ _ _ us hl => match us, hl with | [_], _ => rfl
  have F_law_take := fun_mk (st := s_law_take) l_law_take co_law_take k_law_take
  have B_law_take := F_law_take.binds (ps := ["_law_pool_here", "_law_many"]) fun _ _ _ _ _ _ us hl => match us, hl with | [_, _], _ => rfl
  have F_law_whole := fun_mk (st := s_law_whole) l_law_whole co_law_whole k_law_whole
  have B_law_whole := F_law_whole.binds (ps := ["_law_x"]) fun _ _ _ _ _ _ us hl => match us, hl with | [_], _ => rfl
  have F_law_number := fun_mk (st := s_law_number) l_law_number co_law_number k_law_number
  have B_law_number := F_law_number.binds (ps := ["_law_pool_here"]) fun _ _ _ _ _ _ us hl => match us, hl with | [_], _ => rfl
  have F_law_bottom := fun_mk (st := s_law_bottom) l_law_bottom co_law_bottom k_law_bottom
  have B_law_bottom := F_law_bottom.binds (ps := ["_law_pool_here"]) fun _ _ _ _ _ _ us hl => match us, hl with | [_], _ => rfl
  have F_law_gcd := fun_mk (st := s_law_gcd) l_law_gcd co_law_gcd k_law_gcd
  have B_law_gcd := F_law_gcd.binds (ps := ["_law_a", "_law_b"]) fun _ _ _ _ _ _ us hl => match us, hl with | [_, _], _ => rfl
  have F_law_is_ratio := fun_mk (st := s_law_is_ratio) l_law_is_ratio co_law_is_ratio k_law_is_ratio
  have B_law_is_ratio := F_law_is_ratio.binds (ps := ["_law_ratio", "_law_top", "_law_bottom_here"]) fun _ _ _ _ _ _ us hl => match us, hl with | [_, _, _], _ => rfl
  have F_law_refuses := fun_mk (st := s_law_refuses) l_law_refuses co_law_refuses k_law_refuses
  have B_law_refuses := F_law_refuses.binds (ps := ["_law_a", "_law_b"]) fun _ _ _ _ _ _ us hl => match us, hl with | [_, _], _ => rfl
  have F_law := fun_mk (st := s_law) l_law co_law k_law
  have B_law := F_law.binds (ps := ["_law_script"]) fun _ _ _ _ _ _ us hl => match us, hl with | [_], _ => rfl
  let ad : Ad := { f_Ratio_init := f_Ratio_init, d_Ratio_init := PySem.W.fnOf "__init__" "Ratio.__init__" (defArgs s_Ratio_init) (defBody s_Ratio_init) (defScope s_Ratio_init) (.ref tD_Ratio_init) kV_Ratio_init dc_Ratio_init pm_Ratio_init an_Ratio_init cd_Ratio_init ct_Ratio_init, f_as_ratio := f_as_ratio, d_as_ratio := PySem.W.fnOf "as_ratio" "as_ratio" (defArgs s_as_ratio) (defBody s_as_ratio) (defScope s_as_ratio) .none kV_as_ratio dc_as_ratio pm_as_ratio an_as_ratio cd_as_ratio ct_as_ratio, f_Ratio_add := f_Ratio_add, d_Ratio_add := PySem.W.fnOf "__add__" "Ratio.__add__" (defArgs s_Ratio_add) (defBody s_Ratio_add) (defScope s_Ratio_add) .none kV_Ratio_add dc_Ratio_add pm_Ratio_add an_Ratio_add cd_Ratio_add ct_Ratio_add, f_Ratio_radd := f_Ratio_radd, d_Ratio_radd := PySem.W.fnOf "__radd__" "Ratio.__radd__" (defArgs s_Ratio_radd) (defBody s_Ratio_radd) (defScope s_Ratio_radd) .none kV_Ratio_radd dc_Ratio_radd pm_Ratio_radd an_Ratio_radd cd_Ratio_radd ct_Ratio_radd, f_Ratio_neg := f_Ratio_neg, d_Ratio_neg := PySem.W.fnOf "__neg__" "Ratio.__neg__" (defArgs s_Ratio_neg) (defBody s_Ratio_neg) (defScope s_Ratio_neg) .none kV_Ratio_neg dc_Ratio_neg pm_Ratio_neg an_Ratio_neg cd_Ratio_neg ct_Ratio_neg, f_Ratio_sub := f_Ratio_sub, d_Ratio_sub := PySem.W.fnOf "__sub__" "Ratio.__sub__" (defArgs s_Ratio_sub) (defBody s_Ratio_sub) (defScope s_Ratio_sub) .none kV_Ratio_sub dc_Ratio_sub pm_Ratio_sub an_Ratio_sub cd_Ratio_sub ct_Ratio_sub, f_Ratio_rsub := f_Ratio_rsub, d_Ratio_rsub := PySem.W.fnOf "__rsub__" "Ratio.__rsub__" (defArgs s_Ratio_rsub) (defBody s_Ratio_rsub) (defScope s_Ratio_rsub) .none kV_Ratio_rsub dc_Ratio_rsub pm_Ratio_rsub an_Ratio_rsub cd_Ratio_rsub ct_Ratio_rsub, f_Ratio_mul := f_Ratio_mul, d_Ratio_mul := PySem.W.fnOf "__mul__" "Ratio.__mul__" (defArgs s_Ratio_mul) (defBody s_Ratio_mul) (defScope s_Ratio_mul) .none kV_Ratio_mul dc_Ratio_mul pm_Ratio_mul an_Ratio_mul cd_Ratio_mul ct_Ratio_mul, f_Ratio_rmul := f_Ratio_rmul, d_Ratio_rmul := PySem.W.fnOf "__rmul__" "Ratio.__rmul__" (defArgs s_Ratio_rmul) (defBody s_Ratio_rmul) (defScope s_Ratio_rmul) .none kV_Ratio_rmul dc_Ratio_rmul pm_Ratio_rmul an_Ratio_rmul cd_Ratio_rmul ct_Ratio_rmul, f_Ratio_abs := f_Ratio_abs, d_Ratio_abs := PySem.W.fnOf "__abs__" "Ratio.__abs__" (defArgs s_Ratio_abs) (defBody s_Ratio_abs) (defScope s_Ratio_abs) .none kV_Ratio_abs dc_Ratio_abs pm_Ratio_abs an_Ratio_abs cd_Ratio_abs ct_Ratio_abs, f_Ratio_over := f_Ratio_over, d_Ratio_over := PySem.W.fnOf "over" "Ratio.over" (defArgs s_Ratio_over) (defBody s_Ratio_over) (defScope s_Ratio_over) .none kV_Ratio_over dc_Ratio_over pm_Ratio_over an_Ratio_over cd_Ratio_over ct_Ratio_over, f_law_pool := f_law_pool, d_law_pool := PySem.W.fnOf "_law_pool" "_law_pool" (defArgs s_law_pool) (defBody s_law_pool) (defScope s_law_pool) .none kV_law_pool dc_law_pool pm_law_pool an_law_pool cd_law_pool ct_law_pool, f_law_take := f_law_take, d_law_take := PySem.W.fnOf "_law_take" "_law_take" (defArgs s_law_take) (defBody s_law_take) (defScope s_law_take) .none kV_law_take dc_law_take pm_law_take an_law_take cd_law_take ct_law_take, f_law_whole := f_law_whole, d_law_whole := PySem.W.fnOf "_law_whole" "_law_whole" (defArgs s_law_whole) (defBody s_law_whole) (defScope s_law_whole) .none kV_law_whole dc_law_whole pm_law_whole an_law_whole cd_law_whole ct_law_whole, f_law_number := f_law_number, d_law_number := PySem.W.fnOf "_law_number" "_law_number" (defArgs s_law_number) (defBody s_law_number) (defScope s_law_number) .none kV_law_number dc_law_number pm_law_number an_law_number cd_law_number ct_law_number, f_law_bottom := f_law_bottom, d_law_bottom := PySem.W.fnOf "_law_bottom" "_law_bottom" (defArgs s_law_bottom) (defBody s_law_bottom) (defScope s_law_bottom) .none kV_law_bottom dc_law_bottom pm_law_bottom an_law_bottom cd_law_bottom ct_law_bottom, f_law_gcd := f_law_gcd, d_law_gcd := PySem.W.fnOf "_law_gcd" "_law_gcd" (defArgs s_law_gcd) (defBody s_law_gcd) (defScope s_law_gcd) .none kV_law_gcd dc_law_gcd pm_law_gcd an_law_gcd cd_law_gcd ct_law_gcd, f_law_is_ratio := f_law_is_ratio, d_law_is_ratio := PySem.W.fnOf "_law_is_ratio" "_law_is_ratio" (defArgs s_law_is_ratio) (defBody s_law_is_ratio) (defScope s_law_is_ratio) .none kV_law_is_ratio dc_law_is_ratio pm_law_is_ratio an_law_is_ratio cd_law_is_ratio ct_law_is_ratio, f_law_refuses := f_law_refuses, d_law_refuses := PySem.W.fnOf "_law_refuses" "_law_refuses" (defArgs s_law_refuses) (defBody s_law_refuses) (defScope s_law_refuses) .none kV_law_refuses dc_law_refuses pm_law_refuses an_law_refuses cd_law_refuses ct_law_refuses, f_law := fa, d_law := PySem.W.fnOf "law" "law" (defArgs s_law) (defBody s_law) (defScope s_law) .none kV_law dc_law pm_law an_law cd_law ct_law, c_Ratio := c_Ratio, c_ZeroBottom := c_ZeroBottom }
  have T : Txt K mg ad := { F_Ratio_init := F_Ratio_init, B_Ratio_init := B_Ratio_init, B1_Ratio_init := B1_Ratio_init, m_Ratio_init := ⟨a_Ratio_init, i_Ratio_init, k_Ratio_init⟩, F_as_ratio := F_as_ratio, B_as_ratio := B_as_ratio, g_as_ratio := PySem.W.mg_of X G a_as_ratio, F_Ratio_add := F_Ratio_add, B_Ratio_add := B_Ratio_add, m_Ratio_add := ⟨a_Ratio_add, i_Ratio_add, k_Ratio_add⟩, F_Ratio_radd := F_Ratio_radd, B_Ratio_radd := B_Ratio_radd, m_Ratio_radd := ⟨a_Ratio_radd, i_Ratio_radd, k_Ratio_radd⟩, F_Ratio_neg := F_Ratio_neg, B_Ratio_neg := B_Ratio_neg, m_Ratio_neg := ⟨a_Ratio_neg, i_Ratio_neg, k_Ratio_neg⟩, F_Ratio_sub := F_Ratio_sub, B_Ratio_sub := B_Ratio_sub, m_Ratio_sub := ⟨a_Ratio_sub, i_Ratio_sub, k_Ratio_sub⟩, F_Ratio_rsub := F_Ratio_rsub, B_Ratio_rsub := B_Ratio_rsub, m_Ratio_rsub := ⟨a_Ratio_rsub, i_Ratio_rsub, k_Ratio_rsub⟩, F_Ratio_mul := F_Ratio_mul, B_Ratio_mul := B_Ratio_mul, m_Ratio_mul := ⟨a_Ratio_mul, i_Ratio_mul, k_Ratio_mul⟩, F_Ratio_rmul := F_Ratio_rmul, B_Ratio_rmul := B_Ratio_rmul, m_Ratio_rmul := ⟨a_Ratio_rmul, i_Ratio_rmul, k_Ratio_rmul⟩, F_Ratio_abs := F_Ratio_abs, B_Ratio_abs := B_Ratio_abs, m_Ratio_abs := ⟨a_Ratio_abs, i_Ratio_abs, k_Ratio_abs⟩, F_Ratio_over := F_Ratio_over, B_Ratio_over := B_Ratio_over, m_Ratio_over := ⟨a_Ratio_over, i_Ratio_over, k_Ratio_over⟩, F_law_pool := F_law_pool, B_law_pool := B_law_pool, g_law_pool := PySem.W.mg_of X G a_law_pool, F_law_take := F_law_take, B_law_take := B_law_take, g_law_take := PySem.W.mg_of X G a_law_take, F_law_whole := F_law_whole, B_law_whole := B_law_whole, g_law_whole := PySem.W.mg_of X G a_law_whole, F_law_number := F_law_number, B_law_number := B_law_number, g_law_number := PySem.W.mg_of X G a_law_number, F_law_bottom := F_law_bottom, B_law_bottom := B_law_bottom, g_law_bottom := PySem.W.mg_of X G a_law_bottom, F_law_gcd := F_law_gcd, B_law_gcd := B_law_gcd, g_law_gcd := PySem.W.mg_of X G a_law_gcd, F_law_is_ratio := F_law_is_ratio, B_law_is_ratio := B_law_is_ratio, g_law_is_ratio := PySem.W.mg_of X G a_law_is_ratio, F_law_refuses := F_law_refuses, B_law_refuses := B_law_refuses, g_law_refuses := PySem.W.mg_of X G a_law_refuses, F_law := F_law, B_law := B_law, g_law := PySem.W.mg_of X G a_law, cl_Ratio := ⟨pg_Ratio, hd_Ratio, po_Ratio, sa_Ratio⟩, g_Ratio := PySem.W.mg_of X G aC_Ratio, mk_Ratio := ⟨ms_Ratio, a_Ratio_init, i_Ratio_init, kc_Ratio⟩, na_Ratio_top := na_Ratio_top, na_Ratio_bottom := na_Ratio_bottom, sf_Ratio := sf_Ratio, nf_Ratio := nf_Ratio, nfi_Ratio := nfi_Ratio, ia_Ratio := ia_Ratio, im_Ratio := im_Ratio, ik_Ratio := kit_self, ign := ign, igt := igt, x_ZeroBottom := x_ZeroBottom, kp_ZeroBottom := kp_ZeroBottom, bs_ZeroBottom := bs_ZeroBottom, ty_ZeroBottom := ty_ZeroBottom, ss_ZeroBottom := ss_ZeroBottom, g_ZeroBottom := PySem.W.mg_of X G aC_ZeroBottom, ec_ZeroBottom := excC_of eg_ZeroBottom ek_ZeroBottom bs_ZeroBottom ed_ZeroBottom ea_ZeroBottom ign igt em_ZeroBottom, kt_int_Ratio := kt_int_Ratio, or_Ratio_add := ⟨sf_Ratio, ⟨_, a_Ratio_add⟩, ⟨_, _, r1_Ratio_add, r2_Ratio_add, r3_Ratio_add⟩, r4_Ratio_add⟩, or_Ratio_sub := ⟨sf_Ratio, ⟨_, a_Ratio_sub⟩, ⟨_, _, r1_Ratio_sub, r2_Ratio_sub, r3_Ratio_sub⟩, r4_Ratio_sub⟩, or_Ratio_mul := ⟨sf_Ratio, ⟨_, a_Ratio_mul⟩, ⟨_, _, r1_Ratio_mul, r2_Ratio_mul, r3_Ratio_mul⟩, r4_Ratio_mul⟩, ow_Ratio_add := ⟨sf_Ratio, ⟨_, w0_Ratio_add, w5_Ratio_add⟩, ⟨_, w1_Ratio_add⟩, ⟨_, w2_Ratio_add⟩, w4_Ratio_add⟩, ow_Ratio_sub := ⟨sf_Ratio, ⟨_, w0_Ratio_sub, w5_Ratio_sub⟩, ⟨_, w1_Ratio_sub⟩, ⟨_, w2_Ratio_sub⟩, w4_Ratio_sub⟩, ow_Ratio_mul := ⟨sf_Ratio, ⟨_, w0_Ratio_mul, w5_Ratio_mul⟩, ⟨_, w1_Ratio_mul⟩, ⟨_, w2_Ratio_mul⟩, w4_Ratio_mul⟩, z_isinstance := PySem.W.mg_none_of X G z_isinstance, z_abs := PySem.W.mg_none_of X G z_abs, z_range := PySem.W.mg_none_of X G z_range, z_int := PySem.W.mg_none_of X G z_int, z_bool := PySem.W.mg_none_of X G z_bool, z_gcd := PySem.W.mg_of X G r_gcd }
  exact ⟨_, fun s v => .of_eq rfl, fun base _ _ => ok_law T⟩
end K02
open PySem PySem.W PyProof.Rows
set_option maxRecDepth 100000 in
set_option maxHeartbeats 0 in
theorem PySem.Challenge.cw_toldridges_k02_ratio_arithmetic_holds : PySem.Challenge.rw_toldridges_k02_ratio_arithmetic.Holds := by
  w_on; o_law; k_head; (case hw => w_witness2)
  k_fill
  refine L2.walk_of (l := PySem.Challenge.rw_toldridges_k02_ratio_arithmetic) (n := 63) (k := 6) (x := "_law_script") (CX := fun _ => L2.CX0) (sp := fun w => K02.sp_law _) rfl (by decide) rfl ⟨rfl, by decide, by decide⟩ (fun w h Y => PySem.W.kIn_of Y) ?F (fun _ _ a ns hl _ hS => ⟨a, ns, rfl, hS, hl, fun _ => rfl⟩) (fun _ _ _ _ _ h => h)
  case F =>
    intro w mg fa h KX G hmg
    refine' K02.all_mk KX G hmg ?aC_Ratio ?aC_ZeroBottom ?a_Ratio_init ?i_Ratio_init ?l_Ratio_init ?lt_Ratio_init ?co_Ratio_init ?k_Ratio_init ?a_as_ratio ?l_as_ratio ?co_as_ratio ?k_as_ratio ?a_Ratio_add ?i_Ratio_add ?l_Ratio_add ?co_Ratio_add ?k_Ratio_add ?a_Ratio_radd ?i_Ratio_radd ?l_Ratio_radd ?co_Ratio_radd ?k_Ratio_radd ?a_Ratio_neg ?i_Ratio_neg ?l_Ratio_neg ?co_Ratio_neg ?k_Ratio_neg ?a_Ratio_sub ?i_Ratio_sub ?l_Ratio_sub ?co_Ratio_sub ?k_Ratio_sub ?a_Ratio_rsub ?i_Ratio_rsub ?l_Ratio_rsub ?co_Ratio_rsub ?k_Ratio_rsub ?a_Ratio_mul ?i_Ratio_mul ?l_Ratio_mul ?co_Ratio_mul ?k_Ratio_mul ?a_Ratio_rmul ?i_Ratio_rmul ?l_Ratio_rmul ?co_Ratio_rmul ?k_Ratio_rmul ?a_Ratio_abs ?i_Ratio_abs ?l_Ratio_abs ?co_Ratio_abs ?k_Ratio_abs ?a_Ratio_over ?i_Ratio_over ?l_Ratio_over ?co_Ratio_over ?k_Ratio_over ?a_law_pool ?l_law_pool ?co_law_pool ?k_law_pool ?a_law_take ?l_law_take ?co_law_take ?k_law_take ?a_law_whole ?l_law_whole ?co_law_whole ?k_law_whole ?a_law_number ?l_law_number ?co_law_number ?k_law_number ?a_law_bottom ?l_law_bottom ?co_law_bottom ?k_law_bottom ?a_law_gcd ?l_law_gcd ?co_law_gcd ?k_law_gcd ?a_law_is_ratio ?l_law_is_ratio ?co_law_is_ratio ?k_law_is_ratio ?a_law_refuses ?l_law_refuses ?co_law_refuses ?k_law_refuses ?a_law ?l_law ?co_law ?k_law ?pg_Ratio ?hd_Ratio ?po_Ratio ?sa_Ratio ?ms_Ratio ?kc_Ratio ?na_Ratio_top ?na_Ratio_bottom ?sf_Ratio ?nf_Ratio ?nfi_Ratio ?ia_Ratio ?im_Ratio ?x_ZeroBottom ?kp_ZeroBottom ?bs_ZeroBottom ?ty_ZeroBottom ?ss_ZeroBottom ?eg_ZeroBottom ?ek_ZeroBottom ?ed_ZeroBottom ?ea_ZeroBottom ?em_ZeroBottom ?kt_int_Ratio ?ign ?igt ?r1_Ratio_add ?r2_Ratio_add ?r3_Ratio_add ?r4_Ratio_add ?r1_Ratio_sub ?r2_Ratio_sub ?r3_Ratio_sub ?r4_Ratio_sub ?r1_Ratio_mul ?r2_Ratio_mul ?r3_Ratio_mul ?r4_Ratio_mul ?w0_Ratio_add ?w5_Ratio_add ?w1_Ratio_add ?w2_Ratio_add ?w4_Ratio_add ?w0_Ratio_sub ?w5_Ratio_sub ?w1_Ratio_sub ?w2_Ratio_sub ?w4_Ratio_sub ?w0_Ratio_mul ?w5_Ratio_mul ?w1_Ratio_mul ?w2_Ratio_mul ?w4_Ratio_mul ?z_isinstance ?z_abs ?z_range ?z_int ?z_bool ?r_gcd
    (case aC_Ratio => k_is)
    (case aC_ZeroBottom => k_is)
    (case a_Ratio_init => k_is)
    (case i_Ratio_init => k_is)
    (case l_Ratio_init => k_is)
    (case lt_Ratio_init => k_is)
    (case co_Ratio_init => k_is)
    (case k_Ratio_init => k_is)
    (case a_as_ratio => k_is)
    (case l_as_ratio => k_is)
    (case co_as_ratio => k_is)
    (case k_as_ratio => k_is)
    (case a_Ratio_add => k_is)
    (case i_Ratio_add => k_is)
    (case l_Ratio_add => k_is)
    (case co_Ratio_add => k_is)
    (case k_Ratio_add => k_is)
    (case a_Ratio_radd => k_is)
    (case i_Ratio_radd => k_is)
    (case l_Ratio_radd => k_is)
    (case co_Ratio_radd => k_is)
    (case k_Ratio_radd => k_is)
    (case a_Ratio_neg => k_is)
    (case i_Ratio_neg => k_is)
    (case l_Ratio_neg => k_is)
    (case co_Ratio_neg => k_is)
    (case k_Ratio_neg => k_is)
    (case a_Ratio_sub => k_is)
    (case i_Ratio_sub => k_is)
    (case l_Ratio_sub => k_is)
    (case co_Ratio_sub => k_is)
    (case k_Ratio_sub => k_is)
    (case a_Ratio_rsub => k_is)
    (case i_Ratio_rsub => k_is)
    (case l_Ratio_rsub => k_is)
    (case co_Ratio_rsub => k_is)
    (case k_Ratio_rsub => k_is)
    (case a_Ratio_mul => k_is)
    (case i_Ratio_mul => k_is)
    (case l_Ratio_mul => k_is)
    (case co_Ratio_mul => k_is)
    (case k_Ratio_mul => k_is)
    (case a_Ratio_rmul => k_is)
    (case i_Ratio_rmul => k_is)
    (case l_Ratio_rmul => k_is)
    (case co_Ratio_rmul => k_is)
    (case k_Ratio_rmul => k_is)
    (case a_Ratio_abs => k_is)
    (case i_Ratio_abs => k_is)
    (case l_Ratio_abs => k_is)
    (case co_Ratio_abs => k_is)
    (case k_Ratio_abs => k_is)
    (case a_Ratio_over => k_is)
    (case i_Ratio_over => k_is)
    (case l_Ratio_over => k_is)
    (case co_Ratio_over => k_is)
    (case k_Ratio_over => k_is)
    (case a_law_pool => k_is)
    (case l_law_pool => k_is)
    (case co_law_pool => k_is)
    (case k_law_pool => k_is)
    (case a_law_take => k_is)
    (case l_law_take => k_is)
    (case co_law_take => k_is)
    (case k_law_take => k_is)
    (case a_law_whole => k_is)
    (case l_law_whole => k_is)
    (case co_law_whole => k_is)
    (case k_law_whole => k_is)
    (case a_law_number => k_is)
    (case l_law_number => k_is)
    (case co_law_number => k_is)
    (case k_law_number => k_is)
    (case a_law_bottom => k_is)
    (case l_law_bottom => k_is)
    (case co_law_bottom => k_is)
    (case k_law_bottom => k_is)
    (case a_law_gcd => k_is)
    (case l_law_gcd => k_is)
    (case co_law_gcd => k_is)
    (case k_law_gcd => k_is)
    (case a_law_is_ratio => k_is)
    (case l_law_is_ratio => k_is)
    (case co_law_is_ratio => k_is)
    (case k_law_is_ratio => k_is)
    (case a_law_refuses => k_is)
    (case l_law_refuses => k_is)
    (case co_law_refuses => k_is)
    (case k_law_refuses => k_is)
    (case a_law => k_is)
    (case l_law => k_is)
    (case co_law => k_is)
    (case k_law => k_is)
    (case pg_Ratio => k_is)
    (case hd_Ratio => k_is)
    (case po_Ratio => k_is)
    (case sa_Ratio => k_is)
    (case ms_Ratio => k_is)
    (case kc_Ratio => k_is)
    (case na_Ratio_top => k_is)
    (case na_Ratio_bottom => k_is)
    (case sf_Ratio => k_is)
    (case nf_Ratio => k_is)
    (case nfi_Ratio => k_is)
    (case ia_Ratio => k_is)
    (case im_Ratio => k_is)
    (case x_ZeroBottom => k_exc)
    (case kp_ZeroBottom => k_is)
    (case bs_ZeroBottom => k_is)
    (case ty_ZeroBottom => k_is)
    (case ss_ZeroBottom => k_is)
    (case eg_ZeroBottom => k_is)
    (case ek_ZeroBottom => k_is)
    (case ed_ZeroBottom => k_is)
    (case ea_ZeroBottom => k_is)
    (case em_ZeroBottom => k_is)
    (case kt_int_Ratio => kit_is)
    (case ign => k_is)
    (case igt => k_is)
    (case r1_Ratio_add => k_is)
    (case r2_Ratio_add => k_is)
    (case r3_Ratio_add => decide +kernel)
    (case r4_Ratio_add => k_is)
    (case r1_Ratio_sub => k_is)
    (case r2_Ratio_sub => k_is)
    (case r3_Ratio_sub => decide +kernel)
    (case r4_Ratio_sub => k_is)
    (case r1_Ratio_mul => k_is)
    (case r2_Ratio_mul => k_is)
    (case r3_Ratio_mul => decide +kernel)
    (case r4_Ratio_mul => k_is)
    (case w0_Ratio_add => k_is)
    (case w5_Ratio_add => first | exact .inl rfl | exact .inr ⟨_, rfl⟩)
    (case w1_Ratio_add => k_is)
    (case w2_Ratio_add => k_is)
    (case w4_Ratio_add => k_is)
    (case w0_Ratio_sub => k_is)
    (case w5_Ratio_sub => first | exact .inl rfl | exact .inr ⟨_, rfl⟩)
    (case w1_Ratio_sub => k_is)
    (case w2_Ratio_sub => k_is)
    (case w4_Ratio_sub => k_is)
    (case w0_Ratio_mul => k_is)
    (case w5_Ratio_mul => first | exact .inl rfl | exact .inr ⟨_, rfl⟩)
    (case w1_Ratio_mul => k_is)
    (case w2_Ratio_mul => k_is)
    (case w4_Ratio_mul => k_is)
    (case z_isinstance => k_is)
    (case z_abs => k_is)
    (case z_range => k_is)
    (case z_int => k_is)
    (case z_bool => k_is)
    (case r_gcd => k_is)
#print axioms PySem.Challenge.cw_toldridges_k02_ratio_arithmetic_holds
