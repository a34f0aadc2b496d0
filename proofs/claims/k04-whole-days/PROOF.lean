import PyProof.Rows.All
import Wide.All
import OpenK.AllK
import Wide.FinOn
import PyProof.InstNe
import HandS.ForMost
import HandS.Wide
import HandS.IsInst
import HandS.Codes
import HandS.Style
import PySem.Challenge.RW_onelongturn_k04_whole_days_that_come_rou
set_option Elab.async false
set_option maxRecDepth 100000
set_option maxHeartbeats 4000000
/-! Operators of an own class: x % o, x // o, x * o (reflected), o * x, o == o, o != o (by object's own). -/
namespace K4
open PySem PySem.W PySem.Calls PyProof.Rows Builtin

section
variable {prog : Program} {w : World} {A : Around} {E : Value → Shared → Prop} {s : Shared} {K : Frag} {x C L f : Addr} {h₀ : Heap} {m : Str → Option Value} {ox : Obj} {od : Option Obj} {nm : String}

/-- a class that has the reflected name alone fills the number's slot -/
theorem fillsR {M : Model} {h : Heap} {cd : ClassData} {rest : List Value} (X : K.In h) (hc : clsIn K C = some cd) (hm : cd.mro = .ref C :: rest)
    (hl : findIn K (.ref C) (PySem.dunder nm) = some none) (hs : findIn K (.ref C) (dunderR nm) = some (some (.ref f))) : Looks M h (fillsNumberSlot (.ref C) nm) true := by
  intro A Q E s k q
  unfold fillsNumberSlot
  refine wpAny_bind ((looks_clsIn X hc).andThen (f := fun cd => pure cd.mro) .now A _ E s k ?_)
  rw [hm, List.anyM_cons]
  refine wpAny_bind ?_
  show wpAny M A (List.anyM _ [PySem.dunder nm, dunderR nm]) _ _ _
  rw [List.anyM_cons]
  refine wpAny_bind (wpAny_bind (looks_findIn X hl A _ E s k ?_))
  dsimp only
  refine wpAny_pure ?_
  rw [if_neg Bool.false_ne_true, List.anyM_cons]
  refine wpAny_bind (wpAny_bind (looks_findIn X hs A _ E s k ?_))
  dsimp only
  rw [if_pos (show (!ownNameWrapper (.ref f) (dunderR nm)) = true from rfl)]
  refine wpAny_pure ?_
  rw [if_pos rfl]
  refine wpAny_pure ?_
  rw [if_pos rfl]
  exact wpAny_pure q

/-- int's own slots decline an instance -/
theorem mod_declines {M : Model} {a : Int} {t : Tok} {Q : Fin → Shared → Prop} (ho : s.heap.get? x = some ox) (hd : ox.data = .plain) (q : Q (.done (.ret .notImplemented)) s) :
    wpAny M A (Builtin.«int.__mod__» ⟨[.int a t, .ref x], []⟩) Q E s := by
  obtain ⟨hp, g, d, tk, os⟩ := s
  wp_walk using wpAny_load ho
  rw [hd]
  wp_walk
  exact q
theorem floordiv_declines {M : Model} {a : Int} {t : Tok} {Q : Fin → Shared → Prop} (ho : s.heap.get? x = some ox) (hd : ox.data = .plain) (q : Q (.done (.ret .notImplemented)) s) :
    wpAny M A (Builtin.«int.__floordiv__» ⟨[.int a t, .ref x], []⟩) Q E s := by
  obtain ⟨hp, g, d, tk, os⟩ := s
  wp_walk using wpAny_load ho
  rw [hd]
  wp_walk using wpAny_load ho
  rw [hd]
  wp_walk
  exact q
theorem mul_declines {M : Model} {a : Int} {t : Tok} {Q : Fin → Shared → Prop} (ho : s.heap.get? x = some ox) (hd : ox.data = .plain) (q : Q (.done (.ret .notImplemented)) s) :
    wpAny M A (Builtin.«int.__mul__» ⟨[.int a t, .ref x], []⟩) Q E s := by
  obtain ⟨hp, g, d, tk, os⟩ := s
  wp_walk using wpAny_load ho
  rw [hd]
  wp_walk
  exact q

/-- a op o, a an int, o an instance with the reflected name -/
theorem binR {op : Operator} {id : String} {B : Builtin} {a : Int} {t : Tok} {Q : Value → Shared → Prop} (F : Fr h₀ L s.heap m) (X₀ : K.In h₀) (I : InstAt s.heap x ox C od)
    (fillsC : Looks (model prog w) s.heap (fillsNumberSlot (.ref C) op.info.2) true) (fillsT : fillsNumberSlot (.type "int") op.info.2 = pure true) (hsub : subIn K (.ref C) (.type "int") = some false)
    (slot : Slot "int" (PySem.dunder op.info.2) id) (entry : entryFor table id = some B) (args : argsOk id ⟨[.int a t, .ref x], []⟩)
    (hB : ∀ (A' : Around) (Q' : Fin → Shared → Prop) (E' : Value → Shared → Prop), Q' (.done (.ret .notImplemented)) s → wpAny (model prog w) A' (B ⟨[.int a t, .ref x], []⟩) Q' E' s)
    (hs : findIn K (.ref C) (dunderR op.info.2) = some (some (.ref f))) (hf : isFn K (.ref f) = true)
    (h : wpAny (model prog w) A (call (.ref f) [.ref x, .int a t]) (PySem.W.CmpBack Q) E s) : wpAny (model prog w) A (binaryOp op (.int a t) (.ref x)) Q E s := by
  have X := X₀.keeps F.keep
  rcases hi : op.info with ⟨sym, nm'⟩
  rw [hi] at fillsC fillsT slot hs
  dsimp only at fillsC fillsT slot hs
  have one := ksp_try X I hs hf h
  have dec : wpAny (model prog w) A (tryMethod (.int a t) (PySem.dunder nm') (.ref x)) (fun r s' => r = none ∧ s' = s) E s :=
    wpAny_tryMethod_declines (typeIs_int s a t) slot (wpAny_call (codeAny_call_builtin slot.plain entry (slot.check _ _ _ _ _ _ _ _ (typeIs_int s a t) args (hB _ _ _ ⟨rfl, rfl, rfl⟩))))
  obtain ⟨hh, g, d, tt, os⟩ := s
  have L1 : Looks (model prog w) hh (typeOf (.int a t)) (.type "int") := Looks.of_pure rfl
  have L2 : Looks (model prog w) hh (typeOf (.ref x)) (.ref C) := I.type
  have L3 : Looks (model prog w) hh (fillsNumberSlot (.type "int") nm') true := Looks.of_pure fillsT
  have L4 : Looks (model prog w) hh (fillsNumberSlot (.ref C) nm') true := fillsC
  have L5 : Looks (model prog w) hh (isSubtype (.ref C) (.type "int")) false := looks_subIn X hsub
  have L6 : Looks (model prog w) hh (numberSlotInPython (.type "int") nm') false := Looks.of_pure rfl
  have hne : (Value.type "int" == Value.ref C) = false := Bool.eq_false_iff.mpr fun q => by cases beq_iff_eq.mp q
  simp only [binaryOp, hi]
  refine wpAny_holding (wpAny_bind ?_)
  unfold binaryOp1
  refine wpAny_bind (L1.at (wpAny_bind (L2.at (wpAny_bind (L3.at ?_)))))
  simp only [hne, Bool.false_eq_true, if_false]
  ksp_lk
  refine wpAny_mono dec (fun r s' hr' => ?_) fun _ _ e => e
  obtain ⟨rfl, rfl⟩ := hr'
  ksp_lk
  refine wpAny_mono one (fun r s' hr' => ?_) fun _ _ e => e
  obtain ⟨v, rfl, hq⟩ := hr'
  ksp_lk
  exact hq

/-- object's own != by the class's own == -/
theorem ifBoundB {M : Model} {name : Str} {id : String} {args : List Value} {Q : Option Value → Shared → Prop} (X : K.In s.heap) (I : InstAt s.heap x ox C od) (hs : findIn K (.ref C) name = some (some (.builtin id)))
    (hb : ∀ self, bindSpecial (.builtin id) self = pure (.builtin id, [self]))
    (h : wpAny M A (call (.builtin id) (.ref x :: args)) (fun v => Q (some v)) E s) : wpAny M A (callSpecialIfBound? (.ref x) name args) Q E s := by
  simp only [callSpecialIfBound?, bindSpecialIfBound?]
  refine wpAny_holding (wpAny_bind (wpAny_bind (wpAny_bind (I.type.here ((looks_findIn X hs).here ?_)))))
  simp only [hb]
  refine wpAny_bind (wpAny_askSetting (wpAny_ite ?_))
  have fin : wpAny M A (call (.builtin id) ([.ref x] ++ args) >>= fun v => pure (some v)) Q E s := wpAny_bind (wpAny_mono h (fun v s' h' => wpAny_pure h') fun _ _ h' => h')
  split
  · exact wpAny_bind (wpAny_pure (wpAny_pure (by exact fin)))
  · exact wpAny_tryCatch (wpAny_bind (wpAny_pure (wpAny_pure (by exact fin))))
theorem ne_entry {M : Model} {b : Value} {Q : Fin → Shared → Prop} (hu : A.units < cLine) (X : K.In s.heap) (I : InstAt s.heap x ox C od) (hs : findIn K (.ref C) "__eq__" = some (some (.ref f))) (hf : isFn K (.ref f) = true)
    (h : wpAny M A (call (.ref f) [.ref x, b]) (fun v s' => ∃ r, v = .bool r ∧ Q (.done (.ret (.bool (!r)))) s') E s) :
    wpAny M A (Builtin.«object.__ne__» ⟨[.ref x, b], []⟩) Q E s := by
  have go := ifBound_K (args := [b]) (Q := fun o s' => ∃ r, o = some (.bool r) ∧ Q (.done (.ret (.bool (!r)))) s') X I hs hf (wpAny_mono h (fun v s' hv => by
    obtain ⟨r, rfl, q⟩ := hv
    exact ⟨r, rfl, q⟩) fun _ _ e => e)
  obtain ⟨hp, g, d, tk, os⟩ := s
  unfold Builtin.«object.__ne__»
  repeat (first
    | with_reducible refine wpAny_cRoomFor hu ?_
    | (refine wpAny_bind (m := callSpecialIfBound? (.ref x) (Str.ofString "__eq__") [b]) (wpAny_mono go (fun o s' ho => by
          obtain ⟨r, rfl, hq⟩ := ho
          repeat (first | exact hq | exact wpAny_pure hq | exact wpAny_truthy_bool hq | (refine wpAny_bind (m := truthy (.bool _)) (wpAny_truthy_bool ?_)) | wp_step)) fun _ _ e => e))
    | wp_step)
theorem ne_own {b : Value} {Q : Value → Shared → Prop} (hu : A.units + 1 < cLine) (F : Fr h₀ L s.heap m) (X₀ : K.In h₀) (I : InstAt s.heap x ox C od) (hb : Looks (model prog w) s.heap (typeOf b) (.ref C))
    (hn : findIn K (.ref C) "__ne__" = some (some (.builtin "object.__ne__"))) (hm : subIn K (.ref C) (.type "object") = some true)
    (hs : findIn K (.ref C) "__eq__" = some (some (.ref f))) (hf : isFn K (.ref f) = true) (hoth : oneThing? .NotEq (.ref x) b = none)
    (h : wpAny (model prog w) A.in1 (call (.ref f) [.ref x, b]) (fun v s' => ∃ r, v = .bool r ∧ Q (.bool (!r)) s') E s) : wpAny (model prog w) A (richCompare .NotEq (.ref x) b) Q E s := by
  have X := X₀.keeps F.keep
  have one : wpAny (model prog w) A (tryCompare (.ref x) "__ne__" b) (fun r s' => ∃ v, r = some v ∧ Q v s') E s := by
    unfold tryCompare
    refine wpAny_bind (ifBoundB X I hn PySem.F.cmp_object.ne.bind (wpAny_call (codeAny_call_builtin PySem.F.cmp_object.ne.plain PySem.F.cmpEntry_ne
      (check_slot PySem.F.cmpKind_ne PySem.F.cmpSplit_ne (I.type.andThen (looks_subIn X hm)) (PySem.F.cmpArgs_ne _ _)
        (ne_entry (Nat.lt_of_lt_of_le (show A.in1.units < _ from ?_) (Nat.le_refl _)) X I hs hf (wpAny_mono h (fun v s' hv => ?_) fun _ _ e => e))))))
    · exact hu
    · obtain ⟨r, rfl, hq⟩ := hv
      exact ⟨r, rfl, wpAny_pure ⟨_, rfl, hq⟩⟩
  unfold richCompare
  simp only [hoth]
  refine wpAny_holding (wpAny_bind (wpAny_cRoomFor (Nat.lt_of_succ_lt hu) ?_))
  rw [PySem.cmpInfo_NotEq]
  dsimp only
  refine wpAny_bind (I.type.here (wpAny_bind (hb.here ?_)))
  rw [show (Value.ref C != Value.ref C) = false from by simp]
  simp only [Bool.false_eq_true, if_false]
  refine wpAny_bind (wpAny_pure ?_)
  simp only [Bool.false_eq_true, if_false]
  refine wpAny_bind (wpAny_mono one (fun r s' z => ?_) fun _ _ e => e)
  obtain ⟨v, rfl, hq⟩ := z
  exact wpAny_pure hq
end
end K4

/-! The operators over the layer; the text by places; what an object looks like; the promises. -/
namespace K4
open PySem L2
open C8 (InsC call_isC pss_cut tCut)

/-! ### own operators as rules by values -/
section
variable {X : Cx} {C f : Addr} {fd : FuncData} {ps : List Str} {sp : Sp} {n : Nat} {op : Operator}
theorem back_of {pins : List (Addr × Obj)} {σ : St} {Q : VK} {v : Value} {s' : Shared} (h : EP X pins σ Q v s') : PySem.W.CmpBack (EP X pins σ Q) v s' := by
  obtain ⟨z, H', I', rz, q⟩ := id h
  cases z with
  | non => cases rz; exact h
  | bl _ => cases rz; exact h
  | int _ => obtain ⟨t, rfl⟩ := rz; exact h
  | str _ => obtain ⟨t, rfl⟩ := rz; exact h
  | byt _ => obtain ⟨t, rfl⟩ := rz; exact h
  | flt _ => obtain ⟨t, rfl⟩ := rz; exact h
  | ref _ => cases rz; exact h
  | ty _ => cases rz; exact h
/-- o op i, o an instance of C, i an int -/
def rOwnL (C : Addr) (sp : Sp) : R2 := fun x y H Q => ∃ a dx fs i, x = .ref a ∧ y = .int i ∧ H a = some (.ins C dx fs) ∧ sp [.ref a, .int i] H Q E0
theorem op_ownL {rc fo ro : Option Value} (F : FnOk X.prog X.w X.K X.mg X.base CX0 n f fd ps sp) (hr : Room n X.A) (hb : Binds X.K fd ps []) (hc : PySem.W.selfFirst X.K C = true)
    (hs : PySem.W.findIn X.K (.ref C) (PySem.dunder op.info.2) = some (some (.ref f))) (hf : PySem.W.isFn X.K (.ref f) = true) (hrc : PySem.W.findIn X.K (.ref C) (dunderR op.info.2) = some rc) (hp : rc = none ∨ ∃ g : Addr, rc = some (.ref g))
    (h1 : PySem.W.findIn X.K (.type "int") (PySem.dunder op.info.2) = some fo) (h2 : PySem.W.findIn X.K (.type "int") (dunderR op.info.2) = some ro) (hsub : PySem.W.subIn X.K (.type "int") (.ref C) = some false) :
    OpR X (binaryOp op) (rOwnL C sp) := by
  intro pins s σ H x y v u Q I rx ry h
  obtain ⟨a, dx, fs, i, rfl, rfl, ha, q⟩ := h
  cases rx
  obtain ⟨t, rfl⟩ := ry
  obtain ⟨mA, J, _⟩ := ins_get I.hok ha
  obtain ⟨od, J, _⟩ := J.look
  obtain ⟨m, hF⟩ := I.fr
  refine PySem.W.ksp_binT (T := "int") hF I.ok.mod.kin J rfl hc hs hf hrc hp h1 h2 hsub ?_
  exact wpAny_mono (run_fn (dvs := []) (ds := []) (vs := [.ref a, .int i]) F hr hb .nil pass0 I (.cons rfl (.cons ⟨t, rfl⟩ .nil)) q) (fun v s' z => back_of z) fun _ _ z => z
/-- i op o -/
def rOwnR (C : Addr) (sp : Sp) : R2 := fun x y H Q => ∃ a dx fs i, x = .int i ∧ y = .ref a ∧ H a = some (.ins C dx fs) ∧ sp [.ref a, .int i] H Q E0
theorem op_ownR {id : String} {B : Builtin} (F : FnOk X.prog X.w X.K X.mg X.base CX0 n f fd ps sp) (hr : Room n X.A) (hb : Binds X.K fd ps [])
    (fillsC : ∀ h : Heap, X.K.In h → PySem.W.Looks (model X.prog X.w) h (fillsNumberSlot (.ref C) op.info.2) true) (fillsT : fillsNumberSlot (.type "int") op.info.2 = pure true) (hsub : PySem.W.subIn X.K (.ref C) (.type "int") = some false)
    (slot : Slot "int" (PySem.dunder op.info.2) id) (entry : entryFor table id = some B) (args : ∀ a b : Value, argsOk id ⟨[a, b], []⟩)
    (hB : ∀ (A' : Around) (Q' : Fin → Shared → Prop) (E' : Value → Shared → Prop) (s : Shared) (x : Addr) (ox : Obj) (a : Int) (t : Tok), s.heap.get? x = some ox → ox.data = .plain → Q' (.done (.ret .notImplemented)) s → wpAny (model X.prog X.w) A' (B ⟨[.int a t, .ref x], []⟩) Q' E' s)
    (hs : PySem.W.findIn X.K (.ref C) (dunderR op.info.2) = some (some (.ref f))) (hf : PySem.W.isFn X.K (.ref f) = true) : OpR X (binaryOp op) (rOwnR C sp) := by
  intro pins s σ H x y v u Q I rx ry h
  obtain ⟨a, dx, fs, i, rfl, rfl, ha, q⟩ := h
  cases ry
  obtain ⟨t, rfl⟩ := rx
  obtain ⟨mA, J, _⟩ := ins_get I.hok ha
  obtain ⟨od, J, _⟩ := J.look
  obtain ⟨m, hF⟩ := I.fr
  refine K4.binR hF I.ok.mod.kin J (fillsC _ I.kIn) fillsT hsub slot entry (args _ _) (fun A' Q' E' z => hB A' Q' E' s a _ i t J.at_ rfl z) hs hf ?_
  exact wpAny_mono (run_fn (dvs := []) (ds := []) (vs := [.ref a, .int i]) F hr hb .nil pass0 I (.cons rfl (.cons ⟨t, rfl⟩ .nil)) q) (fun v s' z => back_of z) fun _ _ z => z
/-- o == o' by the class's own -/
def rOwnEq (C : Addr) (sp : Sp) : R2 := fun x y H Q => ∃ a b dx dy fs gs, x = .ref a ∧ y = .ref b ∧ H a = some (.ins C dx fs) ∧ H b = some (.ins C dy gs) ∧ sp [.ref a, .ref b] H Q E0
theorem op_ownEq (F : FnOk X.prog X.w X.K X.mg X.base CX0 n f fd ps sp) (hr : Room n X.A) (hb : Binds X.K fd ps []) (hs : PySem.W.findIn X.K (.ref C) "__eq__" = some (some (.ref f))) (hf : PySem.W.isFn X.K (.ref f) = true) :
    OpR X (compareOp .Eq) (rOwnEq C sp) := by
  intro pins s σ H x y v u Q I rx ry h
  obtain ⟨a, b, dx, dy, fs, gs, rfl, rfl, ha, hb', q⟩ := h
  cases rx
  cases ry
  obtain ⟨mA, J, _⟩ := ins_get I.hok ha
  obtain ⟨mB, J', _⟩ := ins_get I.hok hb'
  obtain ⟨od, J, _⟩ := J.look
  obtain ⟨od', J', _⟩ := J'.look
  obtain ⟨m, hF⟩ := I.fr
  show wpAny (model X.prog X.w) X.A (richCompare .Eq (.ref a) (.ref b)) (EP X pins σ Q) X.xe s
  refine PySem.W.cmp_K (op := .Eq) (tb := .ref C) hr.units0 hF I.ok.mod.kin J J'.type (by simp [PySem.W.notFirst]) hs hf ?_
  exact wpAny_mono (run_fn (dvs := []) (ds := []) (vs := [.ref a, .ref b]) F hr hb .nil pass0 I (.cons rfl (.cons rfl .nil)) q) (fun v s' z => back_of z) fun _ _ z => z
/-- o != o' by object's own, which asks the class's == -/
def rOwnNe (C : Addr) (sp : Sp) : R2 := fun x y H Q => ∃ a b dx dy fs gs, x = .ref a ∧ y = .ref b ∧ H a = some (.ins C dx fs) ∧ H b = some (.ins C dy gs) ∧ sp [.ref a, .ref b] H (fun v H' => ∃ k, v = .bl k ∧ Q (.bl (!k)) H') E0
theorem op_ownNe (F : FnOk X.prog X.w X.K X.mg X.base CX0 n f fd ps sp) (hr : Room (n + 1) X.A) (hb : Binds X.K fd ps []) (hn : PySem.W.findIn X.K (.ref C) "__ne__" = some (some (.builtin "object.__ne__"))) (hm : PySem.W.subIn X.K (.ref C) (.type "object") = some true)
    (hs : PySem.W.findIn X.K (.ref C) "__eq__" = some (some (.ref f))) (hf : PySem.W.isFn X.K (.ref f) = true) : OpR X (compareOp .NotEq) (rOwnNe C sp) := by
  intro pins s σ H x y v u Q I rx ry h
  obtain ⟨a, b, dx, dy, fs, gs, rfl, rfl, ha, hb', q⟩ := h
  cases rx
  cases ry
  obtain ⟨mA, J, _⟩ := ins_get I.hok ha
  obtain ⟨mB, J', _⟩ := ins_get I.hok hb'
  obtain ⟨od, J, _⟩ := J.look
  obtain ⟨od', J', _⟩ := J'.look
  obtain ⟨m, hF⟩ := I.fr
  show wpAny (model X.prog X.w) X.A (richCompare .NotEq (.ref a) (.ref b)) (EP X pins σ Q) X.xe s
  have hu := hu_of hr
  refine K4.ne_own hu hF I.ok.mod.kin J J'.type hn hm hs hf (PySem.oneThing_ref _ _ _) ?_
  have hl := F.len _ _ _ _ q
  have r2 : Vals [V.ref a, V.ref b] [Value.ref a, Value.ref b] := .cons rfl (.cons rfl .nil)
  have e0 := I.env0.in1
  refine wpAny_call (codeAny_mono (F.run X.A.in1 X.stack s H ⟨[.ref a, .ref b], []⟩ [.ref a, .ref b] [.ref a, .ref b] _ E0 hr.in1 e0 (by
    have := hb s [.ref a, .ref b] I.kIn (by simpa using hl)
    simpa using this) r2 q) fun r s' hq => ?_)
  cases r with
  | error e => exact hq.elim
  | ok fl =>
    cases fl with
    | ret w =>
      obtain ⟨z, H', I', rz, k, ez, qk⟩ := I.after hq
      subst ez
      cases rz
      exact ⟨k, rfl, .bl (!k), H', I', rfl, qk⟩
    | next => exact False.elim hq
    | brk => exact False.elim hq
    | cont => exact False.elim hq
end

/-! ### the text by places -/
def top (i : Nat) : Stmt := PySem.Challenge.pw_onelongturn_k04_whole_days_that_come_rou.main.body.getD i (.Pass ⟨0, 0, 0, 0⟩)
abbrev sInteger : Stmt := top 1
abbrev sBetween : Stmt := top 2
abbrev sMoment : Stmt := top 3
abbrev sLongBy : Stmt := top 11
abbrev sInit : Stmt := inClass (top 12) 1
abbrev sRmod : Stmt := inClass (top 12) 2
abbrev sRfloor : Stmt := inClass (top 12) 3
abbrev sForward : Stmt := inClass (top 12) 4
abbrev sMul : Stmt := inClass (top 12) 5
abbrev sRmul : Stmt := inClass (top 12) 6
abbrev sEq : Stmt := inClass (top 12) 8
abbrev sPen : Stmt := top 14
abbrev sDraw : Stmt := top 15
abbrev sPick : Stmt := top 16
abbrev sMom : Stmt := top 17
abbrev sWaits : Stmt := top 18
abbrev sLong : Stmt := top 19
abbrev sLaw : Stmt := top 20

/-! ### the data -/
/-- a Day of L minutes stands at p -/
def DayAt (C : Addr) (H : Hp) (p : Addr) (L : Int) : Prop := ∃ dx, H p = some (.ins C dx [("length", .int L)])
/-- the pen at q: its script's list, at most b draws made, the rest of a great number -/
def PenAt (H : Hp) (q : Addr) (b : Int) : Prop := ∃ (l : Addr) (ns : List Int) (spot rest : Int), H q = some (.lst [.ref l, .int spot, .int rest]) ∧ H l = some (.lst (ns.map V.int)) ∧ l ≠ q ∧ ns.length ≤ 63 ∧ 0 ≤ spot ∧ spot ≤ b ∧ 0 ≤ rest
/-- all that was tracked is as it was, but what stands at q -/
def But (q : Addr) (H H' : Hp) : Prop := ∀ c o, H c = some o → c ≠ q → H' c = some o
theorem But.refl (q : Addr) (H : Hp) : But q H H := fun _ _ h _ => h
theorem But.trans {q : Addr} {H H1 H2 : Hp} (a : But q H H1) (b : But q H1 H2) : But q H H2 := fun c o h hc => b c o (a c o h hc) hc
theorem Same.but {q : Addr} {H H' : Hp} (s : Same H H') : But q H H' := fun c o h _ => s c o h
theorem DayAt.same {C : Addr} {H H' : Hp} {p : Addr} {L : Int} (d : DayAt C H p L) (s : Same H H') : DayAt C H' p L := let ⟨dx, h⟩ := d; ⟨dx, s _ _ h⟩
theorem DayAt.ne {C : Addr} {H : Hp} {p q : Addr} {L b : Int} (d : DayAt C H p L) (h : PenAt H q b) : p ≠ q := by
  obtain ⟨dx, h1⟩ := d
  obtain ⟨l, ns, spot, rest, h2, _⟩ := h
  exact ne_of h1 h2 (by intro z; cases z)
theorem DayAt.but {C : Addr} {H H' : Hp} {p q : Addr} {L b : Int} (d : DayAt C H p L) (h : PenAt H q b) (s : But q H H') : DayAt C H' p L := by
  have n := d.ne h
  obtain ⟨dx, h1⟩ := d
  exact ⟨dx, s _ _ h1 n⟩
theorem PenAt.same {H H' : Hp} {q : Addr} {b : Int} (h : PenAt H q b) (s : Same H H') : PenAt H' q b := by
  obtain ⟨l, ns, spot, rest, h1, h2, r⟩ := h
  exact ⟨l, ns, spot, rest, s _ _ h1, s _ _ h2, r⟩
theorem PenAt.mono {H : Hp} {q : Addr} {b c : Int} (h : PenAt H q b) (hc : b ≤ c) : PenAt H q c := by
  obtain ⟨l, ns, spot, rest, h1, h2, r1, r2, r3, r4, r5⟩ := h
  exact ⟨l, ns, spot, rest, h1, h2, r1, r2, r3, Int.le_trans r4 hc, r5⟩
theorem len_l {L : Int} : List.lookup ("length" : Str) [(("length" : Str), V.int L)] = some (.int L) := by
  rw [List.lookup_cons, beq_self_eq_true]
theorem len_no {L : Int} {m : Str} (h : ¬ m = "length") : List.lookup m [(("length" : Str), V.int L)] = none := by
  rw [List.lookup_cons, beq_false_of_ne h]
  rfl

/-! ### the promises -/
def spInteger : Sp := fun vs H Q _ => ∃ i : Int, vs = [.int i] ∧ Q (.bl true) H
def spBetween : Sp := fun vs H Q _ => ∃ v lo hi : Int, vs = [.int v, .int lo, .int hi] ∧ lo ≤ v ∧ v ≤ hi ∧ Q (.bl true) H
def Mo (v : Int) : Prop := -(10 ^ 60) < v ∧ v < 10 ^ 60
def spMoment : Sp := fun vs H Q _ => ∃ v : Int, vs = [.int v] ∧ Mo v ∧ Q (.bl true) H
/-- a length of a day -/
def Len (L : Int) : Prop := 1 ≤ L ∧ L ≤ 1000000000000
def spLongBy : Sp := fun vs H Q _ => ∃ L k : Int, vs = [.int L, .int k] ∧ Len L ∧ Len (k * L) ∧ Q (.int (k * L)) H
def spInit (C : Addr) : Sp := fun vs H Q _ => ∃ (p dx : Addr) (L : Int), vs = [.ref p, .int L] ∧ H p = some (.ins C dx []) ∧ Len L ∧ Q .non (upd H p (.ins C dx [("length", .int L)]))
def spRmod (C : Addr) : Sp := fun vs H Q _ => ∃ (p : Addr) (x L : Int), vs = [.ref p, .int x] ∧ DayAt C H p L ∧ Len L ∧ Mo x ∧ Q (.int (x % L)) H
def spRfloor (C : Addr) : Sp := fun vs H Q _ => ∃ (p : Addr) (x L : Int), vs = [.ref p, .int x] ∧ DayAt C H p L ∧ Len L ∧ Mo x ∧ Q (.int (x / L)) H
def spForward (C : Addr) : Sp := fun vs H Q _ => ∃ (p : Addr) (a b L : Int), vs = [.ref p, .int a, .int b] ∧ DayAt C H p L ∧ Len L ∧ Mo a ∧ Mo b ∧ ∀ H', Same H H' → Q (.int ((b - a) % L)) H'
def spMul (C : Addr) : Sp := fun vs H Q _ => ∃ (p : Addr) (k L : Int), vs = [.ref p, .int k] ∧ DayAt C H p L ∧ Len L ∧ Len (k * L) ∧ ∀ r H', H r = none → Same H H' → DayAt C H' r (k * L) → Q (.ref r) H'
def spEq (C : Addr) : Sp := fun vs H Q _ => ∃ (p r : Addr) (L M : Int), vs = [.ref p, .ref r] ∧ DayAt C H p L ∧ DayAt C H r M ∧ Q (.bl (decide (L = M))) H
def spPen (K : PySem.W.Frag) : Sp := fun vs H Q _ => ∃ (a : Addr) (ns : List Int), vs = [.ref a] ∧ SqL K H a (ns.map V.int) ∧ ns.length ≤ 63 ∧ ∀ q H', Same H H' → PenAt H' q 0 → Q (.ref q) H'
/-- a drawn number below n -/
def spDraw : Sp := fun vs H Q _ => ∃ (q : Addr) (n b : Int), vs = [.ref q, .int n] ∧ PenAt H q b ∧ b ≤ 1000000 ∧ 0 < n ∧ n ≤ 10 ^ 19 ∧ ∀ v H', 0 ≤ v → v < n → But q H H' → PenAt H' q (b + 1) → Q (.int v) H'
def spPick (K : PySem.W.Frag) : Sp := fun vs H Q _ => ∃ (q s : Addr) (b : Int) (ns : List Int), vs = [.ref q, .ref s] ∧ PenAt H q b ∧ b ≤ 1000000 ∧ SqL K H s (ns.map V.int) ∧ s ≠ q ∧ 0 < ns.length ∧ ns.length ≤ 1000 ∧
  ∀ v H', v ∈ ns → But q H H' → PenAt H' q (b + 1) → Q (.int v) H'
/-- a drawn moment -/
def Dr (v : Int) : Prop := -(2 * 10 ^ 48) ≤ v ∧ v ≤ 2 * 10 ^ 48
def spMom : Sp := fun vs H Q _ => ∃ (q : Addr) (L b : Int), vs = [.ref q, .int L] ∧ PenAt H q b ∧ b ≤ 100000 ∧ Len L ∧ ∀ v H', Dr v → But q H H' → PenAt H' q (b + 5) → Q (.int v) H'
def spWaits (C : Addr) : Sp := fun vs H Q _ => ∃ (q d : Addr) (L b : Int), vs = [.ref q, .ref d, .int L] ∧ PenAt H q b ∧ b ≤ 10000 ∧ DayAt C H d L ∧ Len L ∧ ∀ H', But q H H' → PenAt H' q (b + 16) → Q (.bl true) H'
def spLong (C : Addr) : Sp := fun vs H Q _ => ∃ (q d : Addr) (L n b : Int), vs = [.ref q, .ref d, .int L, .int n] ∧ PenAt H q b ∧ b ≤ 10000 ∧ DayAt C H d L ∧ Len L ∧ 1 ≤ n ∧ n ≤ 7 ∧ 7 * L ≤ 1000000000000 ∧ ∀ H', But q H H' → PenAt H' q (b + 30) → Q (.bl true) H'
def spLaw (K : PySem.W.Frag) : Sp := fun vs H Q _ => ∃ (a : Addr) (ns : List Int), vs = [.ref a] ∧ SqL K H a (ns.map V.int) ∧ ns.length ≤ 63 ∧ ∀ H', Q (.bl true) H'

/-! ### what the walk asks of the written part -/
/-- the built-ins are the built-ins, the constant is the constant -/
structure Txt (K : PySem.W.Frag) (mg : Str → Option Value) : Prop where
  isinstance : mg "isinstance" = none
  int : mg "int" = none
  bool : mg "bool" = none
  abs : mg "abs" = none
  len : mg "len" = none
  list : mg "list" = none
  range : mg "range" = none
  most : ∃ t, mg "MOST_LENGTH" = some (.int 1000000000000 t)
/-- the class Day -/
structure DayC (K : PySem.W.Frag) (mg : Str → Option Value) (C : Addr) : Prop where
  ins : InsC K C
  nL : NoAttr K C "length"
  mgC : mg "Day" = some (.ref C)
/-- a def of the module, called by its name -/
structure Glob (P : Program) (w : World) (K : PySem.W.Frag) (mg : Str → Option Value) (base : Heap) (k : Nat) (x : Str) (ps : List Str) (sp : Sp) (f : Addr) (fd : FuncData) : Prop where
  ok : FnOk P w K mg base CX0 k f fd ps sp
  mg : mg x = some (.ref f)
  kp : PySem.W.keepIn K (.ref f) = true
  bd : Binds K fd ps []
section
variable {X : Cx} {k : Nat} {f : Addr} {fd : FuncData} {ps : List Str} {sp : Sp} {x : Str} {p pos : Pos} {e : Expr} {es : List Expr} {t : TA}
theorem pcall (G : Glob X.prog X.w X.K X.mg X.base k x ps sp f fd) (hr : Room k X.A) (ha : PA X (e :: es) t) (hg : Gl X x := by rfl) (hdb : (x == ("__debug__" : Str)) = false := by decide)
    (he : starEach (e :: es) X.env = (false, eval e X.env) :: starEach es X.env := by rfl) (hpl : (backTo pos (starEach es X.env)).any (·.1) = false := by rfl) :
    PE X (.Call (.Name x p) (e :: es) [] pos) (tCall sp [] E0 t) := pe_call G.ok hr hg G.mg G.kp G.bd .nil pass0 ha hdb he hpl
end
end K4

/-! The small defs: is_integer, is_between, is_moment, long_by, Day.__init__. -/
namespace K4
open PySem L2
open C8 (InsC call_isC pss_cut tCut)
section
variable {P : Program} {w : World} {K : PySem.W.Frag} {mg : Str → Option Value} {base : Heap}
theorem scInteger : FnScope ["value"] ["value"] (defScope sInteger) := ⟨rfl, rfl, rfl, by decide +kernel, rfl, by decide +kernel, by decide +kernel⟩
theorem ok_integer {f : Addr} {fd : FuncData} (F : Fun K "is_integer" "is_integer" sInteger f fd) (T : Txt K mg) : FnOk P w K mg base CX0 1 f fd ["value"] spInteger := by
  refine F.ok scInteger (fun vs H Q E h => ?_) (fun cdv A outer s H vs Q E hr h => ?_)
  · obtain ⟨i, rfl, _⟩ := h
    rfl
  · obtain ⟨i, rfl, k⟩ := h
    refine ⟨_, pss_one (ps_ret (pe_and
      (pe_callB call_isi (by rfl) T.isinstance PyProof.Rows.boot_isinstance (pa_cons (pv 0) (pa_cons (pe_bltn (v := .ty "int") (by rfl) T.int PyProof.Rows.boot_int rfl) pa_nil)))
      (pe_one (pe_not (pe_callB call_isi (by rfl) T.isinstance PyProof.Rows.boot_isinstance (pa_cons (pv 0) (pa_cons (pe_bltn (v := .ty "bool") (by rfl) T.bool PyProof.Rows.boot_bool rfl) pa_nil))))))), ?_⟩
    refine ⟨_, rfl, _, _, _, _, true, rfl, .ty "int", .base (.int i), kit_ty (by decide +kernel), true, rfl, iteT ?_⟩
    exact ⟨_, rfl, _, _, _, _, false, rfl, .ty "bool", .base (.int i), kit_ty (by decide +kernel), false, rfl, k⟩
theorem scBetween : FnScope ["value", "low", "high"] ["value", "low", "high"] (defScope sBetween) := ⟨rfl, rfl, rfl, by decide +kernel, rfl, by decide +kernel, by decide +kernel⟩
theorem ok_between {f fI : Addr} {fd fdI : FuncData} (F : Fun K "is_between" "is_between" sBetween f fd) (G : Glob P w K mg base 1 "is_integer" ["value"] spInteger fI fdI) :
    FnOk P w K mg base CX0 2 f fd ["value", "low", "high"] spBetween := by
  refine F.ok scBetween (fun vs H Q E h => ?_) (fun cdv A outer s H vs Q E hr h => ?_)
  · obtain ⟨v, lo, hi, rfl, _⟩ := h
    rfl
  · obtain ⟨v, lo, hi, rfl, h1, h2, k⟩ := h
    refine ⟨_, pss_one (ps_ret (pe_and (pcall G hr (pa_cons (pv 0) pa_nil)) (pe_one (pe_chain op_le op_le (pv 1) (pv 0) (pv 2))))), ?_⟩
    refine ⟨_, rfl, v, rfl, true, rfl, iteT ?_⟩
    refine ⟨_, rfl, _, rfl, _, _, rfl, rfl, _, rfl, ?_⟩
    rw [decide_eq_true h1]
    refine iteT ⟨_, rfl, _, _, rfl, rfl, ?_⟩
    show Q (V.bl (decide (v ≤ hi))) H
    rw [decide_eq_true h2]
    exact k
theorem scMoment : FnScope ["value"] ["value"] (defScope sMoment) := ⟨rfl, rfl, rfl, by decide +kernel, rfl, by decide +kernel, by decide +kernel⟩
theorem ok_moment {f fI : Addr} {fd fdI : FuncData} (F : Fun K "is_moment" "is_moment" sMoment f fd) (T : Txt K mg) (G : Glob P w K mg base 1 "is_integer" ["value"] spInteger fI fdI) :
    FnOk P w K mg base CX0 2 f fd ["value"] spMoment := by
  refine F.ok scMoment (fun vs H Q E h => ?_) (fun cdv A outer s H vs Q E hr h => ?_)
  · obtain ⟨v, rfl, _⟩ := h
    rfl
  · obtain ⟨v, rfl, hv, k⟩ := h
    refine ⟨_, pss_one (ps_ret (pe_and (pcall G hr (pa_cons (pv 0) pa_nil)) (pe_one (pe_cmpR op_lt
      (pe_callB call_abs (by rfl) T.abs PyProof.Rows.boot_abs (pa_cons (pv 0) pa_nil)) (pe_op op_pow pe_int pe_int) (nomark _))))), ?_⟩
    refine ⟨_, rfl, v, rfl, true, rfl, iteT ?_⟩
    refine ⟨_, rfl, _, rfl, _, _, rfl, rfl, ⟨by decide, by decide, by decide⟩, _, _, rfl, rfl, ?_⟩
    have e : decide ((if v < 0 then -v else v) < 10 ^ (60 : Int).toNat) = true := by
      refine decide_eq_true ?_
      obtain ⟨a, b⟩ := hv
      have e60 : (10 : Int) ^ (60 : Int).toNat = 10 ^ 60 := rfl
      rw [e60]
      split <;> omega
    show Q (V.bl (decide ((if v < 0 then -v else v) < 10 ^ (60 : Int).toNat))) H
    rw [e]
    exact k
theorem scLongBy : FnScope ["length", "k"] ["length", "k"] (defScope sLongBy) := ⟨rfl, rfl, rfl, by decide +kernel, rfl, by decide +kernel, by decide +kernel⟩
theorem ok_longby {f fI fB : Addr} {fd fdI fdB : FuncData} (F : Fun K "long_by" "long_by" sLongBy f fd) (T : Txt K mg) (G : Glob P w K mg base 1 "is_integer" ["value"] spInteger fI fdI)
    (GB : Glob P w K mg base 2 "is_between" ["value", "low", "high"] spBetween fB fdB) : FnOk P w K mg base CX0 3 f fd ["length", "k"] spLongBy := by
  refine F.ok scLongBy (fun vs H Q E h => ?_) (fun cdv A outer s H vs Q E hr h => ?_)
  · obtain ⟨L, k, rfl, _⟩ := h
    rfl
  · obtain ⟨L, n, rfl, hL, hk, k⟩ := h
    obtain ⟨tm, hm⟩ := T.most
    have hr1 : Room 1 _ := hr.mono (by decide)
    obtain ⟨l1, l2⟩ := hL
    refine ⟨_, pss_cons (ps_if (PW.pt (pw_or (pt_not (pt_val (pcall G hr1 (pa_cons (pv 1) pa_nil)))) (pw_or1 (pt_not (pt_val (pcall GB hr
        (pa_cons (pe_op op_mul (pe_callTy call_int1 (by rfl) T.int PyProof.Rows.boot_int (pa_cons (pv 1) pa_nil)) (pv 0)) (pa_cons pe_int (pa_cons (pe_glob (v := .int 1000000000000) (by rfl) hm ⟨tm, rfl⟩) pa_nil))))))))) pss_never pss_nil)
      (pss_one (ps_ret (pe_op op_mul (pe_callTy call_int1 (by rfl) T.int PyProof.Rows.boot_int (pa_cons (pv 1) pa_nil)) (pv 0)))), ?_⟩
    refine ⟨_, rfl, n, rfl, true, rfl, iteF ?_⟩
    refine ⟨_, rfl, .inl ⟨_, rfl, _, rfl, _, _, rfl, rfl, .inr ⟨by omega, by omega⟩, ?_⟩⟩
    refine ⟨_, _, _, rfl, hk.1, hk.2, true, rfl, iteF ?_⟩
    exact ⟨_, rfl, .inl ⟨_, rfl, _, rfl, _, _, rfl, rfl, .inr ⟨by omega, by omega⟩, k⟩⟩
theorem scInit : FnScope ["self", "length"] ["self", "length"] (defScope sInit) := ⟨rfl, rfl, rfl, by decide +kernel, rfl, by decide +kernel, by decide +kernel⟩
theorem ok_init {C f fB : Addr} {fd fdB : FuncData} (F : Fun K "__init__" "Day.__init__" sInit f fd) (T : Txt K mg) (D : DayC K mg C)
    (GB : Glob P w K mg base 2 "is_between" ["value", "low", "high"] spBetween fB fdB) : FnOk P w K mg base CX0 3 f fd ["self", "length"] (spInit C) := by
  refine F.ok scInit (fun vs H Q E h => ?_) (fun cdv A outer s H vs Q E hr h => ?_)
  · obtain ⟨p, dx, L, rfl, _⟩ := h
    rfl
  · obtain ⟨p, dx, L, rfl, hp, hL, k⟩ := h
    obtain ⟨tm, hm⟩ := T.most
    refine ⟨_, pss_cons (ps_if (pt_not (pt_val (pcall GB hr (pa_cons (pv 1) (pa_cons pe_int (pa_cons (pe_glob (v := .int 1000000000000) (by rfl) hm ⟨tm, rfl⟩) pa_nil)))))) pss_never pss_nil)
      (pss_one (ps_fld (pv 0) (pv 1) rfl)), ?_⟩
    refine ⟨_, rfl, _, _, _, rfl, hL.1, hL.2, true, rfl, iteF ?_⟩
    exact ⟨_, rfl, _, rfl, p, C, dx, [], rfl, hp, D.ins.cl, D.nL, (by show 0 < 1000; decide), k⟩
end
end K4

/-! Day's methods. -/
namespace K4
open PySem L2
open C8 (InsC call_isC pss_cut tCut)
theorem len_lt {L : Int} (h : Len L) : L.natAbs < 2 ^ 64 := by
  obtain ⟨a, b⟩ := h
  omega
section
variable {P : Program} {w : World} {K : PySem.W.Frag} {mg : Str → Option Value} {base : Heap}
theorem scRmod : FnScope ["self", "moment"] ["self", "moment"] (defScope sRmod) := ⟨rfl, rfl, rfl, by decide +kernel, rfl, by decide +kernel, by decide +kernel⟩
theorem ok_rmod {C f fM : Addr} {fd fdM : FuncData} (F : Fun K "__rmod__" "Day.__rmod__" sRmod f fd) (D : DayC K mg C) (G : Glob P w K mg base 2 "is_moment" ["value"] spMoment fM fdM) :
    FnOk P w K mg base CX0 3 f fd ["self", "moment"] (spRmod C) := by
  refine F.ok scRmod (fun vs H Q E h => ?_) (fun cdv A outer s H vs Q E hr h => ?_)
  · obtain ⟨p, x, L, rfl, _⟩ := h
    rfl
  · obtain ⟨p, x, L, rfl, ⟨dx, hp⟩, hL, hx, k⟩ := h
    refine ⟨_, pss_cons (ps_if (pt_not (pt_val (pcall G hr (pa_cons (pv 1) pa_nil)))) pss_never pss_nil) (pss_one (ps_ret (pe_op op_mod (pv 1) (pe_fld (pv 0) rfl)))), ?_⟩
    refine ⟨_, rfl, _, rfl, hx, true, rfl, iteF ?_⟩
    exact ⟨_, rfl, _, rfl, p, C, dx, _, _, rfl, hp, D.ins.cl, D.nL, len_l, _, _, rfl, rfl, (by have := hL.1; show (0 : Int) < L; omega), k⟩
theorem scRfloor : FnScope ["self", "moment"] ["self", "moment"] (defScope sRfloor) := ⟨rfl, rfl, rfl, by decide +kernel, rfl, by decide +kernel, by decide +kernel⟩
theorem ok_rfloor {C f fM : Addr} {fd fdM : FuncData} (F : Fun K "__rfloordiv__" "Day.__rfloordiv__" sRfloor f fd) (D : DayC K mg C) (G : Glob P w K mg base 2 "is_moment" ["value"] spMoment fM fdM) :
    FnOk P w K mg base CX0 3 f fd ["self", "moment"] (spRfloor C) := by
  refine F.ok scRfloor (fun vs H Q E h => ?_) (fun cdv A outer s H vs Q E hr h => ?_)
  · obtain ⟨p, x, L, rfl, _⟩ := h
    rfl
  · obtain ⟨p, x, L, rfl, ⟨dx, hp⟩, hL, hx, k⟩ := h
    refine ⟨_, pss_cons (ps_if (pt_not (pt_val (pcall G hr (pa_cons (pv 1) pa_nil)))) pss_never pss_nil) (pss_one (ps_ret (pe_op op_fdivW (pv 1) (pe_fld (pv 0) rfl)))), ?_⟩
    refine ⟨_, rfl, _, rfl, hx, true, rfl, iteF ?_⟩
    exact ⟨_, rfl, _, rfl, p, C, dx, _, _, rfl, hp, D.ins.cl, D.nL, len_l, _, _, rfl, rfl, wide_div (b := 64) (by have := hL.1; omega) (len_lt hL) (by decide) (by decide), k⟩
theorem scForward : FnScope ["self", "a", "b", "moment"] ["self", "a", "b"] (defScope sForward) := ⟨rfl, rfl, rfl, by decide +kernel, rfl, by decide +kernel, by decide +kernel⟩
theorem ok_forward {C f fM : Addr} {fd fdM : FuncData} (F : Fun K "forward" "Day.forward" sForward f fd) (D : DayC K mg C) (G : Glob P w K mg base 2 "is_moment" ["value"] spMoment fM fdM) :
    FnOk P w K mg base CX0 3 f fd ["self", "a", "b"] (spForward C) := by
  refine F.ok scForward (fun vs H Q E h => ?_) (fun cdv A outer s H vs Q E hr h => ?_)
  · obtain ⟨p, a, b, L, rfl, _⟩ := h
    rfl
  · obtain ⟨p, a, b, L, rfl, ⟨dx, hp⟩, hL, ha, hb, k⟩ := h
    refine ⟨_, pss_cons (ps_for PassesOwn.never rfl (pi_tup (pe_tup (pa_cons (pv 1) (pa_cons (pv 2) pa_nil)))) (pg_name (i := 3) scForward.nd rfl (Or.inl rfl))
        (pss_one (ps_if (pt_not (pt_val (pcall G hr (pa_cons (pv 3) pa_nil)))) pss_never pss_nil)))
      (pss_one (ps_ret (pe_op op_mod (pe_op op_sub (pv 2) (pv 1)) (pe_fld (pv 0) rfl)))), ?_⟩
    refine ⟨_, rfl, _, rfl, (by show 2 ≤ sizeLine; decide), fun t ht => ?_⟩
    have s1 : Same H (upd H t (.tup [.int a, .int b])) := fun c o e => by
      rw [upd_ne (ne_of_none e ht)]
      exact e
    have hT : SqT K (upd H t (.tup [.int a, .int b])) t [.int a, .int b] := SqT.of upd_same
    refine ⟨t, rfl, ⟨_, hT⟩, for_tup (K := K) (a := t) (xs := [.int a, .int b]) (fun i σ H' => (∃ v, σ = [some (.ref p), some (.int a), some (.int b), v]) ∧ H' = upd H t (.tup [.int a, .int b])) ⟨⟨_, rfl⟩, rfl⟩ ?_ ?_ ?_⟩
    · rintro i σ H' _ ⟨_, rfl⟩
      exact hT
    · rintro i x σ H' hi ⟨⟨v, rfl⟩, rfl⟩
      have hx : ∃ z, x = .int z ∧ Mo z := by
        match i, hi with
        | 0, hi => exact ⟨a, (Option.some.inj hi).symm, ha⟩
        | 1, hi => exact ⟨b, (Option.some.inj hi).symm, hb⟩
      obtain ⟨z, rfl, hz⟩ := hx
      exact ⟨_, rfl, _, rfl, hz, true, rfl, iteF ⟨⟨_, rfl⟩, rfl⟩⟩
    · rintro σ H' ⟨⟨v, rfl⟩, rfl⟩
      exact ⟨_, rfl, _, rfl, _, _, rfl, rfl, _, rfl, p, C, dx, _, _, rfl, s1 _ _ hp, D.ins.cl, D.nL, len_l, _, _, rfl, rfl, (by have := hL.1; show (0 : Int) < L; omega), k _ s1⟩
theorem scMul : FnScope ["self", "k"] ["self", "k"] (defScope sMul) := ⟨rfl, rfl, rfl, by decide +kernel, rfl, by decide +kernel, by decide +kernel⟩
theorem ok_mul {C f fI fB : Addr} {fd fdI fdB : FuncData} (F : Fun K "__mul__" "Day.__mul__" sMul f fd) (D : DayC K mg C) (M : Mk K C fI) (GI : FnOk P w K mg base CX0 3 fI fdI ["self", "length"] (spInit C)) (bI : Binds K fdI ["self", "length"] [])
    (GB : Glob P w K mg base 3 "long_by" ["length", "k"] spLongBy fB fdB) : FnOk P w K mg base CX0 5 f fd ["self", "k"] (spMul C) := by
  refine F.ok scMul (fun vs H Q E h => ?_) (fun cdv A outer s H vs Q E hr h => ?_)
  · obtain ⟨p, n, L, rfl, _⟩ := h
    rfl
  · obtain ⟨p, n, L, rfl, ⟨dx, hp⟩, hL, hk, k⟩ := h
    refine ⟨_, pss_one (ps_ret (pe_make M GI hr (by rfl) D.mgC bI .nil pass0 (pa_cons (pcall GB (hr.mono (by decide)) (pa_cons (pe_fld (pv 0) rfl) (pa_cons (pv 1) pa_nil))) pa_nil))), ?_⟩
    refine ⟨_, rfl, p, C, dx, _, _, rfl, hp, D.ins.cl, D.nL, len_l, _, rfl, _, _, rfl, hL, hk, fun x dy nx ndy ne => ?_⟩
    refine ⟨x, dy, _, rfl, upd_same, hk, rfl, k x _ nx (fun c o e => ?_) ⟨dy, upd_same⟩⟩
    rw [upd_ne (ne_of_none e nx), upd_ne (ne_of_none e nx), upd_ne (ne_of_none e ndy)]
    exact e
theorem scRmul : FnScope ["self", "k"] ["self", "k"] (defScope sRmul) := ⟨rfl, rfl, rfl, by decide +kernel, rfl, by decide +kernel, by decide +kernel⟩
theorem ok_rmul {C f fI fB : Addr} {fd fdI fdB : FuncData} (F : Fun K "__rmul__" "Day.__rmul__" sRmul f fd) (D : DayC K mg C) (M : Mk K C fI) (GI : FnOk P w K mg base CX0 3 fI fdI ["self", "length"] (spInit C)) (bI : Binds K fdI ["self", "length"] [])
    (GB : Glob P w K mg base 3 "long_by" ["length", "k"] spLongBy fB fdB) : FnOk P w K mg base CX0 5 f fd ["self", "k"] (spMul C) := by
  refine F.ok scRmul (fun vs H Q E h => ?_) (fun cdv A outer s H vs Q E hr h => ?_)
  · obtain ⟨p, n, L, rfl, _⟩ := h
    rfl
  · obtain ⟨p, n, L, rfl, ⟨dx, hp⟩, hL, hk, k⟩ := h
    refine ⟨_, pss_one (ps_ret (pe_make M GI hr (by rfl) D.mgC bI .nil pass0 (pa_cons (pcall GB (hr.mono (by decide)) (pa_cons (pe_fld (pv 0) rfl) (pa_cons (pv 1) pa_nil))) pa_nil))), ?_⟩
    refine ⟨_, rfl, p, C, dx, _, _, rfl, hp, D.ins.cl, D.nL, len_l, _, rfl, _, _, rfl, hL, hk, fun x dy nx ndy ne => ?_⟩
    refine ⟨x, dy, _, rfl, upd_same, hk, rfl, k x _ nx (fun c o e => ?_) ⟨dy, upd_same⟩⟩
    rw [upd_ne (ne_of_none e nx), upd_ne (ne_of_none e nx), upd_ne (ne_of_none e ndy)]
    exact e
theorem scEq : FnScope ["self", "other"] ["self", "other"] (defScope sEq) := ⟨rfl, rfl, rfl, by decide +kernel, rfl, by decide +kernel, by decide +kernel⟩
theorem ok_eq {C f : Addr} {fd : FuncData} (F : Fun K "__eq__" "Day.__eq__" sEq f fd) (T : Txt K mg) (D : DayC K mg C) : FnOk P w K mg base CX0 1 f fd ["self", "other"] (spEq C) := by
  refine F.ok scEq (fun vs H Q E h => ?_) (fun cdv A outer s H vs Q E hr h => ?_)
  · obtain ⟨p, r, L, M, rfl, _⟩ := h
    rfl
  · obtain ⟨p, r, L, M, rfl, ⟨dx, hp⟩, ⟨dy, hq⟩, k⟩ := h
    refine ⟨_, pss_one (ps_ret (pe_and (pe_callB (call_isC D.ins) (by rfl) T.isinstance PyProof.Rows.boot_isinstance (pa_cons (pv 1) (pa_cons (pe_glob (v := .ref C) (by rfl) D.mgC rfl) pa_nil)))
      (pe_one (pe_cmpR op_eq (pe_fld (pv 0) rfl) (pe_fld (pv 1) rfl) (nomark _))))), ?_⟩
    refine ⟨_, rfl, r, dy, _, rfl, hq, true, rfl, iteT ?_⟩
    refine ⟨_, rfl, p, C, dx, _, _, rfl, hp, D.ins.cl, D.nL, len_l, _, rfl, r, C, dy, _, _, rfl, hq, D.ins.cl, D.nL, len_l, rfl, ?_⟩
    have e : decide (V.int L = V.int M) = decide (L = M) := by
      by_cases h : L = M
      · rw [h]; simp
      · rw [decide_eq_false h, decide_eq_false (fun z => h (by injection z))]
    show Q (.bl (decide (V.int L = V.int M))) H
    rw [e]
    exact k
end
end K4

/-! The law's pen: made, drawn from, picked by. -/
namespace K4
open PySem L2
open C8 (InsC call_isC pss_cut tCut)
theorem at_ints {ns : List Int} {i : Int} (h0 : 0 ≤ i) (h1 : i < (ns.length : Int)) : ∃ v, v ∈ ns ∧ atI (ns.map V.int) i = some (.int v) := by
  have hl : i.toNat < ns.length := by omega
  refine ⟨ns[i.toNat], List.getElem_mem hl, ?_⟩
  have e : (ns.map V.int)[i.toNat]? = some (.int ns[i.toNat]) := by
    rw [List.getElem?_map, List.getElem?_eq_getElem hl]
    rfl
  have z := atI_nat e
  rw [Int.toNat_of_nonneg h0] at z
  exact z
theorem dp_ints {K : PySem.W.Frag} {H : Hp} : ∀ ns : List Int, DpAll K H (ns.map V.int) (ns.map PyData.int)
  | [] => .nil
  | _ :: r => .cons (.int _) (dp_ints r)
theorem lay_all : ∀ ns : List Int, PyData.canLayAll0 (ns.map PyData.int) = true
  | [] => rfl
  | a :: r => by
    show (PyData.canLay0 (.int a) && PyData.canLayAll0 (r.map PyData.int)) = true
    rw [lay_all r]
    rfl
theorem dep_all : ∀ ns : List Int, PyData.depthAll (ns.map PyData.int) = 0
  | [] => rfl
  | a :: r => by
    show max (PyData.depth (.int a)) (PyData.depthAll (r.map PyData.int)) = 0
    rw [dep_all r]
    rfl
theorem lay_ints (ns : List Int) : SeqAt.shaped (.list (ns.map PyData.int)) = true := by
  show (PyData.canLayAll0 (ns.map PyData.int) && decide (PyData.depthAll (ns.map PyData.int) + 1 ≤ 64)) = true
  rw [lay_all, dep_all]
  rfl
theorem eqv_ints : ∀ ns : List Int, PyData.eqv (.list (ns.map PyData.int)) (.list []) = ns.isEmpty
  | [] => rfl
  | _ :: _ => rfl
section
variable {P : Program} {w : World} {K : PySem.W.Frag} {mg : Str → Option Value} {base : Heap}
theorem scPen : FnScope ["_law_script"] ["_law_script"] (defScope sPen) := ⟨rfl, rfl, rfl, by decide +kernel, rfl, by decide +kernel, by decide +kernel⟩
theorem ok_pen {f : Addr} {fd : FuncData} (F : Fun K "_law_pen" "_law_pen" sPen f fd) (T : Txt K mg) : FnOk P w K mg base CX0 1 f fd ["_law_script"] (spPen K) := by
  refine F.ok scPen (fun vs H Q E h => ?_) (fun cdv A outer s H vs Q E hr h => ?_)
  · obtain ⟨a, ns, rfl, _⟩ := h
    rfl
  · obtain ⟨a, ns, rfl, hS, hl, k⟩ := h
    refine ⟨_, pss_one (ps_ret (pe_lst (pa_cons (pe_callTy call_list_of (by rfl) T.list PyProof.Rows.boot_list (pa_cons (pe_slice sl_list (pv 0) po_none (po_some pe_int)) pa_nil)) (pa_cons pe_int (pa_cons pe_int pa_nil))))), ?_⟩
    obtain ⟨ms, em, hm⟩ : ∃ ms : List Int, cutV (ns.map V.int) none (some 63) = ms.map V.int ∧ ms.length ≤ 63 := by
      refine ⟨(ns.drop (HT.sIx (ns.map V.int).length 0 none)).take (HT.sIx (ns.map V.int).length (ns.map V.int).length (some 63) - HT.sIx (ns.map V.int).length 0 none), ?_, ?_⟩
      · show ((ns.map V.int).drop _).take _ = _
        rw [← List.map_drop, ← List.map_take]
      · refine Nat.le_trans ?_ hl
        rw [List.length_take, List.length_drop]
        omega
    refine ⟨_, rfl, _, rfl, a, _, rfl, hS, fun p np => ?_⟩
    rw [em]
    refine ⟨p, _, rfl, .inl (SqL.of upd_same), fun l nl => ⟨(by show 3 ≤ sizeLine; decide), fun q nq => ?_⟩⟩
    have nlq : l ≠ q := fun z => by
      rw [← z, upd_same] at nq
      cases nq
    refine k q _ (fun c o e => ?_) ⟨l, ms, 0, 0, upd_same, by rw [upd_ne nlq, upd_same], nlq, hm, Int.le_refl _, Int.le_refl _, Int.le_refl _⟩
    have e1 : upd H p (.lst (ms.map V.int)) c = some o := by
      rw [upd_ne (ne_of_none e np)]
      exact e
    have e2 : upd (upd H p (.lst (ms.map V.int))) l (.lst (ms.map V.int)) c = some o := by
      rw [upd_ne (ne_of_none e1 nl)]
      exact e1
    rw [upd_ne (ne_of_none e2 nq)]
    exact e2
end
end K4

/-! A drawn number. -/
namespace K4
open PySem L2
open C8 (InsC call_isC pss_cut tCut)
theorem pow5 {z : Int} (h0 : 0 ≤ z) (h1 : z < 2 ^ 62) : CPow z 5 := ⟨by decide, by decide, by omega⟩
theorem pow3 {z : Int} (h0 : 0 ≤ z) (h1 : z < 2 ^ 62) : CPow z 3 := ⟨by decide, by decide, by omega⟩
theorem pow18 : CPow 10 18 := ⟨by decide, by decide, by decide⟩
theorem sq_ok {s : Int} (h0 : 0 ≤ s) (h1 : s ≤ 1000000) : 0 ≤ 61373 * s * s ∧ 61373 * s * s ≤ 61373 * 1000000 * 1000000 := by
  have a : 0 ≤ 61373 * s := by omega
  have b : 61373 * s ≤ 61373 * 1000000 := by omega
  exact ⟨Int.mul_nonneg a h0, Int.mul_le_mul b h1 h0 (by decide)⟩
theorem bl_ok {z s : Int} (h0 : 0 ≤ z) (h1 : z < 2147483629) (h2 : 0 ≤ s) (h3 : s ≤ 1000000) : 0 ≤ z * (2 * s + 89) ∧ z * (2 * s + 89) ≤ 2147483629 * 2000089 :=
  ⟨Int.mul_nonneg h0 (by omega), Int.mul_le_mul (by omega) (by omega) (by omega) (by decide)⟩
section
variable {P : Program} {w : World} {K : PySem.W.Frag} {mg : Str → Option Value} {base : Heap}
theorem scDraw : FnScope ["_law_pen_here", "_law_many", "_law_digit", "_law_spot", "_law_cell", "_law_great", "_law_blent"] ["_law_pen_here", "_law_many"] (defScope sDraw) := ⟨rfl, rfl, rfl, by decide +kernel, rfl, by decide +kernel, by decide +kernel⟩
theorem ok_draw {f : Addr} {fd : FuncData} (F : Fun K "_law_draw" "_law_draw" sDraw f fd) (T : Txt K mg) : FnOk P w K mg base CX0 1 f fd ["_law_pen_here", "_law_many"] spDraw := by
  refine F.ok scDraw (fun vs H Q E h => ?_) (fun cdv A outer s H vs Q E hr h => ?_)
  · obtain ⟨q, n, b, rfl, _⟩ := h
    rfl
  · obtain ⟨q, n, b, rfl, ⟨l, ns, spot, rest, hq, hl, nlq, hlen, s0, s1, r0⟩, hb, n0, n1, k⟩ := h
    have hu := hr.units
    refine ⟨_,
      pss_cons (ps_if (pt_cmpR op_gt (pe_ix ix_list (pv 0) pe_int (fun _ _ => rfl)) pe_int (nomark _))
        (pss_cons (ps_set (i := 2) scDraw.nd rfl (Or.inl rfl) (pe_op op_mod (pe_callTy call_int1 (by rfl) T.int PyProof.Rows.boot_int (pa_cons (pe_ix ix_list (pv 0) pe_int (fun _ _ => rfl)) pa_nil)) (pv 1)))
        (pss_cons (ps_asg (pe_op op_fdivW (pe_callTy call_int1 (by rfl) T.int PyProof.Rows.boot_int (pa_cons (pe_ix ix_list (pv 0) pe_int (fun _ _ => rfl)) pa_nil)) (pv 1)) (pg_sub (pv 0) pe_int set_list))
        (pss_one (ps_ret (pv 2))))) pss_nil)
      (pss_cons (ps_set (i := 3) scDraw.nd rfl (Or.inl rfl) (pe_ix ix_list (pv 0) pe_int (fun _ _ => rfl)))
      (pss_cons (ps_asg (pe_op op_add (pv 3) pe_int) (pg_sub (pv 0) pe_int set_list))
      (pss_cons (ps_set (i := 4) scDraw.nd rfl (Or.inl rfl) (pe_op op_add (pe_op op_mul pe_int (pv 3)) pe_int))
      (pss_cut (ps_if (pt_cmpR (op_neD hu) (pe_ix ix_list (pv 0) pe_int (fun _ _ => rfl)) (pe_lst pa_nil) (nomark _))
        (pss_one (ps_set (i := 4) scDraw.nd rfl (Or.inl rfl) (pe_ix ix_list (pe_ix ix_list (pv 0) pe_int (fun _ _ => rfl))
          (pe_op op_mod (pe_callTy call_int1 (by rfl) T.int PyProof.Rows.boot_int (pa_cons (pv 3) pa_nil)) (pe_callB call_len_seq (by rfl) T.len PySem.boot_len (pa_cons (pe_ix ix_list (pv 0) pe_int (fun _ _ => rfl)) pa_nil))) (fun _ _ => rfl)))) pss_nil)
      (pss_cons (ps_if (PW.pt (pw_and (pt_cmpR op_lt (pv 3) (pe_callB call_len_seq (by rfl) T.len PySem.boot_len (pa_cons (pe_ix ix_list (pv 0) pe_int (fun _ _ => rfl)) pa_nil)) (nomark _))
          (pw_and1 (pt_cmpR op_ge (pe_callB call_abs (by rfl) T.abs PyProof.Rows.boot_abs (pa_cons (pv 4) pa_nil)) (pe_op op_pow pe_int pe_int) (nomark _)))))
        (pss_cons (ps_set (i := 5) scDraw.nd rfl (Or.inl rfl) (pe_op op_add (pe_op op_mul pe_int (pe_op op_sub (pe_callB call_abs (by rfl) T.abs PyProof.Rows.boot_abs (pa_cons (pv 4) pa_nil)) (pe_op op_pow pe_int pe_int)))
          (pe_callTy call_int1 (by rfl) T.int PyProof.Rows.boot_int (pa_cons (pe_cmpR op_lt (pv 4) pe_int (nomark _)) pa_nil))))
        (pss_cons (ps_asg (pe_op op_fdivW (pe_callTy call_int1 (by rfl) T.int PyProof.Rows.boot_int (pa_cons (pv 5) pa_nil)) (pv 1)) (pg_sub (pv 0) pe_int set_list))
        (pss_one (ps_ret (pe_op op_mod (pe_callTy call_int1 (by rfl) T.int PyProof.Rows.boot_int (pa_cons (pv 5) pa_nil)) (pv 1)))))) pss_nil)
      (pss_cons (ps_set (i := 6) scDraw.nd rfl (Or.inl rfl) (pe_op op_mod (pe_callTy call_int1 (by rfl) T.int PyProof.Rows.boot_int (pa_cons (pe_op op_pow
        (pe_op op_add (pe_op op_add (pe_op op_mod (pe_callTy call_int1 (by rfl) T.int PyProof.Rows.boot_int (pa_cons (pv 4) pa_nil)) pe_int) (pe_op op_mul pe_int (pv 3))) pe_int) pe_int) pa_nil)) pe_int))
      (pss_cons (ps_set (i := 6) scDraw.nd rfl (Or.inl rfl) (pe_op op_mod (pe_callTy call_int1 (by rfl) T.int PyProof.Rows.boot_int (pa_cons (pe_op op_pow
        (pe_op op_add (pe_op op_add (pe_op op_mul (pv 6) (pe_op op_add (pe_op op_mul pe_int (pv 3)) pe_int)) (pe_op op_mul (pe_op op_mul pe_int (pv 3)) (pv 3))) pe_int) pe_int) pa_nil)) pe_int))
      (pss_one (ps_ret (pe_op op_mod (pe_callTy call_int1 (by rfl) T.int PyProof.Rows.boot_int (pa_cons (pe_op op_fdiv (pv 6) pe_int) pa_nil)) (pv 1)))))))))))
      , ?_⟩
    have hd : CDivW 0 n := wide_div (b := 64) n0 (by omega) (by decide) (by decide)
    refine ⟨_, rfl, q, _, _, _, rfl, rfl, SqL.of hq, rfl, _, _, rfl, rfl, _, rfl, ite2 (fun hpos => ?_) (fun hneg => ?_)⟩
    · refine ⟨_, rfl, q, _, _, _, rfl, rfl, SqL.of hq, rfl, .inl ⟨_, rfl, _, rfl, _, _, rfl, rfl, n0, ?_⟩⟩
      refine ⟨_, rfl, q, _, _, _, rfl, rfl, SqL.of hq, rfl, .inl ⟨_, rfl, _, rfl, _, _, rfl, rfl, hd, ?_⟩⟩
      refine ⟨_, rfl, q, _, _, _, rfl, rfl, hq, rfl, ?_⟩
      refine ⟨_, rfl, k (rest % n) _ (Int.emod_nonneg _ (by omega)) (Int.emod_lt_of_pos _ n0) (fun c o e hc => ?_) ?_⟩
      · rw [upd_ne hc]
        exact e
      · exact ⟨l, ns, spot, rest / n, upd_same, by rw [upd_ne nlq]; exact hl, nlq, hlen, s0, by omega, Int.ediv_nonneg r0 (by omega)⟩
    · refine ⟨_, rfl, q, _, _, _, rfl, rfl, SqL.of hq, rfl, ?_⟩
      refine ⟨_, rfl, _, _, rfl, rfl, _, rfl, q, _, _, _, rfl, rfl, hq, rfl, ?_⟩
      refine ⟨_, rfl, _, _, rfl, rfl, .inl ⟨by decide, by decide⟩, _, _, rfl, rfl, ?_⟩
      have hq1 : upd H q (.lst [.ref l, .int (spot + 1), .int rest]) q = some (.lst [.ref l, .int (spot + 1), .int rest]) := upd_same
      have hl1 : upd H q (.lst [.ref l, .int (spot + 1), .int rest]) l = some (.lst (ns.map V.int)) := by
        rw [upd_ne nlq]
        exact hl
      have b1 : But q H (upd H q (.lst [.ref l, .int (spot + 1), .int rest])) := fun c o e hc => by
        rw [upd_ne hc]
        exact e
      have hp : PenAt (upd H q (.lst [.ref l, .int (spot + 1), .int rest])) q (b + 1) := ⟨l, ns, spot + 1, rest, hq1, hl1, nlq, hlen, by omega, by omega, r0⟩
      refine ⟨fun σ' H' => ∃ cell : Int, σ' = [some (.ref q), some (.int n), none, some (.int spot), some (.int cell), none, none] ∧ Same (upd H q (.lst [.ref l, .int (spot + 1), .int rest])) H', ?_, ?_⟩
      · refine ⟨_, rfl, q, _, _, _, rfl, rfl, SqL.of hq1, rfl, Nat.zero_le _, fun e ne => ?_⟩
        have sE : Same (upd H q (.lst [.ref l, .int (spot + 1), .int rest])) (upd (upd H q (.lst [.ref l, .int (spot + 1), .int rest])) e (.lst [])) := fun c o h => by
          rw [upd_ne (ne_of_none h ne)]
          exact h
        refine ⟨_, _, .lst (SqL.of (sE _ _ hl1)) (dp_ints ns), .lst (SqL.of upd_same) .nil, lay_ints ns, lay_ints [], _, rfl, ?_⟩
        rw [eqv_ints]
        cases hn : ns.isEmpty with
        | true => exact iteF ⟨_, rfl, sE⟩
        | false =>
          have hpos : 0 < ns.length := by
            cases ns with
            | nil => cases hn
            | cons _ _ => exact Nat.succ_pos _
          obtain ⟨v, _, hv⟩ := at_ints (ns := ns) (i := spot % (ns.length : Int)) (Int.emod_nonneg _ (by omega)) (Int.emod_lt_of_pos _ (by omega))
          refine iteT ⟨_, rfl, q, _, _, _, rfl, rfl, SqL.of (sE _ _ hq1), rfl, _, rfl, .inl ⟨_, rfl, ?_⟩⟩
          refine ⟨_, rfl, q, _, _, _, rfl, rfl, SqL.of (sE _ _ hq1), rfl, l, _, rfl, .inl (SqL.of (sE _ _ hl1)), _, _, rfl, rfl, (by rw [List.length_map]; show (0 : Int) < (ns.length : Int); omega), ?_⟩
          rw [List.length_map]
          exact ⟨l, _, _, _, rfl, rfl, SqL.of (sE _ _ hl1), hv, _, rfl, sE⟩
      · rintro σ' H' ⟨cell, rfl, sE⟩
        have hqE := sE _ _ hq1
        have hlE := sE _ _ hl1
        have bE : But q H H' := b1.trans (Same.but sE)
        have pE : PenAt H' q (b + 1) := hp.same sE
        have hs : spot ≤ 1000000 := by omega
        refine ⟨_, rfl, _, rfl, q, _, _, _, rfl, rfl, SqL.of hqE, rfl, l, _, rfl, .inl (SqL.of hlE), _, _, rfl, rfl, _, rfl,
          ite2 (fun hlt => ⟨_, rfl, _, rfl, _, _, rfl, rfl, pow18, _, _, rfl, rfl, _, rfl, ite2 (fun hbig => ?c) (fun hsmall => ?d)⟩) (fun hge => iteF ?b)⟩
        case c =>
          have hb2 := of_decide_eq_true hbig
          refine ⟨_, rfl, _, rfl, _, _, rfl, rfl, pow18, _, _, rfl, rfl, _, _, rfl, rfl, .inl ⟨by decide, by decide⟩, _, rfl, _, _, rfl, rfl, .inr ⟨_, rfl, _, _, rfl, rfl, ?_⟩⟩
          refine ⟨_, rfl, .inl ⟨_, rfl, _, rfl, _, _, rfl, rfl, ⟨hd.1, hd.2⟩, _, rfl, q, _, _, _, rfl, rfl, hqE, rfl, ?_⟩⟩
          refine ⟨_, rfl, .inl ⟨_, rfl, _, rfl, _, _, rfl, rfl, n0, ?_⟩⟩
          refine k _ _ (Int.emod_nonneg _ (by omega)) (Int.emod_lt_of_pos _ n0) (fun c o e hc => ?_) ⟨l, ns, spot + 1, _, upd_same, by rw [upd_ne nlq]; exact hlE, nlq, hlen, by omega, by omega, Int.ediv_nonneg ?_ (by omega)⟩
          · rw [upd_ne hc]
            exact bE c o e hc
          · have p1 : (0 : Int) ≤ (if decide (cell < 0) = true then 1 else 0) := by split <;> decide
            have p2 : (0 : Int) ≤ (if cell < 0 then -cell else cell) - 10 ^ (18 : Int).toNat := Int.sub_nonneg_of_le hb2
            exact Int.add_nonneg (Int.mul_nonneg (by decide) p2) p1
        all_goals
          have c0 := Int.emod_nonneg cell (show (2147483587 : Int) ≠ 0 by decide)
          have c1 := Int.emod_lt_of_pos cell (show (0 : Int) < 2147483587 by decide)
          refine ⟨_, rfl, .inl ⟨_, rfl, _, _, rfl, rfl, (by show (0 : Int) < 2147483587; decide), _, rfl, _, _, rfl, rfl, .inl ⟨by decide, by decide⟩, _, _, rfl, rfl, _, _, rfl, rfl, _, _, rfl, rfl, pow5 (by omega) (by omega),
            .inl ⟨_, rfl, _, _, rfl, rfl, (by show (0 : Int) < 2147483629; decide), ?_⟩⟩⟩
          obtain ⟨z, z0, z1, ez⟩ : ∃ z : Int, 0 ≤ z ∧ z < 2147483629 ∧ z = (cell % 2147483587 + 52853 * spot + 369) ^ (5 : Int).toNat % 2147483629 := ⟨_, Int.emod_nonneg _ (by decide), Int.emod_lt_of_pos _ (by decide), rfl⟩
          have B1 := bl_ok z0 z1 s0 hs
          have B2 := sq_ok s0 hs
          have B3 : -(2 ^ 64) < 61373 * spot ∧ 61373 * spot < 2 ^ 64 := by omega
          have B4 : -(2 ^ 64) < z ∧ z < 2 ^ 64 := by omega
          rw [ez] at B1 B4
          refine ⟨_, rfl, _, rfl, _, _, rfl, rfl, .inl ⟨by decide, by decide⟩, _, _, rfl, rfl, _, _, rfl, rfl, .inl B4, _, rfl, _, _, rfl, rfl, .inl ⟨by decide, by decide⟩, _, rfl, _, _, rfl, rfl, .inl B3, _, _, rfl, rfl, _, _, rfl, rfl, _, _, rfl, rfl,
            pow3 (Int.add_nonneg (Int.add_nonneg B1.1 B2.1) (by decide)) (Int.lt_of_le_of_lt (Int.add_le_add (Int.add_le_add B1.2 B2.2) (Int.le_refl 55)) (by decide)), .inl ⟨_, rfl, _, _, rfl, rfl, (by show (0 : Int) < 2147483579; decide), ?_⟩⟩
          refine ⟨_, rfl, _, _, rfl, rfl, ⟨by decide, by decide⟩, .inl ⟨_, rfl, _, rfl, _, _, rfl, rfl, n0, ?_⟩⟩
          exact k _ _ (Int.emod_nonneg _ (by omega)) (Int.emod_lt_of_pos _ n0) bE pE
end
end K4

/-! A picked item, a drawn moment. -/
namespace K4
open PySem L2
open C8 (InsC call_isC pss_cut tCut)
theorem But.seq {K : PySem.W.Frag} {H H' : Hp} {q a : Addr} {xs : List V} (u : But q H H') (n : a ≠ q) (h : SqL K H a xs) : SqL K H' a xs := by
  rcases h with (h | ⟨o, h⟩) | h
  · exact .inl (.inl (u _ _ h n))
  · exact .inl (.inr ⟨o, u _ _ h n⟩)
  · exact .inr h
theorem pow48 : CPow 10 48 := ⟨by decide, by decide, by decide⟩
theorem new_same {H : Hp} {t : Addr} {o : HO} (h : H t = none) : Same H (upd H t o) := fun c u e => by
  rw [upd_ne (ne_of_none e h)]
  exact e
theorem PenAt.ne_new {H : Hp} {q t : Addr} {b : Int} (h : PenAt H q b) (n : H t = none) : t ≠ q := by
  obtain ⟨l, ns, spot, rest, h1, _⟩ := h
  exact fun z => by
    rw [z, h1] at n
    cases n
section
variable {P : Program} {w : World} {K : PySem.W.Frag} {mg : Str → Option Value} {base : Heap}
theorem scPick : FnScope ["_law_pen_here", "_law_some"] ["_law_pen_here", "_law_some"] (defScope sPick) := ⟨rfl, rfl, rfl, by decide +kernel, rfl, by decide +kernel, by decide +kernel⟩
theorem ok_pick {f fD : Addr} {fd fdD : FuncData} (F : Fun K "_law_pick" "_law_pick" sPick f fd) (T : Txt K mg) (G : Glob P w K mg base 1 "_law_draw" ["_law_pen_here", "_law_many"] spDraw fD fdD) :
    FnOk P w K mg base CX0 2 f fd ["_law_pen_here", "_law_some"] (spPick K) := by
  refine F.ok scPick (fun vs H Q E h => ?_) (fun cdv A outer s H vs Q E hr h => ?_)
  · obtain ⟨q, s, b, ns, rfl, _⟩ := h
    rfl
  · obtain ⟨q, a, b, ns, rfl, hp, hb, hS, na, n0, n1, k⟩ := h
    refine ⟨_, pss_one (ps_ret (pe_ix ix_list (pv 1) (pcall G hr (pa_cons (pv 0) (pa_cons (pe_callB call_len_seq (by rfl) T.len PySem.boot_len (pa_cons (pv 1) pa_nil)) pa_nil))) (fun _ _ => rfl))), ?_⟩
    refine ⟨_, rfl, _, rfl, _, rfl, a, _, rfl, .inl hS, q, _, b, rfl, hp, hb, (by rw [List.length_map]; omega), (by rw [List.length_map]; omega), fun v H' v0 v1 u p' => ?_⟩
    rw [List.length_map] at v1
    obtain ⟨z, hz, ez⟩ := at_ints v0 v1
    exact ⟨a, _, v, _, rfl, rfl, u.seq na hS, ez, k z H' hz u p'⟩
theorem scMom : FnScope ["_law_pen_here", "_law_size", "_law_found"] ["_law_pen_here", "_law_size"] (defScope sMom) := ⟨rfl, rfl, rfl, by decide +kernel, rfl, by decide +kernel, by decide +kernel⟩
theorem ok_mom {f fD fP : Addr} {fd fdD fdP : FuncData} (F : Fun K "_law_moment" "_law_moment" sMom f fd) (G : Glob P w K mg base 1 "_law_draw" ["_law_pen_here", "_law_many"] spDraw fD fdD)
    (GP : Glob P w K mg base 2 "_law_pick" ["_law_pen_here", "_law_some"] (spPick K) fP fdP) : FnOk P w K mg base CX0 3 f fd ["_law_pen_here", "_law_size"] spMom := by
  refine F.ok scMom (fun vs H Q E h => ?_) (fun cdv A outer s H vs Q E hr h => ?_)
  · obtain ⟨q, L, b, rfl, _⟩ := h
    rfl
  · obtain ⟨q, L, b, rfl, hp, hb, ⟨l1, l2⟩, k⟩ := h
    have hr1 : Room 1 _ := hr.mono (by decide)
    refine ⟨_, pss_cons (ps_set (i := 2) scMom.nd rfl (Or.inl rfl) (pcall GP hr (pa_cons (pv 0) (pa_cons (pe_lst
        (pa_cons (pcall G hr1 (pa_cons (pv 0) (pa_cons (pv 1) pa_nil)))
        (pa_cons (pcall G hr1 (pa_cons (pv 0) (pa_cons (pe_op op_mul pe_int (pv 1)) pa_nil)))
        (pa_cons (pe_op op_add (pe_op op_pow pe_int pe_int) (pcall G hr1 (pa_cons (pv 0) (pa_cons (pe_op op_pow pe_int pe_int) pa_nil))))
        (pa_cons pe_int pa_nil))))) pa_nil))))
      (pss_one (ps_ret (pe_ifExp (pt_cmpR op_eq (pcall G hr1 (pa_cons (pv 0) (pa_cons pe_int pa_nil))) pe_int (nomark _)) (pv 2) (pe_op op_sub pe_int (pv 2))))), ?_⟩
    refine ⟨_, rfl, _, rfl, _, rfl, q, L, b, rfl, hp, by omega, by omega, by omega, fun v1 H1 a1 c1 u1 p1 => ?_⟩
    refine ⟨_, rfl, _, rfl, _, _, rfl, rfl, .inl ⟨by decide, by decide⟩, q, 3 * L, b + 1, rfl, p1, by omega, by omega, by omega, fun v2 H2 a2 c2 u2 p2 => ?_⟩
    refine ⟨_, _, rfl, rfl, pow48, _, rfl, _, _, rfl, rfl, pow18, q, 10 ^ 18, b + 1 + 1, rfl, p2, by omega, by omega, by omega, fun v3 H3 a3 c3 u3 p3 => ?_⟩
    refine ⟨_, _, rfl, rfl, (by show 4 ≤ sizeLine; decide), fun t ht => ?_⟩
    have sT : Same H3 (upd H3 t (.lst [.int v1, .int v2, .int (10 ^ (48 : Int).toNat + v3), .int 0])) := new_same ht
    refine ⟨q, t, b + 1 + 1 + 1, [v1, v2, 10 ^ (48 : Int).toNat + v3, 0], rfl, p3.same sT, by omega, SqL.of upd_same, p3.ne_new ht, by show 0 < 4; decide, by show 4 ≤ 1000; decide, fun v H4 hv u4 p4 => ?_⟩
    have e48 : (10 : Int) ^ (48 : Int).toNat = 10 ^ 48 := rfl
    have hd : Dr v := by
      rw [e48] at hv
      simp only [List.mem_cons, List.not_mem_nil, or_false] at hv
      unfold Dr
      omega
    refine ⟨_, rfl, q, 2, b + 1 + 1 + 1 + 1, rfl, p4, by omega, by omega, by omega, fun z H5 a5 c5 u5 p5 => ?_⟩
    have uA : But q H H5 := u1.trans (u2.trans (u3.trans ((Same.but sT).trans (u4.trans u5))))
    have pA : PenAt H5 q (b + 5) := p5.mono (by omega)
    refine ⟨rfl, _, rfl, ite2 (fun _ => ⟨_, rfl, k v H5 hd uA pA⟩) (fun _ => ⟨_, rfl, _, _, rfl, rfl, k (0 - v) H5 ?_ uA pA⟩)⟩
    obtain ⟨d1, d2⟩ := hd
    unfold Dr
    omega
end
end K4

/-! The plain law of whole days: no program in sight. -/
namespace K4
theorem two_ways (a b L : Int) (h : 0 < L) : (b - a) % L + (a - b) % L = if a % L = b % L then 0 else L := by
  have ha := Int.emod_nonneg a (show L ≠ 0 by omega)
  have ha' := Int.emod_lt_of_pos a h
  have hb := Int.emod_nonneg b (show L ≠ 0 by omega)
  have hb' := Int.emod_lt_of_pos b h
  have e1 : (b - a) % L = (b % L - a % L) % L := Int.sub_emod b a L
  have e2 : (a - b) % L = (a % L - b % L) % L := Int.sub_emod a b L
  rw [e1, e2]
  generalize a % L = x at *
  generalize b % L = y at *
  by_cases hxy : x = y
  · rw [if_pos hxy, hxy]
    simp
  · rw [if_neg hxy]
    rcases Int.lt_or_gt_of_ne hxy with q | q
    · rw [Int.emod_eq_of_lt (show 0 ≤ y - x by omega) (by omega)]
      have : (x - y) % L = x - y + L := by
        rw [← Int.add_emod_right (x - y) L]
        exact Int.emod_eq_of_lt (by omega) (by omega)
      rw [this]
      omega
    · rw [Int.emod_eq_of_lt (show 0 ≤ x - y by omega) (by omega)]
      have : (y - x) % L = y - x + L := by
        rw [← Int.add_emod_right (y - x) L]
        exact Int.emod_eq_of_lt (by omega) (by omega)
      rw [this]
      omega
theorem in_a_row (a b c L : Int) : ((b - a) % L + (c - b) % L) % L = (c - a) % L := by
  rw [← Int.add_emod]
  congr 1
  omega
theorem then_there (a b L : Int) : (a + (b - a) % L) % L = b % L := by
  rw [Int.add_emod, Int.emod_emod_of_dvd _ (Int.dvd_refl L), ← Int.add_emod]
  congr 1
  omega
theorem days_on (a d L : Int) : (a + d * L) % L = a % L := Int.add_mul_emod_self_right a d L
theorem days_on_div (a d L : Int) (h : 0 < L) : (a + d * L) / L = a / L + d := Int.add_mul_ediv_right a d (by omega)
theorem days_apart (a b d L : Int) : (b - d * L - (a + d * L)) % L = (b - a) % L := by
  have e : b - d * L - (a + d * L) = (b - a) + (-(2 * d)) * L := by
    rw [Int.neg_mul, Int.mul_assoc]
    omega
  rw [e]
  exact Int.add_mul_emod_self_right (b - a) (-(2 * d)) L
theorem clock_clock (a L : Int) : a % L % L = a % L := Int.emod_emod_of_dvd a (Int.dvd_refl L)
/-! a longer day -/
theorem long_div (x n L : Int) (hL : 0 < L) (_hn : 0 < n) : x / (n * L) = x / L / n := by
  rw [Int.mul_comm n L]
  exact (Int.ediv_ediv_of_nonneg (by omega)).symm
theorem long_mod (x n L : Int) (_hL : 0 < L) (_hn : 0 < n) : x % (n * L) = x % L + L * (x / L - x / (n * L) * n) := by
  have e1 := Int.emod_add_mul_ediv x L
  have e2 := Int.emod_add_mul_ediv x (n * L)
  have e3 : L * (x / L - x / (n * L) * n) = L * (x / L) - n * L * (x / (n * L)) := by
    rw [Int.mul_sub]
    congr 1
    rw [Int.mul_comm (x / (n * L)) n, ← Int.mul_assoc, Int.mul_comm L n]
  rw [e3]
  omega
theorem long_wait_mod (z n L : Int) : z % (n * L) % L = z % L := Int.emod_emod_of_dvd z (Int.dvd_mul_left n L)
theorem long_wait_ge (z n L : Int) (hL : 0 < L) (hn : 0 < n) : z % L ≤ z % (n * L) := by
  have h0 := Int.emod_nonneg z (show n * L ≠ 0 from by have := Int.mul_pos hn hL; omega)
  rw [← long_wait_mod z n L]
  have e := Int.emod_add_mul_ediv (z % (n * L)) L
  have d := Int.mul_nonneg (show 0 ≤ L by omega) (Int.ediv_nonneg h0 (show 0 ≤ L by omega))
  omega
theorem long_wait_lt (z n L : Int) (hL : 0 < L) (hn : 0 < n) : z % (n * L) < L * n := by
  rw [Int.mul_comm L n]
  exact Int.emod_lt_of_pos z (Int.mul_pos hn hL)
end K4

/-! What the operators ask of the class; waits that are right. -/
namespace K4
open PySem L2
open C8 (InsC call_isC pss_cut tCut)
theorem dn_mod : PySem.dunder "mod" = ("__mod__" : Str) := by decide +kernel
theorem dr_mod : dunderR "mod" = ("__rmod__" : Str) := by decide +kernel
theorem dn_fdiv : PySem.dunder "floordiv" = ("__floordiv__" : Str) := by decide +kernel
theorem dr_fdiv : dunderR "floordiv" = ("__rfloordiv__" : Str) := by decide +kernel
theorem dn_mul : PySem.dunder "mul" = ("__mul__" : Str) := by decide +kernel
theorem dr_mul : dunderR "mul" = ("__rmul__" : Str) := by decide +kernel
/-- the class's own names, as the top has left them -/
structure DayK (K : PySem.W.Frag) (C fM fF fW fU fV fE : Addr) : Prop where
  first : PySem.W.selfFirst K C = true
  noInt : PySem.W.subIn K (.ref C) (.type "int") = some false
  intNo : PySem.W.subIn K (.type "int") (.ref C) = some false
  obj : PySem.W.subIn K (.ref C) (.type "object") = some true
  noMod : PySem.W.findIn K (.ref C) "__mod__" = some none
  rmod : PySem.W.findIn K (.ref C) "__rmod__" = some (some (.ref fM))
  fnM : PySem.W.isFn K (.ref fM) = true
  noFdiv : PySem.W.findIn K (.ref C) "__floordiv__" = some none
  rfdiv : PySem.W.findIn K (.ref C) "__rfloordiv__" = some (some (.ref fF))
  fnF : PySem.W.isFn K (.ref fF) = true
  fwd : Meth K C "forward" fW
  mul : PySem.W.findIn K (.ref C) "__mul__" = some (some (.ref fU))
  fnU : PySem.W.isFn K (.ref fU) = true
  rmul : PySem.W.findIn K (.ref C) "__rmul__" = some (some (.ref fV))
  fnV : PySem.W.isFn K (.ref fV) = true
  eq : PySem.W.findIn K (.ref C) "__eq__" = some (some (.ref fE))
  fnE : PySem.W.isFn K (.ref fE) = true
  ne : PySem.W.findIn K (.ref C) "__ne__" = some (some (.builtin "object.__ne__"))
  iMul : ∃ o, PySem.W.findIn K (.type "int") "__mul__" = some o
  iRmul : ∃ o, PySem.W.findIn K (.type "int") "__rmul__" = some o
/-- the class's own defs keep their promises -/
structure DayF (P : Program) (w : World) (K : PySem.W.Frag) (mg : Str → Option Value) (base : Heap) (C fM fF fW fU fV fE : Addr) (dM dF dW dU dV dE : FuncData) : Prop where
  k : DayK K C fM fF fW fU fV fE
  c : DayC K mg C
  M : FnOk P w K mg base CX0 3 fM dM ["self", "moment"] (spRmod C)
  bM : Binds K dM ["self", "moment"] []
  F : FnOk P w K mg base CX0 3 fF dF ["self", "moment"] (spRfloor C)
  bF : Binds K dF ["self", "moment"] []
  W : FnOk P w K mg base CX0 3 fW dW ["self", "a", "b"] (spForward C)
  bW : Binds K dW ["self", "a", "b"] []
  U : FnOk P w K mg base CX0 5 fU dU ["self", "k"] (spMul C)
  bU : Binds K dU ["self", "k"] []
  V : FnOk P w K mg base CX0 5 fV dV ["self", "k"] (spMul C)
  bV : Binds K dV ["self", "k"] []
  E : FnOk P w K mg base CX0 1 fE dE ["self", "other"] (spEq C)
  bE : Binds K dE ["self", "other"] []
section
variable {X : Cx} {C fM fF fW fU fV fE : Addr} {dM dF dW dU dV dE : FuncData}
theorem oMod (D : DayF X.prog X.w X.K X.mg X.base C fM fF fW fU fV fE dM dF dW dU dV dE) (hr : Room 3 X.A) : OpR X (binaryOp .Mod) (rOwnR C (spRmod C)) := by
  obtain ⟨cd, rest, h1, h2⟩ := PySem.W.ksp_first D.k.first
  exact op_ownR (op := .Mod) D.M hr D.bM (fun h Y => fillsR Y h1 h2 (by rw [show PySem.dunder (Operator.info .Mod).2 = _ from dn_mod]; exact D.k.noMod) (by rw [show dunderR (Operator.info .Mod).2 = _ from dr_mod]; exact D.k.rmod)) PySem.F.fills_int_mod D.k.noInt
    PySem.F.slot_int_mod PySem.F.entry_int_mod PySem.F.args_int_mod_2 (fun _ _ _ _ _ _ _ _ ho hd q => mod_declines ho hd q) (by rw [show dunderR (Operator.info .Mod).2 = _ from dr_mod]; exact D.k.rmod) D.k.fnM
theorem oFdiv (D : DayF X.prog X.w X.K X.mg X.base C fM fF fW fU fV fE dM dF dW dU dV dE) (hr : Room 3 X.A) : OpR X (binaryOp .FloorDiv) (rOwnR C (spRfloor C)) := by
  obtain ⟨cd, rest, h1, h2⟩ := PySem.W.ksp_first D.k.first
  exact op_ownR (op := .FloorDiv) D.F hr D.bF (fun h Y => fillsR Y h1 h2 (by rw [show PySem.dunder (Operator.info .FloorDiv).2 = _ from dn_fdiv]; exact D.k.noFdiv) (by rw [show dunderR (Operator.info .FloorDiv).2 = _ from dr_fdiv]; exact D.k.rfdiv)) PySem.F.fills_int_floordiv D.k.noInt
    PySem.F.slot_int_floordiv PySem.F.entry_int_floordiv PySem.F.args_int_floordiv_2 (fun _ _ _ _ _ _ _ _ ho hd q => floordiv_declines ho hd q) (by rw [show dunderR (Operator.info .FloorDiv).2 = _ from dr_fdiv]; exact D.k.rfdiv) D.k.fnF
theorem oRmul (D : DayF X.prog X.w X.K X.mg X.base C fM fF fW fU fV fE dM dF dW dU dV dE) (hr : Room 5 X.A) : OpR X (binaryOp .Mult) (rOwnR C (spMul C)) := by
  obtain ⟨cd, rest, h1, h2⟩ := PySem.W.ksp_first D.k.first
  exact op_ownR (op := .Mult) D.V hr D.bV (fun h Y => PySem.W.fills_K Y h1 h2 (by rw [show PySem.dunder (Operator.info .Mult).2 = _ from dn_mul]; exact D.k.mul)) PySem.F.fills_int_mul D.k.noInt
    PySem.F.slot_int_mul PySem.F.entry_int_mul PySem.F.args_int_mul_2 (fun _ _ _ _ _ _ _ _ ho hd q => mul_declines ho hd q) (by rw [show dunderR (Operator.info .Mult).2 = _ from dr_mul]; exact D.k.rmul) D.k.fnV
theorem oMul (D : DayF X.prog X.w X.K X.mg X.base C fM fF fW fU fV fE dM dF dW dU dV dE) (hr : Room 5 X.A) : OpR X (binaryOp .Mult) (rOwnL C (spMul C)) := by
  obtain ⟨o1, h1⟩ := D.k.iMul
  obtain ⟨o2, h2⟩ := D.k.iRmul
  exact op_ownL (op := .Mult) (fo := o1) (ro := o2) D.U hr D.bU D.k.first (by rw [show PySem.dunder (Operator.info .Mult).2 = _ from dn_mul]; exact D.k.mul) D.k.fnU (by rw [show dunderR (Operator.info .Mult).2 = _ from dr_mul]; exact D.k.rmul) (.inr ⟨_, rfl⟩)
    (by rw [show PySem.dunder (Operator.info .Mult).2 = _ from dn_mul]; exact h1) (by rw [show dunderR (Operator.info .Mult).2 = _ from dr_mul]; exact h2) D.k.intNo
theorem oEq (D : DayF X.prog X.w X.K X.mg X.base C fM fF fW fU fV fE dM dF dW dU dV dE) (hr : Room 1 X.A) : OpR X (compareOp .Eq) (rOwnEq C (spEq C)) := op_ownEq D.E hr D.bE D.k.eq D.k.fnE
theorem oNe (D : DayF X.prog X.w X.K X.mg X.base C fM fF fW fU fV fE dM dF dW dU dV dE) (hr : Room 2 X.A) : OpR X (compareOp .NotEq) (rOwnNe C (spEq C)) := op_ownNe D.E hr D.bE D.k.ne D.k.obj D.k.eq D.k.fnE
end
theorem fwd_no {L : Int} : List.lookup ("forward" : Str) [(("length" : Str), V.int L)] = none := len_no (by decide +kernel)
theorem iteD {c A B : Prop} [Decidable c] (hc : c) (h : A) : if decide c = true then A else B := by
  rw [decide_eq_true hc]
  exact iteT h
theorem retD {Q : VK} {H : Hp} {c : Prop} [Decidable c] (hc : c) (k : Q (.bl true) H) : Q (.bl (decide c)) H := by
  rw [decide_eq_true hc]
  exact k
end K4

/-! Waits are right. -/
namespace K4
open PySem L2
open C8 (InsC call_isC pss_cut tCut)
section
variable {P : Program} {w : World} {K : PySem.W.Frag} {mg : Str → Option Value} {base : Heap}
theorem pow6 : CPow 10 6 := ⟨by decide, by decide, by decide⟩
theorem pow5' : CPow 10 5 := ⟨by decide, by decide, by decide⟩
theorem Dr.mo {v : Int} (h : Dr v) : Mo v := by
  obtain ⟨a, b⟩ := h
  unfold Mo
  omega
theorem prod_ok {d L : Int} (h0 : -1000000 ≤ d) (h1 : d ≤ 1000000) (l1 : 1 ≤ L) (l2 : L ≤ 1000000000000) : -(10 ^ 18) ≤ d * L ∧ d * L ≤ 10 ^ 18 := by
  have a := Int.mul_le_mul_of_nonneg_right h1 (show 0 ≤ L by omega)
  have b := Int.mul_le_mul_of_nonneg_right h0 (show 0 ≤ L by omega)
  omega
theorem scWaits : FnScope ["_law_pen_here", "_law_day", "_law_size", "_law_a", "_law_b", "_law_c", "_law_there", "_law_back", "_law_days"] ["_law_pen_here", "_law_day", "_law_size"] (defScope sWaits) := ⟨rfl, rfl, rfl, by decide +kernel, rfl, by decide +kernel, by decide +kernel⟩
theorem ok_waits {f fD fm C fM fF fW fU fV fE : Addr} {fd fdD fdm dM dF dW dU dV dE : FuncData} (F : Fun K "_law_waits_right" "_law_waits_right" sWaits f fd) (T : Txt K mg) (D : DayF P w K mg base C fM fF fW fU fV fE dM dF dW dU dV dE)
    (G : Glob P w K mg base 1 "_law_draw" ["_law_pen_here", "_law_many"] spDraw fD fdD) (GM : Glob P w K mg base 3 "_law_moment" ["_law_pen_here", "_law_size"] spMom fm fdm) :
    FnOk P w K mg base CX0 4 f fd ["_law_pen_here", "_law_day", "_law_size"] (spWaits C) := by
  refine F.ok scWaits (fun vs H Q E h => ?_) (fun cdv A outer s H vs Q E hr h => ?_)
  · obtain ⟨q, d, L, b, rfl, _⟩ := h
    rfl
  · obtain ⟨q, d, L, b, rfl, hp, hb, hd, hL, k⟩ := h
    have hr1 : Room 1 _ := hr.mono (by decide)
    have hdq : d ≠ q := hd.ne hp
    obtain ⟨dx, e0⟩ := hd
    obtain ⟨l1, l2⟩ := id hL
    refine ⟨_,
      pss_cons (ps_par3 (i := 3) (j := 4) (l := 5) (by rfl) scWaits.nd rfl rfl rfl (by decide) (by decide) (by decide) rfl rfl rfl
        (pa_cons (pcall GM hr (pa_cons (pv 0) (pa_cons (pv 2) pa_nil))) (pa_cons (pcall GM hr (pa_cons (pv 0) (pa_cons (pv 2) pa_nil))) (pa_cons (pcall GM hr (pa_cons (pv 0) (pa_cons (pv 2) pa_nil))) pa_nil))) (by rfl))
      (pss_cons (ps_par (i := 6) (j := 7) (by rfl) scWaits.nd rfl rfl (by decide) rfl rfl
        (pa_cons (pe_meth (pv 1) D.c.ins.cl D.k.fwd D.W hr D.bW .nil pass0 (pa_cons (pv 3) (pa_cons (pv 4) pa_nil))) (pa_cons (pe_meth (pv 1) D.c.ins.cl D.k.fwd D.W hr D.bW .nil pass0 (pa_cons (pv 4) (pa_cons (pv 3) pa_nil))) pa_nil)) (by rfl))
      (pss_cut (ps_if (pt_cmpR op_ne (pe_op op_add (pv 6) (pv 7)) (pe_ifExp (pt_cmpR op_eq
          (pe_op (oMod D hr) (pe_callTy call_int1 (by rfl) T.int PyProof.Rows.boot_int (pa_cons (pv 3) pa_nil)) (pv 1))
          (pe_op (oMod D hr) (pe_callTy call_int1 (by rfl) T.int PyProof.Rows.boot_int (pa_cons (pv 4) pa_nil)) (pv 1)) (nomark _)) pe_int (pv 2)) (nomark _)) pss_never pss_nil)
      (pss_cons (ps_if (PW.pt (pw_or
          (pt_cmpR op_ne (pe_op (oMod D hr) (pe_callTy call_int1 (by rfl) T.int PyProof.Rows.boot_int (pa_cons (pe_op op_add (pv 6)
              (pe_meth (pv 1) D.c.ins.cl D.k.fwd D.W hr D.bW .nil pass0 (pa_cons (pv 4) (pa_cons (pv 5) pa_nil)))) pa_nil)) (pv 1))
            (pe_meth (pv 1) D.c.ins.cl D.k.fwd D.W hr D.bW .nil pass0 (pa_cons (pv 3) (pa_cons (pv 5) pa_nil))) (nomark _))
          (pw_or1 (pt_cmpR op_ne (pe_op (oMod D hr) (pe_callTy call_int1 (by rfl) T.int PyProof.Rows.boot_int (pa_cons (pe_op op_add (pv 3) (pv 6)) pa_nil)) (pv 1))
            (pe_op (oMod D hr) (pe_callTy call_int1 (by rfl) T.int PyProof.Rows.boot_int (pa_cons (pv 4) pa_nil)) (pv 1)) (nomark _))))) pss_never pss_nil)
      (pss_cons (ps_set (i := 8) scWaits.nd rfl (Or.inl rfl) (pe_op op_sub (pcall G hr1 (pa_cons (pv 0) (pa_cons (pe_op op_pow pe_int pe_int) pa_nil))) (pe_op op_pow pe_int pe_int)))
      (pss_cons (ps_if (PW.pt (pw_or
          (pt_cmpR op_ne (pe_op (oMod D hr) (pe_callTy call_int1 (by rfl) T.int PyProof.Rows.boot_int (pa_cons (pe_op op_add (pv 3) (pe_op op_mul (pv 8) (pv 2))) pa_nil)) (pv 1))
            (pe_op (oMod D hr) (pe_callTy call_int1 (by rfl) T.int PyProof.Rows.boot_int (pa_cons (pv 3) pa_nil)) (pv 1)) (nomark _))
          (pw_or1 (pt_cmpR op_ne (pe_op (oFdiv D hr) (pe_op op_add (pv 3) (pe_op op_mul (pv 8) (pv 2))) (pv 1)) (pe_op op_add (pe_op (oFdiv D hr) (pv 3) (pv 1)) (pv 8)) (nomark _))))) pss_never pss_nil)
      (pss_one (ps_ret (pe_and
        (pe_cmpR op_eq (pe_meth (pv 1) D.c.ins.cl D.k.fwd D.W hr D.bW .nil pass0 (pa_cons (pe_op op_add (pv 3) (pe_op op_mul (pv 8) (pv 2))) (pa_cons (pe_op op_sub (pv 4) (pe_op op_mul (pv 8) (pv 2))) pa_nil))) (pv 6) (nomark _))
        (pe_one (pe_cmpR op_eq (pe_op (oMod D hr) (pe_callTy call_int1 (by rfl) T.int PyProof.Rows.boot_int (pa_cons (pe_op (oMod D hr) (pe_callTy call_int1 (by rfl) T.int PyProof.Rows.boot_int (pa_cons (pv 3) pa_nil)) (pv 1)) pa_nil)) (pv 1))
          (pe_op (oMod D hr) (pe_callTy call_int1 (by rfl) T.int PyProof.Rows.boot_int (pa_cons (pv 3) pa_nil)) (pv 1)) (nomark _))))))))))), ?_⟩
    refine ⟨_, rfl, _, rfl, q, L, b, rfl, hp, by omega, hL, fun a H1 ha u1 p1 => ?_⟩
    refine ⟨_, rfl, _, rfl, q, L, b + 5, rfl, p1, by omega, hL, fun c H2 hc u2 p2 => ?_⟩
    refine ⟨_, rfl, _, rfl, q, L, b + 5 + 5, rfl, p2, by omega, hL, fun z H3 hz u3 p3 => ?_⟩
    have e3 := u3 _ _ (u2 _ _ (u1 _ _ e0 hdq) hdq) hdq
    refine ⟨_, _, _, rfl, ?_⟩
    refine ⟨_, rfl, d, dx, _, rfl, e3, fwd_no, _, rfl, _, rfl, d, a, c, L, rfl, ⟨dx, e3⟩, hL, ha.mo, hc.mo, fun H4 s4 => ?_⟩
    have e4 := s4 _ _ e3
    refine ⟨_, rfl, d, dx, _, rfl, e4, fwd_no, _, rfl, _, rfl, d, c, a, L, rfl, ⟨dx, e4⟩, hL, hc.mo, ha.mo, fun H5 s5 => ?_⟩
    have e5 := s5 _ _ e4
    refine ⟨_, _, rfl, ?_⟩
    have ht0 := Int.emod_nonneg (c - a) (show L ≠ 0 by omega)
    have ht1 := Int.emod_lt_of_pos (c - a) (show 0 < L by omega)
    obtain ⟨ha1, ha2⟩ := id ha
    obtain ⟨hc1, hc2⟩ := id hc
    obtain ⟨hz1, hz2⟩ := id hz
    have two := two_ways a c L (by omega)
    refine ⟨fun σ' H' => σ' = [some (.ref q), some (.ref d), some (.int L), some (.int a), some (.int c), some (.int z), some (.int ((c - a) % L)), some (.int ((a - c) % L)), none] ∧ H' = H5, ?_, ?_⟩
    · refine ⟨_, rfl, _, rfl, _, _, rfl, rfl, ?_⟩
      refine ⟨_, rfl, .inl ⟨_, rfl, _, rfl, d, dx, _, _, rfl, rfl, e5, d, a, L, rfl, ⟨dx, e5⟩, hL, ha.mo, ?_⟩⟩
      refine ⟨_, rfl, .inl ⟨_, rfl, _, rfl, d, dx, _, _, rfl, rfl, e5, d, c, L, rfl, ⟨dx, e5⟩, hL, hc.mo, ?_⟩⟩
      refine ⟨rfl, _, rfl, ite2 (fun h => ?_) (fun h => ?_)⟩
      · have h' : a % L = c % L := by
          have := of_decide_eq_true h
          injection this
        rw [if_pos h'] at two
        exact ⟨rfl, _, rfl, iteNS (congrArg V.int two) ⟨rfl, rfl⟩⟩
      · have h' : ¬ a % L = c % L := fun z => h (decide_eq_true (congrArg V.int z))
        rw [if_neg h'] at two
        exact ⟨_, rfl, rfl, _, rfl, iteNS (congrArg V.int two) ⟨rfl, rfl⟩⟩
    · rintro σ' H' ⟨rfl, eH⟩
      subst eH
      have hy0 := Int.emod_nonneg (z - c) (show L ≠ 0 by omega)
      have hy1 := Int.emod_lt_of_pos (z - c) (show 0 < L by omega)
      have hx0 := Int.emod_nonneg a (show L ≠ 0 by omega)
      have hx1 := Int.emod_lt_of_pos a (show 0 < L by omega)
      refine ⟨_, rfl, _, rfl, d, dx, _, rfl, e5, fwd_no, _, rfl, _, rfl, d, c, z, L, rfl, ⟨dx, e5⟩, hL, hc.mo, hz.mo, fun H6 s6 => ?_⟩
      have e6 := s6 _ _ e5
      refine ⟨_, _, rfl, rfl, .inl ⟨_, rfl, _, rfl, d, dx, _, _, rfl, rfl, e6, d, _, L, rfl, ⟨dx, e6⟩, hL, (by unfold Mo; omega), ?_⟩⟩
      refine ⟨_, rfl, d, dx, _, rfl, e6, fwd_no, _, rfl, _, rfl, d, a, z, L, rfl, ⟨dx, e6⟩, hL, ha.mo, hz.mo, fun H7 s7 => ?_⟩
      have e7 := s7 _ _ e6
      refine ⟨rfl, _, rfl, iteNS (congrArg V.int (in_a_row a c z L)) ?_⟩
      refine ⟨_, rfl, _, rfl, _, _, rfl, rfl, .inl ⟨_, rfl, _, rfl, d, dx, _, _, rfl, rfl, e7, d, _, L, rfl, ⟨dx, e7⟩, hL, (by unfold Mo; omega), ?_⟩⟩
      refine ⟨_, rfl, .inl ⟨_, rfl, _, rfl, d, dx, _, _, rfl, rfl, e7, d, _, L, rfl, ⟨dx, e7⟩, hL, hc.mo, ?_⟩⟩
      refine ⟨rfl, _, rfl, iteNS (congrArg V.int (then_there a c L)) ?_⟩
      have sA : Same H3 H7 := s4.trans (s5.trans (s6.trans s7))
      refine ⟨_, rfl, _, _, rfl, rfl, pow6, q, 10 ^ 6, b + 5 + 5 + 5, rfl, p3.same sA, by omega, by omega, by omega, fun v H8 v0 v1 u8 p8 => ?_⟩
      have e8 := u8 _ _ e7 hdq
      refine ⟨_, _, rfl, rfl, pow5', _, _, rfl, rfl, ?_⟩
      obtain ⟨g, hg⟩ : ∃ g : Int, g = v - 10 ^ (5 : Int).toNat := ⟨_, rfl⟩
      have h5 : (10 : Int) ^ (5 : Int).toNat = 100000 := rfl
      have gL := prod_ok (d := v - 10 ^ (5 : Int).toNat) (L := L) (by omega) (by omega) l1 l2
      have cm : CMul (v - 10 ^ (5 : Int).toNat) L := .inr ⟨by omega, by omega⟩
      have mo3 : Mo (a + (v - 10 ^ (5 : Int).toNat) * L) := by unfold Mo; omega
      have mo4 : Mo (c - (v - 10 ^ (5 : Int).toNat) * L) := by unfold Mo; omega
      refine ⟨_, rfl, _, rfl, _, rfl, _, _, rfl, rfl, cm, _, _, rfl, rfl, .inl ⟨_, rfl, _, rfl, d, dx, _, _, rfl, rfl, e8, d, _, L, rfl, ⟨dx, e8⟩, hL, mo3, ?_⟩⟩
      refine ⟨_, rfl, .inl ⟨_, rfl, _, rfl, d, dx, _, _, rfl, rfl, e8, d, _, L, rfl, ⟨dx, e8⟩, hL, ha.mo, ?_⟩⟩
      refine ⟨rfl, _, rfl, iteNS (congrArg V.int (days_on a _ L)) ?_⟩
      refine ⟨_, rfl, _, rfl, _, rfl, _, _, rfl, rfl, cm, _, _, rfl, rfl, _, rfl, d, dx, _, _, rfl, rfl, e8, d, _, L, rfl, ⟨dx, e8⟩, hL, mo3, ?_⟩
      refine ⟨_, rfl, _, rfl, d, dx, _, _, rfl, rfl, e8, d, _, L, rfl, ⟨dx, e8⟩, hL, ha.mo, _, rfl, _, _, rfl, rfl, ?_⟩
      refine ⟨rfl, _, rfl, iteNS (congrArg V.int (days_on_div a _ L (by omega))) ?_⟩
      refine ⟨_, rfl, d, dx, _, rfl, e8, fwd_no, _, rfl, _, rfl, _, rfl, _, _, rfl, rfl, cm, _, _, rfl, rfl, _, rfl, _, rfl, _, rfl, _, _, rfl, rfl, cm, _, _, rfl, rfl, d, _, _, L, rfl, ⟨dx, e8⟩, hL, mo3, mo4, fun H9 s9 => ?_⟩
      have e9 := s9 _ _ e8
      refine ⟨_, rfl, rfl, _, rfl, iteD (congrArg V.int (days_apart a c _ L)) ?_⟩
      refine ⟨_, rfl, .inl ⟨_, rfl, _, rfl, d, dx, _, _, rfl, rfl, e9, d, a, L, rfl, ⟨dx, e9⟩, hL, ha.mo, .inl ⟨_, rfl, _, rfl, d, dx, _, _, rfl, rfl, e9, d, _, L, rfl, ⟨dx, e9⟩, hL, (by unfold Mo; omega), ?_⟩⟩⟩
      refine ⟨_, rfl, .inl ⟨_, rfl, _, rfl, d, dx, _, _, rfl, rfl, e9, d, _, L, rfl, ⟨dx, e9⟩, hL, ha.mo, rfl, ?_⟩⟩
      have uA : But q H H9 := u1.trans (u2.trans (u3.trans ((Same.but sA).trans (u8.trans (Same.but s9)))))
      exact retD (Q := Q) (congrArg V.int (clock_clock a L)) (k H9 uA ((p8.same s9).mono (by omega)))
end
end K4

/-! Longer days are right. -/
namespace K4
open PySem L2
open C8 (InsC call_isC pss_cut tCut)
theorem iteN {c A B : Prop} [Decidable c] (hc : ¬ c) (h : B) : if decide c = true then A else B := by
  rw [decide_eq_false hc]
  exact iteF h
theorem one_day {L n : Int} (l1 : 1 ≤ L) (n1 : 1 ≤ n) : V.bl (decide (L = n * L)) = V.bl (decide (V.int n = V.int 1)) := by
  by_cases h : n = 1
  · rw [h]
    simp
  · have h2 : 2 * L ≤ n * L := Int.mul_le_mul_of_nonneg_right (by omega) (by omega)
    rw [decide_eq_false (show ¬ L = n * L by omega), decide_eq_false (fun z => h (by injection z))]
section
variable {P : Program} {w : World} {K : PySem.W.Frag} {mg : Str → Option Value} {base : Heap}
theorem scLong : FnScope ["_law_pen_here", "_law_day", "_law_size", "_law_many", "_law_long", "_law_turn", "_law_x", "_law_y", "_law_wait"] ["_law_pen_here", "_law_day", "_law_size", "_law_many"] (defScope sLong) := ⟨rfl, rfl, rfl, by decide +kernel, rfl, by decide +kernel, by decide +kernel⟩
theorem ok_long {f fm C fM fF fW fU fV fE : Addr} {fd fdm dM dF dW dU dV dE : FuncData} (F : Fun K "_law_long_right" "_law_long_right" sLong f fd) (T : Txt K mg) (D : DayF P w K mg base C fM fF fW fU fV fE dM dF dW dU dV dE)
    (GM : Glob P w K mg base 3 "_law_moment" ["_law_pen_here", "_law_size"] spMom fm fdm) :
    FnOk P w K mg base CX0 6 f fd ["_law_pen_here", "_law_day", "_law_size", "_law_many"] (spLong C) := by
  refine F.ok scLong (fun vs H Q E h => ?_) (fun cdv A outer s H vs Q E hr h => ?_)
  · obtain ⟨q, d, L, n, b, rfl, _⟩ := h
    rfl
  · obtain ⟨q, d, L, n, b, rfl, hp, hb, hd, hL, n1, n7, h7, k⟩ := h
    have hr1 : Room 1 _ := hr.mono (by decide)
    have hr2 : Room 2 _ := hr.mono (by decide)
    have hr3 : Room 3 _ := hr.mono (by decide)
    have hdq : d ≠ q := hd.ne hp
    obtain ⟨dx, e0⟩ := hd
    obtain ⟨l1, l2⟩ := id hL
    have nl7 := Int.mul_le_mul_of_nonneg_right n7 (show 0 ≤ L by omega)
    have nl1 := Int.mul_le_mul_of_nonneg_right n1 (show 0 ≤ L by omega)
    have hLn : Len (n * L) := ⟨by omega, by omega⟩
    have hLn' : Len (L * n) := by rw [Int.mul_comm]; exact hLn
    have cm : CMul L n := .inr ⟨by omega, by omega⟩
    refine ⟨_,
      pss_cons (ps_set (i := 4) scLong.nd rfl (Or.inl rfl) (pe_op (oMul D hr) (pv 1) (pv 3)))
      (pss_cons (ps_if (PW.pt (pw_or (pt_cmpR (oNe D hr2) (pv 4) (pe_op (oRmul D hr) (pv 3) (pv 1)) (nomark _))
          (pw_or (pt_cmpR op_ne (pe_fld (pv 4) rfl) (pe_op op_mul (pv 2) (pv 3)) (nomark _))
          (pw_or1 (pt_cmpR op_ne (pe_cmpR (oEq D hr1) (pv 1) (pv 4) (nomark _)) (pe_cmpR op_eq (pv 3) pe_int (nomark _)) (nomark _)))))) pss_never pss_nil)
      (pss_cons (ps_for PassesOwn.never rfl (pi_range1 rfl T.range (pa_cons pe_int pa_nil)) (pg_name (i := 5) scLong.nd rfl (Or.inl rfl))
        (pss_cons (ps_set (i := 6) scLong.nd rfl (Or.inl rfl) (pcall GM hr3 (pa_cons (pv 0) (pa_cons (pe_op op_mul (pv 2) (pv 3)) pa_nil))))
        (pss_cons (ps_if (PW.pt (pw_or (pt_cmpR op_ne (pe_op (oFdiv D hr3) (pv 6) (pv 4)) (pe_op op_fdiv (pe_op (oFdiv D hr3) (pv 6) (pv 1)) (pv 3)) (nomark _))
            (pw_or1 (pt_cmpR op_ne (pe_op (oMod D hr3) (pe_callTy call_int1 (by rfl) T.int PyProof.Rows.boot_int (pa_cons (pv 6) pa_nil)) (pv 4))
              (pe_op op_add (pe_op (oMod D hr3) (pe_callTy call_int1 (by rfl) T.int PyProof.Rows.boot_int (pa_cons (pv 6) pa_nil)) (pv 1))
                (pe_op op_mul (pv 2) (pe_op op_sub (pe_op (oFdiv D hr3) (pv 6) (pv 1)) (pe_op op_mul (pe_op (oFdiv D hr3) (pv 6) (pv 4)) (pv 3))))) (nomark _))))) pss_never pss_nil)
        (pss_cons (ps_set (i := 7) scLong.nd rfl (Or.inl rfl) (pcall GM hr3 (pa_cons (pv 0) (pa_cons (pv 2) pa_nil))))
        (pss_cons (ps_set (i := 8) scLong.nd rfl (Or.inl rfl) (pe_meth (pv 4) D.c.ins.cl D.k.fwd D.W hr3 D.bW .nil pass0 (pa_cons (pv 6) (pa_cons (pv 7) pa_nil))))
        (pss_one (ps_if (PW.pt (pw_or (pt_cmpR op_ne (pe_op (oMod D hr3) (pe_callTy call_int1 (by rfl) T.int PyProof.Rows.boot_int (pa_cons (pv 8) pa_nil)) (pv 1))
              (pe_meth (pv 1) D.c.ins.cl D.k.fwd D.W hr3 D.bW .nil pass0 (pa_cons (pv 6) (pa_cons (pv 7) pa_nil))) (nomark _))
            (pw_or (pt_cmpR op_lt (pv 8) (pe_meth (pv 1) D.c.ins.cl D.k.fwd D.W hr3 D.bW .nil pass0 (pa_cons (pv 6) (pa_cons (pv 7) pa_nil))) (nomark _))
            (pw_or1 (pt_cmpR op_ge (pv 8) (pe_op op_mul (pv 2) (pv 3)) (nomark _)))))) pss_never pss_nil)))))))
      (pss_one (ps_ret pe_bl)))), ?_⟩
    refine ⟨_, rfl, _, rfl, d, dx, _, n, rfl, rfl, e0, d, n, L, rfl, ⟨dx, e0⟩, hL, hLn, fun r H1 nr s1 dr => ?_⟩
    obtain ⟨dy, f1⟩ := dr
    have e1 := s1 _ _ e0
    have nrq : r ≠ q := hp.ne_new nr
    refine ⟨_, rfl, _, rfl, _, rfl, d, dx, _, n, rfl, rfl, e1, d, n, L, rfl, ⟨dx, e1⟩, hL, hLn, fun r2 H2 nr2 s2 dr2 => ?_⟩
    obtain ⟨dz, g2⟩ := dr2
    have e2 := s2 _ _ e1
    have f2 := s2 _ _ f1
    refine ⟨r, r2, dy, dz, _, _, rfl, rfl, f2, g2, r, r2, n * L, n * L, rfl, ⟨dy, f2⟩, ⟨dz, g2⟩, _, rfl, _, rfl, iteNS rfl ?_⟩
    refine ⟨_, rfl, r, C, dy, _, _, rfl, f2, D.c.ins.cl, D.c.nL, len_l, _, rfl, _, rfl, _, _, rfl, rfl, cm, rfl, _, rfl, iteNS (congrArg V.int (Int.mul_comm n L)) ?_⟩
    refine ⟨_, rfl, _, rfl, d, r, dx, dy, _, _, rfl, rfl, e2, f2, d, r, L, n * L, rfl, ⟨dx, e2⟩, ⟨dy, f2⟩, _, rfl, rfl, rfl, _, rfl, iteNS (one_day l1 n1) ?_⟩
    have s12 := s1.trans s2
    refine ⟨3, rfl, by decide, by decide, for_range (n := 3) (fun i σ H' => ∃ t x y z : Option V, σ = [some (.ref q), some (.ref d), some (.int L), some (.int n), some (.ref r), t, x, y, z] ∧ But q H H' ∧ H' r = some (.ins C dy [("length", .int (n * L))]) ∧ PenAt H' q (b + 10 * (i : Int)))
      ⟨none, none, none, none, rfl, Same.but s12, f2, (hp.same s12).mono (by omega)⟩ ?_ ?_⟩
    · rintro i σ H3 hi ⟨t, x', y', z', rfl, u3, f3, p3⟩
      have e3 := u3 _ _ e0 hdq
      refine ⟨_, rfl, _, rfl, _, rfl, _, _, rfl, rfl, cm, q, L * n, _, rfl, p3, by omega, hLn', fun x H4 hx u4 p4 => ?_⟩
      have e4 := u4 _ _ e3 hdq
      have f4 := u4 _ _ f3 nrq
      refine ⟨_, rfl, _, rfl, r, dy, _, _, rfl, rfl, f4, r, x, n * L, rfl, ⟨dy, f4⟩, hLn, hx.mo, _, rfl, _, rfl, d, dx, _, _, rfl, rfl, e4, d, x, L, rfl, ⟨dx, e4⟩, hL, hx.mo, _, rfl, _, _, rfl, rfl, ⟨by omega, by omega⟩, rfl, _, rfl,
        iteNS (congrArg V.int (long_div x n L (by omega) (by omega))) ?_⟩
      refine ⟨_, rfl, .inl ⟨_, rfl, _, rfl, r, dy, _, _, rfl, rfl, f4, r, x, n * L, rfl, ⟨dy, f4⟩, hLn, hx.mo, ?_⟩⟩
      refine ⟨_, rfl, .inl ⟨_, rfl, _, rfl, d, dx, _, _, rfl, rfl, e4, d, x, L, rfl, ⟨dx, e4⟩, hL, hx.mo, ?_⟩⟩
      refine ⟨_, rfl, _, rfl, _, rfl, d, dx, _, _, rfl, rfl, e4, d, x, L, rfl, ⟨dx, e4⟩, hL, hx.mo, _, rfl, _, rfl, r, dy, _, _, rfl, rfl, f4, r, x, n * L, rfl, ⟨dy, f4⟩, hLn, hx.mo, _, rfl, _, _, rfl, rfl, .inr ⟨by omega, by omega⟩,
        _, _, rfl, rfl, _, _, rfl, rfl, .inl ⟨by omega, by omega⟩, _, _, rfl, rfl, rfl, _, rfl, iteNS (congrArg V.int (long_mod x n L (by omega) (by omega))) ?_⟩
      refine ⟨_, rfl, _, rfl, q, L, _, rfl, p4, by omega, hL, fun y H5 hy u5 p5 => ?_⟩
      have e5 := u5 _ _ e4 hdq
      have f5 := u5 _ _ f4 nrq
      refine ⟨_, rfl, r, dy, _, rfl, f5, fwd_no, _, rfl, _, rfl, r, x, y, n * L, rfl, ⟨dy, f5⟩, hLn, hx.mo, hy.mo, fun H6 s6 => ?_⟩
      have e6 := s6 _ _ e5
      have w0 := Int.emod_nonneg (y - x) (show n * L ≠ 0 by omega)
      have w1 := Int.emod_lt_of_pos (y - x) (show 0 < n * L by omega)
      refine ⟨_, rfl, .inl ⟨_, rfl, _, rfl, d, dx, _, _, rfl, rfl, e6, d, _, L, rfl, ⟨dx, e6⟩, hL, (by unfold Mo; omega), ?_⟩⟩
      refine ⟨_, rfl, d, dx, _, rfl, e6, fwd_no, _, rfl, _, rfl, d, x, y, L, rfl, ⟨dx, e6⟩, hL, hx.mo, hy.mo, fun H7 s7 => ?_⟩
      have e7 := s7 _ _ e6
      refine ⟨rfl, _, rfl, iteNS (congrArg V.int (long_wait_mod (y - x) n L)) ?_⟩
      refine ⟨_, rfl, _, rfl, d, dx, _, rfl, e7, fwd_no, _, rfl, _, rfl, d, x, y, L, rfl, ⟨dx, e7⟩, hL, hx.mo, hy.mo, fun H8 s8 => ?_⟩
      refine ⟨_, _, rfl, rfl, _, rfl, iteN (Int.not_lt.mpr (long_wait_ge (y - x) n L (by omega) (by omega))) ?_⟩
      refine ⟨_, rfl, _, rfl, _, rfl, _, _, rfl, rfl, cm, _, _, rfl, rfl, _, rfl, iteN (Int.not_le.mpr (long_wait_lt (y - x) n L (by omega) (by omega))) ?_⟩
      have sA := s6.trans (s7.trans s8)
      refine ⟨_, _, _, _, rfl, u3.trans (u4.trans (u5.trans (Same.but sA))), sA _ _ f5, (p5.same sA).mono ?_⟩
      rw [Int.natCast_succ]
      omega
    · rintro σ H3 ⟨t, x', y', z', rfl, u3, f3, p3⟩
      exact k H3 u3 p3
end
end K4

/-! The law itself. -/
namespace K4
open PySem L2
open C8 (InsC call_isC pss_cut tCut)
theorem pow12 : CPow 10 12 := ⟨by decide, by decide, by decide⟩
theorem day_same {H : Hp} {x dx : Addr} {o o' : HO} {u : HO} (nx : H x = none) (nd : H dx = none) : Same H (upd (upd (upd H dx u) x o) x o') := fun c z e => by
  rw [upd_ne (ne_of_none e nx), upd_ne (ne_of_none e nx), upd_ne (ne_of_none e nd)]
  exact e
section
variable {P : Program} {w : World} {K : PySem.W.Frag} {mg : Str → Option Value} {base : Heap}
theorem scLaw : FnScope ["_law_script", "_law_pen_here", "_law_turn", "_law_size", "_law_many", "_law_some"] ["_law_script"] (defScope sLaw) := ⟨rfl, rfl, rfl, by decide +kernel, rfl, by decide +kernel, by decide +kernel⟩
theorem ok_law {f fN fD fP fA fB fI C fM fF fW fU fV fE : Addr} {fd fdN fdD fdP fdA fdB fdI dM dF dW dU dV dE : FuncData} (F : Fun K "law" "law" sLaw f fd) (T : Txt K mg) (D : DayF P w K mg base C fM fF fW fU fV fE dM dF dW dU dV dE)
    (M : Mk K C fI) (GI : FnOk P w K mg base CX0 3 fI fdI ["self", "length"] (spInit C)) (bI : Binds K fdI ["self", "length"] [])
    (GN : Glob P w K mg base 1 "_law_pen" ["_law_script"] (spPen K) fN fdN) (GD : Glob P w K mg base 1 "_law_draw" ["_law_pen_here", "_law_many"] spDraw fD fdD)
    (GP : Glob P w K mg base 2 "_law_pick" ["_law_pen_here", "_law_some"] (spPick K) fP fdP)
    (GA : Glob P w K mg base 4 "_law_waits_right" ["_law_pen_here", "_law_day", "_law_size"] (spWaits C) fA fdA)
    (GB : Glob P w K mg base 6 "_law_long_right" ["_law_pen_here", "_law_day", "_law_size", "_law_many"] (spLong C) fB fdB) :
    FnOk P w K mg base CX0 7 f fd ["_law_script"] (spLaw K) := by
  refine F.ok scLaw (fun vs H Q E h => ?_) (fun cdv A outer s H vs Q E hr h => ?_)
  · obtain ⟨a, ns, rfl, _⟩ := h
    rfl
  · obtain ⟨a, ns, rfl, hS, hlen, k⟩ := h
    have hr1 : Room 1 _ := hr.mono (by decide)
    have hr2 : Room 2 _ := hr.mono (by decide)
    have hr4 : Room 4 _ := hr.mono (by decide)
    have hr5 : Room 5 _ := hr.mono (by decide)
    refine ⟨_,
      pss_cons (ps_set (i := 1) scLaw.nd rfl (Or.inl rfl) (pcall GN hr1 (pa_cons (pv 0) pa_nil)))
      (pss_cons (ps_for PassesOwn.never rfl (pi_range1 rfl T.range (pa_cons pe_int pa_nil)) (pg_name (i := 2) scLaw.nd rfl (Or.inl rfl))
        (pss_cons (ps_set (i := 3) scLaw.nd rfl (Or.inl rfl) (pcall GP hr2 (pa_cons (pv 1) (pa_cons (pe_lst (pa_cons pe_int (pa_cons pe_int (pa_cons pe_int (pa_cons pe_int
          (pa_cons (pe_op op_add pe_int (pcall GD hr1 (pa_cons (pv 1) (pa_cons pe_int pa_nil)))) (pa_cons (pe_op op_sub (pe_op op_pow pe_int pe_int) pe_int) (pa_cons (pe_op op_fdiv (pe_op op_pow pe_int pe_int) pe_int) pa_nil)))))))) pa_nil))))
        (pss_cons (ps_set (i := 4) scLaw.nd rfl (Or.inl rfl) (pcall GP hr2 (pa_cons (pv 1) (pa_cons (pe_lst (pa_cons pe_int (pa_cons pe_int (pa_cons pe_int (pa_cons pe_int
          (pa_cons (pe_op op_add pe_int (pcall GD hr1 (pa_cons (pv 1) (pa_cons pe_int pa_nil)))) pa_nil)))))) pa_nil))))
        (pss_cons (ps_if (PW.pt (pw_or (pt_not (pt_val (pcall GA hr4 (pa_cons (pv 1) (pa_cons (pe_make M GI hr4 (by rfl) D.c.mgC bI .nil pass0 (pa_cons (pv 3) pa_nil)) (pa_cons (pv 3) pa_nil))))))
            (pw_or1 (pt_not (pt_val (pcall GB hr (pa_cons (pv 1) (pa_cons (pe_make M GI hr4 (by rfl) D.c.mgC bI .nil pass0 (pa_cons (pv 3) pa_nil)) (pa_cons (pv 3) (pa_cons (pv 4) pa_nil)))))))))) pss_never pss_nil)
        (pss_cons (ps_set (i := 5) scLaw.nd rfl (Or.inl rfl) (pe_op (oMul D hr5) (pe_make M GI hr4 (by rfl) D.c.mgC bI .nil pass0 (pa_cons (pv 3) pa_nil)) (pv 4)))
        (pss_cons (ps_if (pt_cmpR (oNe D hr2) (pe_op (oRmul D hr5) pe_int (pe_op (oMul D hr5) (pe_make M GI hr4 (by rfl) D.c.mgC bI .nil pass0 (pa_cons (pv 3) pa_nil)) pe_int))
            (pe_op (oMul D hr5) (pe_make M GI hr4 (by rfl) D.c.mgC bI .nil pass0 (pa_cons (pv 3) pa_nil)) pe_int) (nomark _)) pss_never pss_nil)
        (pss_one (ps_if (pt_not (pt_val (pcall GA hr4 (pa_cons (pv 1) (pa_cons (pv 5) (pa_cons (pe_op op_mul (pv 3) (pv 4)) pa_nil)))))) pss_never pss_nil))))))))
      (pss_one (ps_ret pe_bl))), ?_⟩
    refine ⟨_, rfl, a, ns, rfl, hS, hlen, fun q H0 _ p0 => ?_⟩
    refine ⟨7, rfl, by decide, by decide, for_range (n := 7) (fun i σ H' => ∃ t x y z : Option V, σ = [some (.ref a), some (.ref q), t, x, y, z] ∧ PenAt H' q (100 * (i : Int)))
      ⟨none, none, none, none, rfl, p0.mono (by omega)⟩ ?_ ?_⟩
    · rintro i σ H1 hi ⟨t, x', y', z', rfl, p1⟩
      refine ⟨_, rfl, _, rfl, q, 500, _, rfl, p1, by omega, by omega, by omega, fun v1 H2 a1 c1 u2 p2 => ?_⟩
      refine ⟨_, _, rfl, rfl, _, _, rfl, rfl, pow6, _, _, rfl, rfl, _, _, rfl, rfl, pow12, _, _, rfl, rfl, ⟨by decide, by decide⟩, (by show 7 ≤ sizeLine; decide), fun l hl => ?_⟩
      have sl := new_same (o := .lst [.int 1, .int 2, .int 24, .int 1440, .int (1 + v1), .int (10 ^ (6 : Int).toNat - 3), .int (10 ^ (12 : Int).toNat / 7)]) hl
      refine ⟨q, l, _, [1, 2, 24, 1440, 1 + v1, 10 ^ (6 : Int).toNat - 3, 10 ^ (12 : Int).toNat / 7], rfl, p2.same sl, by omega, SqL.of upd_same, p2.ne_new hl, by show 0 < 7; decide, by show 7 ≤ 1000; decide, fun L H3 hL3 u3 p3 => ?_⟩
      have hLb : 1 ≤ L ∧ L ≤ 142857142857 := by
        have e6 : (10 : Int) ^ (6 : Int).toNat = 1000000 := rfl
        have e12 : (10 : Int) ^ (12 : Int).toNat = 1000000000000 := rfl
        rw [e6, e12] at hL3
        simp only [List.mem_cons, List.not_mem_nil, or_false] at hL3
        omega
      obtain ⟨l1, l2⟩ := hLb
      have hL : Len L := ⟨l1, by omega⟩
      refine ⟨_, rfl, _, rfl, q, 7, _, rfl, p3, by omega, by omega, by omega, fun v2 H4 a2 c2 u4 p4 => ?_⟩
      refine ⟨_, _, rfl, rfl, (by show 5 ≤ sizeLine; decide), fun m hm => ?_⟩
      have sm := new_same (o := .lst [.int 1, .int 2, .int 7, .int 3, .int (1 + v2)]) hm
      refine ⟨q, m, _, [1, 2, 7, 3, 1 + v2], rfl, p4.same sm, by omega, SqL.of upd_same, p4.ne_new hm, by show 0 < 5; decide, by show 5 ≤ 1000; decide, fun n H5 hn5 u5 p5 => ?_⟩
      have hnb : 1 ≤ n ∧ n ≤ 7 := by
        simp only [List.mem_cons, List.not_mem_nil, or_false] at hn5
        omega
      obtain ⟨n1, n7⟩ := hnb
      have nl7 := Int.mul_le_mul_of_nonneg_right n7 (show 0 ≤ L by omega)
      have nl1 := Int.mul_le_mul_of_nonneg_right n1 (show 0 ≤ L by omega)
      have hLn : Len (n * L) := ⟨by omega, by omega⟩
      have cm : CMul L n := .inr ⟨by omega, by omega⟩
      refine ⟨_, rfl, _, rfl, fun x dx nx nd ne => ⟨x, dx, L, rfl, upd_same, hL, rfl, _, rfl, q, x, L, _, rfl, p5.same (day_same nx nd), by omega, ⟨dx, upd_same⟩, hL, fun H6 u6 p6 => ⟨true, rfl, iteF ?_⟩⟩⟩
      refine ⟨_, rfl, _, rfl, fun x dx nx nd ne => ⟨x, dx, L, rfl, upd_same, hL, rfl, _, rfl, _, rfl, q, x, L, n, _, rfl, p6.same (day_same nx nd), by omega, ⟨dx, upd_same⟩, hL, n1, n7, by omega, fun H7 u7 p7 => ⟨true, rfl, iteF ?_⟩⟩⟩
      refine ⟨_, rfl, fun x dx nx nd ne => ⟨x, dx, L, rfl, upd_same, hL, rfl, _, rfl, x, dx, _, n, rfl, rfl, upd_same, x, n, L, rfl, ⟨dx, upd_same⟩, hL, hLn, fun r H8 nr s8 dr => ?_⟩⟩
      have p8 := (p7.same (day_same (o := .ins C dx []) (o' := .ins C dx [("length", .int L)]) (u := .own x) nx nd)).same s8
      have h3 : Len (3 * L) := ⟨by omega, by omega⟩
      have h6 : Len (2 * (3 * L)) := ⟨by omega, by omega⟩
      have h6' : Len (6 * L) := ⟨by omega, by omega⟩
      refine ⟨_, rfl, fun x2 dx2 nx2 nd2 ne2 => ⟨x2, dx2, L, rfl, upd_same, hL, rfl, x2, dx2, _, 3, rfl, rfl, upd_same, x2, 3, L, rfl, ⟨dx2, upd_same⟩, hL, h3, fun r3 H9 nr3 s9 dr3 => ?_⟩⟩
      obtain ⟨d3, e3⟩ := dr3
      refine ⟨r3, d3, _, 2, rfl, rfl, e3, r3, 2, 3 * L, rfl, ⟨d3, e3⟩, h3, h6, fun r6 H10 nr6 s10 dr6 => ?_⟩
      refine ⟨_, rfl, fun x4 dx4 nx4 nd4 ne4 => ⟨x4, dx4, L, rfl, upd_same, hL, rfl, x4, dx4, _, 6, rfl, rfl, upd_same, x4, 6, L, rfl, ⟨dx4, upd_same⟩, hL, h6', fun r7 H11 nr7 s11 dr7 => ?_⟩⟩
      have sA := (day_same (o := .ins C dx2 []) (o' := .ins C dx2 [("length", .int L)]) (u := .own x2) nx2 nd2).trans (s9.trans s10)
      have sB := (day_same (o := .ins C dx4 []) (o' := .ins C dx4 [("length", .int L)]) (u := .own x4) nx4 nd4).trans s11
      obtain ⟨d6, e6⟩ := dr6.same sB
      obtain ⟨d7, e7⟩ := dr7
      refine ⟨r6, r7, d6, d7, _, _, rfl, rfl, e6, e7, r6, r7, 2 * (3 * L), 6 * L, rfl, ⟨d6, e6⟩, ⟨d7, e7⟩, _, rfl, _, rfl, iteNS (by omega) ?_⟩
      have p11 := p8.same (sA.trans sB)
      have dA := dr.same (sA.trans sB)
      rw [Int.mul_comm] at dA hLn
      refine ⟨_, rfl, _, rfl, _, rfl, _, rfl, _, _, rfl, rfl, cm, q, r, L * n, _, rfl, p11, by omega, dA, hLn, fun H12 u12 p12 => ⟨true, rfl, iteF ?_⟩⟩
      refine ⟨_, _, _, _, rfl, p12.mono ?_⟩
      rw [Int.natCast_succ]
      omega
    · rintro σ H' ⟨t, x', y', z', rfl, _⟩
      exact k H'
end
end K4

/-! What the top has written; the end. -/
namespace K4
open PySem L2
open C8 (InsC call_isC pss_cut tCut)
theorem all_mk {l : PySem.W.OpenLaw} {w : World} {K : PySem.W.Frag} {h : Heap} {mg : Str → Option Value} {fa C xI xB xO xG xN xD xP xQ xA xL xZ x1 x2 x3 x4 x5 x6 x7 : Addr} (X : K.In h) (G : h.Ns mainGlobals mg) (hfa : mg "law" = some (.ref fa))
    {odI anI : Option Addr} {slI : Array (Option Value)} {ocI kVI dcI pmI cdI ctI : Value}
    {odB anB : Option Addr} {slB : Array (Option Value)} {ocB kVB dcB pmB cdB ctB : Value}
    {odO anO : Option Addr} {slO : Array (Option Value)} {ocO kVO dcO pmO cdO ctO : Value}
    {odG anG : Option Addr} {slG : Array (Option Value)} {ocG kVG dcG pmG cdG ctG : Value}
    {odN anN : Option Addr} {slN : Array (Option Value)} {ocN kVN dcN pmN cdN ctN : Value}
    {odD anD : Option Addr} {slD : Array (Option Value)} {ocD kVD dcD pmD cdD ctD : Value}
    {odP anP : Option Addr} {slP : Array (Option Value)} {ocP kVP dcP pmP cdP ctP : Value}
    {odQ anQ : Option Addr} {slQ : Array (Option Value)} {ocQ kVQ dcQ pmQ cdQ ctQ : Value}
    {odA anA : Option Addr} {slA : Array (Option Value)} {ocA kVA dcA pmA cdA ctA : Value}
    {odL anL : Option Addr} {slL : Array (Option Value)} {ocL kVL dcL pmL cdL ctL : Value}
    {odZ anZ : Option Addr} {slZ : Array (Option Value)} {ocZ kVZ dcZ pmZ cdZ ctZ : Value}
    {od1 an1 : Option Addr} {sl1 : Array (Option Value)} {oc1 kV1 dc1 pm1 cd1 ct1 : Value}
    {od2 an2 : Option Addr} {sl2 : Array (Option Value)} {oc2 kV2 dc2 pm2 cd2 ct2 : Value}
    {od3 an3 : Option Addr} {sl3 : Array (Option Value)} {oc3 kV3 dc3 pm3 cd3 ct3 : Value}
    {od4 an4 : Option Addr} {sl4 : Array (Option Value)} {oc4 kV4 dc4 pm4 cd4 ct4 : Value}
    {od5 an5 : Option Addr} {sl5 : Array (Option Value)} {oc5 kV5 dc5 pm5 cd5 ct5 : Value}
    {od6 an6 : Option Addr} {sl6 : Array (Option Value)} {oc6 kV6 dc6 pm6 cd6 ct6 : Value}
    {od7 an7 : Option Addr} {sl7 : Array (Option Value)} {oc7 kV7 dc7 pm7 cd7 ct7 : Value}
    {tm : Tok} {o1 o2 : Option Value}
    (aC : PySem.W.nsIn K mainGlobals "Day" = some (some (.ref C)))
    (aI : PySem.W.nsIn K mainGlobals "is_integer" = some (some (.ref xI))) (lI : K.lookup xI = some ⟨ocI, odI, .func (PySem.W.fnOf "is_integer" "is_integer" (defArgs sInteger) (defBody sInteger) (defScope sInteger) .none kVI dcI pmI anI cdI ctI), slI⟩) (cI : PySem.W.codeIn K cdI "is_integer" = true) (kI : PySem.W.keepIn K (.ref xI) = true)
    (aB : PySem.W.nsIn K mainGlobals "is_between" = some (some (.ref xB))) (lB : K.lookup xB = some ⟨ocB, odB, .func (PySem.W.fnOf "is_between" "is_between" (defArgs sBetween) (defBody sBetween) (defScope sBetween) .none kVB dcB pmB anB cdB ctB), slB⟩) (cB : PySem.W.codeIn K cdB "is_between" = true) (kB : PySem.W.keepIn K (.ref xB) = true)
    (aO : PySem.W.nsIn K mainGlobals "is_moment" = some (some (.ref xO))) (lO : K.lookup xO = some ⟨ocO, odO, .func (PySem.W.fnOf "is_moment" "is_moment" (defArgs sMoment) (defBody sMoment) (defScope sMoment) .none kVO dcO pmO anO cdO ctO), slO⟩) (cO : PySem.W.codeIn K cdO "is_moment" = true) (kO : PySem.W.keepIn K (.ref xO) = true)
    (aG : PySem.W.nsIn K mainGlobals "long_by" = some (some (.ref xG))) (lG : K.lookup xG = some ⟨ocG, odG, .func (PySem.W.fnOf "long_by" "long_by" (defArgs sLongBy) (defBody sLongBy) (defScope sLongBy) .none kVG dcG pmG anG cdG ctG), slG⟩) (cG : PySem.W.codeIn K cdG "long_by" = true) (kG : PySem.W.keepIn K (.ref xG) = true)
    (aN : PySem.W.nsIn K mainGlobals "_law_pen" = some (some (.ref xN))) (lN : K.lookup xN = some ⟨ocN, odN, .func (PySem.W.fnOf "_law_pen" "_law_pen" (defArgs sPen) (defBody sPen) (defScope sPen) .none kVN dcN pmN anN cdN ctN), slN⟩) (cN : PySem.W.codeIn K cdN "_law_pen" = true) (kN : PySem.W.keepIn K (.ref xN) = true)
    (aD : PySem.W.nsIn K mainGlobals "_law_draw" = some (some (.ref xD))) (lD : K.lookup xD = some ⟨ocD, odD, .func (PySem.W.fnOf "_law_draw" "_law_draw" (defArgs sDraw) (defBody sDraw) (defScope sDraw) .none kVD dcD pmD anD cdD ctD), slD⟩) (cD : PySem.W.codeIn K cdD "_law_draw" = true) (kD : PySem.W.keepIn K (.ref xD) = true)
    (aP : PySem.W.nsIn K mainGlobals "_law_pick" = some (some (.ref xP))) (lP : K.lookup xP = some ⟨ocP, odP, .func (PySem.W.fnOf "_law_pick" "_law_pick" (defArgs sPick) (defBody sPick) (defScope sPick) .none kVP dcP pmP anP cdP ctP), slP⟩) (cP : PySem.W.codeIn K cdP "_law_pick" = true) (kP : PySem.W.keepIn K (.ref xP) = true)
    (aQ : PySem.W.nsIn K mainGlobals "_law_moment" = some (some (.ref xQ))) (lQ : K.lookup xQ = some ⟨ocQ, odQ, .func (PySem.W.fnOf "_law_moment" "_law_moment" (defArgs sMom) (defBody sMom) (defScope sMom) .none kVQ dcQ pmQ anQ cdQ ctQ), slQ⟩) (cQ : PySem.W.codeIn K cdQ "_law_moment" = true) (kQ : PySem.W.keepIn K (.ref xQ) = true)
    (aA : PySem.W.nsIn K mainGlobals "_law_waits_right" = some (some (.ref xA))) (lA : K.lookup xA = some ⟨ocA, odA, .func (PySem.W.fnOf "_law_waits_right" "_law_waits_right" (defArgs sWaits) (defBody sWaits) (defScope sWaits) .none kVA dcA pmA anA cdA ctA), slA⟩) (cA : PySem.W.codeIn K cdA "_law_waits_right" = true) (kA : PySem.W.keepIn K (.ref xA) = true)
    (aL : PySem.W.nsIn K mainGlobals "_law_long_right" = some (some (.ref xL))) (lL : K.lookup xL = some ⟨ocL, odL, .func (PySem.W.fnOf "_law_long_right" "_law_long_right" (defArgs sLong) (defBody sLong) (defScope sLong) .none kVL dcL pmL anL cdL ctL), slL⟩) (cL : PySem.W.codeIn K cdL "_law_long_right" = true) (kL : PySem.W.keepIn K (.ref xL) = true)
    (aZ : PySem.W.nsIn K mainGlobals "law" = some (some (.ref xZ))) (lZ : K.lookup xZ = some ⟨ocZ, odZ, .func (PySem.W.fnOf "law" "law" (defArgs sLaw) (defBody sLaw) (defScope sLaw) .none kVZ dcZ pmZ anZ cdZ ctZ), slZ⟩) (cZ : PySem.W.codeIn K cdZ "law" = true) (kZ : PySem.W.keepIn K (.ref xZ) = true)
    (a1 : PySem.W.findIn K (.ref C) "__init__" = some (some (.ref x1))) (i1 : PySem.W.isFn K (.ref x1) = true) (l1 : K.lookup x1 = some ⟨oc1, od1, .func (PySem.W.fnOf "__init__" "Day.__init__" (defArgs sInit) (defBody sInit) (defScope sInit) .none kV1 dc1 pm1 an1 cd1 ct1), sl1⟩) (c1 : PySem.W.codeIn K cd1 "Day.__init__" = true) (k1 : PySem.W.keepIn K (.ref x1) = true)
    (a2 : PySem.W.findIn K (.ref C) "__rmod__" = some (some (.ref x2))) (i2 : PySem.W.isFn K (.ref x2) = true) (l2 : K.lookup x2 = some ⟨oc2, od2, .func (PySem.W.fnOf "__rmod__" "Day.__rmod__" (defArgs sRmod) (defBody sRmod) (defScope sRmod) .none kV2 dc2 pm2 an2 cd2 ct2), sl2⟩) (c2 : PySem.W.codeIn K cd2 "Day.__rmod__" = true) (k2 : PySem.W.keepIn K (.ref x2) = true)
    (a3 : PySem.W.findIn K (.ref C) "__rfloordiv__" = some (some (.ref x3))) (i3 : PySem.W.isFn K (.ref x3) = true) (l3 : K.lookup x3 = some ⟨oc3, od3, .func (PySem.W.fnOf "__rfloordiv__" "Day.__rfloordiv__" (defArgs sRfloor) (defBody sRfloor) (defScope sRfloor) .none kV3 dc3 pm3 an3 cd3 ct3), sl3⟩) (c3 : PySem.W.codeIn K cd3 "Day.__rfloordiv__" = true) (k3 : PySem.W.keepIn K (.ref x3) = true)
    (a4 : PySem.W.findIn K (.ref C) "forward" = some (some (.ref x4))) (i4 : PySem.W.isFn K (.ref x4) = true) (l4 : K.lookup x4 = some ⟨oc4, od4, .func (PySem.W.fnOf "forward" "Day.forward" (defArgs sForward) (defBody sForward) (defScope sForward) .none kV4 dc4 pm4 an4 cd4 ct4), sl4⟩) (c4 : PySem.W.codeIn K cd4 "Day.forward" = true) (k4 : PySem.W.keepIn K (.ref x4) = true)
    (a5 : PySem.W.findIn K (.ref C) "__mul__" = some (some (.ref x5))) (i5 : PySem.W.isFn K (.ref x5) = true) (l5 : K.lookup x5 = some ⟨oc5, od5, .func (PySem.W.fnOf "__mul__" "Day.__mul__" (defArgs sMul) (defBody sMul) (defScope sMul) .none kV5 dc5 pm5 an5 cd5 ct5), sl5⟩) (c5 : PySem.W.codeIn K cd5 "Day.__mul__" = true) (k5 : PySem.W.keepIn K (.ref x5) = true)
    (a6 : PySem.W.findIn K (.ref C) "__rmul__" = some (some (.ref x6))) (i6 : PySem.W.isFn K (.ref x6) = true) (l6 : K.lookup x6 = some ⟨oc6, od6, .func (PySem.W.fnOf "__rmul__" "Day.__rmul__" (defArgs sRmul) (defBody sRmul) (defScope sRmul) .none kV6 dc6 pm6 an6 cd6 ct6), sl6⟩) (c6 : PySem.W.codeIn K cd6 "Day.__rmul__" = true) (k6 : PySem.W.keepIn K (.ref x6) = true)
    (a7 : PySem.W.findIn K (.ref C) "__eq__" = some (some (.ref x7))) (i7 : PySem.W.isFn K (.ref x7) = true) (l7 : K.lookup x7 = some ⟨oc7, od7, .func (PySem.W.fnOf "__eq__" "Day.__eq__" (defArgs sEq) (defBody sEq) (defScope sEq) .none kV7 dc7 pm7 an7 cd7 ct7), sl7⟩) (c7 : PySem.W.codeIn K cd7 "Day.__eq__" = true) (k7 : PySem.W.keepIn K (.ref x7) = true)
    (pg : PySem.W.plainGet K C Str.empty = true)
    (hd : PySem.W.hasDictIn K C = true)
    (po : PySem.W.plainOver K C = true)
    (sa : PySem.W.findIn K (.ref C) "__setattr__" = some (some (.builtin "object.__setattr__")))
    (mk : PySem.W.makesIn K C = true)
    (kc : PySem.W.keepIn K (.ref C) = true)
    (ha : PySem.W.findIn K (.ref C) "__class__" = some (some (.builtin "object.__class__")))
    (hn : PySem.W.specialIn K (.builtin "object.__class__") "__get__" = some (some (.builtin "getset_descriptor.__get__")))
    (htk : PySem.W.takesIn K (.builtin "object.__class__") = some true)
    (hm : PySem.W.mroIn K C (.type "object") = some true)
    (nL : PySem.W.findIn K (.ref C) "length" = some none)
    (sf : PySem.W.selfFirst K C = true)
    (s1 : PySem.W.subIn K (.ref C) (.type "int") = some false)
    (s2 : PySem.W.subIn K (.type "int") (.ref C) = some false)
    (s3 : PySem.W.subIn K (.ref C) (.type "object") = some true)
    (n1 : PySem.W.findIn K (.ref C) "__mod__" = some none)
    (n2 : PySem.W.findIn K (.ref C) "__floordiv__" = some none)
    (ne : PySem.W.findIn K (.ref C) "__ne__" = some (some (.builtin "object.__ne__")))
    (t1 : PySem.W.findIn K (.type "int") "__mul__" = some o1)
    (t2 : PySem.W.findIn K (.type "int") "__rmul__" = some o2)
    (zM : PySem.W.nsIn K mainGlobals "MOST_LENGTH" = some (some (.int 1000000000000 tm)))
    (zisinstance : PySem.W.nsIn K mainGlobals "isinstance" = some none)
    (zint : PySem.W.nsIn K mainGlobals "int" = some none)
    (zbool : PySem.W.nsIn K mainGlobals "bool" = some none)
    (zabs : PySem.W.nsIn K mainGlobals "abs" = some none)
    (zlen : PySem.W.nsIn K mainGlobals "len" = some none)
    (zlist : PySem.W.nsIn K mainGlobals "list" = some none)
    (zrange : PySem.W.nsIn K mainGlobals "range" = some none)
    : ∃ fd : FuncData, (∀ (s : Shared) (v : Value), BindsTo s fd ⟨[v], []⟩ [("_law_script", v)]) ∧ ∀ base : Heap, K.In base → base.Ns mainGlobals mg → FnOk l.prog w K mg base CX0 7 fa fd ["_law_script"] (spLaw K) := by
  have e := hfa.symm.trans (PySem.W.mg_of X G aZ)
  cases e
  have T : Txt K mg := ⟨PySem.W.mg_none_of X G zisinstance, PySem.W.mg_none_of X G zint, PySem.W.mg_none_of X G zbool, PySem.W.mg_none_of X G zabs, PySem.W.mg_none_of X G zlen, PySem.W.mg_none_of X G zlist, PySem.W.mg_none_of X G zrange, tm, PySem.W.mg_of X G zM⟩
  have DC : DayC K mg C := ⟨⟨⟨pg, hd, po, sa⟩, ha, hn, htk, hm, if_pos (beq_self_eq_true _)⟩, nL, PySem.W.mg_of X G aC⟩
  have FI := fun_mk (st := sInteger) lI cI kI
  have bI := FI.binds (ps := ["value"]) fun _ _ _ _ _ _ us hl => match us, hl with | [_], _ => rfl
  have FB := fun_mk (st := sBetween) lB cB kB
  have bB := FB.binds (ps := ["value", "low", "high"]) fun _ _ _ _ _ _ us hl => match us, hl with | [_, _, _], _ => rfl
  have FO := fun_mk (st := sMoment) lO cO kO
  have bO := FO.binds (ps := ["value"]) fun _ _ _ _ _ _ us hl => match us, hl with | [_], _ => rfl
  have FG := fun_mk (st := sLongBy) lG cG kG
  have bG := FG.binds (ps := ["length", "k"]) fun _ _ _ _ _ _ us hl => match us, hl with | [_, _], _ => rfl
  have FN := fun_mk (st := sPen) lN cN kN
  have bN := FN.binds (ps := ["_law_script"]) fun _ _ _ _ _ _ us hl => match us, hl with | [_], _ => rfl
  have FD := fun_mk (st := sDraw) lD cD kD
  have bD := FD.binds (ps := ["_law_pen_here", "_law_many"]) fun _ _ _ _ _ _ us hl => match us, hl with | [_, _], _ => rfl
  have FP := fun_mk (st := sPick) lP cP kP
  have bP := FP.binds (ps := ["_law_pen_here", "_law_some"]) fun _ _ _ _ _ _ us hl => match us, hl with | [_, _], _ => rfl
  have FQ := fun_mk (st := sMom) lQ cQ kQ
  have bQ := FQ.binds (ps := ["_law_pen_here", "_law_size"]) fun _ _ _ _ _ _ us hl => match us, hl with | [_, _], _ => rfl
  have FA := fun_mk (st := sWaits) lA cA kA
  have bA := FA.binds (ps := ["_law_pen_here", "_law_day", "_law_size"]) fun _ _ _ _ _ _ us hl => match us, hl with | [_, _, _], _ => rfl
  have FL := fun_mk (st := sLong) lL cL kL
  have bL := FL.binds (ps := ["_law_pen_here", "_law_day", "_law_size", "_law_many"]) fun _ _ _ _ _ _ us hl => match us, hl with | [_, _, _, _], _ => rfl
  have FZ := fun_mk (st := sLaw) lZ cZ kZ
  have F1 := fun_mk (st := sInit) l1 c1 k1
  have b1 := F1.binds (ps := ["self", "length"]) fun _ _ _ _ _ _ us hl => match us, hl with | [_, _], _ => rfl
  have F2 := fun_mk (st := sRmod) l2 c2 k2
  have b2 := F2.binds (ps := ["self", "moment"]) fun _ _ _ _ _ _ us hl => match us, hl with | [_, _], _ => rfl
  have F3 := fun_mk (st := sRfloor) l3 c3 k3
  have b3 := F3.binds (ps := ["self", "moment"]) fun _ _ _ _ _ _ us hl => match us, hl with | [_, _], _ => rfl
  have F4 := fun_mk (st := sForward) l4 c4 k4
  have b4 := F4.binds (ps := ["self", "a", "b"]) fun _ _ _ _ _ _ us hl => match us, hl with | [_, _, _], _ => rfl
  have F5 := fun_mk (st := sMul) l5 c5 k5
  have b5 := F5.binds (ps := ["self", "k"]) fun _ _ _ _ _ _ us hl => match us, hl with | [_, _], _ => rfl
  have F6 := fun_mk (st := sRmul) l6 c6 k6
  have b6 := F6.binds (ps := ["self", "k"]) fun _ _ _ _ _ _ us hl => match us, hl with | [_, _], _ => rfl
  have F7 := fun_mk (st := sEq) l7 c7 k7
  have b7 := F7.binds (ps := ["self", "other"]) fun _ _ _ _ _ _ us hl => match us, hl with | [_, _], _ => rfl
  refine ⟨PySem.W.fnOf "law" "law" (defArgs sLaw) (defBody sLaw) (defScope sLaw) .none kVZ dcZ pmZ anZ cdZ ctZ, fun s v => .of_eq rfl, fun base _ _ => ?_⟩
  have GI : Glob l.prog w K mg base 1 "is_integer" ["value"] _ xI _ := ⟨ok_integer FI T, PySem.W.mg_of X G aI, kI, bI⟩
  have GB : Glob l.prog w K mg base 2 "is_between" ["value", "low", "high"] _ xB _ := ⟨ok_between FB GI, PySem.W.mg_of X G aB, kB, bB⟩
  have GO : Glob l.prog w K mg base 2 "is_moment" ["value"] _ xO _ := ⟨ok_moment FO T GI, PySem.W.mg_of X G aO, kO, bO⟩
  have GG : Glob l.prog w K mg base 3 "long_by" ["length", "k"] _ xG _ := ⟨ok_longby FG T GI GB, PySem.W.mg_of X G aG, kG, bG⟩
  have Oi := ok_init (P := l.prog) (w := w) (base := base) F1 T DC GB
  have M : Mk K C x1 := ⟨mk, a1, i1, kc⟩
  have D : DayF l.prog w K mg base C x2 x3 x4 x5 x6 x7 _ _ _ _ _ _ := ⟨⟨sf, s1, s2, s3, n1, a2, i2, n2, a3, i3, ⟨a4, i4, k4⟩, a5, i5, a6, i6, a7, i7, ne, ⟨o1, t1⟩, ⟨o2, t2⟩⟩, DC, ok_rmod F2 DC GO, b2, ok_rfloor F3 DC GO, b3, ok_forward F4 DC GO, b4, ok_mul F5 DC M Oi b1 GG, b5, ok_rmul F6 DC M Oi b1 GG, b6, ok_eq F7 T DC, b7⟩
  have GN : Glob l.prog w K mg base 1 "_law_pen" ["_law_script"] _ xN _ := ⟨ok_pen FN T, PySem.W.mg_of X G aN, kN, bN⟩
  have GD : Glob l.prog w K mg base 1 "_law_draw" ["_law_pen_here", "_law_many"] _ xD _ := ⟨ok_draw FD T, PySem.W.mg_of X G aD, kD, bD⟩
  have GP : Glob l.prog w K mg base 2 "_law_pick" ["_law_pen_here", "_law_some"] _ xP _ := ⟨ok_pick FP T GD, PySem.W.mg_of X G aP, kP, bP⟩
  have GQ : Glob l.prog w K mg base 3 "_law_moment" ["_law_pen_here", "_law_size"] _ xQ _ := ⟨ok_mom FQ GD GP, PySem.W.mg_of X G aQ, kQ, bQ⟩
  have GA : Glob l.prog w K mg base 4 "_law_waits_right" ["_law_pen_here", "_law_day", "_law_size"] _ xA _ := ⟨ok_waits FA T D GD GQ, PySem.W.mg_of X G aA, kA, bA⟩
  have GL : Glob l.prog w K mg base 6 "_law_long_right" ["_law_pen_here", "_law_day", "_law_size", "_law_many"] _ xL _ := ⟨ok_long FL T D GQ, PySem.W.mg_of X G aL, kL, bL⟩
  exact ok_law FZ T D M Oi b1 GN GD GP GA GL
theorem walk {l : PySem.W.OpenLaw} {q : Program} {loose : List Str} {XP : (Str → Option Value) → Heap → Prop} {YP : World → Heap → Prop} {d : DefRec} {K : Params → PySem.W.Frag} (hn : l.most = some 63) (hdf : d.params.defaults = [])
    (hY : ∀ (w : World) (h : Heap), YP w h → (K w.params).In h)
    (F : ∀ (w : World) (mg : Str → Option Value) (fa : Addr) (h : Heap), (K w.params).In h → h.Ns mainGlobals mg → mg d.name = some (.ref fa) →
      ∃ fd : FuncData, (∀ (s : Shared) (u : Value), BindsTo s fd ⟨[u], []⟩ [("_law_script", u)]) ∧ ∀ base : Heap, (K w.params).In base → base.Ns mainGlobals mg → FnOk l.prog w (K w.params) mg base CX0 7 fa fd ["_law_script"] (spLaw (K w.params))) :
    PySem.W.WalkO q loose XP YP l.row.toRowW d [] (fun f vs => PySem.call f vs) :=
  L2.walk_of (n := 63) (k := 7) (x := "_law_script") (CX := fun _ => CX0) (sp := fun w => spLaw (K w.params)) hn (by decide) hdf ⟨rfl, by decide, by decide⟩ hY F (fun _ _ a ns hl _ hS => ⟨a, ns, rfl, hS, hl, fun _ => rfl⟩) fun _ _ _ _ _ z => z
end K4

open PySem PySem.W PyProof.Rows
set_option maxRecDepth 100000 in
set_option maxHeartbeats 0 in
theorem PySem.Challenge.cw_onelongturn_k04_whole_days_that_come_rou_holds : PySem.Challenge.rw_onelongturn_k04_whole_days_that_come_rou.Holds := by
  w_on; o_law; k_head; (case hw => w_witness2)
  k_fill
  refine K4.walk (l := PySem.Challenge.rw_onelongturn_k04_whole_days_that_come_rou) rfl rfl (fun w h Y => PySem.W.kIn_of Y) ?F
  case F =>
    intro w mg fa h KX G hmg
    refine' K4.all_mk KX G hmg ?aC ?aI ?lI ?cI ?kI ?aB ?lB ?cB ?kB ?aO ?lO ?cO ?kO ?aG ?lG ?cG ?kG ?aN ?lN ?cN ?kN ?aD ?lD ?cD ?kD ?aP ?lP ?cP ?kP ?aQ ?lQ ?cQ ?kQ ?aA ?lA ?cA ?kA ?aL ?lL ?cL ?kL ?aZ ?lZ ?cZ ?kZ ?a1 ?i1 ?l1 ?c1 ?k1 ?a2 ?i2 ?l2 ?c2 ?k2 ?a3 ?i3 ?l3 ?c3 ?k3 ?a4 ?i4 ?l4 ?c4 ?k4 ?a5 ?i5 ?l5 ?c5 ?k5 ?a6 ?i6 ?l6 ?c6 ?k6 ?a7 ?i7 ?l7 ?c7 ?k7 ?pg ?hd ?po ?sa ?mk ?kc ?ha ?hn ?htk ?hm ?nL ?sf ?s1 ?s2 ?s3 ?n1 ?n2 ?ne ?t1 ?t2 ?zM ?zisinstance ?zint ?zbool ?zabs ?zlen ?zlist ?zrange
    (case aC => k_is)
    (case aI => k_is)
    (case lI => k_is)
    (case cI => k_is)
    (case kI => k_is)
    (case aB => k_is)
    (case lB => k_is)
    (case cB => k_is)
    (case kB => k_is)
    (case aO => k_is)
    (case lO => k_is)
    (case cO => k_is)
    (case kO => k_is)
    (case aG => k_is)
    (case lG => k_is)
    (case cG => k_is)
    (case kG => k_is)
    (case aN => k_is)
    (case lN => k_is)
    (case cN => k_is)
    (case kN => k_is)
    (case aD => k_is)
    (case lD => k_is)
    (case cD => k_is)
    (case kD => k_is)
    (case aP => k_is)
    (case lP => k_is)
    (case cP => k_is)
    (case kP => k_is)
    (case aQ => k_is)
    (case lQ => k_is)
    (case cQ => k_is)
    (case kQ => k_is)
    (case aA => k_is)
    (case lA => k_is)
    (case cA => k_is)
    (case kA => k_is)
    (case aL => k_is)
    (case lL => k_is)
    (case cL => k_is)
    (case kL => k_is)
    (case aZ => k_is)
    (case lZ => k_is)
    (case cZ => k_is)
    (case kZ => k_is)
    (case a1 => k_is)
    (case i1 => k_is)
    (case l1 => k_is)
    (case c1 => k_is)
    (case k1 => k_is)
    (case a2 => k_is)
    (case i2 => k_is)
    (case l2 => k_is)
    (case c2 => k_is)
    (case k2 => k_is)
    (case a3 => k_is)
    (case i3 => k_is)
    (case l3 => k_is)
    (case c3 => k_is)
    (case k3 => k_is)
    (case a4 => k_is)
    (case i4 => k_is)
    (case l4 => k_is)
    (case c4 => k_is)
    (case k4 => k_is)
    (case a5 => k_is)
    (case i5 => k_is)
    (case l5 => k_is)
    (case c5 => k_is)
    (case k5 => k_is)
    (case a6 => k_is)
    (case i6 => k_is)
    (case l6 => k_is)
    (case c6 => k_is)
    (case k6 => k_is)
    (case a7 => k_is)
    (case i7 => k_is)
    (case l7 => k_is)
    (case c7 => k_is)
    (case k7 => k_is)
    (case pg => k_is)
    (case hd => k_is)
    (case po => k_is)
    (case sa => k_is)
    (case mk => k_is)
    (case kc => k_is)
    (case ha => k_is)
    (case hn => k_is)
    (case htk => k_is)
    (case hm => k_is)
    (case nL => k_is)
    (case sf => k_is)
    (case s1 => k_is)
    (case s2 => k_is)
    (case s3 => k_is)
    (case n1 => k_is)
    (case n2 => k_is)
    (case ne => k_is)
    (case t1 => k_is)
    (case t2 => k_is)
    (case zM => k_is)
    (case zisinstance => k_is)
    (case zint => k_is)
    (case zbool => k_is)
    (case zabs => k_is)
    (case zlen => k_is)
    (case zlist => k_is)
    (case zrange => k_is)
