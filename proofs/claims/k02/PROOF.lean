import PyProof.Rows.All
import Wide.All
import OpenK.AllK
import Wide.FinOn
import HandS.ForMost
import HandS.Wide
import HandS.IsInst
import HandS.OwnEq
import HandS.Zip
import HandS.Defaults
import KE.GoesMore
import KE.GoesEnum
import KE.KOpsOwn
import HandS.Walk
import HandS.Evl
import HandS.Codes
import HandS.Style
import HandS.Steps
import PySem.Challenge.RW_surelevels_k02_numbers_told
import Lean
import KE.KStateDown
import HandS.More
import HandS.Head0
import HandS.Head1
import HandS.Head2
import HandS.HeadEnd
import HandS.HeadHook1
import HandS.HeadHook2
import HandS.HeadHook3
import HandS.HeadHook4
set_option Elab.async false
set_option linter.all false
set_option maxRecDepth 100000
set_option maxHeartbeats 2000000
namespace LV
open PySem PySem.Spec PyProof.Rows L2
/-! enumerate over a tuple -/
theorem newE1 {v : Value} {o : Obj} {H : Heap → Prop} (B : Begins v o H) :
    Meets (Builtin.«enumerate.__new__» ⟨[.type "enumerate", v], []⟩) (fun _ R s => H s.heap ∧
      R (.ok (.ret (.ref (s.heap.push o).objs.size))) { s with heap := (s.heap.push o).push { cls := .type "enumerate", data := .fields #[.none, .bool false, .ref s.heap.objs.size, rawInt 0, .none, .none] } }) :=
  .of_wp fun prog w A R sh hh => by
    obtain ⟨hp, ge, dr, tk, os⟩ := sh
    obtain ⟨hb, hh⟩ := hh
    have subE := sub_enumerate
    have qi : ∀ {A' : Around} {E : Value → Shared → Prop} {Q : Value → Shared → Prop}, Q (.ref hp.objs.size) ⟨hp.push o, ge, dr, tk, os⟩ → wpAny (model prog w) A' (pyIter v) Q E ⟨hp, ge, dr, tk, os⟩ :=
      fun q => B.iter prog w _ _ ⟨hp, ge, dr, tk, os⟩ _ hb q
    wp_walk using qi
    refine wpAny_stack_any fun st => wpAny_pure ?_
    split
    · rename_i c _ _ _ _ _
      cases (c == Value.type "enumerate") <;>
      · wp_walk using qi
        exact ⟨_, rfl, hh⟩
    · wp_walk using qi
      exact ⟨_, rfl, hh⟩
theorem callE1 {prog : Program} {w : World} {A : Around} {E : Value → Shared → Prop} {s : Shared} {v : Value} {o : Obj} {H : Heap → Prop} {Q : Value → Shared → Prop} (B : Begins v o H) (hH : H s.heap)
    (h : ∀ h', IsEnum h' (s.heap.objs.size + 1) s.heap.objs.size 0 .none → h'.get? s.heap.objs.size = some o →
      (∀ b o, s.heap.get? b = some o → h'.get? b = some o) → Q (.ref (s.heap.objs.size + 1)) { s with heap := h' }) :
    wpAny (model prog w) A (call (.type "enumerate") [v]) Q E s := by
  refine callType_new F.called_enumerate (by decide) (F.typeCall_enumerate_1 _) (F.newCall_enumerate_1 _) (fun ob => F.args_object_init_2 ob _) F.entry_enumerate_new
    (newE1 B) ⟨hH, ?_⟩
  have hz : (s.heap.push o).objs.size = s.heap.objs.size + 1 := Heap.size_push ..
  show _ ∧ _
  rw [hz]
  have he : IsEnum ((s.heap.push o).push { cls := .type "enumerate", data := .fields #[.none, .bool false, .ref s.heap.objs.size, rawInt 0, .none, .none] }) (s.heap.objs.size + 1) s.heap.objs.size 0 .none := by
    have q := Heap.get?_push_size (s.heap.push o) (o := { cls := .type "enumerate", data := .fields #[.none, .bool false, .ref s.heap.objs.size, rawInt 0, .none, .none] }) rfl
    rw [hz] at q
    exact q
  exact ⟨⟨_, he, rfl⟩, h _ he (Heap.get?_push_of_some _ (Heap.get?_push_size _ B.free)) fun b o x => Heap.get?_push_of_some _ (Heap.get?_push_of_some _ x)⟩
/-- the tuple at a, each item in a new pair -/
def IteT (K : PySem.W.Frag) (a : Addr) : It :=
  ⟨fun i H => ∃ (xs : List V) (x : V), SqT K H a xs ∧ xs[i]? = some x, fun i H v H' => ∃ T x, v = .ref T ∧ H T = none ∧ H' = upd H T (.tup [.int (i : Nat), x]) ∧ ∀ xs, SqT K H a xs → xs[i]? = some x,
    fun i H => ∃ xs : List V, SqT K H a xs ∧ xs.length = i⟩
theorem turnET {P : Program} {w : World} {K : PySem.W.Frag} {elts : List Expr} {kk : Nat} {tpos : Pos} (a e it : Addr) :
    Turn P w K (.Tuple elts kk tpos) (IteT K a) [e, it] e (fun i h => (∃ old, IsEnum h e it ((i : Nat) : Int) old) ∧ h.IsTupleIter it a i ∧ e ≠ it) where
  mem := by simp
  obj := fun i h st b hb => by
    obtain ⟨⟨old, he⟩, ⟨o, ho, hc, hd⟩, _⟩ := st
    have eb : b = e ∨ b = it := by simpa using hb
    rcases eb with z | z
    · rw [z]
      exact ⟨_, he, fun v q => nomatch q⟩
    · rw [z]
      exact ⟨o, ho, fun v q => by rw [hd] at q; cases q⟩
  keep := fun i h h' st k => let ⟨⟨old, he⟩, hi, hne⟩ := st; ⟨⟨old, k e (by simp) _ he⟩, hi.at fun o q => k it (by simp) o q, hne⟩
  item := by
    intro X hP hw hK hc i pins s σ H E I hf st hg
    subst hP hw hK
    obtain ⟨⟨old, he⟩, hit, hne⟩ := st
    obtain ⟨xs, x, hq, hx⟩ := hg
    obtain ⟨its, rv, p, hz⟩ := I.tuple hq
    obtain ⟨u, hu, ru⟩ := rv.get hx
    obtain ⟨oa, hoa, hca, na, hda⟩ := id p
    have hel : e < s.heap.objs.size := Heap.lt_size he
    have hil : it < s.heap.objs.size := by
      obtain ⟨_, q, _⟩ := hit
      exact Heap.lt_size q
    have hae : a ≠ e := fun z => by
      rw [z, he] at hoa
      cases hoa
      injection hca with q
      exact absurd q (by decide)
    have hai : a ≠ it := fun z => by
      obtain ⟨oi, q, hci, _⟩ := hit
      rw [z, q] at hoa
      cases hoa
      rw [hci] at hca
      injection hca with q2
      exact absurd q2 (by decide)
    have hlt : i < its.toArray.size := by
      have q := (List.getElem?_eq_some_iff.mp hu).1
      simpa using q
    have D : Draws X.prog X.w X.A.in1 it [it, a] its.toArray.size (fun i v => its.toArray[i]? = some v) (fun i h => h.IsTupleIter it a i ∧ h.IsTuple a its.toArray) := Draws.tuple (A := X.A.in1) (show X.A.in1.handled = none from I.ok.hd hc) it a hai its.toArray
    refine wpAny_pyNext_enum_itemD D he ⟨hit, p⟩ hlt hne (by simp [hne, Ne.symm hae]) fun x' h' tk hx' ho hst hT hsz hk => ?_
    have exu : x' = u := by
      have q : its[i]? = some x' := by simpa using hx'
      rw [hu] at q
      exact (Option.some.inj q).symm
    subst exu
    refine ⟨_, rfl, wpAny_letOwnedTupleGo_enum (s := { s with heap := h', toks := tk + 1 }) ho fun h'' he' sb => ?_⟩
    have hT2 : h''.get? s.heap.objs.size = some { cls := .type "tuple", data := .seq #[.int i tk, x'] } := (sb.2 _ (Nat.ne_of_gt hel)).trans hT
    have new : ObjOk X.prog X.w (upd H s.heap.objs.size (.tup [.int (i : Nat), x])) h'' s.heap.objs.size (.tup [.int (i : Nat), x]) :=
      ⟨by show 2 ≤ sizeLine; decide, [.int i tk, x'], .cons ⟨_, rfl⟩ (.cons ru .nil), ⟨_, hT2, rfl, _, rfl⟩⟩
    have I1 : Inv X pins σ (upd H s.heap.objs.size (.tup [.int (i : Nat), x])) { s with heap := h'', toks := tk + 1 } :=
      I.turnedNew (ch := [e, it]) (fun b ob hb q => (sb.2 b (fun z => hb (by simp [z]))).trans (hk b ob (fun z => hb (by simp [z])) (fun z => hb (by simp [z])) q)) hf (Nat.le_refl _) new
    refine ⟨.ref s.heap.objs.size, _, I1, rfl, ⟨_, x, rfl, I.hok.fresh (Nat.le_refl _), rfl, fun ys hy => by rw [I.tuple_inj hy hq]; exact hx⟩, ⟨⟨x', ?_⟩, hst.1.at fun o q => (sb.2 it (Ne.symm hne)).trans q, hne⟩, fun b hb => ?_⟩
    · have e1 : ((i + 1 : Nat) : Int) = (i : Int) + 1 := by omega
      rw [e1]
      exact he'
    · have hb' : b < s.heap.objs.size := by
        have eb : b = e ∨ b = it := by simpa using hb
        rcases eb with z | z
        · rw [z]
          exact hel
        · rw [z]
          exact hil
      rw [upd_ne (Nat.ne_of_lt hb')]
      exact (hf b hb).1
  done := by
    intro X hP hw hK hc i pins s σ H E I hf st hg
    subst hP hw hK
    obtain ⟨⟨old, he⟩, hit, hne⟩ := st
    obtain ⟨xs, hq, hx⟩ := hg
    obtain ⟨its, rv, p, hz⟩ := I.tuple hq
    obtain ⟨oa, hoa, hca, na, hda⟩ := id p
    have hai : a ≠ it := fun z => by
      obtain ⟨oi, q, hci, _⟩ := hit
      rw [z, q] at hoa
      cases hoa
      rw [hci] at hca
      injection hca with q2
      exact absurd q2 (by decide)
    obtain ⟨f0, f1, f2, f3, f4, f5⟩ := hf it (by simp)
    have hl := rv.length
    have D : Draws X.prog X.w X.A.in1 it [it, a] its.toArray.size (fun i v => its.toArray[i]? = some v) (fun i h => h.IsTupleIter it a i ∧ h.IsTuple a its.toArray) := Draws.tuple (A := X.A.in1) (show X.A.in1.handled = none from I.ok.hd hc) it a hai its.toArray
    have hsz : its.toArray.size = i := by
      rw [List.size_toArray]
      omega
    have st : s.heap.IsTupleIter it a its.toArray.size ∧ s.heap.IsTuple a its.toArray := by
      rw [hsz]
      exact ⟨hit, p⟩
    exact wpAny_pyNext_enum_endD D he st fun h' eb => ⟨rfl, I.turned (t' := s.toks) (fun b o hb q => eb b o hb q) f0 f1 f3 f4 f5⟩
  self := fun A i s Q E st h => let ⟨⟨_, he⟩, _⟩ := st; wpAny_pyIter_enum he h
def iEnumT (K : PySem.W.Frag) (ta : TA) : TI := fun σ H R => ta σ H fun vs H1 => ∃ a xs, vs = [.ref a] ∧ SqT K H1 a xs ∧ R (IteT K a) H1
theorem pi_enumT {X : Cx} {e : Expr} {ta : TA} {p pos tpos : Pos} {elts : List Expr} {kk : Nat} (hg : Gl X "enumerate") (hm : X.mg "enumerate" = none) (ha : PA X [e] ta) (hs : starEach [e] X.env = [(false, eval e X.env)] := by rfl) :
    PI X (.Tuple elts kk tpos) (.Call (.Name "enumerate" p) [e] [] pos) (iEnumT X.K ta) := by
  refine ⟨fun pins s σ H R I h => ?_⟩
  refine Call_ (ld_blt I hg hm boot_enumerate (PyProof.Rows.callWith_type1 (thn (ha.run pos pins s σ H _ I h) fun us s1 ⟨vs, H1, I1, r1, q1⟩ => ?_) hs rfl))
  obtain ⟨a, xs, ex, hq, q⟩ := q1
  subst ex
  cases r1 with
  | cons r rr =>
    cases rr
    cases r
    obtain ⟨its, rv, p', hz⟩ := I1.tuple hq
    refine callE1 (begins_tuple a its.toArray) p' fun h' he hit hk => wpAny_pyIter_enum he ?_
    have I2 : Inv X pins σ H1 { s1 with heap := h' } := I1.kept (t' := s1.toks) hk
    refine ⟨s1.heap.objs.size + 1, [s1.heap.objs.size + 1, s1.heap.objs.size], _, _, H1, rfl, I2, turnET a (s1.heap.objs.size + 1) s1.heap.objs.size, ⟨⟨.none, he⟩, ⟨_, hit, rfl, rfl⟩, Nat.succ_ne_self _⟩, fun b hb => ?_, q⟩
    have eb : b = s1.heap.objs.size + 1 ∨ b = s1.heap.objs.size := by simpa using hb
    have hle : s1.heap.objs.size ≤ b := by
      rcases eb with z | z
      · rw [z]
        exact Nat.le_add_right _ _
      · rw [z]
        exact Nat.le_refl _
    exact I1.fpOk hle (I1.hok.fresh hle)
end LV
set_option Elab.async false
set_option linter.all false
set_option maxRecDepth 100000
set_option maxHeartbeats 2000000
namespace LV
open PySem PySem.Spec PyProof.Rows L2
/-! an int's own method is asked with an instance: NotImplemented -/
section
variable {prog : Program} {w : World} {A : Around} {E : Value → Shared → Prop} {s : Shared}
theorem niBin {nm : String} {f : Int → Int → Sem Fin} {i : Int} {t : Tok} {x C dx : Addr} {M : Model} {Q : Value → Shared → Prop} (hx : s.heap.get? x = some (PySem.W.instObj C dx)) (h : Q .notImplemented s) :
    wpAny M A (Builtin.Int.intBinary nm f false ⟨[.int i t, .ref x], []⟩) (fun fin s' => ∃ v, fin = .done (.ret v) ∧ Q v s') E s := by
  obtain ⟨hp, ge, dr, tk, os⟩ := s
  unfold Builtin.Int.intBinary
  wp_walk using wpAny_load hx
  exact ⟨_, rfl, h⟩
/-- int op instance: the instance's reflected method -/
theorem tryN {nm : Str} {id : String} {B : Builtin} {i : Int} {t : Tok} {x : Addr} {Q : Option Value → Shared → Prop} (slot : Slot "int" nm id) (entry : entryFor table id = some B) (args : argsOk id ⟨[.int i t, .ref x], []⟩)
    (hB : ∀ (A' : Around) (Q' : Value → Shared → Prop), Q' .notImplemented s → wpAny (model prog w) A' (B ⟨[.int i t, .ref x], []⟩) (fun fin s' => ∃ v, fin = PySem.Fin.done (.ret v) ∧ Q' v s') E s) (h : Q none s) :
    wpAny (model prog w) A (tryMethod (.int i t) nm (.ref x)) Q E s := by
  unfold tryMethod
  refine wpAny_bind (wpAny_callSpecial?_slot (typeIs_int s i t) slot (wpAny_call_entry slot (typeIs_int s i t) entry (hB _ _ ?_) args))
  exact wpAny_pure h
open PySem.W in
theorem binRefl {K : Frag} {x C dx f : Addr} {i : Int} {t : Tok} {h0 : Heap} {L : Addr} {m : Str → Option Value} {od : Option Obj} {op : Operator} {Q : Value → Shared → Prop} (F : Fr h0 L s.heap m) (X0 : K.In h0) (I : InstAt s.heap x (instObj C dx) C od) (hc : selfFirst K C = true)
    (hs : findIn K (.ref C) (PySem.dunder op.info.2) = some (some (.ref f0))) (hr : findIn K (.ref C) (dunderR op.info.2) = some (some (.ref f))) (hf : isFn K (.ref f) = true)
    (hsub : subIn K (.ref C) (.type "int") = some false) (hfl : fillsNumberSlot (.type "int") op.info.2 = pure true)
    (h1 : ∀ Q' : Option Value → Shared → Prop, Q' none s → wpAny (model prog w) A (tryMethod (.int i t) (PySem.dunder op.info.2) (.ref x)) Q' E s)
    (h : wpAny (model prog w) A (call (.ref f) [.ref x, .int i t]) (W.CmpBack Q) E s) : wpAny (model prog w) A (binaryOp op (.int i t) (.ref x)) Q E s := by
  have X := X0.keeps F.keep
  obtain ⟨cd, rest, hcd, hm⟩ := ksp_first hc
  rcases hi : op.info with ⟨sym, nm⟩
  rw [hi] at hs hr hfl h1
  dsimp only at hs hr hfl h1
  have one := ksp_try (E := E) X I hr hf h
  obtain ⟨hh, ge, dr, tt, os⟩ := s
  have L1 : Looks (model prog w) hh (typeOf (.ref x)) (.ref C) := I.type
  have L2 : Looks (model prog w) hh (typeOf (.int i t)) (.type "int") := Looks.of_pure rfl
  have L3 : Looks (model prog w) hh (fillsNumberSlot (.ref C) nm) true := fills_K X hcd hm hs
  have L4 : Looks (model prog w) hh (fillsNumberSlot (.type "int") nm) true := Looks.of_pure hfl
  have L5 : Looks (model prog w) hh (isSubtype (.ref C) (.type "int")) false := looks_subIn X hsub
  have L7 : Looks (model prog w) hh (numberSlotInPython (.type "int") nm) false := Looks.of_pure rfl
  have hne : (Value.type "int" == Value.ref C) = false := Bool.eq_false_iff.mpr fun q => by cases beq_iff_eq.mp q
  simp only [binaryOp, hi]
  refine wpAny_holding (wpAny_bind ?_)
  unfold binaryOp1
  refine wpAny_bind (L2.at (wpAny_bind (L1.at (wpAny_bind (L4.at ?_)))))
  simp only [hne, Bool.false_eq_true, if_false]
  ksp_lk
  refine h1 _ ?_
  ksp_lk
  refine wpAny_mono one (fun r s' hr' => ?_) fun _ _ e => e
  obtain ⟨v, rfl, hq⟩ := hr'
  ksp_lk
  exact hq
end
end LV
set_option Elab.async false
set_option linter.all false
set_option maxRecDepth 100000
set_option maxHeartbeats 2000000
namespace LV
open PySem PySem.Spec PyProof.Rows L2
/-! own operators over the layer -/
theorem backEP {X : Cx} {pins : List (Addr × Obj)} {σ : L2.St} {Q : VK} {u : Value} {s : Shared} (h : EP X pins σ Q u s) : W.CmpBack (EP X pins σ Q) u s := by
  obtain ⟨v, H, I, r, q⟩ := h
  have h2 : EP X pins σ Q u s := ⟨v, H, I, r, q⟩
  cases u with
  | notImplemented =>
    cases v <;> first
      | exact nomatch r
      | (obtain ⟨t, e⟩ := r; exact nomatch e)
  | _ => exact h2
/-- a def that is an instance's method, with its promise -/
structure OwnM (X : Cx) (k : Nat) (C : Addr) (nm : Str) (sp : Sp) : Prop where
  ex : ∃ (f : Addr) (fd : FuncData) (ps : List Str), PySem.W.findIn X.K (.ref C) nm = some (some (.ref f)) ∧ PySem.W.isFn X.K (.ref f) = true ∧ FnOk X.prog X.w X.K X.mg X.base CX0 k f fd ps sp ∧ Binds X.K fd ps []
/-- its class beside ints -/
structure OwnC (K : PySem.W.Frag) (C : Addr) : Prop where
  first : PySem.W.selfFirst K C = true
  subI : PySem.W.subIn K (.type "int") (.ref C) = some false
  subC : PySem.W.subIn K (.ref C) (.type "int") = some false
/-- the other operand: an int, or an instance of the class -/
def NumV (C : Addr) (H : Hp) (y : V) : Prop := (∃ i, y = .int i) ∨ ∃ b dy gs, y = .ref b ∧ H b = some (.ins C dy gs)
def rOwnL (C : Addr) (sp : Sp) : R2 := fun x y H Q => ∃ a dx fs, x = .ref a ∧ H a = some (.ins C dx fs) ∧ NumV C H y ∧ sp [x, y] H Q E0
def rOwnR (C : Addr) (sp : Sp) : R2 := fun x y H Q => ∃ i b dy gs, x = .int i ∧ y = .ref b ∧ H b = some (.ins C dy gs) ∧ sp [y, x] H Q E0
section
variable {X : Cx} {k : Nat} {C : Addr} {sp : Sp} {op : Operator}
theorem runM {f : Addr} {fd : FuncData} {ps : List Str} {pins : List (Addr × Obj)} {σ : L2.St} {H : Hp} {s : Shared} {Q : VK} {us : List Value} {vs : List V} (F : FnOk X.prog X.w X.K X.mg X.base CX0 k f fd ps sp) (hr : Room k X.A) (hb : Binds X.K fd ps [])
    (I : Inv X pins σ H s) (r : Vals vs us) (h : sp vs H Q E0) : wpAny (model X.prog X.w) X.A (call (.ref f) us) (W.CmpBack (EP X pins σ Q)) X.xe s :=
  wpAny_mono (run_fn (dvs := []) F hr hb .nil pass0 I r (by rw [List.append_nil]; exact h)) (fun _ _ z => backEP z) fun _ _ z => z
theorem op_ownL {fo ro rc : Option Value} (M : OwnM X k C (PySem.dunder op.info.2) sp) (c : OwnC X.K C) (hr : Room k X.A)
    (hrc : PySem.W.findIn X.K (.ref C) (dunderR op.info.2) = some rc) (hp : rc = none ∨ ∃ g : Addr, rc = some (.ref g))
    (h1 : PySem.W.findIn X.K (.type "int") (PySem.dunder op.info.2) = some fo) (h2 : PySem.W.findIn X.K (.type "int") (dunderR op.info.2) = some ro) :
    OpR X (binaryOp op) (rOwnL C sp) := by
  intro pins s σ H x y v u Q I rx ry hq
  obtain ⟨a, dx, fs, rfl, ha, hy, q⟩ := hq
  obtain ⟨f, fd, ps, hs, hf, F, hb⟩ := M.ex
  cases rx
  obtain ⟨mA, J, _⟩ := ins_get I.hok ha
  obtain ⟨od, J, _⟩ := J.look
  obtain ⟨m, hF⟩ := I.fr
  rcases hy with ⟨i, rfl⟩ | ⟨b, dy, gs, rfl, hb'⟩
  · obtain ⟨t, rfl⟩ := ry
    have r2 : Vals [V.ref a, V.int i] [Value.ref a, Value.int i t] := .cons rfl (.cons ⟨_, rfl⟩ .nil)
    exact PySem.W.ksp_binT hF I.ok.mod.kin J rfl c.first hs hf hrc hp h1 h2 c.subI (runM F hr hb I r2 q)
  · cases ry
    obtain ⟨mB, J', _⟩ := ins_get I.hok hb'
    obtain ⟨od', J', _⟩ := J'.look
    have r2 : Vals [V.ref a, V.ref b] [Value.ref a, Value.ref b] := .cons rfl (.cons rfl .nil)
    exact PySem.W.binop_K hF I.ok.mod.kin J J'.type c.first hs hf (runM F hr hb I r2 q)
theorem op_ownR {sp0 : Sp} {k0 : Nat} {id : String} {B : Builtin} (M0 : OwnM X k0 C (PySem.dunder op.info.2) sp0) (M : OwnM X k C (dunderR op.info.2) sp) (c : OwnC X.K C) (hr : Room k X.A)
    (hfl : fillsNumberSlot (.type "int") op.info.2 = pure true) (slot : Slot "int" (PySem.dunder op.info.2) id) (entry : entryFor table id = some B) (args : ∀ a b, argsOk id ⟨[a, b], []⟩)
    (hB : ∀ (i : Int) (t : Tok) (x dx : Addr) (s : Shared) (A' : Around) (E : Value → Shared → Prop) (Q' : Value → Shared → Prop), s.heap.get? x = some (PySem.W.instObj C dx) → Q' .notImplemented s →
      wpAny (model X.prog X.w) A' (B ⟨[.int i t, .ref x], []⟩) (fun fin s' => ∃ v, fin = PySem.Fin.done (.ret v) ∧ Q' v s') E s) :
    OpR X (binaryOp op) (rOwnR C sp) := by
  intro pins s σ H x y v u Q I rx ry hq
  obtain ⟨i, b, dy, gs, rfl, rfl, hb', q⟩ := hq
  obtain ⟨f0, _, _, hs0, _⟩ := M0.ex
  obtain ⟨f, fd, ps, hs, hf, F, hb⟩ := M.ex
  obtain ⟨t, rfl⟩ := rx
  cases ry
  obtain ⟨mA, J, _⟩ := ins_get I.hok hb'
  obtain ⟨od, J, _⟩ := J.look
  obtain ⟨m, hF⟩ := I.fr
  have r2 : Vals [V.ref b, V.int i] [Value.ref b, Value.int i t] := .cons rfl (.cons ⟨_, rfl⟩ .nil)
  exact binRefl hF I.ok.mod.kin J c.first hs0 hs hf c.subC hfl (fun Q' q' => tryN slot entry (args _ _) (fun A' Q2 q2 => hB _ _ _ _ _ _ _ _ J.1 q2) q') (runM F hr hb I r2 q)
theorem un_own (M : OwnM X k C "__neg__" sp) (hr : Room k X.A) : UnR X (unaryOp .USub) (fun x H Q => ∃ a dx fs, x = .ref a ∧ H a = some (.ins C dx fs) ∧ sp [x] H Q E0) := by
  intro pins s σ H x v Q I rx hq
  obtain ⟨a, dx, fs, rfl, ha, q⟩ := hq
  obtain ⟨f, fd, ps, hs, hf, F, hb⟩ := M.ex
  cases rx
  obtain ⟨mA, J, _⟩ := ins_get I.hok ha
  obtain ⟨od, J, _⟩ := J.look
  obtain ⟨m, hF⟩ := I.fr
  have r2 : Vals [V.ref a] [Value.ref a] := .cons rfl .nil
  exact PySem.W.ksp_neg hF I.ok.mod.kin J hs hf (run_fn (dvs := []) F hr hb .nil pass0 I r2 q)
theorem op_addR {sp0 : Sp} {k0 : Nat} (M0 : OwnM X k0 C "__add__" sp0) (M : OwnM X k C "__radd__" sp) (c : OwnC X.K C) (hr : Room k X.A) : OpR X (binaryOp .Add) (rOwnR C sp) :=
  op_ownR (op := .Add) M0 M c hr fills_int_add F.slot_int_add F.entry_int_add F.args_int_add_2 fun i t x dx s A' E Q' hx q => niBin hx q
theorem op_subR {sp0 : Sp} {k0 : Nat} (M0 : OwnM X k0 C "__sub__" sp0) (M : OwnM X k C "__rsub__" sp) (c : OwnC X.K C) (hr : Room k X.A) : OpR X (binaryOp .Sub) (rOwnR C sp) :=
  op_ownR (op := .Sub) M0 M c hr fills_int_sub F.slot_int_sub F.entry_int_sub F.args_int_sub_2 fun i t x dx s A' E Q' hx q => niBin hx q
theorem op_mulR {sp0 : Sp} {k0 : Nat} (M0 : OwnM X k0 C "__mul__" sp0) (M : OwnM X k C "__rmul__" sp) (c : OwnC X.K C) (hr : Room k X.A) : OpR X (binaryOp .Mult) (rOwnR C sp) :=
  op_ownR (op := .Mult) M0 M c hr fills_int_mul F.slot_int_mul F.entry_int_mul F.args_int_mul_2 fun i t x dx s A' E Q' hx q => niBin hx q
theorem fI1 (K : PySem.W.Frag) : PySem.W.findIn K (.type "int") "__add__" = some (some (.builtin "int.__add__")) := by kernel_rfl
theorem fI2 (K : PySem.W.Frag) : PySem.W.findIn K (.type "int") "__radd__" = some (some (.builtin "int.__radd__")) := by kernel_rfl
theorem fI3 (K : PySem.W.Frag) : PySem.W.findIn K (.type "int") "__sub__" = some (some (.builtin "int.__sub__")) := by kernel_rfl
theorem fI4 (K : PySem.W.Frag) : PySem.W.findIn K (.type "int") "__rsub__" = some (some (.builtin "int.__rsub__")) := by kernel_rfl
theorem fI5 (K : PySem.W.Frag) : PySem.W.findIn K (.type "int") "__mul__" = some (some (.builtin "int.__mul__")) := by kernel_rfl
theorem fI6 (K : PySem.W.Frag) : PySem.W.findIn K (.type "int") "__rmul__" = some (some (.builtin "int.__rmul__")) := by kernel_rfl
theorem op_addL {g : Addr} (M : OwnM X k C "__add__" sp) (hg : PySem.W.findIn X.K (.ref C) "__radd__" = some (some (.ref g))) (c : OwnC X.K C) (hr : Room k X.A) : OpR X (binaryOp .Add) (rOwnL C sp) :=
  op_ownL (op := .Add) M c hr hg (.inr ⟨_, rfl⟩) (fI1 _) (fI2 _)
theorem op_subL {g : Addr} (M : OwnM X k C "__sub__" sp) (hg : PySem.W.findIn X.K (.ref C) "__rsub__" = some (some (.ref g))) (c : OwnC X.K C) (hr : Room k X.A) : OpR X (binaryOp .Sub) (rOwnL C sp) :=
  op_ownL (op := .Sub) M c hr hg (.inr ⟨_, rfl⟩) (fI3 _) (fI4 _)
theorem op_mulL {g : Addr} (M : OwnM X k C "__mul__" sp) (hg : PySem.W.findIn X.K (.ref C) "__rmul__" = some (some (.ref g))) (c : OwnC X.K C) (hr : Room k X.A) : OpR X (binaryOp .Mult) (rOwnL C sp) :=
  op_ownL (op := .Mult) M c hr hg (.inr ⟨_, rfl⟩) (fI5 _) (fI6 _)
/-! division by any number but nought -/
theorem op_fdivG : OpR X (binaryOp .FloorDiv) (rI (fun _ j => j ≠ 0 ∧ j.natAbs.log2 < 9000) fun i j => .int (i.fdiv j)) := opI fun _ _ _ _ _ _ _ hc q => floordiv_int hc.1 q (.inl (PyProof.noPylong_of_log2 hc.2))
theorem op_mulG : OpR X (binaryOp .Mult) (rI IntMulOk fun i j => .int (i * j)) := opI fun _ _ _ _ _ _ _ hc q => mul_int q hc
end
end LV
set_option Elab.async false
set_option linter.all false
set_option maxRecDepth 100000
set_option maxHeartbeats 2000000
namespace LV
open PySem PySem.Spec PyProof.Rows L2
theorem walk_enumT {K : PySem.W.Frag} {a : Addr} {xs : List V} : Walk (IteT K a) xs.length (fun H => SqT K H a xs) (YPair (fun i => some (.int (i : Nat))) (fun i => xs[i]?)) := by
  refine ⟨fun i _ hi q => ⟨xs, xs[i], q, by simp [hi]⟩, fun _ q => ⟨xs, q, rfl⟩, fun i H v H' _ q y => ?_⟩
  obtain ⟨T, x, h1, h2, h3, h4⟩ := y
  exact ⟨T, .int (i : Nat), x, h1, h2, h3, rfl, h4 xs q⟩
/-- built-in names that the module does not bind -/
structure Bt (mg : Str → Option Value) : Prop where
  len : mg "len" = none
  int : mg "int" = none
  enumerate : mg "enumerate" = none
  isinstance : mg "isinstance" = none
  zip : mg "zip" = none
  all : mg "all" = none
  range : mg "range" = none
  list : mg "list" = none
  tuple : mg "tuple" = none
  bool : mg "bool" = none
abbrev FnD (K : PySem.W.Frag) (x qual : Str) (st : Stmt) (f : Addr) (fd : FuncData) : Prop := FunD K x qual (defArgs st) (defBody st) (defScope st) [] [] f fd
/-! heaps -/
def But (a : Addr) (H H' : Hp) : Prop := ∀ b o, b ≠ a → H b = some o → H' b = some o
theorem But.refl (a : Addr) (H : Hp) : But a H H := fun _ _ _ h => h
theorem But.trans {a : Addr} {H H1 H2 : Hp} (x : But a H H1) (y : But a H1 H2) : But a H H2 := fun b o n h => y b o n (x b o n h)
theorem Same.but {a : Addr} {H H1 : Hp} (x : Same H H1) : But a H H1 := fun b o _ h => x b o h
theorem But.upd {a : Addr} {H H1 : Hp} {o : HO} (x : But a H H1) : But a H (upd H1 a o) := fun b u n h => by
  rw [upd_ne n]
  exact x b u n h
theorem Same.new {H : Hp} {p : Addr} {o : HO} (h : H p = none) : Same H (upd H p o) := fun b u e => by
  rw [upd_ne (ne_of_none e h)]
  exact e
theorem But.sq {K : PySem.W.Frag} {a c : Addr} {H H1 : Hp} {xs : List V} (x : But a H H1) (n : c ≠ a) (h : SqL K H c xs) : SqL K H1 c xs := by
  rcases h with (h | ⟨o, h⟩) | h
  · exact .inl (.inl (x _ _ n h))
  · exact .inl (.inr ⟨o, x _ _ n h⟩)
  · exact .inr h
theorem Same.sqT {K : PySem.W.Frag} {a : Addr} {H H1 : Hp} {xs : List V} (x : Same H H1) (h : SqT K H a xs) : SqT K H1 a xs := by
  rcases h with (h | ⟨o, h⟩) | h
  · exact .inl (.inl (x _ _ h))
  · exact .inl (.inr ⟨o, x _ _ h⟩)
  · exact .inr h
/-- a new object: the heap behind it is some heap -/
theorem nAt {H H1 : Hp} {p : Addr} {o : HO} (q : upd H p o = H1) : H1 p = some o := by
  rw [← q]
  exact upd_same
theorem nSm {H H1 : Hp} {p : Addr} {o : HO} (q : upd H p o = H1) (n : H p = none) : Same H H1 := by
  rw [← q]
  exact Same.new n
theorem nBt {H H1 : Hp} {p : Addr} {o : HO} (q : upd H p o = H1) : But p H H1 := by
  rw [← q]
  exact (But.refl p H).upd
/-- the law's state for draws -/
abbrev stL (c : Addr) (n l : Int) (m : Bool) : HO := .lst [.ref c, .int n, .int l, .bl m]
def Stt (K : PySem.W.Frag) (H : Hp) (a : Addr) : Prop := ∃ (c : Addr) (ns : List Int) (n l : Int) (m : Bool), H a = some (stL c n l m) ∧ c ≠ a ∧ SqL K H c (ns.map V.int) ∧ ns.length ≤ 63
theorem Stt.same {K : PySem.W.Frag} {H H1 : Hp} {a : Addr} (e : Same H H1) (s : Stt K H a) : Stt K H1 a := by
  obtain ⟨c, ns, n, l, m, h, hn, hs, hl⟩ := s
  exact ⟨c, ns, n, l, m, e _ _ h, hn, e.seq hs, hl⟩
def notSt : HO → Bool
  | .lst (.ref _ :: .int _ :: .int _ :: .bl _ :: []) => false
  | _ => true
theorem But.get {K : PySem.W.Frag} {a x : Addr} {H H1 : Hp} {o : HO} (e : But a H H1) (s : Stt K H a) (h : H x = some o) (n : notSt o = true) : H1 x = some o := by
  refine e x o (fun q => ?_) h
  obtain ⟨c, ns, n', l, m, h2, _⟩ := s
  rw [q, h2] at h
  cases h
  cases n
theorem atL {α : Type} {xs : List α} {z : Int} {n : Nat} (h0 : 0 ≤ z) (h1 : z < n) (hn : n = xs.length) : ∃ v, xs[z.toNat]? = some v ∧ atI xs z = some v := by
  have hj : z.toNat < xs.length := by omega
  refine ⟨xs[z.toNat], by simp [hj], ?_⟩
  have e : z = ((z.toNat : Nat) : Int) := by omega
  have q : atI xs ((z.toNat : Nat) : Int) = some xs[z.toNat] := atI_nat (by simp [hj])
  rw [← e] at q
  exact q
theorem mulS {i j : Int} (h : -(2 ^ 64) < j ∧ j < 2 ^ 64) : IntMulOk i j := CMul.ok (.inr h)
theorem mulS' {i j : Int} (h : -(2 ^ 64) < i ∧ i < 2 ^ 64) : IntMulOk i j := CMul.ok (.inl h)
theorem fdp {i j : Int} (h : 0 < j) : i.fdiv j = i / j := Int.fdiv_eq_ediv_of_nonneg i (by omega)
/-! tests as a whole -/
theorem ans_or2 {t u : TT} {σ : L2.St} {H : Hp} {a b : Bool} (h1 : Ans t σ H a) (h2 : Ans u σ H b) : Ans (tOr t u) σ H (a || b) := by
  cases a with
  | true => exact ans_or1 h1
  | false => exact ans_or h1 h2
theorem ansE {t : TT} {σ : L2.St} {H : Hp} {Q : Bool → Hp → Prop} (P : Bool → Prop) (h : ∃ b, Ans t σ H b ∧ P b) (q : ∀ b, P b → Q b H) : t σ H Q := by
  obtain ⟨b, hb, hp⟩ := h
  exact hb Q (q b hp)
theorem vIx {K : PySem.W.Frag} {ta tb : TE} {σ : L2.St} {H : Hp} {p : Addr} {xs : List V} {i : Int} {v : V} (h1 : Val ta σ H (.ref p)) (h2 : Val tb σ H (.int i)) (h : SqL K H p xs) (hv : atI xs i = some v) : Val (tOp (rIxL K) ta tb) σ H v :=
  val_op h1 h2 fun Q q => ⟨p, xs, i, v, rfl, rfl, h, hv, q⟩
theorem vI0 {ta tb : TE} {σ : L2.St} {H : Hp} {i j : Int} {g : Int → Int → V} (h1 : Val ta σ H (.int i)) (h2 : Val tb σ H (.int j)) : Val (tOp (rI0 g) ta tb) σ H (g i j) := val_op h1 h2 fun Q q => ⟨i, j, rfl, rfl, q⟩
theorem vI {ta tb : TE} {σ : L2.St} {H : Hp} {i j : Int} {C : Int → Int → Prop} {g : Int → Int → V} (h1 : Val ta σ H (.int i)) (h2 : Val tb σ H (.int j)) (hc : C i j) : Val (tOp (rI C g) ta tb) σ H (g i j) := val_op h1 h2 fun Q q => ⟨i, j, rfl, rfl, hc, q⟩
theorem aI0 {ta tb : TE} {σ : L2.St} {H : Hp} {i j : Int} {g : Int → Int → Bool} (h1 : Val ta σ H (.int i)) (h2 : Val tb σ H (.int j)) : Ans (tTest (tOp (rI0 fun i j => .bl (g i j)) ta tb)) σ H (g i j) := ans_cmp h1 h2 fun Q q => ⟨i, j, rfl, rfl, q⟩
theorem aEq {ta tb : TE} {σ : L2.St} {H : Hp} {x y : V} (h1 : Val ta σ H x) (h2 : Val tb σ H y) (hs : scal x y = true) : Ans (tTest (tOp rEq ta tb)) σ H (decide (x = y)) := ans_cmp h1 h2 fun Q q => ⟨hs, q⟩
end LV
namespace LM
/-! fractions as pairs -/
def rwh (o u : Int) : Int := if u < 0 then -(o.gcd u : Int) else (o.gcd u : Int)
def rO (o u : Int) : Int := o.fdiv (rwh o u)
def rD (o u : Int) : Int := u.fdiv (rwh o u)
def Red (o u : Int) : Prop := 0 < u ∧ o.gcd u = 1
theorem gcd_step (a b : Int) : b.gcd (a.fmod b) = a.gcd b := by
  have h : a.fmod b = a + (-(a.fdiv b)) * b := by
    have := Int.mul_fdiv_add_fmod a b
    have e : a.fdiv b * b = b * a.fdiv b := Int.mul_comm _ _
    rw [Int.neg_mul, e]
    omega
  rw [h, Int.gcd_add_mul_right_right, Int.gcd_comm]
theorem fmod_lt (a b : Int) (h : b ≠ 0) : (a.fmod b).natAbs < b.natAbs := by
  rcases Int.lt_or_gt_of_ne h with h1 | h1
  · have q1 : b < a.fmod b := by
      have := Int.fmod_eq_emod (a := a) (b := b)
      have e1 := Int.emod_nonneg a h
      have e2 := Int.emod_lt_of_neg a h1
      by_cases hd : 0 ≤ b ∨ b ∣ a
      · rw [if_pos hd] at this
        omega
      · rw [if_neg hd] at this
        have e3 : a % b ≠ 0 := fun z => hd (.inr (Int.dvd_of_emod_eq_zero z))
        omega
    have q2 : a.fmod b ≤ 0 := by
      have := Int.fmod_eq_emod (a := a) (b := b)
      have e2 := Int.emod_lt_of_neg a h1
      by_cases hd : 0 ≤ b ∨ b ∣ a
      · rw [if_pos hd] at this
        have e3 : a % b = 0 := Int.emod_eq_zero_of_dvd (hd.resolve_left (by omega))
        omega
      · rw [if_neg hd] at this
        omega
    omega
  · have q1 := Int.fmod_nonneg_of_pos a h1
    have q2 := Int.fmod_lt_of_pos a h1
    omega
theorem gcd_pos {o u : Int} (h : u ≠ 0) : 0 < o.gcd u := Int.gcd_pos_of_ne_zero_right o h
theorem rwh_ne {o u : Int} (h : u ≠ 0) : rwh o u ≠ 0 := by
  have := gcd_pos (o := o) h
  unfold rwh
  split <;> omega
theorem rwh_dvd_o (o u : Int) : rwh o u ∣ o := by
  unfold rwh
  split
  · exact Int.neg_dvd.mpr (Int.gcd_dvd_left o u)
  · exact Int.gcd_dvd_left o u
theorem rwh_dvd_u (o u : Int) : rwh o u ∣ u := by
  unfold rwh
  split
  · exact Int.neg_dvd.mpr (Int.gcd_dvd_right o u)
  · exact Int.gcd_dvd_right o u
theorem fdiv_dvd {a b : Int} (h : b ∣ a) : a.fdiv b = a / b := by
  rw [Int.fdiv_eq_ediv_of_dvd h]
theorem rO_mul (o u : Int) : rO o u * rwh o u = o := by
  unfold rO
  rw [fdiv_dvd (rwh_dvd_o o u)]
  exact Int.ediv_mul_cancel (rwh_dvd_o o u)
theorem rD_mul (o u : Int) : rD o u * rwh o u = u := by
  unfold rD
  rw [fdiv_dvd (rwh_dvd_u o u)]
  exact Int.ediv_mul_cancel (rwh_dvd_u o u)
/-- what such a pair is, it is by these -/
theorem red_unique {o u x y w : Int} (hu : u ≠ 0) (hr : Red x y) (h1 : x * w = o) (h2 : y * w = u) : rO o u = x ∧ rD o u = y := by
  have hw : w ≠ 0 := fun z => by
    rw [z, Int.mul_zero] at h2
    omega
  have hg : o.gcd u = w.natAbs := by
    rw [← h1, ← h2, Int.gcd_mul_right, hr.2, Nat.one_mul]
  have hs : rwh o u = w := by
    unfold rwh
    rw [hg]
    have hy := hr.1
    by_cases hneg : w < 0
    · have : u < 0 := by
        rw [← h2]
        exact Int.mul_neg_of_pos_of_neg hy hneg
      rw [if_pos this]
      omega
    · have : ¬ u < 0 := by
        have : 0 < y * w := Int.mul_pos hy (by omega)
        omega
      rw [if_neg this]
      omega
  unfold rO rD
  rw [hs]
  constructor
  · rw [← h1]
    exact Int.mul_fdiv_cancel x hw
  · rw [← h2]
    exact Int.mul_fdiv_cancel y hw
theorem red_of {o u : Int} (hu : u ≠ 0) : Red (rO o u) (rD o u) := by
  have hg := gcd_pos (o := o) hu
  have e := Int.gcd_ediv_gcd_ediv_gcd (i := o) (j := u) hg
  have hgd := Int.gcd_dvd_right o u
  unfold rO rD
  rw [fdiv_dvd (rwh_dvd_o o u), fdiv_dvd (rwh_dvd_u o u)]
  by_cases hneg : u < 0
  · have hw : rwh o u = -(o.gcd u : Int) := by
      unfold rwh
      rw [if_pos hneg]
    rw [hw, Int.ediv_neg, Int.ediv_neg]
    refine ⟨?_, ?_⟩
    · have : u / (o.gcd u : Int) < 0 := Int.ediv_neg_of_neg_of_pos hneg (by omega)
      omega
    · rw [Int.gcd_neg, Int.neg_gcd]
      exact e
  · have hw : rwh o u = (o.gcd u : Int) := by
      unfold rwh
      rw [if_neg hneg]
    rw [hw]
    refine ⟨?_, e⟩
    exact Int.ediv_pos_of_pos_of_dvd (by omega) (by omega) hgd
theorem red_self {o u : Int} (h : Red o u) : rO o u = o ∧ rD o u = u :=
  red_unique (w := 1) (by have := h.1; omega) h (Int.mul_one o) (Int.mul_one u)
theorem red_scale {o u s : Int} (h : Red o u) (hs : s ≠ 0) : rO (o * s) (u * s) = o ∧ rD (o * s) (u * s) = u :=
  red_unique (w := s) (by
    have := h.1
    exact Int.mul_ne_zero (by omega) hs) h rfl rfl
theorem red_one (o : Int) : Red o 1 := ⟨by decide, by simp⟩
theorem red_neg {o u : Int} (h : Red o u) : Red (-o) u := ⟨h.1, by rw [Int.neg_gcd]; exact h.2⟩
/-! bounds -/
theorem abs_rO {o u : Int} (hu : u ≠ 0) : (rO o u).natAbs ≤ o.natAbs := by
  have e := rO_mul o u
  have hw := rwh_ne (o := o) hu
  have : (rO o u).natAbs * (rwh o u).natAbs = o.natAbs := by rw [← Int.natAbs_mul, e]
  have hp : 0 < (rwh o u).natAbs := by omega
  rw [← this]
  exact Nat.le_mul_of_pos_right _ hp
theorem abs_rD {o u : Int} (hu : u ≠ 0) : (rD o u).natAbs ≤ u.natAbs := by
  have e := rD_mul o u
  have hw := rwh_ne (o := o) hu
  have : (rD o u).natAbs * (rwh o u).natAbs = u.natAbs := by rw [← Int.natAbs_mul, e]
  have hp : 0 < (rwh o u).natAbs := by omega
  rw [← this]
  exact Nat.le_mul_of_pos_right _ hp
theorem abs_rwh {o u : Int} (hu : u ≠ 0) : (rwh o u).natAbs ≤ u.natAbs := by
  have e := rD_mul o u
  have hw : rD o u ≠ 0 := by
    have := (red_of (o := o) hu).1
    omega
  have : (rD o u).natAbs * (rwh o u).natAbs = u.natAbs := by rw [← Int.natAbs_mul, e]
  have hp : 0 < (rD o u).natAbs := by omega
  rw [← this]
  exact Nat.le_mul_of_pos_left _ hp
end LM
set_option Elab.async false
set_option linter.all false
set_option maxRecDepth 100000
set_option maxHeartbeats 4000000
namespace LW
open PySem PySem.Spec PyProof.Rows L2 LV
def top (i : Nat) : Stmt := PySem.Challenge.pw_surelevels_k02_numbers_told.main.body.getD i (.Pass ⟨0, 0, 0, 0⟩)
section
variable {P : Program} {w : World} {K : PySem.W.Frag} {mg : Str → Option Value} {base : Heap}
abbrev s__law_fresh : Stmt := top 12
abbrev N__law_fresh : List Str := ["_law_script"]
theorem sc__law_fresh : FnScope N__law_fresh ["_law_script"] (defScope s__law_fresh) := ⟨rfl, rfl, rfl, by decide +kernel, rfl, by decide +kernel, by decide +kernel⟩
def spFresh (K : PySem.W.Frag) : Sp := fun vs H Q _ => ∃ (a : Addr) (ns : List Int), vs = [.ref a] ∧ SqL K H a (ns.map V.int) ∧ ns.length ≤ 63 ∧ ∀ p H', Same H H' → Stt K H' p → Q (.ref p) H'
theorem ok_fresh {f : Addr} {fd : FuncData} (F : FnD K "_law_fresh" "_law_fresh" s__law_fresh f fd) : FnOk P w K mg base CX0 1 f fd ["_law_script"] (spFresh K) := by
  refine F.ok sc__law_fresh (fun vs H Q E h => ?_) (fun cdv A outer s H vs Q E hr h => ?_)
  · obtain ⟨a, ns, rfl, _⟩ := h
    rfl
  · obtain ⟨a, ns, rfl, hS, hl, k⟩ := h
    refine ⟨_, PSs.nox (pss_one (ps_ret (pe_lst (pa_cons (pe_slice sl_list (pv 0) po_none (po_some pe_int)) (pa_cons pe_int (pa_cons pe_int (pa_cons pe_bl pa_nil))))))), ?_⟩
    refine ⟨_, rfl, _, rfl, a, _, rfl, hS, fun c n1 => ?_⟩
    generalize q1 : upd H c _ = H1
    have h1 := nAt q1
    have e1 := nSm q1 n1
    refine ⟨by show 4 ≤ sizeLine; decide, fun p n2 => ?_⟩
    generalize q2 : upd H1 p _ = H2
    have h2 := nAt q2
    have e2 := nSm q2 n2
    refine k p H2 (e1.trans e2) ⟨c, ns, 0, 0, false, h2, ne_of_none h1 n2, ?_, hl⟩
    have e : cutV (ns.map V.int) none (some 63) = ns.map V.int := by
      have hz : (ns.map V.int).length ≤ 63 := by rw [List.length_map]; exact hl
      unfold cutV
      rw [HT.sIx_none, show (some (63 : Int)) = some ((63 : Nat) : Int) from rfl, HT.sIx_nat, List.drop_zero, List.take_of_length_le]
      omega
    rw [← e]
    exact SqL.of (e2 _ _ h1)
abbrev s__law_fill : Stmt := top 13
abbrev N__law_fill : List Str := ["_law_state", "_law_cells", "_law_nth", "_law_seed", "_law_k", "_law_prime", "_law_far"]
theorem sc__law_fill : FnScope N__law_fill ["_law_state"] (defScope s__law_fill) := ⟨rfl, rfl, rfl, by decide +kernel, rfl, by decide +kernel, by decide +kernel⟩
def spFill (K : PySem.W.Frag) : Sp := fun vs H Q _ => ∃ (a : Addr), vs = [.ref a] ∧ Stt K H a ∧ ∀ H', But a H H' → Stt K H' a → Q .non H'
theorem ok_fill {f : Addr} {fd : FuncData} (F : FnD K "_law_fill" "_law_fill" s__law_fill f fd) (T : Bt mg) : FnOk P w K mg base CX0 1 f fd ["_law_state"] (spFill K) := by
  refine F.ok sc__law_fill (fun vs H Q E h => ?_) (fun cdv A outer s H vs Q E hr h => ?_)
  · obtain ⟨a, rfl, _⟩ := h
    rfl
  · obtain ⟨a, rfl, ⟨c, ns, n, l, m, ha, hca, hS, hl⟩, k⟩ := h
    refine ⟨_, PSs.nox (pss_cons (ps_par (i := 1) (j := 2) rfl sc__law_fill.nd rfl rfl (by decide) rfl rfl (pa_cons (pe_ix ix_list (pv 0) pe_int (fun _ _ => rfl)) (pa_cons (pe_ix ix_list (pv 0) pe_int (fun _ _ => rfl)) pa_nil)) rfl)
      (pss_cons (ps_set (i := 3) sc__law_fill.nd rfl (Or.inl rfl) (pe_op op_add (pe_op op_mulG pe_int (pv 2)) pe_int))
      (Evl.pss_cut (ps_if (pt_cmpR op_gt (pe_callB call_len_seq rfl T.len (by decide +kernel) (pa_cons (pv 1) pa_nil)) pe_int (nomark _)) (pss_one (ps_set (i := 3) sc__law_fill.nd rfl (Or.inl rfl) (pe_op op_add (pe_op op_mulG pe_int (pe_op op_fdivG (pv 2) (pe_callB call_len_seq rfl T.len (by decide +kernel) (pa_cons (pv 1) pa_nil)))) (pe_ix ix_list (pv 1) (pe_op op_mod (pe_callTy call_int1 rfl T.int (by decide +kernel) (pa_cons (pv 2) pa_nil)) (pe_callB call_len_seq rfl T.len (by decide +kernel) (pa_cons (pv 1) pa_nil))) (fun _ _ => rfl))))) pss_nil)
      (pss_cons (ps_asg (pe_op op_add (pv 2) pe_int) (pg_sub (pv 0) pe_int set_list))
      (Evl.pss_cut (ps_asg (pe_or (pe_cmpR op_ge (pv 2) (pe_callB call_len_seq rfl T.len (by decide +kernel) (pa_cons (pv 1) pa_nil)) (nomark _)) (pe_one (pe_cmpR op_lt (pv 3) (pe_op op_pow pe_int pe_int) (nomark _)))) (pg_sub (pv 0) pe_int set_list))
      (pss_cons (ps_asg (pe_op op_sub (pv 3) (pe_op op_pow pe_int pe_int)) (pg_sub (pv 0) pe_int set_list))
      (pss_one (ps_if (pt_val (pe_ix ix_list (pv 0) pe_int (fun _ _ => rfl))) (pss_cons (ps_asg pe_int (pg_sub (pv 0) pe_int set_list))
      (pss_one (ps_for PassesOwn.never rfl (pi_enumT rfl T.enumerate (pa_cons (pe_tup (pa_cons pe_int (pa_cons pe_int (pa_cons pe_int (pa_cons pe_int (pa_cons pe_int pa_nil)))))) pa_nil)) (pg_tup rfl (pgs_cons (pg_name (i := 4) sc__law_fill.nd rfl (Or.inl rfl)) (pgs_cons (pg_name (i := 5) sc__law_fill.nd rfl (Or.inl rfl)) pgs_nil))) (pss_cons (ps_set (i := 6) sc__law_fill.nd rfl (Or.inl rfl) (pe_op op_mod (pe_callTy call_int1 rfl T.int (by decide +kernel) (pa_cons (pe_op op_mulG (pe_op op_add (pe_op op_add (pv 3) (pe_op op_mulG (pe_op op_mulG pe_int (pv 4)) (pv 4))) (pe_op op_mulG pe_int (pv 4))) (pe_op op_add pe_int (pe_op op_mulG pe_int (pv 4)))) pa_nil)) (pv 5)))
      (pss_one (ps_asg (pe_op op_add (pe_op op_mulG (pe_ix ix_list (pv 0) pe_int (fun _ _ => rfl)) (pv 5)) (pe_op op_mod (pe_callTy call_int1 rfl T.int (by decide +kernel) (pa_cons (pe_op op_pow (pv 6) pe_int) pa_nil)) (pv 5))) (pg_sub (pv 0) pe_int set_list))))))) pss_nil)))))))), ?_⟩
    refine ⟨_, rfl, a, _, _, _, rfl, rfl, SqL.of ha, rfl, _, rfl, a, _, _, _, rfl, rfl, SqL.of ha, rfl, _, _, rfl, ?_⟩
    refine ⟨_, rfl, _, _, rfl, rfl, mulS' (by decide), _, _, rfl, rfl, ?_⟩
    refine ⟨fun σ H' => H' = H ∧ ∃ sd : Int, σ = [some (.ref a), some (.ref c), some (.int n), some (.int sd), none, none, none], ?_, ?_⟩
    · refine ⟨_, rfl, c, _, rfl, .inl hS, _, _, rfl, rfl, _, rfl, ?_⟩
      refine ite2 (fun hc => ?_) (fun _ => ⟨rfl, _, rfl⟩)
      have hc0 : (0 : Int) < ((ns.map V.int).length : Nat) := of_decide_eq_true hc
      have hlen : (ns.map V.int).length ≤ 63 := by rw [List.length_map]; exact hl
      have hm := Int.emod_nonneg n (b := ((ns.map V.int).length : Nat)) (by omega)
      have hm2 := Int.emod_lt_of_pos n hc0
      obtain ⟨v, hv, hat⟩ := atL (xs := ns.map V.int) hm hm2 rfl
      obtain ⟨z, rfl⟩ : ∃ z, v = V.int z := by
        rw [List.getElem?_map] at hv
        cases e : ns[(n % ((ns.map V.int).length : Nat)).toNat]? with
        | none => rw [e] at hv; cases hv
        | some z => rw [e] at hv; exact ⟨z, (Option.some.inj hv).symm⟩
      refine ⟨_, rfl, _, rfl, c, _, rfl, .inl hS, _, _, rfl, rfl, ⟨by omega, ?_⟩, _, _, rfl, rfl, mulS' (by decide), _, rfl, _, rfl, .inl ⟨_, rfl, _, rfl, c, _, rfl, .inl hS, _, _, rfl, rfl, hc0, c, _, _, _, rfl, rfl, hS, hat, _, _, rfl, rfl, rfl, _, rfl⟩⟩
      have z : ((((ns.map V.int).length : Nat) : Int).natAbs) < 2 ^ 6 := by omega
      exact Nat.lt_of_lt_of_le (PySem.Flt.log2_lt_of (by decide) z) (by decide)
    · rintro σ H' ⟨rfl, sd, rfl⟩
      refine ⟨_, rfl, _, _, rfl, rfl, _, rfl, a, _, _, 1, rfl, rfl, ha, rfl, ?_⟩
      have hS1 : ∀ o, SqL K (upd H' a o) c (ns.map V.int) := fun o => ((But.refl a H').upd).sq hca hS
      refine ⟨fun σ H2 => σ = [some (.ref a), some (.ref c), some (.int n), some (.int sd), none, none, none] ∧ ∃ b, H2 = upd H' a (stL c (n + 1) l b), ?_, ?_⟩
      · refine ⟨_, rfl, _, rfl, c, _, rfl, .inl (hS1 _), _, _, rfl, rfl, _, rfl, ?_⟩
        refine ite2 (fun _ => ?_) (fun _ => ?_)
        · refine ⟨_, rfl, a, _, _, 3, rfl, rfl, upd_same, rfl, rfl, _, upd_upd⟩
        · refine ⟨_, rfl, _, _, rfl, rfl, ⟨by decide, by decide, by decide⟩, _, _, rfl, rfl, _, rfl, a, _, _, 3, rfl, rfl, upd_same, rfl, rfl, _, upd_upd⟩
      · rintro σ H2 ⟨rfl, b, rfl⟩
        refine ⟨_, rfl, _, _, rfl, rfl, ⟨by decide, by decide, by decide⟩, _, _, rfl, rfl, _, rfl, a, _, _, 2, rfl, rfl, upd_same, rfl, ?_⟩
        generalize q2 : upd (upd H' a (stL c (n + 1) l b)) a _ = H2
        have h2a : H2 a = some (stL c (n + 1) (sd - 10 ^ 18) b) := nAt q2
        have e2 : But a H' H2 := ((But.refl a H').upd).trans (nBt q2)
        generalize sd - 10 ^ 18 = l2 at h2a
        clear q2
        refine ⟨_, rfl, a, _, _, _, rfl, rfl, SqL.of h2a, rfl, _, rfl, ?_⟩
        refine ite2 (fun _ => ?_) (fun _ => ?_)
        · refine ⟨_, rfl, a, _, _, 2, rfl, rfl, h2a, rfl, ?_⟩
          generalize q3 : upd H2 a _ = H3
          have h3a : H3 a = some (stL c (n + 1) 0 b) := nAt q3
          have e3 : But a H' H3 := e2.trans (nBt q3)
          clear q3
          refine ⟨by show 5 ≤ sizeLine; decide, fun p n1 => ?_⟩
          generalize q1 : upd H3 p _ = H1
          have h1 := nAt q1
          have e1 := nSm q1 n1
          refine ⟨p, _, rfl, SqT.of h1, ?_⟩
          refine for_it (walk_enumT (xs := [.int 2147483647, .int 2147483629, .int 2147483587, .int 2147483579, .int 2147483563])) (fun i σ H3 => ∃ (x y z : Option V) (l : Int), σ = [some (.ref a), some (.ref c), some (.int n), some (.int sd), x, y, z] ∧ But a H' H3 ∧ H3 a = some (stL c (n + 1) l b) ∧ H3 p = some (.tup [.int 2147483647, .int 2147483629, .int 2147483587, .int 2147483579, .int 2147483563]))
            ⟨_, _, _, 0, rfl, e3.trans (Same.but e1), e1 _ _ h3a, h1⟩ (fun i σ H3 _ ⟨_, _, _, _, _, _, _, h⟩ => SqT.of h) ?_ ?_
          · rintro i x σ H3 H4 hi ⟨x4, x5, x6, l, rfl, eb, h3a, h3p⟩ ⟨T5, x1, x2, rfl, nT, rfl, hx1, hx2⟩
            obtain ⟨pr, hpr, hp0, hp1⟩ : ∃ pr : Int, x2 = .int pr ∧ 0 < pr ∧ pr < 2 ^ 32 := by
              rcases i with _ | _ | _ | _ | _ | i
              · exact ⟨_, (Option.some.inj hx2).symm, by decide, by decide⟩
              · exact ⟨_, (Option.some.inj hx2).symm, by decide, by decide⟩
              · exact ⟨_, (Option.some.inj hx2).symm, by decide, by decide⟩
              · exact ⟨_, (Option.some.inj hx2).symm, by decide, by decide⟩
              · exact ⟨_, (Option.some.inj hx2).symm, by decide, by decide⟩
              · exact absurd hi (by simp)
            have hx1' : x1 = .int (i : Nat) := (Option.some.inj hx1).symm
            subst hpr hx1'
            have hi5 : (i : Int) < 5 := by
              have hi' : i < 5 := hi
              omega
            have h4a : upd H3 T5 (.tup [.int (i : Nat), .int pr]) a = some (stL c (n + 1) l b) := by
              rw [upd_ne (ne_of_none h3a nT)]
              exact h3a
            have h4p := (Same.new (o := .tup [.int (i : Nat), .int pr]) nT) _ _ h3p
            have eb4 : But a H' (upd H3 T5 (.tup [.int (i : Nat), .int pr])) := eb.trans (Same.but (Same.new nT))
            have hT5 : upd H3 T5 (.tup [.int (i : Nat), .int pr]) T5 = some (.tup [.int (i : Nat), .int pr]) := upd_same
            generalize upd H3 T5 (.tup [.int (i : Nat), .int pr]) = H4 at h4a h4p eb4 hT5
            refine ⟨T5, _, rfl, SqT.of hT5, rfl, _, _, rfl, _, _, rfl, rfl, ?_⟩
            refine ⟨_, rfl, _, rfl, _, _, rfl, rfl, mulS' (by decide), _, rfl, _, _, rfl, rfl, mulS (by omega), _, _, rfl, rfl, _, rfl, _, _, rfl, rfl, mulS' (by decide), _, _, rfl, rfl, _, rfl, _, _, rfl, rfl, mulS' (by decide), _, _, rfl, rfl, _, _, rfl, rfl, mulS (by omega), .inl ⟨_, rfl, _, rfl, _, _, rfl, rfl, hp0, ?_⟩⟩
            have hf0 := Int.emod_nonneg ((sd + 10007 * (i : Int) * i + 101 * i) * (48271 + 2 * i)) (b := pr) (by omega)
            have hf1 := Int.emod_lt_of_pos ((sd + 10007 * (i : Int) * i + 101 * i) * (48271 + 2 * i)) hp0
            refine ⟨_, rfl, a, _, _, _, rfl, rfl, SqL.of h4a, rfl, _, rfl, _, _, rfl, rfl, mulS (by omega), _, rfl, _, _, rfl, rfl, ⟨by decide, by decide, by omega⟩, .inl ⟨_, rfl, _, rfl, _, _, rfl, rfl, hp0, _, _, rfl, rfl, _, rfl, a, _, _, 2, rfl, rfl, h4a, rfl, ?_⟩⟩
            refine ⟨_, _, _, _, rfl, eb4.upd, upd_same, ?_⟩
            rw [upd_ne (ne_of h4p h4a (by intro z; cases z))]
            exact h4p
          · rintro σ H3 ⟨_, _, _, l, rfl, eb, h3a, h3p⟩
            exact k _ eb ⟨c, ns, _, _, _, h3a, hca, eb.sq hca hS, hl⟩
        · exact k _ e2 ⟨c, ns, _, _, _, h2a, hca, e2.sq hca hS, hl⟩
abbrev s__law_take : Stmt := top 14
abbrev N__law_take : List Str := ["_law_state", "_law_many", "_law_laps", "_law_digit"]
theorem sc__law_take : FnScope N__law_take ["_law_state", "_law_many"] (defScope s__law_take) := ⟨rfl, rfl, rfl, by decide +kernel, rfl, by decide +kernel, by decide +kernel⟩
def spTake (K : PySem.W.Frag) : Sp := fun vs H Q _ => ∃ (a : Addr) (z : Int), vs = [.ref a, .int z] ∧ Stt K H a ∧ 0 < z ∧ z < 2 ^ 200 ∧ ∀ H' d, But a H H' → Stt K H' a → 0 ≤ d → d < z → Q (.int d) H'
theorem ok_take {f : Addr} {fd : FuncData} (F : FnD K "_law_take" "_law_take" s__law_take f fd) (T : Bt mg) (c__law_fill : C8.Cal P w K mg base 1 "_law_fill" (spFill K) []) : FnOk P w K mg base CX0 2 f fd ["_law_state", "_law_many"] (spTake K) := by
  refine F.ok sc__law_take (fun vs H Q E h => ?_) (fun cdv A outer s H vs Q E hr h => ?_)
  · obtain ⟨a, z, rfl, _⟩ := h
    rfl
  · obtain ⟨a, z, rfl, hs, hz, hz2, k⟩ := h
    refine ⟨_, PSs.nox (pss_cons (ps_set (i := 2) sc__law_take.nd rfl (Or.inl rfl) pe_int)
      (Evl.pss_cut (ps_while PassesOwn.never (PW.pt (pw_and (pt_cmpR op_lt (pv 2) pe_int (nomark _)) (pw_and1 (PW.pt (pw_or (pt_cmpR op_eq (pe_ix ix_list (pv 0) pe_int (fun _ _ => rfl)) pe_int (nomark _)) (pw_or1 (PW.pt (pw_and (pt_val (pe_ix ix_list (pv 0) pe_int (fun _ _ => rfl))) (pw_and1 (pt_cmpR op_lt (pe_ix ix_list (pv 0) pe_int (fun _ _ => rfl)) (pe_op op_mulG (pv 1) pe_int) (nomark _))))))))))) (pss_cons (ps_expr (C8.pe_c c__law_fill hr (by decide) rfl (pa_cons (pv 0) pa_nil)))
      (pss_cons (ps_aug (i := 2) sc__law_take.nd rfl (Or.inl rfl) pe_int ip_add)
      (pss_one (ps_if (PW.pt (pw_and (pt_val (pe_ix ix_list (pv 0) pe_int (fun _ _ => rfl))) (pw_and1 (pt_cmpR op_lt (pe_ix ix_list (pv 0) pe_int (fun _ _ => rfl)) (pe_op op_mulG (pv 1) pe_int) (nomark _))))) (pss_one (ps_asg (pe_op op_add (pe_ix ix_list (pv 0) pe_int (fun _ _ => rfl)) (pe_op op_mulG (pe_op op_mulG (pv 1) pe_int) (pe_op op_add pe_int (pe_op op_mod (pe_callTy call_int1 rfl T.int (by decide +kernel) (pa_cons (pe_ix ix_list (pv 0) pe_int (fun _ _ => rfl)) pa_nil)) pe_int)))) (pg_sub (pv 0) pe_int set_list))) pss_nil)))))
      (pss_cons (ps_set (i := 3) sc__law_take.nd rfl (Or.inl rfl) (pe_op op_mod (pe_callTy call_int1 rfl T.int (by decide +kernel) (pa_cons (pe_ix ix_list (pv 0) pe_int (fun _ _ => rfl)) pa_nil)) (pv 1)))
      (pss_cons (ps_asg (pe_op op_fdivG (pe_ix ix_list (pv 0) pe_int (fun _ _ => rfl)) (pv 1)) (pg_sub (pv 0) pe_int set_list))
      (pss_one (ps_ret (pv 3))))))), ?_⟩
    refine ⟨fun σ H' => ∃ x, σ = [some (.ref a), some (.int z), x, none] ∧ Stt K H' a ∧ But a H H', ?_, ?_⟩
    · refine ⟨fun m σ H' => ∃ laps : Nat, m + laps = 64 ∧ σ = [some (.ref a), some (.int z), some (.int (laps : Nat)), none] ∧ Stt K H' a ∧ But a H H', ⟨64, 0, rfl, rfl, hs, But.refl a H⟩, ?_⟩
      rintro m σ H1 ⟨laps, hm, rfl, hs1, e1⟩
      obtain ⟨c, ns, n, l, mx, ha, hca, hS, hl⟩ := id hs1
      refine ansE (fun b => b = true → laps < 64) ⟨_, ans_and2 (aI0 (val_var rfl) val_c) (ans_or2 (aEq (vIx (val_var rfl) val_c (SqL.of ha) rfl) val_c rfl) (ans_and2 (ans_val (vIx (val_var rfl) val_c (SqL.of ha) rfl)) (aI0 (vIx (val_var rfl) val_c (SqL.of ha) rfl) (vI (val_var rfl) val_c (mulS (by decide)))))), fun hb => ?_⟩ (fun b hb => ?_)
      · have := of_decide_eq_true (Bool.and_eq_true_iff.mp hb).1
        omega
      · refine ite2 (fun hb2 => ?_) (fun _ => ⟨_, rfl, hs1, e1⟩)
        have hlt := hb hb2
        refine ⟨fun σ' H' => ∃ laps' : Nat, laps' = laps + 1 ∧ σ' = [some (.ref a), some (.int z), some (.int (laps' : Nat)), none] ∧ Stt K H' a ∧ But a H H', fun σ' H' ⟨l', hl', r⟩ => ⟨m - 1, by omega, l', by omega, r⟩, ?_⟩
        refine ⟨_, rfl, a, rfl, hs1, fun H2 e2 hs2 => ?_⟩
        obtain ⟨c, ns, n, l, mx, ha, hca, hS, hl⟩ := id hs2
        have e12 := e1.trans e2
        refine ⟨_, rfl, _, _, rfl, rfl, ?_⟩
        refine ansE (fun _ => True) ⟨_, ans_and2 (ans_val (vIx (val_var rfl) val_c (SqL.of ha) rfl)) (aI0 (vIx (val_var rfl) val_c (SqL.of ha) rfl) (vI (val_var rfl) val_c (mulS (by decide)))), trivial⟩ (fun b _ => ?_)
        refine ite2 (fun _ => ?_) (fun _ => ⟨laps + 1, rfl, rfl, hs2, e12⟩)
        have hq0 := Int.emod_nonneg l (b := 4093) (by decide)
        have hq1 := Int.emod_lt_of_pos l (b := 4093) (by decide)
        refine ⟨_, rfl, a, _, _, _, rfl, rfl, SqL.of ha, rfl, _, rfl, _, _, rfl, rfl, mulS (by decide), _, rfl, a, _, _, _, rfl, rfl, SqL.of ha, rfl, .inl ⟨_, rfl, _, _, rfl, rfl, (show (0 : Int) < 4093 by decide), _, _, rfl, rfl, _, _, rfl, rfl, mulS (by omega), _, _, rfl, rfl, _, rfl, a, _, _, 2, rfl, rfl, ha, rfl, ?_⟩⟩
        generalize q3 : upd H2 a _ = H3
        have h3a := nAt q3
        have e3 : But a H2 H3 := nBt q3
        exact ⟨laps + 1, rfl, rfl, ⟨c, ns, _, _, _, h3a, hca, e3.sq hca hS, hl⟩, e12.trans e3⟩
    · rintro σ H1 ⟨x, rfl, hs1, e1⟩
      obtain ⟨c, ns, n, l, mx, ha, hca, hS, hl⟩ := id hs1
      refine ⟨_, rfl, a, _, _, _, rfl, rfl, SqL.of ha, rfl, .inl ⟨_, rfl, _, rfl, _, _, rfl, rfl, hz, ?_⟩⟩
      refine ⟨_, rfl, a, _, _, _, rfl, rfl, SqL.of ha, rfl, _, rfl, _, _, rfl, rfl, ⟨by omega, ?_⟩, _, rfl, a, _, _, 2, rfl, rfl, ha, rfl, ?_⟩
      · have zz : z.natAbs < 2 ^ 200 := by omega
        exact Nat.lt_of_lt_of_le (PySem.Flt.log2_lt_of (by decide) zz) (by decide)
      generalize q3 : upd H1 a _ = H3
      have h3a := nAt q3
      have e3 : But a H1 H3 := nBt q3
      exact ⟨_, rfl, k _ _ (e1.trans e3) ⟨c, ns, _, _, _, h3a, hca, e3.sq hca hS, hl⟩ (Int.emod_nonneg _ (by omega)) (Int.emod_lt_of_pos _ hz)⟩
abbrev s__law_one : Stmt := top 15
abbrev N__law_one : List Str := ["_law_state", "_law_things"]
theorem sc__law_one : FnScope N__law_one ["_law_state", "_law_things"] (defScope s__law_one) := ⟨rfl, rfl, rfl, by decide +kernel, rfl, by decide +kernel, by decide +kernel⟩
def spOne (K : PySem.W.Frag) : Sp := fun vs H Q _ => ∃ (a b : Addr) (xs : List V), vs = [.ref a, .ref b] ∧ Stt K H a ∧ H b = some (.lst xs) ∧ notSt (.lst xs) = true ∧ 0 < xs.length ∧ xs.length ≤ 1000 ∧ ∀ H' v, But a H H' → Stt K H' a → v ∈ xs → Q v H'
theorem ok_one {f : Addr} {fd : FuncData} (F : FnD K "_law_one" "_law_one" s__law_one f fd) (T : Bt mg) (c__law_take : C8.Cal P w K mg base 2 "_law_take" (spTake K) []) : FnOk P w K mg base CX0 3 f fd ["_law_state", "_law_things"] (spOne K) := by
  refine F.ok sc__law_one (fun vs H Q E h => ?_) (fun cdv A outer s H vs Q E hr h => ?_)
  · obtain ⟨a, b, xs, rfl, _⟩ := h
    rfl
  · obtain ⟨a, b, xs, rfl, hs, hb, hn, h0, h1, k⟩ := h
    refine ⟨_, PSs.nox (pss_one (ps_ret (pe_ix ix_list (pv 1) (C8.pe_c c__law_take hr (by decide) rfl (pa_cons (pv 0) (pa_cons (pe_callB call_len_seq rfl T.len (by decide +kernel) (pa_cons (pv 1) pa_nil)) pa_nil))) (fun _ _ => rfl)))), ?_⟩
    refine ⟨_, rfl, _, rfl, _, rfl, b, xs, rfl, .inl (SqL.of hb), a, _, rfl, hs, by omega, by omega, fun H1 d e1 hs1 hd0 hd1 => ?_⟩
    obtain ⟨v, hv, hat⟩ := atL (xs := xs) hd0 hd1 rfl
    exact ⟨b, xs, _, v, rfl, rfl, SqL.of (e1.get hs hb hn), hat, k _ _ e1 hs1 (List.mem_of_getElem? hv)⟩
end
end LW
set_option Elab.async false
set_option linter.all false
set_option maxRecDepth 100000
set_option maxHeartbeats 4000000
namespace LW
open PySem PySem.Spec PyProof.Rows L2 LV LM
/-! the class Exact -/
structure XC (K : PySem.W.Frag) (mg : Str → Option Value) (C : Addr) : Prop extends Bt mg where
  cl : Cls K C
  nO : NoAttr K C "over"
  nU : NoAttr K C "under"
  own : OwnC K C
  mgC : mg "Exact" = some (.ref C)
  ha : PySem.W.findIn K (.ref C) "__class__" = some (some (.builtin "object.__class__"))
  hn : PySem.W.specialIn K (.builtin "object.__class__") "__get__" = some (some (.builtin "getset_descriptor.__get__"))
  htk : PySem.W.takesIn K (.builtin "object.__class__") = some true
  hm : PySem.W.mroIn K C (.type "object") = some true
  kXI : PySem.W.kitOne K (.ref C) (.type "int") = some false
  kXB : PySem.W.kitOne K (.ref C) (.type "bool") = some false
  kXL : PySem.W.kitOne K (.ref C) (.type "list") = some false
  kXT : PySem.W.kitOne K (.ref C) (.type "tuple") = some false
  kIX : PySem.W.kitOne K (.type "int") (.ref C) = some false
  kLX : PySem.W.kitOne K (.type "list") (.ref C) = some false
  kTX : PySem.W.kitOne K (.type "tuple") (.ref C) = some false
  f_radd : ∃ g, PySem.W.findIn K (.ref C) "__radd__" = some (some (.ref g))
  f_rsub : ∃ g, PySem.W.findIn K (.ref C) "__rsub__" = some (some (.ref g))
  f_rmul : ∃ g, PySem.W.findIn K (.ref C) "__rmul__" = some (some (.ref g))
def exF (o u : Int) : List (Str × V) := [("over", .int o), ("under", .int u)]
/-- v is an Exact over o under u -/
def IsX (C : Addr) (H : Hp) (v : V) (o u : Int) : Prop := ∃ x dx, v = .ref x ∧ H x = some (.ins C dx (exF o u))
theorem IsX.same {C : Addr} {H H1 : Hp} {v : V} {o u : Int} (e : Same H H1) (h : IsX C H v o u) : IsX C H1 v o u := by
  obtain ⟨x, dx, rfl, h⟩ := h
  exact ⟨x, dx, rfl, e _ _ h⟩
theorem IsX.but {K : PySem.W.Frag} {a C : Addr} {H H1 : Hp} {v : V} {o u : Int} (e : But a H H1) (s : Stt K H a) (h : IsX C H v o u) : IsX C H1 v o u := by
  obtain ⟨x, dx, rfl, h⟩ := h
  exact ⟨x, dx, rfl, e.get s h rfl⟩
/-- v is a number: an int or an Exact -/
def IsN (C : Addr) (H : Hp) (v : V) (o u : Int) : Prop := (v = .int o ∧ u = 1) ∨ IsX C H v o u
theorem IsN.same {C : Addr} {H H1 : Hp} {v : V} {o u : Int} (e : Same H H1) (h : IsN C H v o u) : IsN C H1 v o u := h.imp id (IsX.same e)
theorem IsN.num {C : Addr} {H : Hp} {v : V} {o u : Int} (h : IsN C H v o u) : NumV C H v := by
  rcases h with ⟨rfl, _⟩ | ⟨x, dx, rfl, h⟩
  · exact .inl ⟨_, rfl⟩
  · exact .inr ⟨x, dx, _, rfl, h⟩
abbrev Big (i : Int) : Prop := i.natAbs < 2 ^ 4000
theorem big_ne {i : Int} (h : Big i) : i.natAbs.log2 < 9000 := Nat.lt_of_lt_of_le (PySem.Flt.log2_lt_of (by decide) h) (by decide)
theorem mulB {i j : Int} (h : Big i) (h' : Big j) : IntMulOk i j := (wide_mul h h' (by decide) (by decide) (by decide)).ok
theorem kII (K : PySem.W.Frag) : PySem.W.kitOne K (.type "int") (.type "int") = some true := rfl
theorem kIB (K : PySem.W.Frag) : PySem.W.kitOne K (.type "int") (.type "bool") = some false := by kernel_rfl
section
variable {P : Program} {w : World} {K : PySem.W.Frag} {mg : Str → Option Value} {base : Heap} {C : Addr}
/-! is_integer -/
def spInt (K : PySem.W.Frag) : Sp := fun vs H Q _ => ∃ (v : V) (t : Value) (b c : Bool), vs = [v] ∧ TyX K H v t ∧ PySem.W.kitOne K t (.type "int") = some b ∧ PySem.W.kitOne K t (.type "bool") = some c ∧ Q (.bl (b && !c)) H
abbrev s_is_integer : Stmt := top 5
abbrev N_is_integer : List Str := ["thing"]
theorem sc_is_integer : FnScope N_is_integer ["thing"] (defScope s_is_integer) := ⟨rfl, rfl, rfl, by decide +kernel, rfl, by decide +kernel, by decide +kernel⟩
-- slots: 0 thing
theorem ok_is_integer {f : Addr} {fd : FuncData} (F : FunD K "is_integer" "is_integer" (defArgs s_is_integer) (defBody s_is_integer) (defScope s_is_integer) [] [] f fd) (T : Bt mg) : FnOk P w K mg base CX0 1 f fd ["thing"] (spInt K) := by
  refine F.ok sc_is_integer (fun vs H Q E h => ?_) (fun cdv A outer s H vs Q E hr h => ?_)
  · obtain ⟨v, t, b, c, rfl, ht, hb, hc, k⟩ := h
    rfl
  · obtain ⟨v, t, b, c, rfl, ht, hb, hc, k⟩ := h
    refine ⟨_, PSs.nox (pss_one (ps_ret (pe_and (pe_callB call_isi rfl T.isinstance (by decide +kernel) (pa_cons (pv 0) (pa_cons (pe_bltn (v := .ty "int") rfl T.int (by decide +kernel) rfl) pa_nil))) (pe_one (pe_not (pe_callB call_isi rfl T.isinstance (by decide +kernel) (pa_cons (pv 0) (pa_cons (pe_bltn (v := .ty "bool") rfl T.bool (by decide +kernel) rfl) pa_nil)))))))), ?_⟩
    refine ⟨_, rfl, _, _, t, _, b, rfl, .ty "int", ht, hb, b, rfl, ?_⟩
    cases b with
    | false => exact k
    | true => exact ⟨_, rfl, _, _, t, _, c, rfl, .ty "bool", ht, hc, c, rfl, k⟩
theorem int_yes {H : Hp} {Q : VK} {E : XK} {i : Int} (q : Q (.bl true) H) : spInt K [.int i] H Q E := ⟨_, _, true, false, rfl, .base (.int i), kII K, kIB K, q⟩
/-! common -/
def spGcd : Sp := fun vs H Q _ => ∃ a b : Int, vs = [.int a, .int b] ∧ Q (.int (a.gcd b : Int)) H
abbrev s_common : Stmt := top 7
abbrev N_common : List Str := ["a", "b"]
theorem sc_common : FnScope N_common ["a", "b"] (defScope s_common) := ⟨rfl, rfl, rfl, by decide +kernel, rfl, by decide +kernel, by decide +kernel⟩
-- slots: 0 a, 1 b
theorem ok_common {f : Addr} {fd : FuncData} (F : FunD K "common" "common" (defArgs s_common) (defBody s_common) (defScope s_common) [] [] f fd) (T : Bt mg) : FnOk P w K mg base CX0 1 f fd ["a", "b"] spGcd := by
  refine F.ok sc_common (fun vs H Q E h => ?_) (fun cdv A outer s H vs Q E hr h => ?_)
  · obtain ⟨a, b, rfl, k⟩ := h
    rfl
  · obtain ⟨a, b, rfl, k⟩ := h
    refine ⟨_, PSs.nox (pss_cons (ps_while PassesOwn.never (pt_cmpR op_ne (pv 1) pe_int (nomark _)) (pss_one (ps_par (i := 0) (j := 1) rfl sc_common.nd rfl rfl (by decide) rfl rfl (pa_cons (pv 1) (pa_cons (pe_op op_modN (pv 0) (pv 1)) pa_nil)) rfl)))
      (pss_one (ps_ret (pe_ifExp (pt_cmpR op_gt (pv 0) pe_int (nomark _)) (pv 0) (pe_un un_neg (pv 0)))))), ?_⟩
    refine ⟨fun m σ H' => ∃ x y : Int, σ = [some (.int x), some (.int y)] ∧ H' = H ∧ m = y.natAbs ∧ x.gcd y = a.gcd b, ⟨_, a, b, rfl, rfl, rfl, rfl⟩, ?_⟩
    rintro m σ H' ⟨x, y, rfl, rfl, rfl, hg⟩
    refine ⟨_, rfl, rfl, _, rfl, ?_⟩
    by_cases hy : y = 0
    · subst hy
      refine iteF ?_
      rw [Int.gcd_zero_right] at hg
      refine ⟨_, rfl, _, _, rfl, rfl, _, rfl, ?_⟩
      refine ite2 (fun hc => ?_) (fun hc => ?_)
      · have h0 : 0 < x := of_decide_eq_true hc
        refine ⟨_, rfl, ?_⟩
        have e : x = (a.gcd b : Int) := by omega
        rw [e]
        exact k
      · have h0 : ¬ 0 < x := fun z => hc (decide_eq_true z)
        refine ⟨_, rfl, _, rfl, ?_⟩
        have e : -x = (a.gcd b : Int) := by omega
        show Q (.int (-x)) _
        rw [e]
        exact k
    · have e : (!decide (V.int y = V.int 0)) = true := by simp [hy]
      rw [e]
      refine iteT ⟨fun σ' H'' => σ' = [some (.int y), some (.int (x.fmod y))] ∧ H'' = H', fun σ' H'' ⟨h1, h2⟩ => ⟨_, fmod_lt x y hy, y, _, h1, h2, rfl, (gcd_step x y).trans hg⟩, ?_⟩
      exact ⟨_, rfl, _, rfl, _, rfl, _, _, rfl, rfl, hy, _, _, rfl, rfl, rfl⟩
/-! Exact(over, under) -/
def spInit (C : Addr) : Sp := fun vs H Q _ => ∃ (p dx : Addr) (o u : Int), vs = [.ref p, .int o, .int u] ∧ H p = some (.ins C dx []) ∧ u ≠ 0 ∧ Big u ∧ ∀ H', But p H H' → H' p = some (.ins C dx (exF (rO o u) (rD o u))) → Q .non H'
abbrev s_Exact___init__ : Stmt := inClass (top 8) 0
abbrev N_Exact___init__ : List Str := ["self", "over", "under", "part", "whole"]
theorem sc_Exact___init__ : FnScope N_Exact___init__ ["self", "over", "under"] (defScope s_Exact___init__) := ⟨rfl, rfl, rfl, by decide +kernel, rfl, by decide +kernel, by decide +kernel⟩
-- slots: 0 self, 1 over, 2 under, 3 part, 4 whole
theorem ok_Exact___init__ {f : Addr} {fd : FuncData} (F : FunD K "__init__" "Exact.__init__" (defArgs s_Exact___init__) (defBody s_Exact___init__) (defScope s_Exact___init__) [.int 1] [] f fd) (T : XC K mg C) (c_is_integer : C8.Cal P w K mg base 1 "is_integer" (spInt K) []) (c_common : C8.Cal P w K mg base 1 "common" spGcd []) : FnOk P w K mg base CX0 2 f fd ["self", "over", "under"] (spInit C) := by
  refine F.ok sc_Exact___init__ (fun vs H Q E h => ?_) (fun cdv A outer s H vs Q E hr h => ?_)
  · obtain ⟨p, dx, o, u, rfl, hp, hu, hub, k⟩ := h
    rfl
  · obtain ⟨p, dx, o, u, rfl, hp, hu, hub, k⟩ := h
    refine ⟨_, PSs.nox (pss_cons (ps_for PassesOwn.never rfl (pi_tup (pe_tup (pa_cons (pv 1) (pa_cons (pv 2) pa_nil)))) (pg_name (i := 3) sc_Exact___init__.nd rfl (Or.inl rfl)) (pss_one (ps_if (pt_not (pt_val (C8.pe_c c_is_integer hr (by decide) rfl (pa_cons (pv 3) pa_nil)))) (pss_one ps_never) pss_nil)))
      (pss_cons (ps_if (pt_cmpR op_eq (pv 2) pe_int (nomark _)) (pss_one ps_never) pss_nil)
      (pss_cons (ps_set (i := 4) sc_Exact___init__.nd rfl (Or.inl rfl) (C8.pe_c c_common hr (by decide) rfl (pa_cons (pv 1) (pa_cons (pv 2) pa_nil))))
      (Evl.pss_cut (ps_if (pt_cmpR op_lt (pv 2) pe_int (nomark _)) (pss_one (ps_set (i := 4) sc_Exact___init__.nd rfl (Or.inl rfl) (pe_un un_neg (pv 4)))) pss_nil)
      (pss_cons (ps_fld (pv 0) (pe_op op_fdivG (pv 1) (pv 4)) rfl)
      (pss_one (ps_fld (pv 0) (pe_op op_fdivG (pv 2) (pv 4)) rfl))))))), ?_⟩
    refine ⟨_, rfl, _, rfl, by show 2 ≤ sizeLine; decide, fun t n1 => ?_⟩
    generalize q1 : upd H t _ = H1
    have h1 := nAt q1
    have e1 := nSm q1 n1
    refine ⟨t, rfl, ⟨_, SqT.of h1⟩, ?_⟩
    refine for_it (walk_tup (xs := [.int o, .int u])) (fun i σ H2 => ∃ x, σ = [some (.ref p), some (.int o), some (.int u), x, none] ∧ H2 = H1) ⟨_, rfl, rfl⟩ (fun i σ H2 _ ⟨_, _, e⟩ => by rw [e]; exact SqT.of h1) ?_ ?_
    · rintro i x σ H2 H3 hi ⟨x3, rfl, rfl⟩ ⟨rfl, hx⟩
      obtain ⟨z, rfl⟩ : ∃ z, x = .int z := by
        rcases i with _ | _ | i
        · exact ⟨_, (Option.some.inj hx).symm⟩
        · exact ⟨_, (Option.some.inj hx).symm⟩
        · exact absurd hi (by simp)
      exact ⟨_, rfl, _, _, true, false, rfl, .base (.int z), kII K, kIB K, _, rfl, iteF ⟨_, rfl, rfl⟩⟩
    rintro σ H2 ⟨x3, rfl, rfl⟩
    refine ⟨_, rfl, rfl, _, rfl, ?_⟩
    have e0 : decide (V.int u = V.int 0) = false := by simp [hu]
    rw [e0]
    refine iteF ⟨_, rfl, _, rfl, o, u, rfl, ?_⟩
    refine ⟨fun σ H3 => σ = [some (.ref p), some (.int o), some (.int u), x3, some (.int (rwh o u))] ∧ H3 = H2, ?_, ?_⟩
    · refine ⟨_, rfl, _, _, rfl, rfl, _, rfl, ?_⟩
      refine ite2 (fun hc => ?_) (fun hc => ?_)
      · have h0 : u < 0 := of_decide_eq_true hc
        refine ⟨_, rfl, _, rfl, ?_, rfl⟩
        have e : rwh o u = -(o.gcd u : Int) := by unfold rwh; rw [if_pos h0]
        rw [e]
        rfl
      · have h0 : ¬ u < 0 := fun z => hc (decide_eq_true z)
        refine ⟨?_, rfl⟩
        have e : rwh o u = (o.gcd u : Int) := by unfold rwh; rw [if_neg h0]
        rw [e]
        rfl
    rintro σ H3 ⟨rfl, rfl⟩
    have hw : rwh o u ≠ 0 ∧ (rwh o u).natAbs.log2 < 9000 := ⟨rwh_ne hu, big_ne (Nat.lt_of_le_of_lt (abs_rwh hu) hub)⟩
    have hp1 := e1 _ _ hp
    refine ⟨_, rfl, _, rfl, _, _, rfl, rfl, hw, _, rfl, p, C, dx, _, rfl, hp1, T.cl, T.nO, (by show 0 < 1000; decide), ?_⟩
    refine ⟨_, rfl, _, rfl, _, _, rfl, rfl, hw, _, rfl, p, C, dx, _, rfl, upd_same, T.cl, T.nU, (by show 1 < 1000; decide), ?_⟩
    refine k _ ((Same.but e1).trans (((But.refl p _).upd).upd)) ?_
    rw [upd_same]
    rfl
/-- what Exact(o, u) makes -/
theorem mkX {H : Hp} {o u : Int} {Q : VK} {E : XK} (hu : u ≠ 0) (hub : Big u) (k : ∀ v H', Same H H' → IsX C H' v (rO o u) (rD o u) → Q v H') :
    ∀ x dx : Addr, H x = none → H dx = none → dx ≠ x → spInit C [.ref x, .int o, .int u] (upd (upd H dx (.own x)) x (.ins C dx [])) (fun v H2 => v = .non ∧ Q (.ref x) H2) E := by
  intro x dx nx nd ne
  refine ⟨x, dx, o, u, rfl, upd_same, hu, hub, fun H' e h => ⟨rfl, k _ _ (fun b ob hb => ?_) ⟨x, dx, rfl, h⟩⟩⟩
  have n1 := ne_of_none hb nx
  refine e b ob n1 ?_
  rw [upd_ne n1, upd_ne (ne_of_none hb nd)]
  exact hb
/-! part_of -/
def spPart (C : Addr) : Sp := fun vs H Q _ => ∃ (v : V) (o u : Int), vs = [v] ∧ IsN C H v o u ∧ ∀ v' H', Same H H' → IsX C H' v' o u → Q v' H'
theorem tyX {H : Hp} {x dx : Addr} {fs : List (Str × V)} (T : XC K mg C) (h : H x = some (.ins C dx fs)) : TyX K H (.ref x) (.ref C) := .base (.ins h T.cl T.ha T.hn T.htk T.hm)
theorem kXX (K : PySem.W.Frag) (C : Addr) : PySem.W.kitOne K (.ref C) (.ref C) = some true := by
  unfold PySem.W.kitOne
  rw [if_pos (by simp)]
abbrev s_part_of : Stmt := top 9
abbrev N_part_of : List Str := ["other"]
theorem sc_part_of : FnScope N_part_of ["other"] (defScope s_part_of) := ⟨rfl, rfl, rfl, by decide +kernel, rfl, by decide +kernel, by decide +kernel⟩
-- slots: 0 other
theorem ok_part_of {f : Addr} {fd : FuncData} (F : FunD K "part_of" "part_of" (defArgs s_part_of) (defBody s_part_of) (defScope s_part_of) [] [] f fd) (T : XC K mg C) (c_is_integer : C8.Cal P w K mg base 1 "is_integer" (spInt K) []) (c_Exact : C8.Mak P w K mg base 2 "Exact" C (spInit C) [.int 1]) : FnOk P w K mg base CX0 4 f fd ["other"] (spPart C) := by
  refine F.ok sc_part_of (fun vs H Q E h => ?_) (fun cdv A outer s H vs Q E hr h => ?_)
  · obtain ⟨v, o, u, rfl, hv, k⟩ := h
    rfl
  · obtain ⟨v, o, u, rfl, hv, k⟩ := h
    refine ⟨_, PSs.nox (pss_cons (ps_if (pt_val (pe_callB call_isi rfl T.isinstance (by decide +kernel) (pa_cons (pv 0) (pa_cons (pe_glob (v := .ref C) rfl T.mgC rfl) pa_nil)))) (pss_one (ps_ret (pv 0))) pss_nil)
      (pss_cons (ps_if (pt_not (pt_val (C8.pe_c c_is_integer hr (by decide) rfl (pa_cons (pv 0) pa_nil)))) (pss_one ps_never) pss_nil)
      (pss_one (ps_ret (C8.pe_mk c_Exact hr (by decide) rfl (pa_cons (pv 0) pa_nil)))))), ?_⟩
    rcases hv with ⟨rfl, rfl⟩ | ⟨x, dx, rfl, hx⟩
    · refine ⟨_, rfl, _, _, _, _, _, rfl, .own C, .base (.int o), T.kIX, false, rfl, iteF ?_⟩
      refine ⟨_, rfl, _, _, true, false, rfl, .base (.int o), kII K, kIB K, _, rfl, iteF ?_⟩
      refine ⟨_, rfl, fun x dx nx nd ne => mkX (by decide) (by decide) (fun v' H' e hx => k v' H' e ?_) x dx nx nd ne⟩
      obtain ⟨e1, e2⟩ := red_self (red_one o)
      rw [e1, e2] at hx
      exact hx
    · exact ⟨_, rfl, _, _, _, _, _, rfl, .own C, tyX T hx, kXX K C, true, rfl, iteT ⟨_, rfl, k _ _ (Same.refl H) ⟨x, dx, rfl, hx⟩⟩⟩
end
end LW
set_option Elab.async false
set_option linter.all false
set_option maxRecDepth 100000
set_option maxHeartbeats 4000000
namespace LW
open PySem PySem.Spec PyProof.Rows L2 LV LM
abbrev Sm (i : Int) : Prop := i.natAbs < 2 ^ 1000
theorem Sm.big {i : Int} (h : Sm i) : Big i := Nat.lt_of_lt_of_le h (Nat.pow_le_pow_right (by decide) (by decide))
theorem smul {i j : Int} (h : Sm i) (h' : Sm j) : IntMulOk i j := mulB h.big h'.big
theorem big_mul {i j : Int} (h : Sm i) (h' : Sm j) : Big (i * j) := by
  have q := wide_lt h h'
  exact Nat.lt_of_lt_of_le q (Nat.pow_le_pow_right (by decide) (by decide))
def spBin (C : Addr) (f g : Int → Int → Int → Int → Int) : Sp := fun vs H Q _ => ∃ (x y : V) (o u p q : Int), vs = [x, y] ∧ IsX C H x o u ∧ IsN C H y p q ∧ Sm o ∧ Sm u ∧ Sm p ∧ Sm q ∧ u ≠ 0 ∧ q ≠ 0 ∧
  ∀ v H', Same H H' → IsX C H' v (rO (f o u p q) (g o u p q)) (rD (f o u p q) (g o u p q)) → Q v H'
abbrev spAdd (C : Addr) : Sp := spBin C (fun o u p q => o * q + p * u) (fun _ u _ q => u * q)
abbrev spSub (C : Addr) : Sp := spBin C (fun o u p q => o * q - p * u) (fun _ u _ q => u * q)
abbrev spMul (C : Addr) : Sp := spBin C (fun o _ p _ => o * p) (fun _ u _ q => u * q)
abbrev spRadd (C : Addr) : Sp := spBin C (fun o u p q => p * u + o * q) (fun _ u _ q => q * u)
abbrev spRsub (C : Addr) : Sp := spBin C (fun o u p q => p * u - o * q) (fun _ u _ q => q * u)
abbrev spRmul (C : Addr) : Sp := spBin C (fun o _ p _ => p * o) (fun _ u _ q => q * u)
section
variable {P : Program} {w : World} {K : PySem.W.Frag} {mg : Str → Option Value} {base : Heap} {C : Addr}
abbrev s_Exact___add__ : Stmt := inClass (top 8) 1
abbrev N_Exact___add__ : List Str := ["self", "other", "b"]
theorem sc_Exact___add__ : FnScope N_Exact___add__ ["self", "other"] (defScope s_Exact___add__) := ⟨rfl, rfl, rfl, by decide +kernel, rfl, by decide +kernel, by decide +kernel⟩
-- slots: 0 self, 1 other, 2 b
theorem ok_Exact___add__ {f : Addr} {fd : FuncData} (F : FunD K "__add__" "Exact.__add__" (defArgs s_Exact___add__) (defBody s_Exact___add__) (defScope s_Exact___add__) [] [] f fd) (T : XC K mg C) (c_part_of : C8.Cal P w K mg base 4 "part_of" (spPart C) []) (c_Exact : C8.Mak P w K mg base 2 "Exact" C (spInit C) []) : FnOk P w K mg base CX0 5 f fd ["self", "other"] (spAdd C) := by
  refine F.ok sc_Exact___add__ (fun vs H Q E h => ?_) (fun cdv A outer s H vs Q E hr h => ?_)
  · obtain ⟨x, y, o, u, p, q, rfl, hx, hy, so, su, sp, sq, hu, hq, k⟩ := h
    rfl
  · obtain ⟨x, y, o, u, p, q, rfl, hx, hy, so, su, sp, sq, hu, hq, k⟩ := h
    refine ⟨_, PSs.nox (pss_cons (ps_set (i := 2) sc_Exact___add__.nd rfl (Or.inl rfl) (C8.pe_c c_part_of hr (by decide) rfl (pa_cons (pv 1) pa_nil)))
      (pss_one (ps_ret (C8.pe_mk c_Exact hr (by decide) rfl (pa_cons (pe_op op_add (pe_op op_mulG (pe_fld (pv 0) rfl) (pe_fld (pv 2) rfl)) (pe_op op_mulG (pe_fld (pv 2) rfl) (pe_fld (pv 0) rfl))) (pa_cons (pe_op op_mulG (pe_fld (pv 0) rfl) (pe_fld (pv 2) rfl)) pa_nil)))))), ?_⟩
    refine ⟨_, rfl, y, p, q, rfl, hy, fun b H1 e1 hb => ?_⟩
    obtain ⟨xa, xd, rfl, hx1⟩ := hx.same e1
    obtain ⟨ba, bd, rfl, hb⟩ := hb
    refine ⟨_, rfl, xa, C, xd, _, _, rfl, hx1, T.cl, T.nO, rfl, _, rfl, ba, C, bd, _, _, rfl, hb, T.cl, T.nU, rfl, _, _, rfl, rfl, smul so sq, _, rfl, ba, C, bd, _, _, rfl, hb, T.cl, T.nO, rfl, _, rfl, xa, C, xd, _, _, rfl, hx1, T.cl, T.nU, rfl, _, _, rfl, rfl, smul sp su, _, _, rfl, rfl, _, rfl, xa, C, xd, _, _, rfl, hx1, T.cl, T.nU, rfl, _, rfl, ba, C, bd, _, _, rfl, hb, T.cl, T.nU, rfl, _, _, rfl, rfl, smul su sq, fun n dn nx nd ne => mkX (Int.mul_ne_zero hu hq) (big_mul su sq) (fun v H' e hv => k v H' (e1.trans e) hv) n dn nx nd ne⟩
abbrev s_Exact___sub__ : Stmt := inClass (top 8) 3
abbrev N_Exact___sub__ : List Str := ["self", "other", "b"]
theorem sc_Exact___sub__ : FnScope N_Exact___sub__ ["self", "other"] (defScope s_Exact___sub__) := ⟨rfl, rfl, rfl, by decide +kernel, rfl, by decide +kernel, by decide +kernel⟩
-- slots: 0 self, 1 other, 2 b
theorem ok_Exact___sub__ {f : Addr} {fd : FuncData} (F : FunD K "__sub__" "Exact.__sub__" (defArgs s_Exact___sub__) (defBody s_Exact___sub__) (defScope s_Exact___sub__) [] [] f fd) (T : XC K mg C) (c_part_of : C8.Cal P w K mg base 4 "part_of" (spPart C) []) (c_Exact : C8.Mak P w K mg base 2 "Exact" C (spInit C) []) : FnOk P w K mg base CX0 5 f fd ["self", "other"] (spSub C) := by
  refine F.ok sc_Exact___sub__ (fun vs H Q E h => ?_) (fun cdv A outer s H vs Q E hr h => ?_)
  · obtain ⟨x, y, o, u, p, q, rfl, hx, hy, so, su, sp, sq, hu, hq, k⟩ := h
    rfl
  · obtain ⟨x, y, o, u, p, q, rfl, hx, hy, so, su, sp, sq, hu, hq, k⟩ := h
    refine ⟨_, PSs.nox (pss_cons (ps_set (i := 2) sc_Exact___sub__.nd rfl (Or.inl rfl) (C8.pe_c c_part_of hr (by decide) rfl (pa_cons (pv 1) pa_nil)))
      (pss_one (ps_ret (C8.pe_mk c_Exact hr (by decide) rfl (pa_cons (pe_op op_sub (pe_op op_mulG (pe_fld (pv 0) rfl) (pe_fld (pv 2) rfl)) (pe_op op_mulG (pe_fld (pv 2) rfl) (pe_fld (pv 0) rfl))) (pa_cons (pe_op op_mulG (pe_fld (pv 0) rfl) (pe_fld (pv 2) rfl)) pa_nil)))))), ?_⟩
    refine ⟨_, rfl, y, p, q, rfl, hy, fun b H1 e1 hb => ?_⟩
    obtain ⟨xa, xd, rfl, hx1⟩ := hx.same e1
    obtain ⟨ba, bd, rfl, hb⟩ := hb
    refine ⟨_, rfl, xa, C, xd, _, _, rfl, hx1, T.cl, T.nO, rfl, _, rfl, ba, C, bd, _, _, rfl, hb, T.cl, T.nU, rfl, _, _, rfl, rfl, smul so sq, _, rfl, ba, C, bd, _, _, rfl, hb, T.cl, T.nO, rfl, _, rfl, xa, C, xd, _, _, rfl, hx1, T.cl, T.nU, rfl, _, _, rfl, rfl, smul sp su, _, _, rfl, rfl, _, rfl, xa, C, xd, _, _, rfl, hx1, T.cl, T.nU, rfl, _, rfl, ba, C, bd, _, _, rfl, hb, T.cl, T.nU, rfl, _, _, rfl, rfl, smul su sq, fun n dn nx nd ne => mkX (Int.mul_ne_zero hu hq) (big_mul su sq) (fun v H' e hv => k v H' (e1.trans e) hv) n dn nx nd ne⟩
abbrev s_Exact___mul__ : Stmt := inClass (top 8) 5
abbrev N_Exact___mul__ : List Str := ["self", "other", "b"]
theorem sc_Exact___mul__ : FnScope N_Exact___mul__ ["self", "other"] (defScope s_Exact___mul__) := ⟨rfl, rfl, rfl, by decide +kernel, rfl, by decide +kernel, by decide +kernel⟩
-- slots: 0 self, 1 other, 2 b
theorem ok_Exact___mul__ {f : Addr} {fd : FuncData} (F : FunD K "__mul__" "Exact.__mul__" (defArgs s_Exact___mul__) (defBody s_Exact___mul__) (defScope s_Exact___mul__) [] [] f fd) (T : XC K mg C) (c_part_of : C8.Cal P w K mg base 4 "part_of" (spPart C) []) (c_Exact : C8.Mak P w K mg base 2 "Exact" C (spInit C) []) : FnOk P w K mg base CX0 5 f fd ["self", "other"] (spMul C) := by
  refine F.ok sc_Exact___mul__ (fun vs H Q E h => ?_) (fun cdv A outer s H vs Q E hr h => ?_)
  · obtain ⟨x, y, o, u, p, q, rfl, hx, hy, so, su, sp, sq, hu, hq, k⟩ := h
    rfl
  · obtain ⟨x, y, o, u, p, q, rfl, hx, hy, so, su, sp, sq, hu, hq, k⟩ := h
    refine ⟨_, PSs.nox (pss_cons (ps_set (i := 2) sc_Exact___mul__.nd rfl (Or.inl rfl) (C8.pe_c c_part_of hr (by decide) rfl (pa_cons (pv 1) pa_nil)))
      (pss_one (ps_ret (C8.pe_mk c_Exact hr (by decide) rfl (pa_cons (pe_op op_mulG (pe_fld (pv 0) rfl) (pe_fld (pv 2) rfl)) (pa_cons (pe_op op_mulG (pe_fld (pv 0) rfl) (pe_fld (pv 2) rfl)) pa_nil)))))), ?_⟩
    refine ⟨_, rfl, y, p, q, rfl, hy, fun b H1 e1 hb => ?_⟩
    obtain ⟨xa, xd, rfl, hx1⟩ := hx.same e1
    obtain ⟨ba, bd, rfl, hb⟩ := hb
    refine ⟨_, rfl, xa, C, xd, _, _, rfl, hx1, T.cl, T.nO, rfl, _, rfl, ba, C, bd, _, _, rfl, hb, T.cl, T.nO, rfl, _, _, rfl, rfl, smul so sp, _, rfl, xa, C, xd, _, _, rfl, hx1, T.cl, T.nU, rfl, _, rfl, ba, C, bd, _, _, rfl, hb, T.cl, T.nU, rfl, _, _, rfl, rfl, smul su sq, fun n dn nx nd ne => mkX (Int.mul_ne_zero hu hq) (big_mul su sq) (fun v H' e hv => k v H' (e1.trans e) hv) n dn nx nd ne⟩
abbrev s_Exact___radd__ : Stmt := inClass (top 8) 2
abbrev N_Exact___radd__ : List Str := ["self", "other"]
theorem sc_Exact___radd__ : FnScope N_Exact___radd__ ["self", "other"] (defScope s_Exact___radd__) := ⟨rfl, rfl, rfl, by decide +kernel, rfl, by decide +kernel, by decide +kernel⟩
-- slots: 0 self, 1 other
theorem ok_Exact___radd__ {f : Addr} {fd : FuncData} (F : FunD K "__radd__" "Exact.__radd__" (defArgs s_Exact___radd__) (defBody s_Exact___radd__) (defScope s_Exact___radd__) [] [] f fd) (T : XC K mg C) (c_part_of : C8.Cal P w K mg base 4 "part_of" (spPart C) []) (m__add__ : ∀ X : Cx, X.prog = P → X.w = w → X.K = K → X.mg = mg → X.base = base → OwnM X 5 C "__add__" (spAdd C)) : FnOk P w K mg base CX0 6 f fd ["self", "other"] (spRadd C) := by
  refine F.ok sc_Exact___radd__ (fun vs H Q E h => ?_) (fun cdv A outer s H vs Q E hr h => ?_)
  · obtain ⟨x, y, o, u, p, q, rfl, hx, hy, so, su, sp, sq, hu, hq, k⟩ := h
    rfl
  · obtain ⟨x, y, o, u, p, q, rfl, hx, hy, so, su, sp, sq, hu, hq, k⟩ := h
    refine ⟨_, PSs.nox (pss_one (ps_ret (pe_op (op_addL (m__add__ _ rfl rfl rfl rfl rfl) T.f_radd.choose_spec T.own (hr.mono (by decide))) (C8.pe_c c_part_of hr (by decide) rfl (pa_cons (pv 1) pa_nil)) (pv 0)))), ?_⟩
    refine ⟨_, rfl, y, p, q, rfl, hy, fun b H1 e1 hb => ?_⟩
    obtain ⟨ba, bd, rfl, hb⟩ := hb
    exact ⟨_, rfl, ba, bd, _, rfl, hb, (IsN.num (.inr (hx.same e1))), _, _, p, q, o, u, rfl, ⟨ba, bd, rfl, hb⟩, .inr (hx.same e1), sp, sq, so, su, hq, hu, fun v H' e hv => k v H' (e1.trans e) hv⟩
abbrev s_Exact___rsub__ : Stmt := inClass (top 8) 4
abbrev N_Exact___rsub__ : List Str := ["self", "other"]
theorem sc_Exact___rsub__ : FnScope N_Exact___rsub__ ["self", "other"] (defScope s_Exact___rsub__) := ⟨rfl, rfl, rfl, by decide +kernel, rfl, by decide +kernel, by decide +kernel⟩
-- slots: 0 self, 1 other
theorem ok_Exact___rsub__ {f : Addr} {fd : FuncData} (F : FunD K "__rsub__" "Exact.__rsub__" (defArgs s_Exact___rsub__) (defBody s_Exact___rsub__) (defScope s_Exact___rsub__) [] [] f fd) (T : XC K mg C) (c_part_of : C8.Cal P w K mg base 4 "part_of" (spPart C) []) (m__sub__ : ∀ X : Cx, X.prog = P → X.w = w → X.K = K → X.mg = mg → X.base = base → OwnM X 5 C "__sub__" (spSub C)) : FnOk P w K mg base CX0 6 f fd ["self", "other"] (spRsub C) := by
  refine F.ok sc_Exact___rsub__ (fun vs H Q E h => ?_) (fun cdv A outer s H vs Q E hr h => ?_)
  · obtain ⟨x, y, o, u, p, q, rfl, hx, hy, so, su, sp, sq, hu, hq, k⟩ := h
    rfl
  · obtain ⟨x, y, o, u, p, q, rfl, hx, hy, so, su, sp, sq, hu, hq, k⟩ := h
    refine ⟨_, PSs.nox (pss_one (ps_ret (pe_op (op_subL (m__sub__ _ rfl rfl rfl rfl rfl) T.f_rsub.choose_spec T.own (hr.mono (by decide))) (C8.pe_c c_part_of hr (by decide) rfl (pa_cons (pv 1) pa_nil)) (pv 0)))), ?_⟩
    refine ⟨_, rfl, y, p, q, rfl, hy, fun b H1 e1 hb => ?_⟩
    obtain ⟨ba, bd, rfl, hb⟩ := hb
    exact ⟨_, rfl, ba, bd, _, rfl, hb, (IsN.num (.inr (hx.same e1))), _, _, p, q, o, u, rfl, ⟨ba, bd, rfl, hb⟩, .inr (hx.same e1), sp, sq, so, su, hq, hu, fun v H' e hv => k v H' (e1.trans e) hv⟩
abbrev s_Exact___rmul__ : Stmt := inClass (top 8) 6
abbrev N_Exact___rmul__ : List Str := ["self", "other"]
theorem sc_Exact___rmul__ : FnScope N_Exact___rmul__ ["self", "other"] (defScope s_Exact___rmul__) := ⟨rfl, rfl, rfl, by decide +kernel, rfl, by decide +kernel, by decide +kernel⟩
-- slots: 0 self, 1 other
theorem ok_Exact___rmul__ {f : Addr} {fd : FuncData} (F : FunD K "__rmul__" "Exact.__rmul__" (defArgs s_Exact___rmul__) (defBody s_Exact___rmul__) (defScope s_Exact___rmul__) [] [] f fd) (T : XC K mg C) (c_part_of : C8.Cal P w K mg base 4 "part_of" (spPart C) []) (m__mul__ : ∀ X : Cx, X.prog = P → X.w = w → X.K = K → X.mg = mg → X.base = base → OwnM X 5 C "__mul__" (spMul C)) : FnOk P w K mg base CX0 6 f fd ["self", "other"] (spRmul C) := by
  refine F.ok sc_Exact___rmul__ (fun vs H Q E h => ?_) (fun cdv A outer s H vs Q E hr h => ?_)
  · obtain ⟨x, y, o, u, p, q, rfl, hx, hy, so, su, sp, sq, hu, hq, k⟩ := h
    rfl
  · obtain ⟨x, y, o, u, p, q, rfl, hx, hy, so, su, sp, sq, hu, hq, k⟩ := h
    refine ⟨_, PSs.nox (pss_one (ps_ret (pe_op (op_mulL (m__mul__ _ rfl rfl rfl rfl rfl) T.f_rmul.choose_spec T.own (hr.mono (by decide))) (C8.pe_c c_part_of hr (by decide) rfl (pa_cons (pv 1) pa_nil)) (pv 0)))), ?_⟩
    refine ⟨_, rfl, y, p, q, rfl, hy, fun b H1 e1 hb => ?_⟩
    obtain ⟨ba, bd, rfl, hb⟩ := hb
    exact ⟨_, rfl, ba, bd, _, rfl, hb, (IsN.num (.inr (hx.same e1))), _, _, p, q, o, u, rfl, ⟨ba, bd, rfl, hb⟩, .inr (hx.same e1), sp, sq, so, su, hq, hu, fun v H' e hv => k v H' (e1.trans e) hv⟩
/-- a.by(b), b not nought -/
def spBy (C : Addr) : Sp := fun vs H Q _ => ∃ (x y : V) (o u p q : Int), vs = [x, y] ∧ IsX C H x o u ∧ IsN C H y p q ∧ Sm o ∧ Sm u ∧ Sm p ∧ Sm q ∧ u ≠ 0 ∧ p ≠ 0 ∧
  ∀ v H', Same H H' → IsX C H' v (rO (o * q) (u * p)) (rD (o * q) (u * p)) → Q v H'
abbrev s_Exact_by : Stmt := inClass (top 8) 7
abbrev N_Exact_by : List Str := ["self", "other", "b"]
theorem sc_Exact_by : FnScope N_Exact_by ["self", "other"] (defScope s_Exact_by) := ⟨rfl, rfl, rfl, by decide +kernel, rfl, by decide +kernel, by decide +kernel⟩
-- slots: 0 self, 1 other, 2 b
theorem ok_Exact_by {f : Addr} {fd : FuncData} (F : FunD K "by" "Exact.by" (defArgs s_Exact_by) (defBody s_Exact_by) (defScope s_Exact_by) [] [] f fd) (T : XC K mg C) (c_part_of : C8.Cal P w K mg base 4 "part_of" (spPart C) []) (c_Exact : C8.Mak P w K mg base 2 "Exact" C (spInit C) []) : FnOk P w K mg base CX0 5 f fd ["self", "other"] (spBy C) := by
  refine F.ok sc_Exact_by (fun vs H Q E h => ?_) (fun cdv A outer s H vs Q E hr h => ?_)
  · obtain ⟨x, y, o, u, p, q, rfl, hx, hy, so, su, sp, sq, hu, hp, k⟩ := h
    rfl
  · obtain ⟨x, y, o, u, p, q, rfl, hx, hy, so, su, sp, sq, hu, hp, k⟩ := h
    refine ⟨_, PSs.nox (pss_cons (ps_set (i := 2) sc_Exact_by.nd rfl (Or.inl rfl) (C8.pe_c c_part_of hr (by decide) rfl (pa_cons (pv 1) pa_nil)))
      (pss_cons (ps_if (pt_cmpR op_eq (pe_fld (pv 2) rfl) pe_int (nomark _)) (pss_one ps_never) pss_nil)
      (pss_one (ps_ret (C8.pe_mk c_Exact hr (by decide) rfl (pa_cons (pe_op op_mulG (pe_fld (pv 0) rfl) (pe_fld (pv 2) rfl)) (pa_cons (pe_op op_mulG (pe_fld (pv 0) rfl) (pe_fld (pv 2) rfl)) pa_nil))))))), ?_⟩
    refine ⟨_, rfl, y, p, q, rfl, hy, fun b H1 e1 hb => ?_⟩
    obtain ⟨xa, xd, rfl, hx1⟩ := hx.same e1
    obtain ⟨ba, bd, rfl, hb⟩ := hb
    have e0 : decide (V.int p = V.int 0) = false := by simp [hp]
    refine ⟨_, rfl, ba, C, bd, _, _, rfl, hb, T.cl, T.nO, rfl, rfl, _, rfl, ?_⟩
    rw [e0]
    refine iteF ⟨_, rfl, xa, C, xd, _, _, rfl, hx1, T.cl, T.nO, rfl, _, rfl, ba, C, bd, _, _, rfl, hb, T.cl, T.nU, rfl, _, _, rfl, rfl, smul so sq, _, rfl, xa, C, xd, _, _, rfl, hx1, T.cl, T.nU, rfl, _, rfl, ba, C, bd, _, _, rfl, hb, T.cl, T.nO, rfl, _, _, rfl, rfl, smul su sp, fun n dn nx nd ne => mkX (Int.mul_ne_zero hu hp) (big_mul su sp) (fun v H' e hv => k v H' (e1.trans e) hv) n dn nx nd ne⟩
def spNeg (C : Addr) : Sp := fun vs H Q _ => ∃ (x : V) (o u : Int), vs = [x] ∧ IsX C H x o u ∧ Sm u ∧ u ≠ 0 ∧ ∀ v H', Same H H' → IsX C H' v (rO (-o) u) (rD (-o) u) → Q v H'
abbrev s_Exact___neg__ : Stmt := inClass (top 8) 8
abbrev N_Exact___neg__ : List Str := ["self"]
theorem sc_Exact___neg__ : FnScope N_Exact___neg__ ["self"] (defScope s_Exact___neg__) := ⟨rfl, rfl, rfl, by decide +kernel, rfl, by decide +kernel, by decide +kernel⟩
-- slots: 0 self
theorem ok_Exact___neg__ {f : Addr} {fd : FuncData} (F : FunD K "__neg__" "Exact.__neg__" (defArgs s_Exact___neg__) (defBody s_Exact___neg__) (defScope s_Exact___neg__) [] [] f fd) (T : XC K mg C) (c_Exact : C8.Mak P w K mg base 2 "Exact" C (spInit C) []) : FnOk P w K mg base CX0 5 f fd ["self"] (spNeg C) := by
  refine F.ok sc_Exact___neg__ (fun vs H Q E h => ?_) (fun cdv A outer s H vs Q E hr h => ?_)
  · obtain ⟨x, o, u, rfl, hx, su, hu, k⟩ := h
    rfl
  · obtain ⟨x, o, u, rfl, hx, su, hu, k⟩ := h
    refine ⟨_, PSs.nox (pss_one (ps_ret (C8.pe_mk c_Exact hr (by decide) rfl (pa_cons (pe_un un_neg (pe_fld (pv 0) rfl)) (pa_cons (pe_fld (pv 0) rfl) pa_nil))))), ?_⟩
    obtain ⟨xa, xd, rfl, hx1⟩ := hx
    exact ⟨_, rfl, xa, C, xd, _, _, rfl, hx1, T.cl, T.nO, rfl, _, rfl, _, rfl, xa, C, xd, _, _, rfl, hx1, T.cl, T.nU, rfl, fun n dn nx nd ne => mkX hu su.big (fun v H' e hv => k v H' e hv) n dn nx nd ne⟩
/-- a number as results are told -/
def TN (C : Addr) (H : Hp) (v : V) (o u : Int) : Prop := (u = 1 ∧ v = .int o) ∨ (u ≠ 1 ∧ IsX C H v o u)
theorem TN.same {H H1 : Hp} {v : V} {o u : Int} (e : Same H H1) (h : TN C H v o u) : TN C H1 v o u := h.imp id fun ⟨n, x⟩ => ⟨n, x.same e⟩
def spPlain (C : Addr) : Sp := fun vs H Q _ => ∃ (y : V) (p q : Int), vs = [y] ∧ IsN C H y p q ∧ ∀ v H', Same H H' → TN C H' v p q → Q v H'
abbrev s_plain : Stmt := top 10
abbrev N_plain : List Str := ["number", "found"]
theorem sc_plain : FnScope N_plain ["number"] (defScope s_plain) := ⟨rfl, rfl, rfl, by decide +kernel, rfl, by decide +kernel, by decide +kernel⟩
-- slots: 0 number, 1 found
theorem ok_plain {f : Addr} {fd : FuncData} (F : FunD K "plain" "plain" (defArgs s_plain) (defBody s_plain) (defScope s_plain) [] [] f fd) (T : XC K mg C) (c_part_of : C8.Cal P w K mg base 4 "part_of" (spPart C) []) : FnOk P w K mg base CX0 5 f fd ["number"] (spPlain C) := by
  refine F.ok sc_plain (fun vs H Q E h => ?_) (fun cdv A outer s H vs Q E hr h => ?_)
  · obtain ⟨y, p, q, rfl, hy, k⟩ := h
    rfl
  · obtain ⟨y, p, q, rfl, hy, k⟩ := h
    refine ⟨_, PSs.nox (pss_cons (ps_set (i := 1) sc_plain.nd rfl (Or.inl rfl) (C8.pe_c c_part_of hr (by decide) rfl (pa_cons (pv 0) pa_nil)))
      (pss_one (ps_ret (pe_ifExp (pt_cmpR op_eq (pe_fld (pv 1) rfl) pe_int (nomark _)) (pe_fld (pv 1) rfl) (pv 1))))), ?_⟩
    refine ⟨_, rfl, y, p, q, rfl, hy, fun b H1 e1 hb => ?_⟩
    obtain ⟨ba, bd, rfl, hb⟩ := hb
    refine ⟨_, rfl, ba, C, bd, _, _, rfl, hb, T.cl, T.nU, rfl, rfl, _, rfl, ?_⟩
    refine ite2 (fun hc => ?_) (fun hc => ?_)
    · have h1 : q = 1 := by simpa using hc
      exact ⟨_, rfl, ba, C, bd, _, _, rfl, hb, T.cl, T.nO, rfl, k _ _ e1 (.inl ⟨h1, rfl⟩)⟩
    · have h1 : q ≠ 1 := by simpa using hc
      exact ⟨_, rfl, k _ _ e1 (.inr ⟨h1, ba, bd, rfl, hb⟩)⟩
end
end LW
set_option Elab.async false
set_option linter.all false
set_option maxRecDepth 100000
set_option maxHeartbeats 4000000
namespace LW
open PySem PySem.Spec PyProof.Rows L2 LV LM
/-- the law's own fractions: tuples -/
def IsF (H : Hp) (v : V) (o u : Int) : Prop := ∃ p, v = .ref p ∧ H p = some (.tup [.int o, .int u])
theorem IsF.same {H H1 : Hp} {v : V} {o u : Int} (e : Same H H1) (h : IsF H v o u) : IsF H1 v o u := by
  obtain ⟨x, rfl, h⟩ := h
  exact ⟨x, rfl, e _ _ h⟩
theorem IsF.but {K : PySem.W.Frag} {a : Addr} {H H1 : Hp} {v : V} {o u : Int} (e : But a H H1) (s : Stt K H a) (h : IsF H v o u) : IsF H1 v o u := by
  obtain ⟨x, rfl, h⟩ := h
  exact ⟨x, rfl, e.get s h rfl⟩
theorem IsN.but {K : PySem.W.Frag} {a C : Addr} {H H1 : Hp} {v : V} {o u : Int} (e : But a H H1) (s : Stt K H a) (h : IsN C H v o u) : IsN C H1 v o u := h.imp id (IsX.but e s)
section
variable {P : Program} {w : World} {K : PySem.W.Frag} {mg : Str → Option Value} {base : Heap} {C : Addr}
abbrev s__law_gcd : Stmt := top 17
abbrev N__law_gcd : List Str := ["_law_a", "_law_b"]
theorem sc__law_gcd : FnScope N__law_gcd ["_law_a", "_law_b"] (defScope s__law_gcd) := ⟨rfl, rfl, rfl, by decide +kernel, rfl, by decide +kernel, by decide +kernel⟩
-- slots: 0 _law_a, 1 _law_b
theorem ok__law_gcd {f : Addr} {fd : FuncData} (F : FunD K "_law_gcd" "_law_gcd" (defArgs s__law_gcd) (defBody s__law_gcd) (defScope s__law_gcd) [] [] f fd) (T : Bt mg) : FnOk P w K mg base CX0 1 f fd ["_law_a", "_law_b"] spGcd := by
  refine F.ok sc__law_gcd (fun vs H Q E h => ?_) (fun cdv A outer s H vs Q E hr h => ?_)
  · obtain ⟨a, b, rfl, k⟩ := h
    rfl
  · obtain ⟨a, b, rfl, k⟩ := h
    refine ⟨_, PSs.nox (pss_cons (ps_while PassesOwn.never (pt_cmpR op_ne (pv 1) pe_int (nomark _)) (pss_one (ps_par (i := 0) (j := 1) rfl sc__law_gcd.nd rfl rfl (by decide) rfl rfl (pa_cons (pv 1) (pa_cons (pe_op op_modN (pv 0) (pv 1)) pa_nil)) rfl)))
      (pss_one (ps_ret (pe_ifExp (pt_cmpR op_gt (pv 0) pe_int (nomark _)) (pv 0) (pe_un un_neg (pv 0)))))), ?_⟩
    refine ⟨fun m σ H' => ∃ x y : Int, σ = [some (.int x), some (.int y)] ∧ H' = H ∧ m = y.natAbs ∧ x.gcd y = a.gcd b, ⟨_, a, b, rfl, rfl, rfl, rfl⟩, ?_⟩
    rintro m σ H' ⟨x, y, rfl, rfl, rfl, hg⟩
    refine ⟨_, rfl, rfl, _, rfl, ?_⟩
    by_cases hy : y = 0
    · subst hy
      refine iteF ?_
      rw [Int.gcd_zero_right] at hg
      refine ⟨_, rfl, _, _, rfl, rfl, _, rfl, ?_⟩
      refine ite2 (fun hc => ?_) (fun hc => ?_)
      · have h0 : 0 < x := of_decide_eq_true hc
        refine ⟨_, rfl, ?_⟩
        have e : x = (a.gcd b : Int) := by omega
        rw [e]
        exact k
      · have h0 : ¬ 0 < x := fun z => hc (decide_eq_true z)
        refine ⟨_, rfl, _, rfl, ?_⟩
        have e : -x = (a.gcd b : Int) := by omega
        show Q (.int (-x)) _
        rw [e]
        exact k
    · have e : (!decide (V.int y = V.int 0)) = true := by simp [hy]
      rw [e]
      refine iteT ⟨fun σ' H'' => σ' = [some (.int y), some (.int (x.fmod y))] ∧ H'' = H', fun σ' H'' ⟨h1, h2⟩ => ⟨_, fmod_lt x y hy, y, _, h1, h2, rfl, (gcd_step x y).trans hg⟩, ?_⟩
      exact ⟨_, rfl, _, rfl, _, rfl, _, _, rfl, rfl, hy, _, _, rfl, rfl, rfl⟩
def spFrac : Sp := fun vs H Q _ => ∃ o u : Int, vs = [.int o, .int u] ∧ u ≠ 0 ∧ Big u ∧ ∀ v H', Same H H' → IsF H' v (rO o u) (rD o u) → Q v H'
abbrev s__law_frac : Stmt := top 18
abbrev N__law_frac : List Str := ["_law_over", "_law_under", "_law_whole"]
theorem sc__law_frac : FnScope N__law_frac ["_law_over", "_law_under"] (defScope s__law_frac) := ⟨rfl, rfl, rfl, by decide +kernel, rfl, by decide +kernel, by decide +kernel⟩
-- slots: 0 _law_over, 1 _law_under, 2 _law_whole
theorem ok__law_frac {f : Addr} {fd : FuncData} (F : FunD K "_law_frac" "_law_frac" (defArgs s__law_frac) (defBody s__law_frac) (defScope s__law_frac) [] [] f fd) (T : Bt mg) (c__law_gcd : C8.Cal P w K mg base 1 "_law_gcd" spGcd []) : FnOk P w K mg base CX0 2 f fd ["_law_over", "_law_under"] spFrac := by
  refine F.ok sc__law_frac (fun vs H Q E h => ?_) (fun cdv A outer s H vs Q E hr h => ?_)
  · obtain ⟨o, u, rfl, hu, hub, k⟩ := h
    rfl
  · obtain ⟨o, u, rfl, hu, hub, k⟩ := h
    refine ⟨_, PSs.nox (pss_cons (ps_set (i := 2) sc__law_frac.nd rfl (Or.inl rfl) (C8.pe_c c__law_gcd hr (by decide) rfl (pa_cons (pv 0) (pa_cons (pv 1) pa_nil))))
      (pss_cons (ps_set (i := 2) sc__law_frac.nd rfl (Or.inl rfl) (pe_ifExp (pt_cmpR op_lt (pv 1) pe_int (nomark _)) (pe_un un_neg (pv 2)) (pv 2)))
      (pss_one (ps_ret (pe_tup (pa_cons (pe_op op_fdivG (pv 0) (pv 2)) (pa_cons (pe_op op_fdivG (pv 1) (pv 2)) pa_nil))))))), ?_⟩
    refine ⟨_, rfl, _, rfl, o, u, rfl, ?_⟩
    have hw : rwh o u ≠ 0 ∧ (rwh o u).natAbs.log2 < 9000 := ⟨rwh_ne hu, big_ne (Nat.lt_of_le_of_lt (abs_rwh hu) hub)⟩
    have fin : ∀ z : Int, z = rwh o u → tRet (tTup (tCons (tOp (rI (fun _ j => j ≠ 0 ∧ j.natAbs.log2 < 9000) fun i j => .int (i.fdiv j)) (tVar 0) (tVar 2)) (tCons (tOp (rI (fun _ j => j ≠ 0 ∧ j.natAbs.log2 < 9000) fun i j => .int (i.fdiv j)) (tVar 1) (tVar 2)) tNil))) { nx := fun _ H' => Q .non H', rt := Q } [some (.int o), some (.int u), some (.int z)] H := by
      rintro z rfl
      refine ⟨_, rfl, _, rfl, _, _, rfl, rfl, hw, _, rfl, _, rfl, _, _, rfl, rfl, hw, by show 2 ≤ sizeLine; decide, fun p n1 => ?_⟩
      generalize q1 : upd H p _ = H1
      exact k _ _ (nSm q1 n1) ⟨p, rfl, nAt q1⟩
    refine ⟨_, rfl, _, _, rfl, rfl, _, rfl, ?_⟩
    refine ite2 (fun hc => ?_) (fun hc => ?_)
    · have h0 : u < 0 := of_decide_eq_true hc
      refine ⟨_, rfl, _, rfl, fin _ ?_⟩
      unfold rwh
      rw [if_pos h0]
    · have h0 : ¬ u < 0 := fun z => hc (decide_eq_true z)
      refine ⟨_, rfl, fin _ ?_⟩
      unfold rwh
      rw [if_neg h0]
def spFBin (f g : Int → Int → Int → Int → Int) : Sp := fun vs H Q _ => ∃ (x y : V) (o u p q : Int), vs = [x, y] ∧ IsF H x o u ∧ IsF H y p q ∧ Sm o ∧ Sm u ∧ Sm p ∧ Sm q ∧ g o u p q ≠ 0 ∧
  ∀ v H', Same H H' → IsF H' v (rO (f o u p q) (g o u p q)) (rD (f o u p q) (g o u p q)) → Q v H'
abbrev spFAdd : Sp := spFBin (fun o u p q => o * q + p * u) (fun _ u _ q => u * q)
abbrev spFMul : Sp := spFBin (fun o _ p _ => o * p) (fun _ u _ q => u * q)
abbrev s__law_add : Stmt := top 19
abbrev N__law_add : List Str := ["_law_a", "_law_b"]
theorem sc__law_add : FnScope N__law_add ["_law_a", "_law_b"] (defScope s__law_add) := ⟨rfl, rfl, rfl, by decide +kernel, rfl, by decide +kernel, by decide +kernel⟩
-- slots: 0 _law_a, 1 _law_b
theorem ok__law_add {f : Addr} {fd : FuncData} (F : FunD K "_law_add" "_law_add" (defArgs s__law_add) (defBody s__law_add) (defScope s__law_add) [] [] f fd) (T : Bt mg) (c__law_frac : C8.Cal P w K mg base 2 "_law_frac" spFrac []) : FnOk P w K mg base CX0 3 f fd ["_law_a", "_law_b"] spFAdd := by
  refine F.ok sc__law_add (fun vs H Q E h => ?_) (fun cdv A outer s H vs Q E hr h => ?_)
  · obtain ⟨x, y, o, u, p, q, rfl, ⟨xa, rfl, hx⟩, ⟨ya, rfl, hy⟩, so, su, sp, sq, hg, k⟩ := h
    rfl
  · obtain ⟨x, y, o, u, p, q, rfl, ⟨xa, rfl, hx⟩, ⟨ya, rfl, hy⟩, so, su, sp, sq, hg, k⟩ := h
    refine ⟨_, PSs.nox (pss_one (ps_ret (C8.pe_c c__law_frac hr (by decide) rfl (pa_cons (pe_op op_add (pe_op op_mulG (pe_ix ix_tup (pv 0) pe_int (fun _ _ => rfl)) (pe_ix ix_tup (pv 1) pe_int (fun _ _ => rfl))) (pe_op op_mulG (pe_ix ix_tup (pv 1) pe_int (fun _ _ => rfl)) (pe_ix ix_tup (pv 0) pe_int (fun _ _ => rfl)))) (pa_cons (pe_op op_mulG (pe_ix ix_tup (pv 0) pe_int (fun _ _ => rfl)) (pe_ix ix_tup (pv 1) pe_int (fun _ _ => rfl))) pa_nil))))), ?_⟩
    exact ⟨_, rfl, xa, _, _, _, rfl, rfl, SqT.of hx, rfl, _, rfl, ya, _, _, _, rfl, rfl, SqT.of hy, rfl, _, _, rfl, rfl, smul so sq, _, rfl, ya, _, _, _, rfl, rfl, SqT.of hy, rfl, _, rfl, xa, _, _, _, rfl, rfl, SqT.of hx, rfl, _, _, rfl, rfl, smul sp su, _, _, rfl, rfl, _, rfl, xa, _, _, _, rfl, rfl, SqT.of hx, rfl, _, rfl, ya, _, _, _, rfl, rfl, SqT.of hy, rfl, _, _, rfl, rfl, smul su sq, _, _, rfl, hg, big_mul su sq, k⟩
abbrev s__law_mul : Stmt := top 20
abbrev N__law_mul : List Str := ["_law_a", "_law_b"]
theorem sc__law_mul : FnScope N__law_mul ["_law_a", "_law_b"] (defScope s__law_mul) := ⟨rfl, rfl, rfl, by decide +kernel, rfl, by decide +kernel, by decide +kernel⟩
-- slots: 0 _law_a, 1 _law_b
theorem ok__law_mul {f : Addr} {fd : FuncData} (F : FunD K "_law_mul" "_law_mul" (defArgs s__law_mul) (defBody s__law_mul) (defScope s__law_mul) [] [] f fd) (T : Bt mg) (c__law_frac : C8.Cal P w K mg base 2 "_law_frac" spFrac []) : FnOk P w K mg base CX0 3 f fd ["_law_a", "_law_b"] spFMul := by
  refine F.ok sc__law_mul (fun vs H Q E h => ?_) (fun cdv A outer s H vs Q E hr h => ?_)
  · obtain ⟨x, y, o, u, p, q, rfl, ⟨xa, rfl, hx⟩, ⟨ya, rfl, hy⟩, so, su, sp, sq, hg, k⟩ := h
    rfl
  · obtain ⟨x, y, o, u, p, q, rfl, ⟨xa, rfl, hx⟩, ⟨ya, rfl, hy⟩, so, su, sp, sq, hg, k⟩ := h
    refine ⟨_, PSs.nox (pss_one (ps_ret (C8.pe_c c__law_frac hr (by decide) rfl (pa_cons (pe_op op_mulG (pe_ix ix_tup (pv 0) pe_int (fun _ _ => rfl)) (pe_ix ix_tup (pv 1) pe_int (fun _ _ => rfl))) (pa_cons (pe_op op_mulG (pe_ix ix_tup (pv 0) pe_int (fun _ _ => rfl)) (pe_ix ix_tup (pv 1) pe_int (fun _ _ => rfl))) pa_nil))))), ?_⟩
    exact ⟨_, rfl, xa, _, _, _, rfl, rfl, SqT.of hx, rfl, _, rfl, ya, _, _, _, rfl, rfl, SqT.of hy, rfl, _, _, rfl, rfl, smul so sp, _, rfl, xa, _, _, _, rfl, rfl, SqT.of hx, rfl, _, rfl, ya, _, _, _, rfl, rfl, SqT.of hy, rfl, _, _, rfl, rfl, smul su sq, _, _, rfl, hg, big_mul su sq, k⟩
/-- a fraction as it is passed -/
def spAsNum (K : PySem.W.Frag) (C : Addr) : Sp := fun vs H Q _ => ∃ (a : Addr) (x : V) (o u : Int), vs = [.ref a, x] ∧ Stt K H a ∧ IsF H x o u ∧ Red o u ∧ Sm u ∧ ∀ v H', But a H H' → Stt K H' a → IsN C H' v o u → Q v H'
abbrev s__law_as_number : Stmt := top 21
abbrev N__law_as_number : List Str := ["_law_state", "_law_a", "_law_far"]
theorem sc__law_as_number : FnScope N__law_as_number ["_law_state", "_law_a"] (defScope s__law_as_number) := ⟨rfl, rfl, rfl, by decide +kernel, rfl, by decide +kernel, by decide +kernel⟩
-- slots: 0 _law_state, 1 _law_a, 2 _law_far
theorem ok__law_as_number {f : Addr} {fd : FuncData} (F : FunD K "_law_as_number" "_law_as_number" (defArgs s__law_as_number) (defBody s__law_as_number) (defScope s__law_as_number) [] [] f fd) (T : XC K mg C) (c__law_take : C8.Cal P w K mg base 2 "_law_take" (spTake K) []) (c_Exact : C8.Mak P w K mg base 2 "Exact" C (spInit C) []) : FnOk P w K mg base CX0 4 f fd ["_law_state", "_law_a"] (spAsNum K C) := by
  refine F.ok sc__law_as_number (fun vs H Q E h => ?_) (fun cdv A outer s H vs Q E hr h => ?_)
  · obtain ⟨a, x, o, u, rfl, hs, ⟨xa, rfl, hx⟩, hr', su, k⟩ := h
    rfl
  · obtain ⟨a, x, o, u, rfl, hs, ⟨xa, rfl, hx⟩, hr', su, k⟩ := h
    refine ⟨_, PSs.nox (pss_cons (ps_if (PW.pt (pw_and (pt_cmpR op_eq (pe_ix ix_tup (pv 1) pe_int (fun _ _ => rfl)) pe_int (nomark _)) (pw_and1 (pt_cmpR op_gt (C8.pe_c c__law_take hr (by decide) rfl (pa_cons (pv 0) (pa_cons pe_int pa_nil))) pe_int (nomark _))))) (pss_one (ps_ret (pe_ix ix_tup (pv 1) pe_int (fun _ _ => rfl)))) pss_nil)
      (pss_cons (ps_set (i := 2) sc__law_as_number.nd rfl (Or.inl rfl) (pe_op op_add pe_int (C8.pe_c c__law_take hr (by decide) rfl (pa_cons (pv 0) (pa_cons pe_int pa_nil)))))
      (pss_one (ps_ret (C8.pe_mk c_Exact hr (by decide) rfl (pa_cons (pe_op op_mulG (pe_ix ix_tup (pv 1) pe_int (fun _ _ => rfl)) (pv 2)) (pa_cons (pe_op op_mulG (pe_ix ix_tup (pv 1) pe_int (fun _ _ => rfl)) (pv 2)) pa_nil))))))), ?_⟩
    have last : ∀ H1, But a H H1 → Stt K H1 a → _ := fun H1 e1 hs1 => (show tSeq (tAsg (tOp (rI0 fun i j => .int (i + j)) (tC (.int 1)) (tCall (spTake K) [] C8.E0 (tCons (tVar 0) (tCons (tC (.int 3)) tNil)))) (gName 2)) (tRet (tMake C (spInit C) [] C8.E0 (tCons (tOp (rI IntMulOk fun i j => .int (i * j)) (tOp (rIxT K) (tVar 1) (tC (.int 0))) (tVar 2)) (tCons (tOp (rI IntMulOk fun i j => .int (i * j)) (tOp (rIxT K) (tVar 1) (tC (.int 1))) (tVar 2)) tNil)))) { nx := fun _ H' => Q .non H', rt := Q } [some (.ref a), some (.ref xa), none] H1 by
      refine ⟨_, rfl, a, 3, rfl, hs1, by decide, by decide, fun H2 d e2 hs2 hd0 hd1 => ?_⟩
      have hx2 := e2.get hs1 (e1.get hs hx rfl) rfl
      refine ⟨_, _, rfl, rfl, ?_⟩
      refine ⟨_, rfl, xa, _, _, _, rfl, rfl, SqT.of hx2, rfl, _, rfl, _, _, rfl, rfl, mulS (by omega), _, rfl, xa, _, _, _, rfl, rfl, SqT.of hx2, rfl, _, rfl, _, _, rfl, rfl, mulS (by omega), ?_⟩
      have hu := hr'.1
      have hd : (1 + d : Int) ≠ 0 := by omega
      have hsd : Sm (1 + d) := Nat.lt_of_lt_of_le (show (1 + d).natAbs < 2 ^ 2 by omega) (Nat.pow_le_pow_right (by decide) (by decide))
      refine fun n dn nx nd ne => mkX (Int.mul_ne_zero (by omega) hd) (big_mul su hsd) (fun v H' e hv => k v H' ((e1.trans e2).trans (Same.but e)) (hs2.same e) (.inr ?_)) n dn nx nd ne
      obtain ⟨q1, q2⟩ := red_scale hr' hd
      rw [q1, q2] at hv
      exact hv)
    refine ⟨_, rfl, xa, _, _, _, rfl, rfl, SqT.of hx, rfl, rfl, _, rfl, ?_⟩
    refine ite2 (fun hc => ?_) (fun hc => ?_)
    · have hu1 : u = 1 := by simpa using hc
      refine ⟨_, rfl, a, 3, rfl, hs, by decide, by decide, fun H1 d e1 hs1 hd0 hd1 => ?_⟩
      refine ⟨_, _, rfl, rfl, _, rfl, ?_⟩
      refine ite2 (fun _ => ?_) (fun _ => last H1 e1 hs1)
      exact ⟨_, rfl, xa, _, _, _, rfl, rfl, SqT.of (e1.get hs hx rfl), rfl, k _ _ e1 hs1 (.inl ⟨rfl, hu1⟩)⟩
    · exact last H (But.refl a H) hs
/-- a fraction as it is told -/
def spLPlain (C : Addr) : Sp := fun vs H Q _ => ∃ (x : V) (o u : Int), vs = [x] ∧ IsF H x o u ∧ Red o u ∧ Big u ∧ ∀ v H', Same H H' → TN C H' v o u → Q v H'
abbrev s__law_plain : Stmt := top 22
abbrev N__law_plain : List Str := ["_law_a"]
theorem sc__law_plain : FnScope N__law_plain ["_law_a"] (defScope s__law_plain) := ⟨rfl, rfl, rfl, by decide +kernel, rfl, by decide +kernel, by decide +kernel⟩
-- slots: 0 _law_a
theorem ok__law_plain {f : Addr} {fd : FuncData} (F : FunD K "_law_plain" "_law_plain" (defArgs s__law_plain) (defBody s__law_plain) (defScope s__law_plain) [] [] f fd) (T : XC K mg C) (c_Exact : C8.Mak P w K mg base 2 "Exact" C (spInit C) []) : FnOk P w K mg base CX0 4 f fd ["_law_a"] (spLPlain C) := by
  refine F.ok sc__law_plain (fun vs H Q E h => ?_) (fun cdv A outer s H vs Q E hr h => ?_)
  · obtain ⟨x, o, u, rfl, ⟨xa, rfl, hx⟩, hr', su, k⟩ := h
    rfl
  · obtain ⟨x, o, u, rfl, ⟨xa, rfl, hx⟩, hr', su, k⟩ := h
    refine ⟨_, PSs.nox (pss_one (ps_ret (pe_ifExp (pt_cmpR op_eq (pe_ix ix_tup (pv 0) pe_int (fun _ _ => rfl)) pe_int (nomark _)) (pe_ix ix_tup (pv 0) pe_int (fun _ _ => rfl)) (C8.pe_mk c_Exact hr (by decide) rfl (pa_cons (pe_ix ix_tup (pv 0) pe_int (fun _ _ => rfl)) (pa_cons (pe_ix ix_tup (pv 0) pe_int (fun _ _ => rfl)) pa_nil)))))), ?_⟩
    refine ⟨_, rfl, xa, _, _, _, rfl, rfl, SqT.of hx, rfl, rfl, _, rfl, ?_⟩
    refine ite2 (fun hc => ?_) (fun hc => ?_)
    · have hu1 : u = 1 := by simpa using hc
      exact ⟨_, rfl, xa, _, _, _, rfl, rfl, SqT.of hx, rfl, k _ _ (Same.refl H) (.inl ⟨hu1, rfl⟩)⟩
    · have hu1 : u ≠ 1 := by simpa using hc
      have hu := hr'.1
      refine ⟨_, rfl, xa, _, _, _, rfl, rfl, SqT.of hx, rfl, _, rfl, xa, _, _, _, rfl, rfl, SqT.of hx, rfl, fun n dn nx nd ne => mkX (by omega) su (fun v H' e hv => k v H' e (.inr ⟨hu1, ?_⟩)) n dn nx nd ne⟩
      obtain ⟨q1, q2⟩ := red_self hr'
      rw [q1, q2] at hv
      exact hv
end
end LW
set_option Elab.async false
set_option linter.all false
set_option maxRecDepth 100000
set_option maxHeartbeats 4000000
namespace LW
open PySem PySem.Spec PyProof.Rows L2 LV LM
theorem kA1 (K : PySem.W.Frag) : PySem.W.kitAny K (.type "int") [.type "list", .type "tuple"] = some false := by kernel_rfl
theorem kA2 (K : PySem.W.Frag) : PySem.W.kitAny K (.type "list") [.type "list", .type "tuple"] = some true := by rfl
theorem kLL (K : PySem.W.Frag) : PySem.W.kitOne K (.type "list") (.type "list") = some true := rfl
theorem kLT (K : PySem.W.Frag) : PySem.W.kitOne K (.type "list") (.type "tuple") = some false := by kernel_rfl
theorem kTL (K : PySem.W.Frag) : PySem.W.kitOne K (.type "tuple") (.type "list") = some false := by kernel_rfl
theorem kTT (K : PySem.W.Frag) : PySem.W.kitOne K (.type "tuple") (.type "tuple") = some true := rfl
section
variable {P : Program} {w : World} {K : PySem.W.Frag} {mg : Str → Option Value} {base : Heap} {C : Addr}
theorem kA3 (T : XC K mg C) : PySem.W.kitAny K (.ref C) [.type "list", .type "tuple"] = some false :=
  kitAny_cons T.kXL (fun _ => kitAny_cons T.kXT (fun _ => rfl) (fun z => nomatch z)) (fun z => nomatch z)
theorem clsLT : Paired ClsV [V.ty "list", V.ty "tuple"] [.type "list", .type "tuple"] := .cons (.ty _) (.cons (.ty _) .nil)
def spSameI : Sp := fun vs H Q _ => ∃ i : Int, vs = [.int i, .int i] ∧ ∀ H', Same H H' → Q (.bl true) H'
abbrev s__law_same : Stmt := top 16
abbrev N__law_same : List Str := ["_law_found", "_law_due", "_law_a", "_law_b"]
theorem sc__law_same : FnScope N__law_same ["_law_found", "_law_due"] (defScope s__law_same) := ⟨rfl, rfl, rfl, by decide +kernel, rfl, by decide +kernel, by decide +kernel⟩
-- slots: 0 _law_found, 1 _law_due, 2 _law_a, 3 _law_b
theorem ok__law_same {f : Addr} {fd : FuncData} (F : FunD K "_law_same" "_law_same" (defArgs s__law_same) (defBody s__law_same) (defScope s__law_same) [] [] f fd) (T : Bt mg) : FnOk P w K mg base CX0 1 f fd ["_law_found", "_law_due"] spSameI := by
  refine F.ok sc__law_same (fun vs H Q E h => ?_) (fun cdv A outer s H vs Q E hr h => ?_)
  · obtain ⟨i, rfl, k⟩ := h
    rfl
  · obtain ⟨i, rfl, k⟩ := h
    refine ⟨_, PSs.nox (pss_cons (ps_if (pt_val (pe_callB call_isiT rfl T.isinstance (by decide +kernel) (pa_cons (pv 1) (pa_cons (pe_tup (pa_cons (pe_bltn (v := .ty "list") rfl T.list (by decide +kernel) rfl) (pa_cons (pe_bltn (v := .ty "tuple") rfl T.tuple (by decide +kernel) rfl) pa_nil))) pa_nil)))) (pss_cons ps_never
      (pss_one ps_never)) pss_nil)
      (pss_cons (ps_if (pt_val (pe_callB call_isi rfl T.isinstance (by decide +kernel) (pa_cons (pv 1) (pa_cons (pe_bltn (v := .ty "int") rfl T.int (by decide +kernel) rfl) pa_nil)))) (pss_one (ps_ret (pe_and (pe_callB call_isi rfl T.isinstance (by decide +kernel) (pa_cons (pv 0) (pa_cons (pe_bltn (v := .ty "int") rfl T.int (by decide +kernel) rfl) pa_nil))) (pe_and (pe_cmpR op_eq (pe_callB call_isi rfl T.isinstance (by decide +kernel) (pa_cons (pv 0) (pa_cons (pe_bltn (v := .ty "bool") rfl T.bool (by decide +kernel) rfl) pa_nil))) (pe_callB call_isi rfl T.isinstance (by decide +kernel) (pa_cons (pv 1) (pa_cons (pe_bltn (v := .ty "bool") rfl T.bool (by decide +kernel) rfl) pa_nil))) (nomark _)) (pe_one (pe_cmpR op_eq (pv 0) (pv 1) (nomark _))))))) pss_nil)
      (pss_one ps_never))), ?_⟩
    refine ⟨_, rfl, by show 2 ≤ sizeLine; decide, fun tp n1 => ?_⟩
    generalize q1 : upd H tp _ = H1
    have e1 := nSm q1 n1
    refine ⟨_, tp, _, _, _, _, rfl, nAt q1, clsLT, .base (.int i), kA1 K, _, rfl, iteF ?_⟩
    refine ⟨_, rfl, _, _, _, _, _, rfl, .ty "int", .base (.int i), kII K, _, rfl, iteT ?_⟩
    refine ⟨_, rfl, _, _, _, _, _, rfl, .ty "int", .base (.int i), kII K, _, rfl, iteT ?_⟩
    refine ⟨_, rfl, _, _, _, _, _, rfl, .ty "bool", .base (.int i), kIB K, _, rfl, _, _, _, _, _, rfl, .ty "bool", .base (.int i), kIB K, rfl, _, rfl, iteT ?_⟩
    refine ⟨_, rfl, _, rfl, rfl, ?_⟩
    rw [decide_eq_true rfl]
    exact k _ e1
/-- two numbers as they are told are the same -/
def SameN (C : Addr) (H : Hp) (v d : V) : Prop := (∃ i : Int, v = .int i ∧ d = .int i) ∨ ∃ o u, IsX C H v o u ∧ IsX C H d o u
theorem SameN.same {H H1 : Hp} {v d : V} (e : Same H H1) (h : SameN C H v d) : SameN C H1 v d := by
  rcases h with h | ⟨o, u, h1, h2⟩
  · exact .inl h
  · exact .inr ⟨o, u, h1.same e, h2.same e⟩
def spToldI (C : Addr) : Sp := fun vs H Q _ => ∃ v d : V, vs = [v, d] ∧ SameN C H v d ∧ ∀ H', Same H H' → Q (.bl true) H'
abbrev s__law_is_told : Stmt := top 23
abbrev N__law_is_told : List Str := ["_law_x", "_law_due", "_law_a", "_law_b"]
theorem sc__law_is_told : FnScope N__law_is_told ["_law_x", "_law_due"] (defScope s__law_is_told) := ⟨rfl, rfl, rfl, by decide +kernel, rfl, by decide +kernel, by decide +kernel⟩
-- slots: 0 _law_x, 1 _law_due, 2 _law_a, 3 _law_b
theorem ok__law_is_told {f : Addr} {fd : FuncData} (F : FunD K "_law_is_told" "_law_is_told" (defArgs s__law_is_told) (defBody s__law_is_told) (defScope s__law_is_told) [] [] f fd) (T : XC K mg C) (c__law_same : C8.Cal P w K mg base 1 "_law_same" spSameI []) : FnOk P w K mg base CX0 2 f fd ["_law_x", "_law_due"] (spToldI C) := by
  refine F.ok sc__law_is_told (fun vs H Q E h => ?_) (fun cdv A outer s H vs Q E hr h => ?_)
  · obtain ⟨v, d, rfl, hd, k⟩ := h
    rfl
  · obtain ⟨v, d, rfl, hd, k⟩ := h
    refine ⟨_, PSs.nox (pss_cons (ps_if (pt_val (pe_callB call_isiT rfl T.isinstance (by decide +kernel) (pa_cons (pv 1) (pa_cons (pe_tup (pa_cons (pe_bltn (v := .ty "list") rfl T.list (by decide +kernel) rfl) (pa_cons (pe_bltn (v := .ty "tuple") rfl T.tuple (by decide +kernel) rfl) pa_nil))) pa_nil)))) (pss_cons ps_never
      (pss_one ps_never)) pss_nil)
      (pss_cons (ps_if (pt_val (pe_callB call_isi rfl T.isinstance (by decide +kernel) (pa_cons (pv 1) (pa_cons (pe_glob (v := .ref C) rfl T.mgC rfl) pa_nil)))) (pss_one (ps_ret (pe_and (pe_callB call_isi rfl T.isinstance (by decide +kernel) (pa_cons (pv 0) (pa_cons (pe_glob (v := .ref C) rfl T.mgC rfl) pa_nil))) (pe_and (pe_cmpR op_eq (pe_fld (pv 0) rfl) (pe_fld (pv 1) rfl) (nomark _)) (pe_one (pe_cmpR op_eq (pe_fld (pv 0) rfl) (pe_fld (pv 1) rfl) (nomark _))))))) pss_nil)
      (pss_one (ps_ret (C8.pe_c c__law_same hr (by decide) rfl (pa_cons (pv 0) (pa_cons (pv 1) pa_nil))))))), ?_⟩
    refine ⟨_, rfl, by show 2 ≤ sizeLine; decide, fun tp n1 => ?_⟩
    generalize q1 : upd H tp _ = H1
    have e1 := nSm q1 n1
    have hd1 := hd.same e1
    rcases hd1 with ⟨i, rfl, rfl⟩ | ⟨o, u, ⟨x, dx, rfl, hx⟩, ⟨y, dy, rfl, hy⟩⟩
    · refine ⟨_, tp, _, _, _, _, rfl, nAt q1, clsLT, .base (.int i), kA1 K, _, rfl, iteF ?_⟩
      refine ⟨_, rfl, _, _, _, _, _, rfl, .own C, .base (.int i), T.kIX, _, rfl, iteF ?_⟩
      exact ⟨_, rfl, _, rfl, i, rfl, fun H2 e2 => k _ (e1.trans e2)⟩
    · refine ⟨_, tp, _, _, _, _, rfl, nAt q1, clsLT, tyX T hy, kA3 T, _, rfl, iteF ?_⟩
      refine ⟨_, rfl, _, _, _, _, _, rfl, .own C, tyX T hy, kXX K C, _, rfl, iteT ?_⟩
      refine ⟨_, rfl, _, _, _, _, _, rfl, .own C, tyX T hx, kXX K C, _, rfl, iteT ?_⟩
      refine ⟨_, rfl, x, C, dx, _, _, rfl, hx, T.cl, T.nO, rfl, _, rfl, y, C, dy, _, _, rfl, hy, T.cl, T.nO, rfl, rfl, ?_⟩
      rw [decide_eq_true rfl]
      refine ⟨_, rfl, iteT ?_⟩
      refine ⟨_, rfl, x, C, dx, _, _, rfl, hx, T.cl, T.nU, rfl, _, rfl, y, C, dy, _, _, rfl, hy, T.cl, T.nU, rfl, rfl, ?_⟩
      rw [decide_eq_true rfl]
      exact k _ e1
def spToldL (C : Addr) : Sp := fun vs H Q _ => ∃ (la lb : Addr) (xs ys : List V), vs = [.ref la, .ref lb] ∧ H la = some (.lst xs) ∧ H lb = some (.lst ys) ∧ xs.length = ys.length ∧ xs.length ≤ 100 ∧ (∀ (i : Nat) x y, xs[i]? = some x → ys[i]? = some y → SameN C H x y) ∧ ∀ H', Same H H' → Q (.bl true) H'
-- slots: 0 _law_x, 1 _law_due, 2 _law_a, 3 _law_b
theorem ok__law_is_told_L {f : Addr} {fd : FuncData} (F : FunD K "_law_is_told" "_law_is_told" (defArgs s__law_is_told) (defBody s__law_is_told) (defScope s__law_is_told) [] [] f fd) (T : XC K mg C) (c__law_is_told : C8.Cal P w K mg base 2 "_law_is_told" (spToldI C) []) : FnOk P w K mg base CX0 3 f fd ["_law_x", "_law_due"] (spToldL C) := by
  refine F.ok sc__law_is_told (fun vs H Q E h => ?_) (fun cdv A outer s H vs Q E hr h => ?_)
  · obtain ⟨la, lb, xs, ys, rfl, hx, hy, hlen, hl, hs, k⟩ := h
    rfl
  · obtain ⟨la, lb, xs, ys, rfl, hx, hy, hlen, hl, hs, k⟩ := h
    refine ⟨_, PSs.nox (pss_cons (ps_if (pt_val (pe_callB call_isiT rfl T.isinstance (by decide +kernel) (pa_cons (pv 1) (pa_cons (pe_tup (pa_cons (pe_bltn (v := .ty "list") rfl T.list (by decide +kernel) rfl) (pa_cons (pe_bltn (v := .ty "tuple") rfl T.tuple (by decide +kernel) rfl) pa_nil))) pa_nil)))) (pss_cons (ps_if (PW.pt (pw_or (pt_cmpR op_ne (pe_callB call_isi rfl T.isinstance (by decide +kernel) (pa_cons (pv 0) (pa_cons (pe_bltn (v := .ty "list") rfl T.list (by decide +kernel) rfl) pa_nil))) (pe_callB call_isi rfl T.isinstance (by decide +kernel) (pa_cons (pv 1) (pa_cons (pe_bltn (v := .ty "list") rfl T.list (by decide +kernel) rfl) pa_nil))) (nomark _)) (pw_or1 (pt_cmpR op_ne (pe_callB call_isi rfl T.isinstance (by decide +kernel) (pa_cons (pv 0) (pa_cons (pe_bltn (v := .ty "tuple") rfl T.tuple (by decide +kernel) rfl) pa_nil))) (pe_callB call_isi rfl T.isinstance (by decide +kernel) (pa_cons (pv 1) (pa_cons (pe_bltn (v := .ty "tuple") rfl T.tuple (by decide +kernel) rfl) pa_nil))) (nomark _))))) (pss_one (ps_ret pe_bl)) pss_nil)
      (pss_one (ps_ret (pe_and (pe_cmpR op_eq (pe_callB call_len_seq rfl T.len (by decide +kernel) (pa_cons (pv 0) pa_nil)) (pe_callB call_len_seq rfl T.len (by decide +kernel) (pa_cons (pv 1) pa_nil)) (nomark _)) (pe_one (pe_callB (cr_all rfl) rfl T.all (by decide +kernel) (pa_cons (pe_lc (own := [("_law_a", 2), ("_law_b", 3)]) (g := (gTup K 2 (gCons (gName 2) (gCons (gName 3) gNil)))) (tt := tYes) rfl sc__law_is_told.nd (pi_zip rfl T.zip (pa_cons (pv 0) (pa_cons (pv 1) pa_nil))) (blkOk_by (N := N__law_is_told) (sc := defScope s__law_is_told) (by decide +kernel)) (fun _ _ _ _ _ => by exact (pg_tup rfl (pgs_cons (pg_name (i := 2) sc__law_is_told.nd rfl (Or.inl rfl)) (pgs_cons (pg_name (i := 3) sc__law_is_told.nd rfl (Or.inl rfl)) pgs_nil)))) (fun _ _ _ _ _ => pts_nil) (fun _ _ _ _ _ => by exact (C8.pe_c c__law_is_told hr (by decide) rfl (pa_cons (pv 2) (pa_cons (pv 3) pa_nil))))) pa_nil))))))) pss_nil)
      (pss_cons ps_never
      (pss_one ps_never))), ?_⟩
    refine ⟨_, rfl, by show 2 ≤ sizeLine; decide, fun tp n1 => ?_⟩
    generalize q1 : upd H tp _ = H1
    have e1 := nSm q1 n1
    have hx1 := e1 _ _ hx
    have hy1 := e1 _ _ hy
    refine ⟨_, tp, _, _, _, _, rfl, nAt q1, clsLT, .base (.lst hy1), kA2 K, _, rfl, iteT ?_⟩
    refine ⟨_, rfl, _, _, _, _, _, rfl, .ty "list", .base (.lst hx1), kLL K, _, rfl, _, _, _, _, _, rfl, .ty "list", .base (.lst hy1), kLL K, rfl, _, rfl, iteF ?_⟩
    refine ⟨_, rfl, _, _, _, _, _, rfl, .ty "tuple", .base (.lst hx1), kLT K, _, rfl, _, _, _, _, _, rfl, .ty "tuple", .base (.lst hy1), kLT K, rfl, _, rfl, iteF ?_⟩
    refine ⟨_, rfl, la, _, rfl, .inl (SqL.of hx1), _, rfl, lb, _, rfl, .inl (SqL.of hy1), rfl, _, rfl, ?_⟩
    have el : decide (V.int (xs.length : Nat) = V.int (ys.length : Nat)) = true := decide_eq_true (by rw [hlen])
    rw [el]
    refine iteT ?_
    refine ⟨_, rfl, _, rfl, la, lb, xs, ys, rfl, SqL.of hx1, SqL.of hy1, fun D nD => ?_⟩
    refine lc_it (walk_zip (n := xs.length) (by omega)) (fun i H2 => Same H1 H2 ∧ H2 D = some (.lst (List.replicate i (.bl true)))) ⟨Same.new nD, upd_same⟩ (fun i H2 _ ⟨e2, _⟩ => ⟨SqL.of (e2 _ _ hx1), SqL.of (e2 _ _ hy1)⟩) ?_ ?_
    · rintro i x H2 H3 hi ⟨e2, h2⟩ ⟨T5, a, b, rfl, nT, rfl, ha, hb⟩
      have hs1 := ((hs i a b ha hb).same e1).same (e2.trans (Same.new (o := .tup [a, b]) nT))
      have e3 : Same H1 (upd H2 T5 (.tup [a, b])) := e2.trans (Same.new nT)
      have h3 := (Same.new (o := .tup [a, b]) nT) _ _ h2
      have hT5 : upd H2 T5 (.tup [a, b]) T5 = some (.tup [a, b]) := upd_same
      generalize upd H2 T5 (.tup [a, b]) = H4 at hs1 e3 h3 hT5
      refine ⟨T5, _, rfl, SqT.of hT5, rfl, _, _, rfl, _, _, rfl, rfl, rfl, ?_⟩
      refine ⟨_, rfl, _, rfl, a, b, rfl, hs1, fun H5 e5 => ⟨_, e5 _ _ h3, by rw [List.length_replicate]; exact Nat.lt_of_lt_of_le (by omega : i < 100) (by decide), ?_, ?_⟩⟩
      · intro b' o' hb'
        have nb : b' ≠ D := ne_of_none hb' nD
        rw [upd_ne nb]
        exact e5 _ _ (e3 _ _ hb')
      · rw [upd_same, List.replicate_succ']
    · rintro H2 ⟨e2, h2⟩
      have eb : List.replicate xs.length (V.bl true) = (List.replicate xs.length true).map V.bl := by rw [List.map_replicate]
      rw [eb] at h2
      refine ⟨D, _, rfl, SqL.of h2, ?_⟩
      have ea : (List.replicate xs.length true).all id = true := by simp
      rw [ea]
      exact k _ (e1.trans e2)
/-- a drawn fraction -/
def spSomeF (K : PySem.W.Frag) : Sp := fun vs H Q _ => ∃ a : Addr, vs = [.ref a] ∧ Stt K H a ∧ ∀ v H' o u, But a H H' → Stt K H' a → IsF H' v o u → Red o u → o.natAbs ≤ 10 ^ 38 → u.natAbs ≤ 10 ^ 12 → Q v H'
abbrev s__law_some_frac : Stmt := top 24
abbrev N__law_some_frac : List Str := ["_law_state", "_law_top"]
theorem sc__law_some_frac : FnScope N__law_some_frac ["_law_state"] (defScope s__law_some_frac) := ⟨rfl, rfl, rfl, by decide +kernel, rfl, by decide +kernel, by decide +kernel⟩
-- slots: 0 _law_state, 1 _law_top
theorem ok__law_some_frac {f : Addr} {fd : FuncData} (F : FunD K "_law_some_frac" "_law_some_frac" (defArgs s__law_some_frac) (defBody s__law_some_frac) (defScope s__law_some_frac) [] [] f fd) (T : Bt mg) (c__law_take : C8.Cal P w K mg base 2 "_law_take" (spTake K) []) (c__law_one : C8.Cal P w K mg base 3 "_law_one" (spOne K) []) (c__law_frac : C8.Cal P w K mg base 2 "_law_frac" spFrac []) : FnOk P w K mg base CX0 4 f fd ["_law_state"] (spSomeF K) := by
  refine F.ok sc__law_some_frac (fun vs H Q E h => ?_) (fun cdv A outer s H vs Q E hr h => ?_)
  · obtain ⟨a, rfl, hs, k⟩ := h
    rfl
  · obtain ⟨a, rfl, hs, k⟩ := h
    refine ⟨_, PSs.nox (pss_cons (ps_set (i := 1) sc__law_some_frac.nd rfl (Or.inl rfl) (C8.pe_c c__law_one hr (by decide) rfl (pa_cons (pv 0) (pa_cons (pe_lst (pa_cons pe_int (pa_cons pe_int (pa_cons pe_int (pa_cons (pe_op op_pow pe_int pe_int) (pa_cons (pe_op op_pow pe_int pe_int) pa_nil)))))) pa_nil))))
      (pss_one (ps_ret (C8.pe_c c__law_frac hr (by decide) rfl (pa_cons (pe_op op_sub (C8.pe_c c__law_take hr (by decide) rfl (pa_cons (pv 0) (pa_cons (pe_op op_mulG pe_int (pv 1)) pa_nil))) (pv 1)) (pa_cons (pe_op op_add pe_int (C8.pe_c c__law_take hr (by decide) rfl (pa_cons (pv 0) (pa_cons (C8.pe_c c__law_one hr (by decide) rfl (pa_cons (pv 0) (pa_cons (pe_lst (pa_cons pe_int (pa_cons pe_int (pa_cons pe_int (pa_cons pe_int (pa_cons (pe_op op_pow pe_int pe_int) pa_nil)))))) pa_nil))) pa_nil)))) pa_nil)))))), ?_⟩
    refine ⟨_, rfl, _, _, rfl, rfl, ⟨by decide, by decide, by decide⟩, _, _, rfl, rfl, ⟨by decide, by decide, by decide⟩, by show 5 ≤ sizeLine; decide, fun p n1 => ?_⟩
    generalize q1 : upd H p _ = H1
    have h1 := nAt q1
    have e1 := nSm q1 n1
    have hs1 := hs.same e1
    refine ⟨a, p, _, rfl, hs1, h1, rfl, by decide, by decide, fun H2 v e2 hs2 hv => ?_⟩
    obtain ⟨t, rfl, ht0, ht1⟩ : ∃ t : Int, v = .int t ∧ 0 < t ∧ t ≤ 10 ^ 38 := by
      simp only [List.mem_cons, List.not_mem_nil, or_false] at hv
      rcases hv with rfl | rfl | rfl | rfl | rfl <;> exact ⟨_, rfl, by decide, by decide⟩
    refine ⟨_, rfl, _, rfl, _, _, rfl, rfl, mulS' (by decide), a, _, rfl, hs2, by omega, by omega, fun H3 d e3 hs3 hd0 hd1 => ?_⟩
    refine ⟨_, rfl, _, _, rfl, rfl, ?_⟩
    refine ⟨_, rfl, _, rfl, _, _, rfl, rfl, ⟨by decide, by decide, by decide⟩, by show 5 ≤ sizeLine; decide, fun p4 n4 => ?_⟩
    generalize q4 : upd H3 p4 _ = H4
    have h4 := nAt q4
    have e4 := nSm q4 n4
    have hs4 := hs3.same e4
    refine ⟨a, p4, _, rfl, hs4, h4, rfl, by decide, by decide, fun H5 v5 e5 hs5 hv5 => ?_⟩
    obtain ⟨t5, rfl, h50, h51⟩ : ∃ t : Int, v5 = .int t ∧ 0 < t ∧ t ≤ 10 ^ 12 := by
      simp only [List.mem_cons, List.not_mem_nil, or_false] at hv5
      rcases hv5 with rfl | rfl | rfl | rfl | rfl <;> exact ⟨_, rfl, by decide, by decide⟩
    refine ⟨a, _, rfl, hs5, h50, by omega, fun H6 d6 e6 hs6 h60 h61 => ?_⟩
    have hu : (1 + d6 : Int) ≠ 0 := by omega
    refine ⟨_, _, rfl, rfl, _, _, rfl, hu, Nat.lt_of_lt_of_le (show (1 + d6).natAbs < 2 ^ 100 by omega) (Nat.pow_le_pow_right (by decide) (by decide)), fun v H7 e7 hv => ?_⟩
    have b1 := abs_rO (o := d - t) hu
    have b2 := abs_rD (o := d - t) hu
    exact k v H7 _ _ ((((((Same.but e1).trans e2).trans e3).trans (Same.but e4)).trans (e5.trans e6)).trans (Same.but e7)) (hs6.same e7) hv (red_of hu) (by omega) (by omega)
/-- a told number as a pair -/
def spAsX (C : Addr) : Sp := fun vs H Q _ => ∃ (x : V) (o u : Int), vs = [x] ∧ IsX C H x o u ∧ Red o u ∧ ∀ v H', Same H H' → IsF H' v o u → Q v H'
abbrev s__law_as_exact : Stmt := top 25
abbrev N__law_as_exact : List Str := ["_law_x"]
theorem sc__law_as_exact : FnScope N__law_as_exact ["_law_x"] (defScope s__law_as_exact) := ⟨rfl, rfl, rfl, by decide +kernel, rfl, by decide +kernel, by decide +kernel⟩
-- slots: 0 _law_x
theorem ok__law_as_exact {f : Addr} {fd : FuncData} (F : FunD K "_law_as_exact" "_law_as_exact" (defArgs s__law_as_exact) (defBody s__law_as_exact) (defScope s__law_as_exact) [] [] f fd) (T : XC K mg C) (c__law_gcd : C8.Cal P w K mg base 1 "_law_gcd" spGcd []) : FnOk P w K mg base CX0 2 f fd ["_law_x"] (spAsX C) := by
  refine F.ok sc__law_as_exact (fun vs H Q E h => ?_) (fun cdv A outer s H vs Q E hr h => ?_)
  · obtain ⟨v, o, u, rfl, ⟨x, dx, rfl, hx⟩, hr', k⟩ := h
    rfl
  · obtain ⟨v, o, u, rfl, ⟨x, dx, rfl, hx⟩, hr', k⟩ := h
    refine ⟨_, PSs.nox (pss_cons (ps_if (PW.pt (pw_or (pt_not (pt_val (pe_callB call_isi rfl T.isinstance (by decide +kernel) (pa_cons (pv 0) (pa_cons (pe_glob (v := .ref C) rfl T.mgC rfl) pa_nil))))) (pw_or (pt_not (pt_val (pe_callB call_isi rfl T.isinstance (by decide +kernel) (pa_cons (pe_fld (pv 0) rfl) (pa_cons (pe_bltn (v := .ty "int") rfl T.int (by decide +kernel) rfl) pa_nil))))) (pw_or1 (pt_not (pt_val (pe_callB call_isi rfl T.isinstance (by decide +kernel) (pa_cons (pe_fld (pv 0) rfl) (pa_cons (pe_bltn (v := .ty "int") rfl T.int (by decide +kernel) rfl) pa_nil))))))))) (pss_one (ps_ret pe_non)) pss_nil)
      (pss_one (ps_ret (pe_ifExp (PW.pt (pw_and (pt_cmpR op_gt (pe_fld (pv 0) rfl) pe_int (nomark _)) (pw_and1 (pt_cmpR op_eq (C8.pe_c c__law_gcd hr (by decide) rfl (pa_cons (pe_fld (pv 0) rfl) (pa_cons (pe_fld (pv 0) rfl) pa_nil))) pe_int (nomark _))))) (pe_tup (pa_cons (pe_fld (pv 0) rfl) (pa_cons (pe_fld (pv 0) rfl) pa_nil))) pe_non)))), ?_⟩
    refine ⟨_, rfl, _, _, _, _, _, rfl, .own C, tyX T hx, kXX K C, _, rfl, iteF ?_⟩
    refine ⟨_, rfl, x, C, dx, _, _, rfl, hx, T.cl, T.nO, rfl, _, _, _, _, _, rfl, .ty "int", .base (.int o), kII K, _, rfl, iteF ?_⟩
    refine ⟨_, rfl, x, C, dx, _, _, rfl, hx, T.cl, T.nU, rfl, _, _, _, _, _, rfl, .ty "int", .base (.int u), kII K, _, rfl, iteF ?_⟩
    refine ⟨_, rfl, x, C, dx, _, _, rfl, hx, T.cl, T.nU, rfl, _, _, rfl, rfl, _, rfl, ?_⟩
    have e0 : decide ((0 : Int) < u) = true := decide_eq_true hr'.1
    rw [e0]
    refine iteT ?_
    refine ⟨_, rfl, x, C, dx, _, _, rfl, hx, T.cl, T.nO, rfl, _, rfl, x, C, dx, _, _, rfl, hx, T.cl, T.nU, rfl, o, u, rfl, rfl, _, rfl, ?_⟩
    have e1 : decide (V.int ((o.gcd u : Nat) : Int) = V.int 1) = true := decide_eq_true (by rw [hr'.2]; rfl)
    rw [e1]
    refine iteT ⟨_, rfl, x, C, dx, _, _, rfl, hx, T.cl, T.nO, rfl, _, rfl, x, C, dx, _, _, rfl, hx, T.cl, T.nU, rfl, by show 2 ≤ sizeLine; decide, fun p n1 => ?_⟩
    generalize q1 : upd H p _ = H1
    exact k _ _ (nSm q1 n1) ⟨p, rfl, nAt q1⟩
end
end LW
set_option Elab.async false
set_option linter.all false
set_option maxRecDepth 100000
set_option maxHeartbeats 4000000
namespace LW
open PySem PySem.Spec PyProof.Rows L2 LV LM
section
variable {P : Program} {w : World} {K : PySem.W.Frag} {mg : Str → Option Value} {base : Heap} {C : Addr}
theorem TN.sameN {H : Hp} {v d : V} {o u : Int} (h1 : TN C H v o u) (h2 : TN C H d o u) : SameN C H v d := by
  rcases h1 with ⟨_, rfl⟩ | ⟨n, x⟩
  · rcases h2 with ⟨_, rfl⟩ | ⟨n, _⟩
    · exact .inl ⟨_, rfl, rfl⟩
    · exact absurd (by assumption) n
  · rcases h2 with ⟨e, _⟩ | ⟨_, y⟩
    · exact absurd e n
    · exact .inr ⟨_, _, x, y⟩
abbrev pd (p : Int × Int) : PyData := .tuple [.int p.1, .int p.2]
theorem dpF {H : Hp} {v : V} {o u : Int} (h : IsF H v o u) : Dp K H v (pd (o, u)) := by
  obtain ⟨p, rfl, h⟩ := h
  exact .tup (SqT.of h) (.cons (.int _) (.cons (.int _) .nil))
theorem eqF (o u : Int) : PyData.eqv (pd (o, u)) (pd (o, u)) = true := by
  simp [PyData.eqv, PyData.eqvAll]
theorem shF (o u : Int) : SeqAt.shaped (pd (o, u)) = true := rfl
/-- fractions, one by one -/
def AllF (H : Hp) : List V → List (Int × Int) → Prop
  | [], [] => True
  | f :: fs, p :: ps => IsF H f p.1 p.2 ∧ AllF H fs ps
  | _, _ => False
theorem AllF.same {H H1 : Hp} (e : Same H H1) : ∀ {fs : List V} {ps : List (Int × Int)}, AllF H fs ps → AllF H1 fs ps
  | [], [], _ => trivial
  | _ :: _, _ :: _, h => ⟨h.1.same e, AllF.same e h.2⟩
  | [], _ :: _, h => h.elim
  | _ :: _, [], h => h.elim
theorem AllF.snoc {H : Hp} {v : V} {p : Int × Int} (hv : IsF H v p.1 p.2) : ∀ {fs : List V} {ps : List (Int × Int)}, AllF H fs ps → AllF H (fs ++ [v]) (ps ++ [p])
  | [], [], _ => ⟨hv, trivial⟩
  | _ :: _, _ :: _, h => ⟨h.1, AllF.snoc hv h.2⟩
  | [], _ :: _, h => h.elim
  | _ :: _, [], h => h.elim
theorem AllF.dp {H : Hp} : ∀ {fs : List V} {ps : List (Int × Int)}, AllF H fs ps → DpAll K H fs (ps.map pd)
  | [], [], _ => .nil
  | _ :: _, _ :: _, h => .cons (dpF h.1) (AllF.dp h.2)
  | [], _ :: _, h => h.elim
  | _ :: _, [], h => h.elim
theorem AllF.len {H : Hp} : ∀ {fs : List V} {ps : List (Int × Int)}, AllF H fs ps → fs.length = ps.length
  | [], [], _ => rfl
  | _ :: _, _ :: _, h => congrArg Nat.succ (AllF.len h.2)
  | [], _ :: _, h => h.elim
  | _ :: _, [], h => h.elim
theorem eqFs : ∀ ps : List (Int × Int), PyData.eqvAll (ps.map pd) (ps.map pd) = true
  | [] => by simp [PyData.eqvAll]
  | p :: ps => by
    have h1 := eqF p.1 p.2
    have h2 := eqFs ps
    show PyData.eqvAll (pd p :: ps.map pd) (pd p :: ps.map pd) = true
    simp only [PyData.eqvAll, Bool.and_eq_true]
    exact ⟨h1, h2⟩
theorem sm38 {i : Int} (h : i.natAbs ≤ 10 ^ 38) : Sm i := Nat.lt_of_le_of_lt h (Nat.lt_of_lt_of_le (show 10 ^ 38 < 2 ^ 127 by decide) (Nat.pow_le_pow_right (by decide) (by decide)))
theorem mkY {H : Hp} {x dx : Addr} {o u : Int} {Q : VK} {E : XK} (hu : u ≠ 0) (hub : Big u) (nx : H x = none) (nd : H dx = none) (ne : dx ≠ x) (k : ∀ H', Same H H' → IsX C H' (.ref x) (rO o u) (rD o u) → Q .non H') :
    spInit C [.ref x, .int o, .int u] (upd (upd H dx (.own x)) x (.ins C dx [])) Q E := by
  refine ⟨x, dx, o, u, rfl, upd_same, hu, hub, fun H' e h => k _ (fun b ob hb => ?_) ⟨x, dx, rfl, h⟩⟩
  have n1 := ne_of_none hb nx
  refine e b ob n1 ?_
  rw [upd_ne n1, upd_ne (ne_of_none hb nd)]
  exact hb
theorem AllF.upd {H : Hp} {D : Addr} {xs : List V} {o : HO} (hD : H D = some (.lst xs)) : ∀ {fs : List V} {ps : List (Int × Int)}, AllF H fs ps → AllF (upd H D o) fs ps
  | [], [], _ => trivial
  | _ :: _, _ :: _, h => by
    obtain ⟨⟨p, e, hp⟩, h2⟩ := h
    refine ⟨⟨p, e, ?_⟩, AllF.upd hD h2⟩
    rw [upd_ne (ne_of hp hD (by intro z; cases z))]
    exact hp
  | [], _ :: _, h => h.elim
  | _ :: _, [], h => h.elim
structure Wd (K : PySem.W.Frag) (C st : Addr) (va vb vx vy : V) (oa ua ob ub : Int) (H : Hp) : Prop where
  s : Stt K H st
  a : IsF H va oa ua
  b : IsF H vb ob ub
  x : IsX C H vx oa ua
  y : IsN C H vy ob ub
theorem Wd.same {st : Addr} {va vb vx vy : V} {oa ua ob ub : Int} {H H' : Hp} (e : Same H H') (h : Wd K C st va vb vx vy oa ua ob ub H) : Wd K C st va vb vx vy oa ua ob ub H' := ⟨h.s.same e, h.a.same e, h.b.same e, h.x.same e, h.y.same e⟩
section
variable {H : Hp} {vx vy : V} {o u p q : Int} {Q : VK} {f g f' g' : Int → Int → Int → Int → Int}
theorem ownB (hx : IsX C H vx o u) (hy : IsN C H vy p q) (so : Sm o) (su : Sm u) (sp : Sm p) (sq : Sm q) (hu : u ≠ 0) (hq : q ≠ 0)
    (k : ∀ v H', Same H H' → IsX C H' v (rO (f o u p q) (g o u p q)) (rD (f o u p q) (g o u p q)) → Q v H') : rOwnL C (spBin C f g) vx vy H Q := by
  obtain ⟨xa, xd, rfl, hx'⟩ := id hx
  exact ⟨xa, xd, _, rfl, hx', hy.num, _, _, o, u, p, q, rfl, hx, hy, so, su, sp, sq, hu, hq, k⟩
theorem revB (hf : ∀ o u p q, f p q o u = f' o u p q) (hg : ∀ o u p q, g p q o u = g' o u p q) (hx : IsX C H vx o u) (hy : IsN C H vy p q) (so : Sm o) (su : Sm u) (sp : Sm p) (sq : Sm q) (hu : u ≠ 0) (hq : q ≠ 0)
    (k : ∀ v H', Same H H' → IsX C H' v (rO (f' o u p q) (g' o u p q)) (rD (f' o u p q) (g' o u p q)) → Q v H') : rOwnL C (spBin C f g) vy vx H Q ∨ rOwnR C (spBin C f' g') vy vx H Q := by
  rcases id hy with ⟨rfl, rfl⟩ | hy'
  · obtain ⟨xa, xd, rfl, hx'⟩ := id hx
    exact .inr ⟨_, xa, xd, _, rfl, rfl, hx', _, _, o, u, p, 1, rfl, hx, hy, so, su, sp, sq, hu, hq, k⟩
  · exact .inl (ownB hy' (.inr hx) sp sq so su hq hu fun v H' e hv => k v H' e (by rw [hf, hg] at hv; exact hv))
theorem negB (hx : IsX C H vx o u) (su : Sm u) (hu : u ≠ 0) (k : ∀ v H', Same H H' → IsX C H' v (rO (-o) u) (rD (-o) u) → Q v H') : ∃ a dx fs, vx = .ref a ∧ H a = some (.ins C dx fs) ∧ spNeg C [vx] H Q E0 := by
  obtain ⟨xa, xd, rfl, hx'⟩ := id hx
  exact ⟨xa, xd, _, rfl, hx', _, o, u, rfl, hx, su, hu, k⟩
end
def spLaw (K : PySem.W.Frag) : Sp := fun vs H Q _ => ∃ (a : Addr) (ns : List Int), vs = [.ref a] ∧ SqL K H a (ns.map V.int) ∧ ns.length ≤ 63 ∧ ∀ H', Q (.bl true) H'
abbrev s_law : Stmt := top 26
abbrev N_law : List Str := ["_law_script", "_law_state", "_law_turn", "_law_a", "_law_b", "_law_sign", "_law_x", "_law_y", "_law_found", "_law_minus", "_law_due", "_law_told", "_law_one_here"]
theorem sc_law : FnScope N_law ["_law_script"] (defScope s_law) := ⟨rfl, rfl, rfl, by decide +kernel, rfl, by decide +kernel, by decide +kernel⟩
-- slots: 0 _law_script, 1 _law_state, 2 _law_turn, 3 _law_a, 4 _law_b, 5 _law_sign, 6 _law_x, 7 _law_y, 8 _law_found, 9 _law_minus, 10 _law_due, 11 _law_told, 12 _law_one_here
theorem ok_law {f : Addr} {fd : FuncData} (F : FunD K "law" "law" (defArgs s_law) (defBody s_law) (defScope s_law) [] [] f fd) (T : XC K mg C) (c__law_fresh : C8.Cal P w K mg base 1 "_law_fresh" (spFresh K) []) (c__law_some_frac : C8.Cal P w K mg base 4 "_law_some_frac" (spSomeF K) []) (c__law_one : C8.Cal P w K mg base 3 "_law_one" (spOne K) []) (c_Exact : C8.Mak P w K mg base 2 "Exact" C (spInit C) []) (c_Exact1 : C8.Mak P w K mg base 2 "Exact" C (spInit C) [.int 1]) (c__law_as_number : C8.Cal P w K mg base 4 "_law_as_number" (spAsNum K C) []) (c__law_as_exact : C8.Cal P w K mg base 2 "_law_as_exact" (spAsX C) []) (m__add__ : ∀ X : Cx, X.prog = P → X.w = w → X.K = K → X.mg = mg → X.base = base → OwnM X 5 C "__add__" (spAdd C)) (m__sub__ : ∀ X : Cx, X.prog = P → X.w = w → X.K = K → X.mg = mg → X.base = base → OwnM X 5 C "__sub__" (spSub C)) (m__mul__ : ∀ X : Cx, X.prog = P → X.w = w → X.K = K → X.mg = mg → X.base = base → OwnM X 5 C "__mul__" (spMul C)) (m__radd__ : ∀ X : Cx, X.prog = P → X.w = w → X.K = K → X.mg = mg → X.base = base → OwnM X 6 C "__radd__" (spRadd C)) (m__rsub__ : ∀ X : Cx, X.prog = P → X.w = w → X.K = K → X.mg = mg → X.base = base → OwnM X 6 C "__rsub__" (spRsub C)) (m__rmul__ : ∀ X : Cx, X.prog = P → X.w = w → X.K = K → X.mg = mg → X.base = base → OwnM X 6 C "__rmul__" (spRmul C)) (m__neg__ : ∀ X : Cx, X.prog = P → X.w = w → X.K = K → X.mg = mg → X.base = base → OwnM X 5 C "__neg__" (spNeg C)) (m_by : C8.Met P w K mg base 5 C "by" (spBy C) []) (c_plain : C8.Cal P w K mg base 5 "plain" (spPlain C) []) (c__law_is_told : C8.Cal P w K mg base 3 "_law_is_told" (spToldL C) []) (c__law_plain : C8.Cal P w K mg base 4 "_law_plain" (spLPlain C) []) (c__law_add : C8.Cal P w K mg base 3 "_law_add" spFAdd []) (c__law_mul : C8.Cal P w K mg base 3 "_law_mul" spFMul []) : FnOk P w K mg base CX0 7 f fd ["_law_script"] (spLaw K) := by
  refine F.ok sc_law (fun vs H Q E h => ?_) (fun cdv A outer s H vs Q E hr h => ?_)
  · obtain ⟨sc, ns, rfl, hS, hl, k⟩ := h
    rfl
  · obtain ⟨sc, ns, rfl, hS, hl, k⟩ := h
    refine ⟨_, PSs.nox (pss_cons (ps_set (i := 1) sc_law.nd rfl (Or.inl rfl) (C8.pe_c c__law_fresh hr (by decide) rfl (pa_cons (pv 0) pa_nil)))
      (pss_cons (ps_for PassesOwn.never rfl (pi_range1 rfl T.range (pa_cons pe_int pa_nil)) (pg_name (i := 2) sc_law.nd rfl (Or.inl rfl)) (pss_cons (ps_par (i := 3) (j := 4) rfl sc_law.nd rfl rfl (by decide) rfl rfl (pa_cons (C8.pe_c c__law_some_frac hr (by decide) rfl (pa_cons (pv 1) pa_nil)) (pa_cons (C8.pe_c c__law_some_frac hr (by decide) rfl (pa_cons (pv 1) pa_nil)) pa_nil)) rfl)
      (pss_cons (ps_set (i := 5) sc_law.nd rfl (Or.inl rfl) (C8.pe_c c__law_one hr (by decide) rfl (pa_cons (pv 1) (pa_cons (pe_lst (pa_cons pe_int (pa_cons (pe_un un_neg pe_int) (pa_cons pe_int (pa_cons (pe_un un_neg pe_int) pa_nil))))) pa_nil))))
      (pss_cons (ps_set (i := 6) sc_law.nd rfl (Or.inl rfl) (C8.pe_mk c_Exact hr (by decide) rfl (pa_cons (pe_op op_mulG (pe_ix ix_tup (pv 3) pe_int (fun _ _ => rfl)) (pv 5)) (pa_cons (pe_op op_mulG (pe_ix ix_tup (pv 3) pe_int (fun _ _ => rfl)) (pv 5)) pa_nil))))
      (pss_cons (ps_set (i := 7) sc_law.nd rfl (Or.inl rfl) (C8.pe_c c__law_as_number hr (by decide) rfl (pa_cons (pv 1) (pa_cons (pv 4) pa_nil))))
      (pss_cons (ps_if (PW.pt (pw_or (pt_cmpR (op_neD hr.units) (C8.pe_c c__law_as_exact hr (by decide) rfl (pa_cons (pv 6) pa_nil)) (pv 3) (nomark _)) (pw_or1 (pt_cmpR (op_neD hr.units) (C8.pe_c c__law_as_exact hr (by decide) rfl (pa_cons (C8.pe_mk c_Exact hr (by decide) rfl (pa_cons (pe_ix ix_tup (pv 3) pe_int (fun _ _ => rfl)) (pa_cons (pe_ix ix_tup (pv 3) pe_int (fun _ _ => rfl)) pa_nil))) pa_nil)) (pv 3) (nomark _))))) (pss_one (ps_ret pe_bl)) pss_nil)
      (pss_cons (ps_set (i := 8) sc_law.nd rfl (Or.inl rfl) (pe_lst (pa_cons (pe_op (op_addL (m__add__ _ rfl rfl rfl rfl rfl) T.f_radd.choose_spec T.own (hr.mono (by decide))) (pv 6) (pv 7)) (pa_cons (pe_op (OpR.or (op_addL (m__add__ _ rfl rfl rfl rfl rfl) T.f_radd.choose_spec T.own (hr.mono (by decide))) (op_addR (m__add__ _ rfl rfl rfl rfl rfl) (m__radd__ _ rfl rfl rfl rfl rfl) T.own (hr.mono (by decide)))) (pv 7) (pv 6)) (pa_cons (pe_op (op_subL (m__sub__ _ rfl rfl rfl rfl rfl) T.f_rsub.choose_spec T.own (hr.mono (by decide))) (pv 6) (pv 7)) (pa_cons (pe_op (OpR.or (op_subL (m__sub__ _ rfl rfl rfl rfl rfl) T.f_rsub.choose_spec T.own (hr.mono (by decide))) (op_subR (m__sub__ _ rfl rfl rfl rfl rfl) (m__rsub__ _ rfl rfl rfl rfl rfl) T.own (hr.mono (by decide)))) (pv 7) (pv 6)) (pa_cons (pe_op (op_mulL (m__mul__ _ rfl rfl rfl rfl rfl) T.f_rmul.choose_spec T.own (hr.mono (by decide))) (pv 6) (pv 7)) (pa_cons (pe_op (OpR.or (op_mulL (m__mul__ _ rfl rfl rfl rfl rfl) T.f_rmul.choose_spec T.own (hr.mono (by decide))) (op_mulR (m__mul__ _ rfl rfl rfl rfl rfl) (m__rmul__ _ rfl rfl rfl rfl rfl) T.own (hr.mono (by decide)))) (pv 7) (pv 6)) (pa_cons (pe_un (un_own (m__neg__ _ rfl rfl rfl rfl rfl) (hr.mono (by decide))) (pv 6)) pa_nil)))))))))
      (pss_cons (ps_set (i := 9) sc_law.nd rfl (Or.inl rfl) (pe_tup (pa_cons (pe_un un_neg pe_int) (pa_cons pe_int pa_nil))))
      (pss_cons (ps_set (i := 10) sc_law.nd rfl (Or.inl rfl) (pe_lst (pa_cons (C8.pe_c c__law_add hr (by decide) rfl (pa_cons (pv 3) (pa_cons (pv 4) pa_nil))) (pa_cons (C8.pe_c c__law_add hr (by decide) rfl (pa_cons (pv 3) (pa_cons (pv 4) pa_nil))) (pa_cons (C8.pe_c c__law_add hr (by decide) rfl (pa_cons (pv 3) (pa_cons (C8.pe_c c__law_mul hr (by decide) rfl (pa_cons (pv 9) (pa_cons (pv 4) pa_nil))) pa_nil))) (pa_cons (C8.pe_c c__law_add hr (by decide) rfl (pa_cons (pv 4) (pa_cons (C8.pe_c c__law_mul hr (by decide) rfl (pa_cons (pv 9) (pa_cons (pv 3) pa_nil))) pa_nil))) pa_nil))))))
      (pss_cons (ps_set (i := 10) sc_law.nd rfl (Or.inl rfl) (pe_op op_cat (pv 10) (pe_lst (pa_cons (C8.pe_c c__law_mul hr (by decide) rfl (pa_cons (pv 3) (pa_cons (pv 4) pa_nil))) (pa_cons (C8.pe_c c__law_mul hr (by decide) rfl (pa_cons (pv 3) (pa_cons (pv 4) pa_nil))) (pa_cons (C8.pe_c c__law_mul hr (by decide) rfl (pa_cons (pv 9) (pa_cons (pv 3) pa_nil))) pa_nil))))))
      (pss_cons (ps_if (pt_cmpR (op_neD hr.units) (pe_lc (own := [("_law_one_here", 12)]) (g := (gName 12)) (tt := tYes) rfl sc_law.nd (pi_list (pv 8)) (blkOk_by (N := N_law) (sc := defScope s_law) (by decide +kernel)) (fun _ _ _ _ _ => by exact (pg_name (i := 12) sc_law.nd rfl (Or.inl rfl))) (fun _ _ _ _ _ => pts_nil) (fun _ _ _ _ _ => by exact (C8.pe_c c__law_as_exact hr (by decide) rfl (pa_cons (pv 12) pa_nil)))) (pv 10) (nomark _)) (pss_one (ps_ret pe_bl)) pss_nil)
      (Evl.pss_cut (ps_if (PW.pt (pw_and (pt_cmpR op_ne (pe_ix ix_tup (pv 4) pe_int (fun _ _ => rfl)) pe_int (nomark _)) (pw_and1 (pt_cmpR (op_neD hr.units) (C8.pe_c c__law_as_exact hr (by decide) rfl (pa_cons (C8.pe_mt m_by hr (by decide) (pv 6) (pa_cons (pv 7) pa_nil)) pa_nil)) (C8.pe_c c__law_mul hr (by decide) rfl (pa_cons (pv 3) (pa_cons (pe_tup (pa_cons (pe_ix ix_tup (pv 4) pe_int (fun _ _ => rfl)) (pa_cons (pe_ix ix_tup (pv 4) pe_int (fun _ _ => rfl)) pa_nil))) pa_nil))) (nomark _))))) (pss_one (ps_ret pe_bl)) pss_nil)
      (pss_cons (ps_set (i := 11) sc_law.nd rfl (Or.inl rfl) (pe_lst (pa_cons (C8.pe_c c_plain hr (by decide) rfl (pa_cons (pv 6) pa_nil)) (pa_cons (C8.pe_c c_plain hr (by decide) rfl (pa_cons (pv 7) pa_nil)) (pa_cons (C8.pe_c c_plain hr (by decide) rfl (pa_cons (C8.pe_mk c_Exact1 hr (by decide) rfl (pa_cons (pe_ix ix_tup (pv 4) pe_int (fun _ _ => rfl)) pa_nil)) pa_nil)) pa_nil)))))
      (pss_one (ps_if (pt_not (pt_val (C8.pe_c c__law_is_told hr (by decide) rfl (pa_cons (pv 11) (pa_cons (pe_lst (pa_cons (C8.pe_c c__law_plain hr (by decide) rfl (pa_cons (pv 3) pa_nil)) (pa_cons (C8.pe_c c__law_plain hr (by decide) rfl (pa_cons (pv 4) pa_nil)) (pa_cons (pe_ix ix_tup (pv 4) pe_int (fun _ _ => rfl)) pa_nil)))) pa_nil))))) (pss_one (ps_ret pe_bl)) pss_nil)))))))))))))))
      (pss_one (ps_ret pe_bl)))), ?_⟩
    refine ⟨_, rfl, sc, ns, rfl, hS, hl, fun st H0 e0 hs0 => ?_⟩
    refine ⟨8, rfl, by decide, by decide, ?_⟩
    refine for_it (walk_range) (fun i σ H' => ∃ x2 x3 x4 x5 x6 x7 x8 x9 x10 x11 x12 : Option V, σ = [some (.ref sc), some (.ref st), x2, x3, x4, x5, x6, x7, x8, x9, x10, x11, x12] ∧ Stt K H' st)
      ⟨_, _, _, _, _, _, _, _, _, _, _, rfl, hs0⟩ (fun _ _ _ _ _ => trivial) ?_ ?_
    · rintro i x σ H1 H1' hi ⟨x2, x3, x4, x5, x6, x7, x8, x9, x10, x11, x12, rfl, hs1⟩ ⟨rfl, rfl⟩
      refine ⟨_, rfl, st, rfl, hs1, fun va H2 oa ua e2 hs2 ha ra ba1 ba2 => ?_⟩
      refine ⟨_, rfl, st, rfl, hs2, fun vb H3 ob ub e3 hs3 hb rb bb1 bb2 => ?_⟩
      replace ha := ha.but e3 hs2
      have soa := sm38 ba1
      have sua : Sm ua := sm38 (Nat.le_trans ba2 (by decide))
      have sob := sm38 bb1
      have sub : Sm ub := sm38 (Nat.le_trans bb2 (by decide))
      have ua0 : ua ≠ 0 := by have := ra.1; omega
      have ub0 : ub ≠ 0 := by have := rb.1; omega
      refine ⟨_, _, rfl, ?_⟩
      refine ⟨_, rfl, _, rfl, _, rfl, by show 4 ≤ sizeLine; decide, fun p n4 => ?_⟩
      generalize q4 : upd H3 p _ = H4
      have h4 := nAt q4
      have e4 := nSm q4 n4
      have hs4 := hs3.same e4
      refine ⟨st, p, _, rfl, hs4, h4, rfl, by decide, by decide, fun H5 v e5 hs5 hv => ?_⟩
      obtain ⟨sg, rfl, hsg, hsb⟩ : ∃ sg : Int, v = .int sg ∧ sg ≠ 0 ∧ sg.natAbs ≤ 7 := by
        simp only [List.mem_cons, List.not_mem_nil, or_false] at hv
        rcases hv with rfl | rfl | rfl | rfl <;> exact ⟨_, rfl, by decide, by decide⟩
      have ssg : Sm sg := sm38 (Nat.le_trans hsb (by decide))
      replace ha := (ha.same e4).but e5 hs4
      replace hb := (hb.same e4).but e5 hs4
      obtain ⟨pa, rfl, ha'⟩ := id ha
      obtain ⟨pb, rfl, hb'⟩ := id hb
      refine ⟨_, rfl, pa, _, _, _, rfl, rfl, SqT.of ha', rfl, _, rfl, _, _, rfl, rfl, mulS (by omega), _, rfl, pa, _, _, _, rfl, rfl, SqT.of ha', rfl, _, rfl, _, _, rfl, rfl, mulS (by omega), fun n dn nx nd ne => mkY (Int.mul_ne_zero ua0 hsg) (big_mul sua ssg) nx nd ne (fun H6 e6 hx => ⟨rfl, ?_⟩)⟩
      generalize V.ref n = vx at hx
      obtain ⟨q1, q2⟩ := red_scale ra hsg
      rw [q1, q2] at hx
      have hs6 := hs5.same e6
      replace ha := ha.same e6
      replace hb := hb.same e6
      refine ⟨_, rfl, _, rfl, st, .ref pb, ob, ub, rfl, hs6, hb, rb, sub, fun vy H7 e7 hs7 hy => ?_⟩
      replace ha := ha.but e7 hs6
      replace hb := hb.but e7 hs6
      replace hx := hx.but e7 hs6
      have w7 : Wd K C st (.ref pa) (.ref pb) vx vy oa ua ob ub H7 := ⟨hs7, ha, hb, hx, hy⟩
      clear hs1 hs2 hs3 hs4 hs5 hs6 q1 q2 e2 e3 e4 e5 e6 e7 h4 q4 ha' hb' hs7 ha hb hx hy
      have nq : ∀ o u : Int, (!PyData.eqv (pd (o, u)) (pd (o, u))) = false := fun o u => by
        rw [eqF]
        rfl
      refine ⟨_, rfl, vx, oa, ua, rfl, w7.x, ra, fun v8 H8 e8 h8 => ?_⟩
      have w8 := w7.same e8
      refine ⟨_, rfl, _, _, dpF h8, dpF w8.a, shF _ _, shF _ _, _, rfl, ?_⟩
      rw [nq]
      refine iteF ?_
      obtain ⟨_, ez, ha'⟩ := id w8.a
      cases ez
      refine ⟨_, rfl, pa, _, _, _, rfl, rfl, SqT.of ha', rfl, _, rfl, pa, _, _, _, rfl, rfl, SqT.of ha', rfl, fun n2 dn2 nx2 nd2 ne2 => mkY ua0 sua.big nx2 nd2 ne2 (fun H9 e9 hz => ⟨rfl, ?_⟩)⟩
      obtain ⟨q1, q2⟩ := red_self ra
      rw [q1, q2] at hz
      refine ⟨_, oa, ua, rfl, hz, ra, fun v10 H10 e10 h10 => ?_⟩
      have w10 := (w8.same e9).same e10
      refine ⟨_, rfl, _, _, dpF h10, dpF w10.a, shF _ _, shF _ _, _, rfl, ?_⟩
      rw [nq]
      refine iteF ?_
      clear hz q1 q2 e9 e10 h10 ha' w8 w7 e8 h8
      -- found
      refine ⟨_, rfl, _, rfl, ownB w10.x w10.y soa sua sob sub ua0 ub0 fun r1 K1 g1 f1 => ?_⟩
      have w1 := w10.same g1
      refine ⟨_, rfl, _, rfl, revB (f' := fun o u p q => p * u + o * q) (g' := fun _ u _ q => q * u) (fun _ _ _ _ => rfl) (fun _ _ _ _ => rfl) w1.x w1.y soa sua sob sub ua0 ub0 fun r2 K2 g2 f2 => ?_⟩
      have w2 := w1.same g2
      refine ⟨_, rfl, _, rfl, ownB w2.x w2.y soa sua sob sub ua0 ub0 fun r3 K3 g3 f3 => ?_⟩
      have w3 := w2.same g3
      refine ⟨_, rfl, _, rfl, revB (f' := fun o u p q => p * u - o * q) (g' := fun _ u _ q => q * u) (fun _ _ _ _ => rfl) (fun _ _ _ _ => rfl) w3.x w3.y soa sua sob sub ua0 ub0 fun r4 K4 g4 f4 => ?_⟩
      have w4 := w3.same g4
      refine ⟨_, rfl, _, rfl, ownB w4.x w4.y soa sua sob sub ua0 ub0 fun r5 K5 g5 f5 => ?_⟩
      have w5 := w4.same g5
      refine ⟨_, rfl, _, rfl, revB (f' := fun o _ p _ => p * o) (g' := fun _ u _ q => q * u) (fun _ _ _ _ => rfl) (fun _ _ _ _ => rfl) w5.x w5.y soa sua sob sub ua0 ub0 fun r6 K6 g6 f6 => ?_⟩
      have w6 := w5.same g6
      refine ⟨_, rfl, negB w6.x sua ua0 fun r7 K7 g7 f7 => ?_⟩
      have w7 := w6.same g7
      refine ⟨by show 7 ≤ sizeLine; decide, fun lf nl => ?_⟩
      generalize q8 : upd K7 lf _ = K8
      have h8 := nAt q8
      have g8 := nSm q8 nl
      have w8 := w7.same g8
      -- minus
      refine ⟨_, rfl, by show 2 ≤ sizeLine; decide, fun pm nm => ?_⟩
      generalize q9 : upd K8 pm _ = K9
      have h9 : IsF K9 (.ref pm) (-1) 1 := ⟨pm, rfl, nAt q9⟩
      have g9 := nSm q9 nm
      have w9 := w8.same g9
      have s1 : Sm (-1) := sm38 (by decide)
      have s2 : Sm 1 := sm38 (by decide)
      have muu : ua * ub ≠ 0 := Int.mul_ne_zero ua0 ub0
      have nb : rO (-1 * ob) (1 * ub) = -ob ∧ rD (-1 * ob) (1 * ub) = ub := by
        rw [Int.neg_one_mul, Int.one_mul]
        exact red_self (red_neg rb)
      have na : rO (-1 * oa) (1 * ua) = -oa ∧ rD (-1 * oa) (1 * ua) = ua := by
        rw [Int.neg_one_mul, Int.one_mul]
        exact red_self (red_neg ra)
      have snob : Sm (-ob) := by rw [show Sm (-ob) ↔ Sm ob by simp [Sm]]; exact sob
      have snoa : Sm (-oa) := by rw [show Sm (-oa) ↔ Sm oa by simp [Sm]]; exact soa
      -- due
      refine ⟨_, rfl, _, rfl, _, _, oa, ua, ob, ub, rfl, w9.a, w9.b, soa, sua, sob, sub, muu, fun d1 J1 j1 t1 => ?_⟩
      have w1 := w9.same j1
      refine ⟨_, rfl, _, rfl, _, _, oa, ua, ob, ub, rfl, w1.a, w1.b, soa, sua, sob, sub, muu, fun d2 J2 j2 t2 => ?_⟩
      have w2 := w1.same j2
      refine ⟨_, rfl, _, rfl, _, rfl, _, _, -1, 1, ob, ub, rfl, (h9.same j1).same j2, w2.b, s1, s2, sob, sub, (show (1 * ub : Int) ≠ 0 by omega), fun m3 J3 j3 t3 => ?_⟩
      have w3 := w2.same j3
      have t3' : IsF J3 m3 (-ob) ub := by
        have z : IsF J3 m3 (rO (-1 * ob) (1 * ub)) (rD (-1 * ob) (1 * ub)) := t3
        rw [nb.1, nb.2] at z
        exact z
      refine ⟨_, _, oa, ua, -ob, ub, rfl, w3.a, t3', soa, sua, snob, sub, muu, fun d3 J4 j4 t4 => ?_⟩
      have w4 := w3.same j4
      refine ⟨_, rfl, _, rfl, _, rfl, _, _, -1, 1, oa, ua, rfl, (((h9.same j1).same j2).same j3).same j4, w4.a, s1, s2, soa, sua, (show (1 * ua : Int) ≠ 0 by omega), fun m5 J5 j5 t5 => ?_⟩
      have w5 := w4.same j5
      have t5' : IsF J5 m5 (-oa) ua := by
        have z : IsF J5 m5 (rO (-1 * oa) (1 * ua)) (rD (-1 * oa) (1 * ua)) := t5
        rw [na.1, na.2] at z
        exact z
      refine ⟨_, _, ob, ub, -oa, ua, rfl, w5.b, t5', sob, sub, snoa, sua, Int.mul_ne_zero ub0 ua0, fun d4 J6 j6 t6 => ?_⟩
      have w6 := w5.same j6
      refine ⟨by show 4 ≤ sizeLine; decide, fun ld nld => ?_⟩
      generalize q7 : upd J6 ld _ = J7
      have h7 := nAt q7
      have j7 := nSm q7 nld
      have w7 := w6.same j7
      have e37 : Same K9 J7 := ((((((j1.trans j2).trans j3).trans j4).trans j5).trans j6).trans j7)
      -- due + [..]
      refine ⟨_, rfl, _, rfl, _, rfl, _, _, oa, ua, ob, ub, rfl, w7.a, w7.b, soa, sua, sob, sub, muu, fun d5 L1 l1 u1 => ?_⟩
      have v1 := w7.same l1
      refine ⟨_, rfl, _, rfl, _, _, oa, ua, ob, ub, rfl, v1.a, v1.b, soa, sua, sob, sub, muu, fun d6 L2 l2 u2 => ?_⟩
      have v2 := v1.same l2
      refine ⟨_, rfl, _, rfl, _, _, -1, 1, oa, ua, rfl, (h9.same e37).same (l1.trans l2), v2.a, s1, s2, soa, sua, (show (1 * ua : Int) ≠ 0 by omega), fun d7 L3 l3 u3 => ?_⟩
      have v3 := v2.same l3
      refine ⟨by show 3 ≤ sizeLine; decide, fun le nle => ?_⟩
      generalize q4 : upd L3 le _ = L4
      have h4 := nAt q4
      have l4 := nSm q4 nle
      have v4 := v3.same l4
      have e74 : Same J7 L4 := ((l1.trans l2).trans l3).trans l4
      refine ⟨ld, le, _, _, rfl, rfl, e74 _ _ h7, h4, by show 7 ≤ sizeLine; decide, fun lg nlg => ?_⟩
      generalize q5 : upd L4 lg _ = L5
      have h5 := nAt q5
      have l5 := nSm q5 nlg
      have v5 := v4.same l5
      have eK : Same K8 L5 := (g9.trans e37).trans (e74.trans l5)
      let ps : List (Int × Int) := [(rO (oa * ub + ob * ua) (ua * ub), rD (oa * ub + ob * ua) (ua * ub)), (rO (oa * ub + ob * ua) (ua * ub), rD (oa * ub + ob * ua) (ua * ub)), (rO (oa * ub + -ob * ua) (ua * ub), rD (oa * ub + -ob * ua) (ua * ub)),
        (rO (ob * ua + -oa * ub) (ub * ua), rD (ob * ua + -oa * ub) (ub * ua)), (rO (oa * ob) (ua * ub), rD (oa * ob) (ua * ub)), (rO (oa * ob) (ua * ub), rD (oa * ob) (ua * ub)), (rO (-1 * oa) (1 * ua), rD (-1 * oa) (1 * ua))]
      have hdue : AllF L5 [d1, d2, d3, d4, d5, d6, d7] ps := by
        have k2 : Same J6 L5 := j7.trans (e74.trans l5)
        have k1 : Same J4 L5 := (j5.trans j6).trans k2
        have k0 : Same J2 L5 := (j3.trans j4).trans k1
        exact ⟨t1.same (j2.trans k0), t2.same k0, t4.same k1, t6.same k2, u1.same ((l2.trans l3).trans (l4.trans l5)), u2.same (l3.trans (l4.trans l5)), u3.same (l4.trans l5), trivial⟩
      have f1' : IsX C L5 r1 (rO (oa * ub + ob * ua) (ua * ub)) (rD (oa * ub + ob * ua) (ua * ub)) := f1.same ((((((g2.trans g3).trans g4).trans g5).trans g6).trans g7).trans (g8.trans eK))
      have f2' : IsX C L5 r2 (rO (oa * ub + ob * ua) (ua * ub)) (rD (oa * ub + ob * ua) (ua * ub)) := by
        have z : IsX C K2 r2 (rO (ob * ua + oa * ub) (ub * ua)) (rD (ob * ua + oa * ub) (ub * ua)) := f2
        rw [Int.add_comm (ob * ua), Int.mul_comm ub ua] at z
        exact z.same (((((g3.trans g4).trans g5).trans g6).trans g7).trans (g8.trans eK))
      have f3' : IsX C L5 r3 (rO (oa * ub + -ob * ua) (ua * ub)) (rD (oa * ub + -ob * ua) (ua * ub)) := by
        have z : IsX C K3 r3 (rO (oa * ub - ob * ua) (ua * ub)) (rD (oa * ub - ob * ua) (ua * ub)) := f3
        rw [Int.neg_mul, ← Int.sub_eq_add_neg]
        exact z.same ((((g4.trans g5).trans g6).trans g7).trans (g8.trans eK))
      have f4' : IsX C L5 r4 (rO (ob * ua + -oa * ub) (ub * ua)) (rD (ob * ua + -oa * ub) (ub * ua)) := by
        have z : IsX C K4 r4 (rO (ob * ua - oa * ub) (ub * ua)) (rD (ob * ua - oa * ub) (ub * ua)) := f4
        rw [Int.neg_mul, ← Int.sub_eq_add_neg]
        exact z.same (((g5.trans g6).trans g7).trans (g8.trans eK))
      have f5' : IsX C L5 r5 (rO (oa * ob) (ua * ub)) (rD (oa * ob) (ua * ub)) := f5.same ((g6.trans g7).trans (g8.trans eK))
      have f6' : IsX C L5 r6 (rO (oa * ob) (ua * ub)) (rD (oa * ob) (ua * ub)) := by
        have z : IsX C K6 r6 (rO (ob * oa) (ub * ua)) (rD (ob * oa) (ub * ua)) := f6
        rw [Int.mul_comm ob oa, Int.mul_comm ub ua] at z
        exact z.same (g7.trans (g8.trans eK))
      have f7' : IsX C L5 r7 (rO (-1 * oa) (1 * ua)) (rD (-1 * oa) (1 * ua)) := by
        rw [Int.neg_one_mul, Int.one_mul]
        exact f7.same (g8.trans eK)
      have mvv : ub * ua ≠ 0 := Int.mul_ne_zero ub0 ua0
      have hall : ∀ (i : Nat) (x : V), [r1, r2, r3, r4, r5, r6, r7][i]? = some x → ∃ p : Int × Int, ps[i]? = some p ∧ IsX C L5 x p.1 p.2 ∧ Red p.1 p.2 := by
        intro i x hx
        rcases i with _ | _ | _ | _ | _ | _ | _ | i
        · cases hx; exact ⟨_, rfl, f1', red_of muu⟩
        · cases hx; exact ⟨_, rfl, f2', red_of muu⟩
        · cases hx; exact ⟨_, rfl, f3', red_of muu⟩
        · cases hx; exact ⟨_, rfl, f4', red_of mvv⟩
        · cases hx; exact ⟨_, rfl, f5', red_of muu⟩
        · cases hx; exact ⟨_, rfl, f6', red_of muu⟩
        · cases hx; exact ⟨_, rfl, f7', red_of (by omega)⟩
        · cases hx
      have hlf : L5 lf = some (.lst [r1, r2, r3, r4, r5, r6, r7]) := eK _ _ h8
      clear f1 f2 f3 f4 f5 f6 f7 f1' f2' f3' f4' f5' f6' f7' t1 t2 t3 t4 t5 t6 u1 u2 u3 t3' t5' g1 g2 g3 g4 g5 g6 g7 g8 g9 j1 j2 j3 j4 j5 j6 j7 l1 l2 l3 l4 l5 w1 w2 w3 w4 w5 w6 w7 w8 w9 v1 v2 v3 v4 w10 h4 h7 h9 eK e37 e74
      refine ⟨_, rfl, lf, rfl, ⟨_, SqL.of hlf⟩, fun D nD => ?_⟩
      refine lc_it (walk_list (xs := [r1, r2, r3, r4, r5, r6, r7])) (fun i H' => Same L5 H' ∧ ∃ fs, H' D = some (.lst fs) ∧ AllF H' fs (ps.take i)) ⟨Same.new nD, [], upd_same, trivial⟩ (fun i H2 _ ⟨e2, _⟩ => SqL.of (e2 _ _ hlf)) ?_ ?_
      · rintro i x H2 H3 hi ⟨e2, fs, hD, hF⟩ ⟨rfl, hx⟩
        obtain ⟨p, hp, hX, hR⟩ := hall i x hx
        refine ⟨rfl, ?_⟩
        refine ⟨_, rfl, x, p.1, p.2, rfl, hX.same e2, hR, fun v H4 e4 h4 => ⟨fs, e4 _ _ hD, ?_, fun b o hb => ?_, fs ++ [v], upd_same, ?_⟩⟩
        · rw [hF.len, List.length_take]
          exact Nat.lt_of_le_of_lt (Nat.min_le_right _ _) (show 7 < sizeLine by decide)
        · rw [upd_ne (ne_of_none hb nD)]
          exact e4 _ _ (e2 _ _ hb)
        · rw [List.take_succ, hp]
          exact AllF.upd (e4 _ _ hD) ((hF.same e4).snoc h4)
      · rintro H2 ⟨e2, fs, hD, hF⟩
        have hF' : AllF H2 fs ps := hF
        have sh : SeqAt.shaped (.list (ps.map pd)) = true := rfl
        refine ⟨_, rfl, _, _, Dp.lst (SqL.of hD) hF'.dp, Dp.lst (SqL.of (e2 _ _ h5)) (hdue.same e2).dp, sh, sh, _, rfl, ?_⟩
        have ne : (!PyData.eqv (.list (ps.map pd)) (.list (ps.map pd))) = false := by
          simp only [PyData.eqv, eqFs ps]
          rfl
        rw [ne]
        refine iteF ?_
        have w2 := v5.same e2
        clear hF hF' sh ne hdue hall hlf h5 hD
        refine ⟨fun σ' H' => σ' = [some (.ref sc), some (.ref st), some (.int (0 + (i : Nat))), some (.ref pa), some (.ref pb), some (.int sg), some vx, some vy, some (.ref lf), some (.ref pm), some (.ref lg), x11, x12] ∧ Wd K C st (.ref pa) (.ref pb) vx vy oa ua ob ub H', ?_, ?_⟩
        · obtain ⟨_, ez, hb'⟩ := id w2.b
          cases ez
          refine ⟨_, rfl, pb, _, _, _, rfl, rfl, SqT.of hb', rfl, rfl, _, rfl, ?_⟩
          by_cases hob : ob = 0
          · have z : (!decide (V.int ob = V.int 0)) = false := by simp [hob]
            rw [z]
            exact iteF (iteF ⟨rfl, w2⟩)
          · have z : (!decide (V.int ob = V.int 0)) = true := by simp [hob]
            rw [z]
            refine iteT ?_
            obtain ⟨xa, xd, rfl, hx'⟩ := id w2.x
            have mab : ua * ob ≠ 0 := Int.mul_ne_zero ua0 hob
            refine ⟨_, rfl, xa, xd, _, rfl, hx', rfl, _, rfl, _, _, oa, ua, ob, ub, rfl, w2.x, w2.y, soa, sua, sob, sub, ua0, hob, fun v3 H3 e3 h3 => ?_⟩
            refine ⟨_, _, _, rfl, h3, red_of mab, fun v4 H4 e4 h4 => ?_⟩
            have w4 := (w2.same e3).same e4
            have hb4 := e4 _ _ (e3 _ _ hb')
            refine ⟨_, rfl, _, rfl, pb, _, _, _, rfl, rfl, SqT.of hb4, rfl, _, rfl, pb, _, _, _, rfl, rfl, SqT.of hb4, rfl, by show 2 ≤ sizeLine; decide, fun pt npt => ?_⟩
            generalize q5 : upd H4 pt _ = H5
            have h5 : IsF H5 (.ref pt) ub ob := ⟨pt, rfl, nAt q5⟩
            have e5 := nSm q5 npt
            have w5 := w4.same e5
            refine ⟨_, _, oa, ua, ub, ob, rfl, w5.a, h5, soa, sua, sub, sob, mab, fun v6 H6 e6 h6 => ?_⟩
            refine ⟨_, _, dpF ((h4.same e5).same e6), dpF h6, shF _ _, shF _ _, _, rfl, ?_⟩
            rw [nq]
            exact iteF ⟨rfl, w5.same e6⟩
        · rintro σ' H7 ⟨rfl, w7⟩
          obtain ⟨_, ez, hb7⟩ := id w7.b
          cases ez
          refine ⟨_, rfl, vx, oa, ua, rfl, .inr w7.x, fun t1 M1 m1 y1 => ?_⟩
          refine ⟨_, rfl, vy, ob, ub, rfl, w7.y.same m1, fun t2 M2 m2 y2 => ?_⟩
          have hb2 := m2 _ _ (m1 _ _ hb7)
          refine ⟨_, rfl, pb, _, _, _, rfl, rfl, SqT.of hb2, rfl, fun n3 dn3 nx3 nd3 ne3 => mkY (by decide) s2.big nx3 nd3 ne3 (fun M3 m3 hz => ⟨rfl, ?_⟩)⟩
          obtain ⟨q1, q2⟩ := red_self (red_one ob)
          rw [q1, q2] at hz
          refine ⟨_, ob, 1, rfl, .inr hz, fun t3 M4 m4 y3 => ?_⟩
          have y3' : t3 = .int ob := by
            rcases y3 with ⟨_, e⟩ | ⟨n, _⟩
            · exact e
            · exact absurd rfl n
          subst y3'
          refine ⟨by show 3 ≤ sizeLine; decide, fun lt nlt => ?_⟩
          generalize q5 : upd M4 lt _ = M5
          have h5 := nAt q5
          have m5 := nSm q5 nlt
          have a5 : Same H7 M5 := ((m1.trans m2).trans m3).trans (m4.trans m5)
          have w5 := w7.same a5
          refine ⟨_, rfl, _, rfl, _, oa, ua, rfl, w5.a, ra, sua.big, fun c1 M6 m6 z1 => ?_⟩
          refine ⟨_, rfl, _, ob, ub, rfl, w5.b.same m6, rb, sub.big, fun c2 M7 m7 z2 => ?_⟩
          have hb7' := m7 _ _ (m6 _ _ (a5 _ _ hb7))
          refine ⟨_, rfl, pb, _, _, _, rfl, rfl, SqT.of hb7', rfl, by show 3 ≤ sizeLine; decide, fun lu nlu => ?_⟩
          generalize q8 : upd M7 lu _ = M8
          have h8 := nAt q8
          have m8 := nSm q8 nlu
          refine ⟨lt, lu, _, _, rfl, ((m6.trans m7).trans m8) _ _ h5, h8, rfl, (show 3 ≤ 100 by decide), ?_, fun M9 m9 => ⟨_, rfl, iteF ?_⟩⟩
          · intro i x y hx hy
            rcases i with _ | _ | _ | i
            · cases hx; cases hy
              exact TN.sameN (y1.same ((((m2.trans m3).trans (m4.trans m5)).trans (m6.trans m7)).trans m8)) (z1.same (m7.trans m8))
            · cases hx; cases hy
              exact TN.sameN (y2.same (((m3.trans (m4.trans m5)).trans (m6.trans m7)).trans m8)) (z2.same m8)
            · cases hx; cases hy
              exact .inl ⟨ob, rfl, rfl⟩
            · cases hx
          · exact ⟨_, _, _, _, _, _, _, _, _, _, _, rfl, (w5.s.same ((m6.trans m7).trans m8)).same m9⟩
    · rintro σ H' ⟨_, _, _, _, _, _, _, _, _, _, _, rfl, _⟩
      exact k _
end
end LW
set_option Elab.async false
set_option linter.all false
set_option maxRecDepth 100000
set_option maxHeartbeats 0
namespace LW
open PySem PySem.Spec PyProof.Rows L2 LV LM
def dd_is_integer : He.DefD := ⟨("is_integer", none), "is_integer", "is_integer", defArgs s_is_integer, defBody s_is_integer, defScope s_is_integer, [], []⟩
def dd_common : He.DefD := ⟨("common", none), "common", "common", defArgs s_common, defBody s_common, defScope s_common, [], []⟩
def dd_Exact___init__ : He.DefD := ⟨("Exact", some "__init__"), "__init__", "Exact.__init__", defArgs s_Exact___init__, defBody s_Exact___init__, defScope s_Exact___init__, [.int 1], []⟩
def dd_part_of : He.DefD := ⟨("part_of", none), "part_of", "part_of", defArgs s_part_of, defBody s_part_of, defScope s_part_of, [], []⟩
def dd_Exact___add__ : He.DefD := ⟨("Exact", some "__add__"), "__add__", "Exact.__add__", defArgs s_Exact___add__, defBody s_Exact___add__, defScope s_Exact___add__, [], []⟩
def dd_Exact___sub__ : He.DefD := ⟨("Exact", some "__sub__"), "__sub__", "Exact.__sub__", defArgs s_Exact___sub__, defBody s_Exact___sub__, defScope s_Exact___sub__, [], []⟩
def dd_Exact___mul__ : He.DefD := ⟨("Exact", some "__mul__"), "__mul__", "Exact.__mul__", defArgs s_Exact___mul__, defBody s_Exact___mul__, defScope s_Exact___mul__, [], []⟩
def dd_Exact___radd__ : He.DefD := ⟨("Exact", some "__radd__"), "__radd__", "Exact.__radd__", defArgs s_Exact___radd__, defBody s_Exact___radd__, defScope s_Exact___radd__, [], []⟩
def dd_Exact___rsub__ : He.DefD := ⟨("Exact", some "__rsub__"), "__rsub__", "Exact.__rsub__", defArgs s_Exact___rsub__, defBody s_Exact___rsub__, defScope s_Exact___rsub__, [], []⟩
def dd_Exact___rmul__ : He.DefD := ⟨("Exact", some "__rmul__"), "__rmul__", "Exact.__rmul__", defArgs s_Exact___rmul__, defBody s_Exact___rmul__, defScope s_Exact___rmul__, [], []⟩
def dd_Exact_by : He.DefD := ⟨("Exact", some "by"), "by", "Exact.by", defArgs s_Exact_by, defBody s_Exact_by, defScope s_Exact_by, [], []⟩
def dd_Exact___neg__ : He.DefD := ⟨("Exact", some "__neg__"), "__neg__", "Exact.__neg__", defArgs s_Exact___neg__, defBody s_Exact___neg__, defScope s_Exact___neg__, [], []⟩
def dd_plain : He.DefD := ⟨("plain", none), "plain", "plain", defArgs s_plain, defBody s_plain, defScope s_plain, [], []⟩
def dd__law_fresh : He.DefD := ⟨("_law_fresh", none), "_law_fresh", "_law_fresh", defArgs s__law_fresh, defBody s__law_fresh, defScope s__law_fresh, [], []⟩
def dd__law_fill : He.DefD := ⟨("_law_fill", none), "_law_fill", "_law_fill", defArgs s__law_fill, defBody s__law_fill, defScope s__law_fill, [], []⟩
def dd__law_take : He.DefD := ⟨("_law_take", none), "_law_take", "_law_take", defArgs s__law_take, defBody s__law_take, defScope s__law_take, [], []⟩
def dd__law_one : He.DefD := ⟨("_law_one", none), "_law_one", "_law_one", defArgs s__law_one, defBody s__law_one, defScope s__law_one, [], []⟩
def dd__law_same : He.DefD := ⟨("_law_same", none), "_law_same", "_law_same", defArgs s__law_same, defBody s__law_same, defScope s__law_same, [], []⟩
def dd__law_gcd : He.DefD := ⟨("_law_gcd", none), "_law_gcd", "_law_gcd", defArgs s__law_gcd, defBody s__law_gcd, defScope s__law_gcd, [], []⟩
def dd__law_frac : He.DefD := ⟨("_law_frac", none), "_law_frac", "_law_frac", defArgs s__law_frac, defBody s__law_frac, defScope s__law_frac, [], []⟩
def dd__law_add : He.DefD := ⟨("_law_add", none), "_law_add", "_law_add", defArgs s__law_add, defBody s__law_add, defScope s__law_add, [], []⟩
def dd__law_mul : He.DefD := ⟨("_law_mul", none), "_law_mul", "_law_mul", defArgs s__law_mul, defBody s__law_mul, defScope s__law_mul, [], []⟩
def dd__law_as_number : He.DefD := ⟨("_law_as_number", none), "_law_as_number", "_law_as_number", defArgs s__law_as_number, defBody s__law_as_number, defScope s__law_as_number, [], []⟩
def dd__law_plain : He.DefD := ⟨("_law_plain", none), "_law_plain", "_law_plain", defArgs s__law_plain, defBody s__law_plain, defScope s__law_plain, [], []⟩
def dd__law_is_told : He.DefD := ⟨("_law_is_told", none), "_law_is_told", "_law_is_told", defArgs s__law_is_told, defBody s__law_is_told, defScope s__law_is_told, [], []⟩
def dd__law_some_frac : He.DefD := ⟨("_law_some_frac", none), "_law_some_frac", "_law_some_frac", defArgs s__law_some_frac, defBody s__law_some_frac, defScope s__law_some_frac, [], []⟩
def dd__law_as_exact : He.DefD := ⟨("_law_as_exact", none), "_law_as_exact", "_law_as_exact", defArgs s__law_as_exact, defBody s__law_as_exact, defScope s__law_as_exact, [], []⟩
def dd_law : He.DefD := ⟨("law", none), "law", "law", defArgs s_law, defBody s_law, defScope s_law, [], []⟩
def fnL : List He.DefD := [dd_is_integer, dd_common, dd_Exact___init__, dd_part_of, dd_Exact___add__, dd_Exact___sub__, dd_Exact___mul__, dd_Exact___radd__, dd_Exact___rsub__, dd_Exact___rmul__, dd_Exact_by, dd_Exact___neg__, dd_plain, dd__law_fresh, dd__law_fill, dd__law_take, dd__law_one, dd__law_same, dd__law_gcd, dd__law_frac, dd__law_add, dd__law_mul, dd__law_as_number, dd__law_plain, dd__law_is_told, dd__law_some_frac, dd__law_as_exact, dd_law]
def faL : List He.Fa := [.free "len", .free "int", .free "enumerate", .free "isinstance", .free "zip", .free "all", .free "range", .free "list", .free "tuple", .free "bool", .glo "Exact", .cls "Exact", .noat "Exact" "over", .noat "Exact" "under", .mkr "Exact", .glo "is_integer", .glo "common", .glo "part_of", .meth "Exact" "__add__", .meth "Exact" "__sub__", .meth "Exact" "__mul__", .meth "Exact" "__radd__", .meth "Exact" "__rsub__", .meth "Exact" "__rmul__", .meth "Exact" "by", .meth "Exact" "__neg__", .glo "plain", .glo "_law_fresh", .glo "_law_fill", .glo "_law_take", .glo "_law_one", .glo "_law_same", .glo "_law_gcd", .glo "_law_frac", .glo "_law_add", .glo "_law_mul", .glo "_law_as_number", .glo "_law_plain", .glo "_law_is_told", .glo "_law_some_frac", .glo "_law_as_exact", .glo "law"]
def loose0 : List PySem.Str := ["_wall", "LevelError", "BadPart", "is_integer", "is_number", "common", "Exact", "part_of", "plain", "_law_fresh", "_law_fill", "_law_take", "_law_one", "_law_same", "_law_gcd", "_law_frac", "_law_add", "_law_mul", "_law_as_number", "_law_plain", "_law_is_told", "_law_some_frac", "_law_as_exact"]
abbrev looseL : List PySem.Str := loose0
abbrev lawI : Nat := 26
/-- what else is looked at -/
def exB (K : PySem.W.Frag) : Bool :=
  (PySem.W.selfFirst K (He.ga K "Exact") && decide (PySem.W.subIn K (.type "int") (.ref (He.ga K "Exact")) = some false) && decide (PySem.W.subIn K (.ref (He.ga K "Exact")) (.type "int") = some false)) &&
  (decide (PySem.W.findIn K (.ref (He.ga K "Exact")) "__class__" = some (some (.builtin "object.__class__"))) && decide (PySem.W.specialIn K (.builtin "object.__class__") "__get__" = some (some (.builtin "getset_descriptor.__get__"))) && decide (PySem.W.takesIn K (.builtin "object.__class__") = some true) && decide (PySem.W.mroIn K (He.ga K "Exact") (.type "object") = some true)) &&
  (decide (PySem.W.kitOne K (.ref (He.ga K "Exact")) (.type "int") = some false) && decide (PySem.W.kitOne K (.ref (He.ga K "Exact")) (.type "bool") = some false) && decide (PySem.W.kitOne K (.ref (He.ga K "Exact")) (.type "list") = some false) && decide (PySem.W.kitOne K (.ref (He.ga K "Exact")) (.type "tuple") = some false)) &&
  (decide (PySem.W.kitOne K (.type "int") (.ref (He.ga K "Exact")) = some false) && decide (PySem.W.kitOne K (.type "list") (.ref (He.ga K "Exact")) = some false) && decide (PySem.W.kitOne K (.type "tuple") (.ref (He.ga K "Exact")) = some false))
abbrev R : PySem.W.OpenRow := PySem.W.OpenLaw.row PySem.Challenge.rw_surelevels_k02_numbers_told
abbrev hk : PySem.W.Hook := He.hookX 5 faL fnL [] [] exB
def ob (s : PySem.W.SharedT) : He.AlX := He.obsX 5 faL fnL [] [] exB (HandSHeadRun.getT s)
theorem ob_eq (s : PySem.W.SharedT) : ob s = hk.obs s.abs := He.obsX_eq (HandSHeadRun.getT_eq s)
theorem run (w : World) : HandSHeadRun.RunEq R (PySem.W.view R.prog [lawI]) hk ob 20000 looseL w := by
  intro os
  kernel_rfl
theorem facts {P : Program} {w : World} {K : PySem.W.Frag} {h : Heap} {mg : Str → Option Value} {fl : Addr} (XK : K.In h) (G : h.Ns mainGlobals mg) (hfa : mg ("law" : Str) = some (.ref fl)) (c : He.SaysX faL fnL [] [] exB w h K) :
    ∃ fd : FuncData, (∀ (s : Shared) (v : Value), BindsTo s fd ⟨[v], []⟩ [("_law_script", v)]) ∧ ∀ base : Heap, K.In base → base.Ns mainGlobals mg → FnOk P w K mg base CX0 7 fl fd ["_law_script"] (spLaw K) := by
  have dS := c.t.d
  have hex := c.more
  obtain ⟨fd_is_integer, F_is_integer⟩ := dS.def_ 0 (d := dd_is_integer) rfl
  have b_is_integer := FunD.bindsN (ps := ["thing"]) F_is_integer fun _ _ _ _ _ _ us hl => match us, hl with | [_], _ => rfl
  have g_is_integer := He.glo_ok XK G (dS.fact 15 (f := .glo "is_integer") rfl)
  obtain ⟨fd_common, F_common⟩ := dS.def_ 1 (d := dd_common) rfl
  have b_common := FunD.bindsN (ps := ["a", "b"]) F_common fun _ _ _ _ _ _ us hl => match us, hl with | [_, _], _ => rfl
  have g_common := He.glo_ok XK G (dS.fact 16 (f := .glo "common") rfl)
  obtain ⟨fd_Exact___init__, F_Exact___init__⟩ := dS.def_ 2 (d := dd_Exact___init__) rfl
  obtain ⟨fd_part_of, F_part_of⟩ := dS.def_ 3 (d := dd_part_of) rfl
  have b_part_of := FunD.bindsN (ps := ["other"]) F_part_of fun _ _ _ _ _ _ us hl => match us, hl with | [_], _ => rfl
  have g_part_of := He.glo_ok XK G (dS.fact 17 (f := .glo "part_of") rfl)
  obtain ⟨fd_Exact___add__, F_Exact___add__⟩ := dS.def_ 4 (d := dd_Exact___add__) rfl
  have b_Exact___add__ := FunD.bindsN (ps := ["self", "other"]) F_Exact___add__ fun _ _ _ _ _ _ us hl => match us, hl with | [_, _], _ => rfl
  have me_Exact___add__ := He.meth_ok (dS.fact 18 (f := .meth "Exact" "__add__") rfl)
  obtain ⟨fd_Exact___sub__, F_Exact___sub__⟩ := dS.def_ 5 (d := dd_Exact___sub__) rfl
  have b_Exact___sub__ := FunD.bindsN (ps := ["self", "other"]) F_Exact___sub__ fun _ _ _ _ _ _ us hl => match us, hl with | [_, _], _ => rfl
  have me_Exact___sub__ := He.meth_ok (dS.fact 19 (f := .meth "Exact" "__sub__") rfl)
  obtain ⟨fd_Exact___mul__, F_Exact___mul__⟩ := dS.def_ 6 (d := dd_Exact___mul__) rfl
  have b_Exact___mul__ := FunD.bindsN (ps := ["self", "other"]) F_Exact___mul__ fun _ _ _ _ _ _ us hl => match us, hl with | [_, _], _ => rfl
  have me_Exact___mul__ := He.meth_ok (dS.fact 20 (f := .meth "Exact" "__mul__") rfl)
  obtain ⟨fd_Exact___radd__, F_Exact___radd__⟩ := dS.def_ 7 (d := dd_Exact___radd__) rfl
  have b_Exact___radd__ := FunD.bindsN (ps := ["self", "other"]) F_Exact___radd__ fun _ _ _ _ _ _ us hl => match us, hl with | [_, _], _ => rfl
  have me_Exact___radd__ := He.meth_ok (dS.fact 21 (f := .meth "Exact" "__radd__") rfl)
  obtain ⟨fd_Exact___rsub__, F_Exact___rsub__⟩ := dS.def_ 8 (d := dd_Exact___rsub__) rfl
  have b_Exact___rsub__ := FunD.bindsN (ps := ["self", "other"]) F_Exact___rsub__ fun _ _ _ _ _ _ us hl => match us, hl with | [_, _], _ => rfl
  have me_Exact___rsub__ := He.meth_ok (dS.fact 22 (f := .meth "Exact" "__rsub__") rfl)
  obtain ⟨fd_Exact___rmul__, F_Exact___rmul__⟩ := dS.def_ 9 (d := dd_Exact___rmul__) rfl
  have b_Exact___rmul__ := FunD.bindsN (ps := ["self", "other"]) F_Exact___rmul__ fun _ _ _ _ _ _ us hl => match us, hl with | [_, _], _ => rfl
  have me_Exact___rmul__ := He.meth_ok (dS.fact 23 (f := .meth "Exact" "__rmul__") rfl)
  obtain ⟨fd_Exact_by, F_Exact_by⟩ := dS.def_ 10 (d := dd_Exact_by) rfl
  have b_Exact_by := FunD.bindsN (ps := ["self", "other"]) F_Exact_by fun _ _ _ _ _ _ us hl => match us, hl with | [_, _], _ => rfl
  have me_Exact_by := He.meth_ok (dS.fact 24 (f := .meth "Exact" "by") rfl)
  obtain ⟨fd_Exact___neg__, F_Exact___neg__⟩ := dS.def_ 11 (d := dd_Exact___neg__) rfl
  have b_Exact___neg__ := FunD.bindsN (ps := ["self"]) F_Exact___neg__ fun _ _ _ _ _ _ us hl => match us, hl with | [_], _ => rfl
  have me_Exact___neg__ := He.meth_ok (dS.fact 25 (f := .meth "Exact" "__neg__") rfl)
  obtain ⟨fd_plain, F_plain⟩ := dS.def_ 12 (d := dd_plain) rfl
  have b_plain := FunD.bindsN (ps := ["number"]) F_plain fun _ _ _ _ _ _ us hl => match us, hl with | [_], _ => rfl
  have g_plain := He.glo_ok XK G (dS.fact 26 (f := .glo "plain") rfl)
  obtain ⟨fd__law_fresh, F__law_fresh⟩ := dS.def_ 13 (d := dd__law_fresh) rfl
  have b__law_fresh := FunD.bindsN (ps := ["_law_script"]) F__law_fresh fun _ _ _ _ _ _ us hl => match us, hl with | [_], _ => rfl
  have g__law_fresh := He.glo_ok XK G (dS.fact 27 (f := .glo "_law_fresh") rfl)
  obtain ⟨fd__law_fill, F__law_fill⟩ := dS.def_ 14 (d := dd__law_fill) rfl
  have b__law_fill := FunD.bindsN (ps := ["_law_state"]) F__law_fill fun _ _ _ _ _ _ us hl => match us, hl with | [_], _ => rfl
  have g__law_fill := He.glo_ok XK G (dS.fact 28 (f := .glo "_law_fill") rfl)
  obtain ⟨fd__law_take, F__law_take⟩ := dS.def_ 15 (d := dd__law_take) rfl
  have b__law_take := FunD.bindsN (ps := ["_law_state", "_law_many"]) F__law_take fun _ _ _ _ _ _ us hl => match us, hl with | [_, _], _ => rfl
  have g__law_take := He.glo_ok XK G (dS.fact 29 (f := .glo "_law_take") rfl)
  obtain ⟨fd__law_one, F__law_one⟩ := dS.def_ 16 (d := dd__law_one) rfl
  have b__law_one := FunD.bindsN (ps := ["_law_state", "_law_things"]) F__law_one fun _ _ _ _ _ _ us hl => match us, hl with | [_, _], _ => rfl
  have g__law_one := He.glo_ok XK G (dS.fact 30 (f := .glo "_law_one") rfl)
  obtain ⟨fd__law_same, F__law_same⟩ := dS.def_ 17 (d := dd__law_same) rfl
  have b__law_same := FunD.bindsN (ps := ["_law_found", "_law_due"]) F__law_same fun _ _ _ _ _ _ us hl => match us, hl with | [_, _], _ => rfl
  have g__law_same := He.glo_ok XK G (dS.fact 31 (f := .glo "_law_same") rfl)
  obtain ⟨fd__law_gcd, F__law_gcd⟩ := dS.def_ 18 (d := dd__law_gcd) rfl
  have b__law_gcd := FunD.bindsN (ps := ["_law_a", "_law_b"]) F__law_gcd fun _ _ _ _ _ _ us hl => match us, hl with | [_, _], _ => rfl
  have g__law_gcd := He.glo_ok XK G (dS.fact 32 (f := .glo "_law_gcd") rfl)
  obtain ⟨fd__law_frac, F__law_frac⟩ := dS.def_ 19 (d := dd__law_frac) rfl
  have b__law_frac := FunD.bindsN (ps := ["_law_over", "_law_under"]) F__law_frac fun _ _ _ _ _ _ us hl => match us, hl with | [_, _], _ => rfl
  have g__law_frac := He.glo_ok XK G (dS.fact 33 (f := .glo "_law_frac") rfl)
  obtain ⟨fd__law_add, F__law_add⟩ := dS.def_ 20 (d := dd__law_add) rfl
  have b__law_add := FunD.bindsN (ps := ["_law_a", "_law_b"]) F__law_add fun _ _ _ _ _ _ us hl => match us, hl with | [_, _], _ => rfl
  have g__law_add := He.glo_ok XK G (dS.fact 34 (f := .glo "_law_add") rfl)
  obtain ⟨fd__law_mul, F__law_mul⟩ := dS.def_ 21 (d := dd__law_mul) rfl
  have b__law_mul := FunD.bindsN (ps := ["_law_a", "_law_b"]) F__law_mul fun _ _ _ _ _ _ us hl => match us, hl with | [_, _], _ => rfl
  have g__law_mul := He.glo_ok XK G (dS.fact 35 (f := .glo "_law_mul") rfl)
  obtain ⟨fd__law_as_number, F__law_as_number⟩ := dS.def_ 22 (d := dd__law_as_number) rfl
  have b__law_as_number := FunD.bindsN (ps := ["_law_state", "_law_a"]) F__law_as_number fun _ _ _ _ _ _ us hl => match us, hl with | [_, _], _ => rfl
  have g__law_as_number := He.glo_ok XK G (dS.fact 36 (f := .glo "_law_as_number") rfl)
  obtain ⟨fd__law_plain, F__law_plain⟩ := dS.def_ 23 (d := dd__law_plain) rfl
  have b__law_plain := FunD.bindsN (ps := ["_law_a"]) F__law_plain fun _ _ _ _ _ _ us hl => match us, hl with | [_], _ => rfl
  have g__law_plain := He.glo_ok XK G (dS.fact 37 (f := .glo "_law_plain") rfl)
  obtain ⟨fd__law_is_told, F__law_is_told⟩ := dS.def_ 24 (d := dd__law_is_told) rfl
  have b__law_is_told := FunD.bindsN (ps := ["_law_x", "_law_due"]) F__law_is_told fun _ _ _ _ _ _ us hl => match us, hl with | [_, _], _ => rfl
  have g__law_is_told := He.glo_ok XK G (dS.fact 38 (f := .glo "_law_is_told") rfl)
  obtain ⟨fd__law_some_frac, F__law_some_frac⟩ := dS.def_ 25 (d := dd__law_some_frac) rfl
  have b__law_some_frac := FunD.bindsN (ps := ["_law_state"]) F__law_some_frac fun _ _ _ _ _ _ us hl => match us, hl with | [_], _ => rfl
  have g__law_some_frac := He.glo_ok XK G (dS.fact 39 (f := .glo "_law_some_frac") rfl)
  obtain ⟨fd__law_as_exact, F__law_as_exact⟩ := dS.def_ 26 (d := dd__law_as_exact) rfl
  have b__law_as_exact := FunD.bindsN (ps := ["_law_x"]) F__law_as_exact fun _ _ _ _ _ _ us hl => match us, hl with | [_], _ => rfl
  have g__law_as_exact := He.glo_ok XK G (dS.fact 40 (f := .glo "_law_as_exact") rfl)
  obtain ⟨fd_law, F_law⟩ := dS.def_ 27 (d := dd_law) rfl
  have b_law := FunD.bindsN (ps := ["_law_script"]) F_law fun _ _ _ _ _ _ us hl => match us, hl with | [_], _ => rfl
  have g_law := He.glo_ok XK G (dS.fact 41 (f := .glo "law") rfl)
  have free_len := He.free_ok XK G (dS.fact 0 (f := .free "len") rfl)
  have free_int := He.free_ok XK G (dS.fact 1 (f := .free "int") rfl)
  have free_enumerate := He.free_ok XK G (dS.fact 2 (f := .free "enumerate") rfl)
  have free_isinstance := He.free_ok XK G (dS.fact 3 (f := .free "isinstance") rfl)
  have free_zip := He.free_ok XK G (dS.fact 4 (f := .free "zip") rfl)
  have free_all := He.free_ok XK G (dS.fact 5 (f := .free "all") rfl)
  have free_range := He.free_ok XK G (dS.fact 6 (f := .free "range") rfl)
  have free_list := He.free_ok XK G (dS.fact 7 (f := .free "list") rfl)
  have free_tuple := He.free_ok XK G (dS.fact 8 (f := .free "tuple") rfl)
  have free_bool := He.free_ok XK G (dS.fact 9 (f := .free "bool") rfl)
  have g_Exact := He.glo_ok XK G (dS.fact 10 (f := .glo "Exact") rfl)
  have cls_Exact := He.cls_ok (dS.fact 11 (f := .cls "Exact") rfl)
  have noat_Exact_over := He.noat_ok (dS.fact 12 (f := .noat "Exact" "over") rfl)
  have noat_Exact_under := He.noat_ok (dS.fact 13 (f := .noat "Exact" "under") rfl)
  have mkr_Exact := He.mkr_ok (dS.fact 14 (f := .mkr "Exact") rfl)
  have e := hfa.symm.trans g_law
  cases e
  have bl := FunD.bindsA (ps := ["_law_script"]) F_law fun _ _ _ _ _ _ us hl => match us, hl with | [_], _ => rfl
  refine ⟨fd_law, fun s v => bl s [v] rfl, fun base _ _ => ?_⟩
  unfold exB at hex
  simp only [Bool.and_eq_true, decide_eq_true_eq] at hex
  obtain ⟨⟨⟨⟨⟨x1, x2⟩, x3⟩, ⟨⟨⟨x4, x5⟩, x6⟩, x7⟩⟩, ⟨⟨⟨x8, x9⟩, x10⟩, x11⟩⟩, ⟨⟨x12, x13⟩, x14⟩⟩ := hex
  have TB : Bt mg := ⟨free_len, free_int, free_enumerate, free_isinstance, free_zip, free_all, free_range, free_list, free_tuple, free_bool⟩
  have T : XC K mg (He.ga K "Exact") := ⟨TB, cls_Exact, noat_Exact_over, noat_Exact_under, ⟨x1, x2, x3⟩, g_Exact, x4, x5, x6, x7, x8, x9, x10, x11, x12, x13, x14, ⟨_, me_Exact___radd__.at_⟩, ⟨_, me_Exact___rsub__.at_⟩, ⟨_, me_Exact___rmul__.at_⟩⟩
  have c_is_integer : C8.Cal P w K mg base 1 "is_integer" (spInt K) [] := ⟨_, _, _, _, ok_is_integer F_is_integer TB, g_is_integer, F_is_integer.kp, b_is_integer, .nil⟩
  have c_common : C8.Cal P w K mg base 1 "common" spGcd [] := ⟨_, _, _, _, ok_common F_common TB, g_common, F_common.kp, b_common, .nil⟩
  have oi := ok_Exact___init__ (P := P) (w := w) (base := base) F_Exact___init__ T c_is_integer c_common
  obtain ⟨ds2, v2, b2⟩ := FunD.binds1 (ps := ["self", "over", "under"]) F_Exact___init__ 3 1 (by simp [dd_Exact___init__, He.DefD.dvs]) rfl (fun _ _ _ _ _ _ _ us its h1 h2 => match us, its, h1, h2 with | [_, _, _], [_], _, _ => ⟨_, rfl, rfl⟩)
  obtain ⟨ds1, v1, b1⟩ := FunD.binds1 (ps := ["self", "over", "under"]) F_Exact___init__ 2 0 (by simp [dd_Exact___init__, He.DefD.dvs]) rfl (fun _ _ _ _ _ _ _ us its h1 h2 => match us, its, h1, h2 with | [_, _], [_], _, _ => ⟨_, rfl, rfl⟩)
  have c_Exact : C8.Mak P w K mg base 2 "Exact" (He.ga K "Exact") (spInit (He.ga K "Exact")) [] := ⟨_, _, _, _, mkr_Exact, oi, g_Exact, b2, v2⟩
  have c_Exact1 : C8.Mak P w K mg base 2 "Exact" (He.ga K "Exact") (spInit (He.ga K "Exact")) [.int 1] := ⟨_, _, _, _, mkr_Exact, oi, g_Exact, b1, v1⟩
  have c_part_of : C8.Cal P w K mg base 4 "part_of" (spPart (He.ga K "Exact")) [] := ⟨_, _, _, _, ok_part_of F_part_of T c_is_integer c_Exact1, g_part_of, F_part_of.kp, b_part_of, .nil⟩
  have oadd := ok_Exact___add__ (P := P) (w := w) (base := base) F_Exact___add__ T c_part_of c_Exact
  have osub := ok_Exact___sub__ (P := P) (w := w) (base := base) F_Exact___sub__ T c_part_of c_Exact
  have omul := ok_Exact___mul__ (P := P) (w := w) (base := base) F_Exact___mul__ T c_part_of c_Exact
  have oneg := ok_Exact___neg__ (P := P) (w := w) (base := base) F_Exact___neg__ T c_Exact
  have madd : ∀ X : Cx, X.prog = P → X.w = w → X.K = K → X.mg = mg → X.base = base → OwnM X 5 (He.ga K "Exact") "__add__" (spAdd (He.ga K "Exact")) := by
    rintro X rfl rfl rfl rfl rfl
    exact ⟨_, _, _, me_Exact___add__.at_, me_Exact___add__.fn, oadd, b_Exact___add__⟩
  have msub : ∀ X : Cx, X.prog = P → X.w = w → X.K = K → X.mg = mg → X.base = base → OwnM X 5 (He.ga K "Exact") "__sub__" (spSub (He.ga K "Exact")) := by
    rintro X rfl rfl rfl rfl rfl
    exact ⟨_, _, _, me_Exact___sub__.at_, me_Exact___sub__.fn, osub, b_Exact___sub__⟩
  have mmul : ∀ X : Cx, X.prog = P → X.w = w → X.K = K → X.mg = mg → X.base = base → OwnM X 5 (He.ga K "Exact") "__mul__" (spMul (He.ga K "Exact")) := by
    rintro X rfl rfl rfl rfl rfl
    exact ⟨_, _, _, me_Exact___mul__.at_, me_Exact___mul__.fn, omul, b_Exact___mul__⟩
  have mneg : ∀ X : Cx, X.prog = P → X.w = w → X.K = K → X.mg = mg → X.base = base → OwnM X 5 (He.ga K "Exact") "__neg__" (spNeg (He.ga K "Exact")) := by
    rintro X rfl rfl rfl rfl rfl
    exact ⟨_, _, _, me_Exact___neg__.at_, me_Exact___neg__.fn, oneg, b_Exact___neg__⟩
  have oradd := ok_Exact___radd__ (P := P) (w := w) (base := base) F_Exact___radd__ T c_part_of madd
  have orsub := ok_Exact___rsub__ (P := P) (w := w) (base := base) F_Exact___rsub__ T c_part_of msub
  have ormul := ok_Exact___rmul__ (P := P) (w := w) (base := base) F_Exact___rmul__ T c_part_of mmul
  have mradd : ∀ X : Cx, X.prog = P → X.w = w → X.K = K → X.mg = mg → X.base = base → OwnM X 6 (He.ga K "Exact") "__radd__" (spRadd (He.ga K "Exact")) := by
    rintro X rfl rfl rfl rfl rfl
    exact ⟨_, _, _, me_Exact___radd__.at_, me_Exact___radd__.fn, oradd, b_Exact___radd__⟩
  have mrsub : ∀ X : Cx, X.prog = P → X.w = w → X.K = K → X.mg = mg → X.base = base → OwnM X 6 (He.ga K "Exact") "__rsub__" (spRsub (He.ga K "Exact")) := by
    rintro X rfl rfl rfl rfl rfl
    exact ⟨_, _, _, me_Exact___rsub__.at_, me_Exact___rsub__.fn, orsub, b_Exact___rsub__⟩
  have mrmul : ∀ X : Cx, X.prog = P → X.w = w → X.K = K → X.mg = mg → X.base = base → OwnM X 6 (He.ga K "Exact") "__rmul__" (spRmul (He.ga K "Exact")) := by
    rintro X rfl rfl rfl rfl rfl
    exact ⟨_, _, _, me_Exact___rmul__.at_, me_Exact___rmul__.fn, ormul, b_Exact___rmul__⟩
  have m_by : C8.Met P w K mg base 5 (He.ga K "Exact") "by" (spBy (He.ga K "Exact")) [] := ⟨_, _, _, _, cls_Exact, me_Exact_by, ok_Exact_by F_Exact_by T c_part_of c_Exact, b_Exact_by, .nil⟩
  have c_plain : C8.Cal P w K mg base 5 "plain" (spPlain (He.ga K "Exact")) [] := ⟨_, _, _, _, ok_plain F_plain T c_part_of, g_plain, F_plain.kp, b_plain, .nil⟩
  have c_fresh : C8.Cal P w K mg base 1 "_law_fresh" (spFresh K) [] := ⟨_, _, _, _, ok_fresh F__law_fresh, g__law_fresh, F__law_fresh.kp, b__law_fresh, .nil⟩
  have c_fill : C8.Cal P w K mg base 1 "_law_fill" (spFill K) [] := ⟨_, _, _, _, ok_fill F__law_fill TB, g__law_fill, F__law_fill.kp, b__law_fill, .nil⟩
  have c_take : C8.Cal P w K mg base 2 "_law_take" (spTake K) [] := ⟨_, _, _, _, ok_take F__law_take TB c_fill, g__law_take, F__law_take.kp, b__law_take, .nil⟩
  have c_one : C8.Cal P w K mg base 3 "_law_one" (spOne K) [] := ⟨_, _, _, _, ok_one F__law_one TB c_take, g__law_one, F__law_one.kp, b__law_one, .nil⟩
  have c_same : C8.Cal P w K mg base 1 "_law_same" spSameI [] := ⟨_, _, _, _, ok__law_same F__law_same TB, g__law_same, F__law_same.kp, b__law_same, .nil⟩
  have c_gcd : C8.Cal P w K mg base 1 "_law_gcd" spGcd [] := ⟨_, _, _, _, ok__law_gcd F__law_gcd TB, g__law_gcd, F__law_gcd.kp, b__law_gcd, .nil⟩
  have c_frac : C8.Cal P w K mg base 2 "_law_frac" spFrac [] := ⟨_, _, _, _, ok__law_frac F__law_frac TB c_gcd, g__law_frac, F__law_frac.kp, b__law_frac, .nil⟩
  have c_add : C8.Cal P w K mg base 3 "_law_add" spFAdd [] := ⟨_, _, _, _, ok__law_add F__law_add TB c_frac, g__law_add, F__law_add.kp, b__law_add, .nil⟩
  have c_mul : C8.Cal P w K mg base 3 "_law_mul" spFMul [] := ⟨_, _, _, _, ok__law_mul F__law_mul TB c_frac, g__law_mul, F__law_mul.kp, b__law_mul, .nil⟩
  have c_asn : C8.Cal P w K mg base 4 "_law_as_number" (spAsNum K (He.ga K "Exact")) [] := ⟨_, _, _, _, ok__law_as_number F__law_as_number T c_take c_Exact, g__law_as_number, F__law_as_number.kp, b__law_as_number, .nil⟩
  have c_lpl : C8.Cal P w K mg base 4 "_law_plain" (spLPlain (He.ga K "Exact")) [] := ⟨_, _, _, _, ok__law_plain F__law_plain T c_Exact, g__law_plain, F__law_plain.kp, b__law_plain, .nil⟩
  have c_tol1 : C8.Cal P w K mg base 2 "_law_is_told" (spToldI (He.ga K "Exact")) [] := ⟨_, _, _, _, ok__law_is_told F__law_is_told T c_same, g__law_is_told, F__law_is_told.kp, b__law_is_told, .nil⟩
  have c_told : C8.Cal P w K mg base 3 "_law_is_told" (spToldL (He.ga K "Exact")) [] := ⟨_, _, _, _, ok__law_is_told_L F__law_is_told T c_tol1, g__law_is_told, F__law_is_told.kp, b__law_is_told, .nil⟩
  have c_some : C8.Cal P w K mg base 4 "_law_some_frac" (spSomeF K) [] := ⟨_, _, _, _, ok__law_some_frac F__law_some_frac TB c_take c_one c_frac, g__law_some_frac, F__law_some_frac.kp, b__law_some_frac, .nil⟩
  have c_asx : C8.Cal P w K mg base 2 "_law_as_exact" (spAsX (He.ga K "Exact")) [] := ⟨_, _, _, _, ok__law_as_exact F__law_as_exact T c_gcd, g__law_as_exact, F__law_as_exact.kp, b__law_as_exact, .nil⟩
  exact ok_law F_law T c_fresh c_some c_one c_Exact c_Exact1 c_asn c_asx madd msub mmul mradd mrsub mrmul mneg m_by c_plain c_told c_lpl c_add c_mul
end LW
open PySem PySem.W PySem.Calls PyProof.Rows
theorem PySem.Challenge.cw_surelevels_k02_numbers_told_holds : PySem.Challenge.rw_surelevels_k02_numbers_told.Holds := by
  w_on; o_law
  refine HandSHeadRun.head_any (r := OpenLaw.row PySem.Challenge.rw_surelevels_k02_numbers_told) (q := view (OpenLaw.row PySem.Challenge.rw_surelevels_k02_numbers_told).prog [LW.lawI]) (H := LW.hk) (ob := LW.ob) (M := 20000) (loose := LW.looseL) (d := HandSHeadRun.topDef (OpenLaw.row PySem.Challenge.rw_surelevels_k02_numbers_told).prog LW.lawI) (kwd := []) LW.ob_eq
    (by kernel_rfl) (fun s => by kernel_rfl) LW.run (by kernel_rfl) (by kernel_rfl) (by kernel_rfl) (by rfl) (by first | assumption | decide +kernel) (by decide +kernel) ⟨rfl, rfl, rfl, rfl, rfl, by decide +kernel⟩ ?hw ?hc
  case hw => w_witness2
  case hc =>
    refine L2.walk_ofE (l := PySem.Challenge.rw_surelevels_k02_numbers_told) (n := 63) (k := 7) (x := "_law_script") (CX := L2.CX0) rfl (by decide) (by kernel_rfl) ⟨rfl, by decide, by decide⟩ ?F (fun _ _ _ _ z => z)
    intro w mg fa h Y G hmg0
    obtain ⟨K, KX, c⟩ := Y
    have hmg : mg ("law" : PySem.Str) = some (.ref fa) := by
      have e : (HandSHeadRun.topDef (OpenLaw.row PySem.Challenge.rw_surelevels_k02_numbers_told).prog LW.lawI).name = ("law" : PySem.Str) := by kernel_rfl
      rw [← e]
      exact hmg0
    obtain ⟨fd, hb, hF⟩ := LW.facts (P := (PySem.Challenge.rw_surelevels_k02_numbers_told).prog) (w := w) KX G hmg c
    exact ⟨K, fd, LW.spLaw K, KX, hb, fun H a ns hl _ hS => ⟨a, ns, rfl, hS, hl, fun _ => rfl⟩, hF⟩
#print axioms PySem.Challenge.cw_surelevels_k02_numbers_told_holds
