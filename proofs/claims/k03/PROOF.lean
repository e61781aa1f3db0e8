import PyProof.Rows.All
import Wide.All
import OpenK.AllK
import Wide.FinOn
import HandS.ForMost
import HandS.Wide
import HandS.IsInst
import HandS.OwnEq
import HandS.Zip
import HandS.Defaults
import KE.GoesMore
import KE.GoesEnum
import KE.KOpsOwn
import HandS.Walk
import HandS.Evl
import HandS.Codes
import HandS.Style
import HandS.Steps
import PySem.Challenge.RW_surelevels_k03_numbers_ordered
import Lean
import KE.KStateDown
import HandS.More
import HandS.Head0
import HandS.Head1
import HandS.Head2
import HandS.HeadEnd
import HandS.HeadHook1
import HandS.HeadHook2
import HandS.HeadHook3
import HandS.HeadHook4
set_option Elab.async false
set_option linter.all false
set_option maxRecDepth 100000
set_option maxHeartbeats 2000000
namespace LV
open PySem PySem.Spec PyProof.Rows L2
/-! enumerate over a tuple -/
theorem newE1 {v : Value} {o : Obj} {H : Heap → Prop} (B : Begins v o H) :
    Meets (Builtin.«enumerate.__new__» ⟨[.type "enumerate", v], []⟩) (fun _ R s => H s.heap ∧
      R (.ok (.ret (.ref (s.heap.push o).objs.size))) { s with heap := (s.heap.push o).push { cls := .type "enumerate", data := .fields #[.none, .bool false, .ref s.heap.objs.size, rawInt 0, .none, .none] } }) :=
  .of_wp fun prog w A R sh hh => by
    obtain ⟨hp, ge, dr, tk, os⟩ := sh
    obtain ⟨hb, hh⟩ := hh
    have subE := sub_enumerate
    have qi : ∀ {A' : Around} {E : Value → Shared → Prop} {Q : Value → Shared → Prop}, Q (.ref hp.objs.size) ⟨hp.push o, ge, dr, tk, os⟩ → wpAny (model prog w) A' (pyIter v) Q E ⟨hp, ge, dr, tk, os⟩ :=
      fun q => B.iter prog w _ _ ⟨hp, ge, dr, tk, os⟩ _ hb q
    wp_walk using qi
    refine wpAny_stack_any fun st => wpAny_pure ?_
    split
    · rename_i c _ _ _ _ _
      cases (c == Value.type "enumerate") <;>
      · wp_walk using qi
        exact ⟨_, rfl, hh⟩
    · wp_walk using qi
      exact ⟨_, rfl, hh⟩
theorem callE1 {prog : Program} {w : World} {A : Around} {E : Value → Shared → Prop} {s : Shared} {v : Value} {o : Obj} {H : Heap → Prop} {Q : Value → Shared → Prop} (B : Begins v o H) (hH : H s.heap)
    (h : ∀ h', IsEnum h' (s.heap.objs.size + 1) s.heap.objs.size 0 .none → h'.get? s.heap.objs.size = some o →
      (∀ b o, s.heap.get? b = some o → h'.get? b = some o) → Q (.ref (s.heap.objs.size + 1)) { s with heap := h' }) :
    wpAny (model prog w) A (call (.type "enumerate") [v]) Q E s := by
  refine callType_new F.called_enumerate (by decide) (F.typeCall_enumerate_1 _) (F.newCall_enumerate_1 _) (fun ob => F.args_object_init_2 ob _) F.entry_enumerate_new
    (newE1 B) ⟨hH, ?_⟩
  have hz : (s.heap.push o).objs.size = s.heap.objs.size + 1 := Heap.size_push ..
  show _ ∧ _
  rw [hz]
  have he : IsEnum ((s.heap.push o).push { cls := .type "enumerate", data := .fields #[.none, .bool false, .ref s.heap.objs.size, rawInt 0, .none, .none] }) (s.heap.objs.size + 1) s.heap.objs.size 0 .none := by
    have q := Heap.get?_push_size (s.heap.push o) (o := { cls := .type "enumerate", data := .fields #[.none, .bool false, .ref s.heap.objs.size, rawInt 0, .none, .none] }) rfl
    rw [hz] at q
    exact q
  exact ⟨⟨_, he, rfl⟩, h _ he (Heap.get?_push_of_some _ (Heap.get?_push_size _ B.free)) fun b o x => Heap.get?_push_of_some _ (Heap.get?_push_of_some _ x)⟩
/-- the tuple at a, each item in a new pair -/
def IteT (K : PySem.W.Frag) (a : Addr) : It :=
  ⟨fun i H => ∃ (xs : List V) (x : V), SqT K H a xs ∧ xs[i]? = some x, fun i H v H' => ∃ T x, v = .ref T ∧ H T = none ∧ H' = upd H T (.tup [.int (i : Nat), x]) ∧ ∀ xs, SqT K H a xs → xs[i]? = some x,
    fun i H => ∃ xs : List V, SqT K H a xs ∧ xs.length = i⟩
theorem turnET {P : Program} {w : World} {K : PySem.W.Frag} {elts : List Expr} {kk : Nat} {tpos : Pos} (a e it : Addr) :
    Turn P w K (.Tuple elts kk tpos) (IteT K a) [e, it] e (fun i h => (∃ old, IsEnum h e it ((i : Nat) : Int) old) ∧ h.IsTupleIter it a i ∧ e ≠ it) where
  mem := by simp
  obj := fun i h st b hb => by
    obtain ⟨⟨old, he⟩, ⟨o, ho, hc, hd⟩, _⟩ := st
    have eb : b = e ∨ b = it := by simpa using hb
    rcases eb with z | z
    · rw [z]
      exact ⟨_, he, fun v q => nomatch q⟩
    · rw [z]
      exact ⟨o, ho, fun v q => by rw [hd] at q; cases q⟩
  keep := fun i h h' st k => let ⟨⟨old, he⟩, hi, hne⟩ := st; ⟨⟨old, k e (by simp) _ he⟩, hi.at fun o q => k it (by simp) o q, hne⟩
  item := by
    intro X hP hw hK hc i pins s σ H E I hf st hg
    subst hP hw hK
    obtain ⟨⟨old, he⟩, hit, hne⟩ := st
    obtain ⟨xs, x, hq, hx⟩ := hg
    obtain ⟨its, rv, p, hz⟩ := I.tuple hq
    obtain ⟨u, hu, ru⟩ := rv.get hx
    obtain ⟨oa, hoa, hca, na, hda⟩ := id p
    have hel : e < s.heap.objs.size := Heap.lt_size he
    have hil : it < s.heap.objs.size := by
      obtain ⟨_, q, _⟩ := hit
      exact Heap.lt_size q
    have hae : a ≠ e := fun z => by
      rw [z, he] at hoa
      cases hoa
      injection hca with q
      exact absurd q (by decide)
    have hai : a ≠ it := fun z => by
      obtain ⟨oi, q, hci, _⟩ := hit
      rw [z, q] at hoa
      cases hoa
      rw [hci] at hca
      injection hca with q2
      exact absurd q2 (by decide)
    have hlt : i < its.toArray.size := by
      have q := (List.getElem?_eq_some_iff.mp hu).1
      simpa using q
    have D : Draws X.prog X.w X.A.in1 it [it, a] its.toArray.size (fun i v => its.toArray[i]? = some v) (fun i h => h.IsTupleIter it a i ∧ h.IsTuple a its.toArray) := Draws.tuple (A := X.A.in1) (show X.A.in1.handled = none from I.ok.hd hc) it a hai its.toArray
    refine wpAny_pyNext_enum_itemD D he ⟨hit, p⟩ hlt hne (by simp [hne, Ne.symm hae]) fun x' h' tk hx' ho hst hT hsz hk => ?_
    have exu : x' = u := by
      have q : its[i]? = some x' := by simpa using hx'
      rw [hu] at q
      exact (Option.some.inj q).symm
    subst exu
    refine ⟨_, rfl, wpAny_letOwnedTupleGo_enum (s := { s with heap := h', toks := tk + 1 }) ho fun h'' he' sb => ?_⟩
    have hT2 : h''.get? s.heap.objs.size = some { cls := .type "tuple", data := .seq #[.int i tk, x'] } := (sb.2 _ (Nat.ne_of_gt hel)).trans hT
    have new : ObjOk X.prog X.w (upd H s.heap.objs.size (.tup [.int (i : Nat), x])) h'' s.heap.objs.size (.tup [.int (i : Nat), x]) :=
      ⟨by show 2 ≤ sizeLine; decide, [.int i tk, x'], .cons ⟨_, rfl⟩ (.cons ru .nil), ⟨_, hT2, rfl, _, rfl⟩⟩
    have I1 : Inv X pins σ (upd H s.heap.objs.size (.tup [.int (i : Nat), x])) { s with heap := h'', toks := tk + 1 } :=
      I.turnedNew (ch := [e, it]) (fun b ob hb q => (sb.2 b (fun z => hb (by simp [z]))).trans (hk b ob (fun z => hb (by simp [z])) (fun z => hb (by simp [z])) q)) hf (Nat.le_refl _) new
    refine ⟨.ref s.heap.objs.size, _, I1, rfl, ⟨_, x, rfl, I.hok.fresh (Nat.le_refl _), rfl, fun ys hy => by rw [I.tuple_inj hy hq]; exact hx⟩, ⟨⟨x', ?_⟩, hst.1.at fun o q => (sb.2 it (Ne.symm hne)).trans q, hne⟩, fun b hb => ?_⟩
    · have e1 : ((i + 1 : Nat) : Int) = (i : Int) + 1 := by omega
      rw [e1]
      exact he'
    · have hb' : b < s.heap.objs.size := by
        have eb : b = e ∨ b = it := by simpa using hb
        rcases eb with z | z
        · rw [z]
          exact hel
        · rw [z]
          exact hil
      rw [upd_ne (Nat.ne_of_lt hb')]
      exact (hf b hb).1
  done := by
    intro X hP hw hK hc i pins s σ H E I hf st hg
    subst hP hw hK
    obtain ⟨⟨old, he⟩, hit, hne⟩ := st
    obtain ⟨xs, hq, hx⟩ := hg
    obtain ⟨its, rv, p, hz⟩ := I.tuple hq
    obtain ⟨oa, hoa, hca, na, hda⟩ := id p
    have hai : a ≠ it := fun z => by
      obtain ⟨oi, q, hci, _⟩ := hit
      rw [z, q] at hoa
      cases hoa
      rw [hci] at hca
      injection hca with q2
      exact absurd q2 (by decide)
    obtain ⟨f0, f1, f2, f3, f4, f5⟩ := hf it (by simp)
    have hl := rv.length
    have D : Draws X.prog X.w X.A.in1 it [it, a] its.toArray.size (fun i v => its.toArray[i]? = some v) (fun i h => h.IsTupleIter it a i ∧ h.IsTuple a its.toArray) := Draws.tuple (A := X.A.in1) (show X.A.in1.handled = none from I.ok.hd hc) it a hai its.toArray
    have hsz : its.toArray.size = i := by
      rw [List.size_toArray]
      omega
    have st : s.heap.IsTupleIter it a its.toArray.size ∧ s.heap.IsTuple a its.toArray := by
      rw [hsz]
      exact ⟨hit, p⟩
    exact wpAny_pyNext_enum_endD D he st fun h' eb => ⟨rfl, I.turned (t' := s.toks) (fun b o hb q => eb b o hb q) f0 f1 f3 f4 f5⟩
  self := fun A i s Q E st h => let ⟨⟨_, he⟩, _⟩ := st; wpAny_pyIter_enum he h
def iEnumT (K : PySem.W.Frag) (ta : TA) : TI := fun σ H R => ta σ H fun vs H1 => ∃ a xs, vs = [.ref a] ∧ SqT K H1 a xs ∧ R (IteT K a) H1
theorem pi_enumT {X : Cx} {e : Expr} {ta : TA} {p pos tpos : Pos} {elts : List Expr} {kk : Nat} (hg : Gl X "enumerate") (hm : X.mg "enumerate" = none) (ha : PA X [e] ta) (hs : starEach [e] X.env = [(false, eval e X.env)] := by rfl) :
    PI X (.Tuple elts kk tpos) (.Call (.Name "enumerate" p) [e] [] pos) (iEnumT X.K ta) := by
  refine ⟨fun pins s σ H R I h => ?_⟩
  refine Call_ (ld_blt I hg hm boot_enumerate (PyProof.Rows.callWith_type1 (thn (ha.run pos pins s σ H _ I h) fun us s1 ⟨vs, H1, I1, r1, q1⟩ => ?_) hs rfl))
  obtain ⟨a, xs, ex, hq, q⟩ := q1
  subst ex
  cases r1 with
  | cons r rr =>
    cases rr
    cases r
    obtain ⟨its, rv, p', hz⟩ := I1.tuple hq
    refine callE1 (begins_tuple a its.toArray) p' fun h' he hit hk => wpAny_pyIter_enum he ?_
    have I2 : Inv X pins σ H1 { s1 with heap := h' } := I1.kept (t' := s1.toks) hk
    refine ⟨s1.heap.objs.size + 1, [s1.heap.objs.size + 1, s1.heap.objs.size], _, _, H1, rfl, I2, turnET a (s1.heap.objs.size + 1) s1.heap.objs.size, ⟨⟨.none, he⟩, ⟨_, hit, rfl, rfl⟩, Nat.succ_ne_self _⟩, fun b hb => ?_, q⟩
    have eb : b = s1.heap.objs.size + 1 ∨ b = s1.heap.objs.size := by simpa using hb
    have hle : s1.heap.objs.size ≤ b := by
      rcases eb with z | z
      · rw [z]
        exact Nat.le_add_right _ _
      · rw [z]
        exact Nat.le_refl _
    exact I1.fpOk hle (I1.hok.fresh hle)
end LV
set_option Elab.async false
set_option linter.all false
set_option maxRecDepth 100000
set_option maxHeartbeats 2000000
namespace LV
open PySem PySem.Spec PyProof.Rows L2
/-! an int's own method is asked with an instance: NotImplemented -/
section
variable {prog : Program} {w : World} {A : Around} {E : Value → Shared → Prop} {s : Shared}
theorem niBin {nm : String} {f : Int → Int → Sem Fin} {i : Int} {t : Tok} {x C dx : Addr} {M : Model} {Q : Value → Shared → Prop} (hx : s.heap.get? x = some (PySem.W.instObj C dx)) (h : Q .notImplemented s) :
    wpAny M A (Builtin.Int.intBinary nm f false ⟨[.int i t, .ref x], []⟩) (fun fin s' => ∃ v, fin = .done (.ret v) ∧ Q v s') E s := by
  obtain ⟨hp, ge, dr, tk, os⟩ := s
  unfold Builtin.Int.intBinary
  wp_walk using wpAny_load hx
  exact ⟨_, rfl, h⟩
/-- int op instance: the instance's reflected method -/
theorem tryN {nm : Str} {id : String} {B : Builtin} {i : Int} {t : Tok} {x : Addr} {Q : Option Value → Shared → Prop} (slot : Slot "int" nm id) (entry : entryFor table id = some B) (args : argsOk id ⟨[.int i t, .ref x], []⟩)
    (hB : ∀ (A' : Around) (Q' : Value → Shared → Prop), Q' .notImplemented s → wpAny (model prog w) A' (B ⟨[.int i t, .ref x], []⟩) (fun fin s' => ∃ v, fin = PySem.Fin.done (.ret v) ∧ Q' v s') E s) (h : Q none s) :
    wpAny (model prog w) A (tryMethod (.int i t) nm (.ref x)) Q E s := by
  unfold tryMethod
  refine wpAny_bind (wpAny_callSpecial?_slot (typeIs_int s i t) slot (wpAny_call_entry slot (typeIs_int s i t) entry (hB _ _ ?_) args))
  exact wpAny_pure h
open PySem.W in
theorem binRefl {K : Frag} {x C dx f : Addr} {i : Int} {t : Tok} {h0 : Heap} {L : Addr} {m : Str → Option Value} {od : Option Obj} {op : Operator} {Q : Value → Shared → Prop} (F : Fr h0 L s.heap m) (X0 : K.In h0) (I : InstAt s.heap x (instObj C dx) C od) (hc : selfFirst K C = true)
    (hs : findIn K (.ref C) (PySem.dunder op.info.2) = some (some (.ref f0))) (hr : findIn K (.ref C) (dunderR op.info.2) = some (some (.ref f))) (hf : isFn K (.ref f) = true)
    (hsub : subIn K (.ref C) (.type "int") = some false) (hfl : fillsNumberSlot (.type "int") op.info.2 = pure true)
    (h1 : ∀ Q' : Option Value → Shared → Prop, Q' none s → wpAny (model prog w) A (tryMethod (.int i t) (PySem.dunder op.info.2) (.ref x)) Q' E s)
    (h : wpAny (model prog w) A (call (.ref f) [.ref x, .int i t]) (W.CmpBack Q) E s) : wpAny (model prog w) A (binaryOp op (.int i t) (.ref x)) Q E s := by
  have X := X0.keeps F.keep
  obtain ⟨cd, rest, hcd, hm⟩ := ksp_first hc
  rcases hi : op.info with ⟨sym, nm⟩
  rw [hi] at hs hr hfl h1
  dsimp only at hs hr hfl h1
  have one := ksp_try (E := E) X I hr hf h
  obtain ⟨hh, ge, dr, tt, os⟩ := s
  have L1 : Looks (model prog w) hh (typeOf (.ref x)) (.ref C) := I.type
  have L2 : Looks (model prog w) hh (typeOf (.int i t)) (.type "int") := Looks.of_pure rfl
  have L3 : Looks (model prog w) hh (fillsNumberSlot (.ref C) nm) true := fills_K X hcd hm hs
  have L4 : Looks (model prog w) hh (fillsNumberSlot (.type "int") nm) true := Looks.of_pure hfl
  have L5 : Looks (model prog w) hh (isSubtype (.ref C) (.type "int")) false := looks_subIn X hsub
  have L7 : Looks (model prog w) hh (numberSlotInPython (.type "int") nm) false := Looks.of_pure rfl
  have hne : (Value.type "int" == Value.ref C) = false := Bool.eq_false_iff.mpr fun q => by cases beq_iff_eq.mp q
  simp only [binaryOp, hi]
  refine wpAny_holding (wpAny_bind ?_)
  unfold binaryOp1
  refine wpAny_bind (L2.at (wpAny_bind (L1.at (wpAny_bind (L4.at ?_)))))
  simp only [hne, Bool.false_eq_true, if_false]
  ksp_lk
  refine h1 _ ?_
  ksp_lk
  refine wpAny_mono one (fun r s' hr' => ?_) fun _ _ e => e
  obtain ⟨v, rfl, hq⟩ := hr'
  ksp_lk
  exact hq
end
end LV
set_option Elab.async false
set_option linter.all false
set_option maxRecDepth 100000
set_option maxHeartbeats 2000000
namespace LV
open PySem PySem.Spec PyProof.Rows L2
/-! own operators over the layer -/
theorem backEP {X : Cx} {pins : List (Addr × Obj)} {σ : L2.St} {Q : VK} {u : Value} {s : Shared} (h : EP X pins σ Q u s) : W.CmpBack (EP X pins σ Q) u s := by
  obtain ⟨v, H, I, r, q⟩ := h
  have h2 : EP X pins σ Q u s := ⟨v, H, I, r, q⟩
  cases u with
  | notImplemented =>
    cases v <;> first
      | exact nomatch r
      | (obtain ⟨t, e⟩ := r; exact nomatch e)
  | _ => exact h2
/-- a def that is an instance's method, with its promise -/
structure OwnM (X : Cx) (k : Nat) (C : Addr) (nm : Str) (sp : Sp) : Prop where
  ex : ∃ (f : Addr) (fd : FuncData) (ps : List Str), PySem.W.findIn X.K (.ref C) nm = some (some (.ref f)) ∧ PySem.W.isFn X.K (.ref f) = true ∧ FnOk X.prog X.w X.K X.mg X.base CX0 k f fd ps sp ∧ Binds X.K fd ps []
/-- its class beside ints -/
structure OwnC (K : PySem.W.Frag) (C : Addr) : Prop where
  first : PySem.W.selfFirst K C = true
  subI : PySem.W.subIn K (.type "int") (.ref C) = some false
  subC : PySem.W.subIn K (.ref C) (.type "int") = some false
/-- the other operand: an int, or an instance of the class -/
def NumV (C : Addr) (H : Hp) (y : V) : Prop := (∃ i, y = .int i) ∨ ∃ b dy gs, y = .ref b ∧ H b = some (.ins C dy gs)
def rOwnL (C : Addr) (sp : Sp) : R2 := fun x y H Q => ∃ a dx fs, x = .ref a ∧ H a = some (.ins C dx fs) ∧ NumV C H y ∧ sp [x, y] H Q E0
def rOwnR (C : Addr) (sp : Sp) : R2 := fun x y H Q => ∃ i b dy gs, x = .int i ∧ y = .ref b ∧ H b = some (.ins C dy gs) ∧ sp [y, x] H Q E0
section
variable {X : Cx} {k : Nat} {C : Addr} {sp : Sp} {op : Operator}
theorem runM {f : Addr} {fd : FuncData} {ps : List Str} {pins : List (Addr × Obj)} {σ : L2.St} {H : Hp} {s : Shared} {Q : VK} {us : List Value} {vs : List V} (F : FnOk X.prog X.w X.K X.mg X.base CX0 k f fd ps sp) (hr : Room k X.A) (hb : Binds X.K fd ps [])
    (I : Inv X pins σ H s) (r : Vals vs us) (h : sp vs H Q E0) : wpAny (model X.prog X.w) X.A (call (.ref f) us) (W.CmpBack (EP X pins σ Q)) X.xe s :=
  wpAny_mono (run_fn (dvs := []) F hr hb .nil pass0 I r (by rw [List.append_nil]; exact h)) (fun _ _ z => backEP z) fun _ _ z => z
theorem op_ownL {fo ro rc : Option Value} (M : OwnM X k C (PySem.dunder op.info.2) sp) (c : OwnC X.K C) (hr : Room k X.A)
    (hrc : PySem.W.findIn X.K (.ref C) (dunderR op.info.2) = some rc) (hp : rc = none ∨ ∃ g : Addr, rc = some (.ref g))
    (h1 : PySem.W.findIn X.K (.type "int") (PySem.dunder op.info.2) = some fo) (h2 : PySem.W.findIn X.K (.type "int") (dunderR op.info.2) = some ro) :
    OpR X (binaryOp op) (rOwnL C sp) := by
  intro pins s σ H x y v u Q I rx ry hq
  obtain ⟨a, dx, fs, rfl, ha, hy, q⟩ := hq
  obtain ⟨f, fd, ps, hs, hf, F, hb⟩ := M.ex
  cases rx
  obtain ⟨mA, J, _⟩ := ins_get I.hok ha
  obtain ⟨od, J, _⟩ := J.look
  obtain ⟨m, hF⟩ := I.fr
  rcases hy with ⟨i, rfl⟩ | ⟨b, dy, gs, rfl, hb'⟩
  · obtain ⟨t, rfl⟩ := ry
    have r2 : Vals [V.ref a, V.int i] [Value.ref a, Value.int i t] := .cons rfl (.cons ⟨_, rfl⟩ .nil)
    exact PySem.W.ksp_binT hF I.ok.mod.kin J rfl c.first hs hf hrc hp h1 h2 c.subI (runM F hr hb I r2 q)
  · cases ry
    obtain ⟨mB, J', _⟩ := ins_get I.hok hb'
    obtain ⟨od', J', _⟩ := J'.look
    have r2 : Vals [V.ref a, V.ref b] [Value.ref a, Value.ref b] := .cons rfl (.cons rfl .nil)
    exact PySem.W.binop_K hF I.ok.mod.kin J J'.type c.first hs hf (runM F hr hb I r2 q)
theorem op_ownR {sp0 : Sp} {k0 : Nat} {id : String} {B : Builtin} (M0 : OwnM X k0 C (PySem.dunder op.info.2) sp0) (M : OwnM X k C (dunderR op.info.2) sp) (c : OwnC X.K C) (hr : Room k X.A)
    (hfl : fillsNumberSlot (.type "int") op.info.2 = pure true) (slot : Slot "int" (PySem.dunder op.info.2) id) (entry : entryFor table id = some B) (args : ∀ a b, argsOk id ⟨[a, b], []⟩)
    (hB : ∀ (i : Int) (t : Tok) (x dx : Addr) (s : Shared) (A' : Around) (E : Value → Shared → Prop) (Q' : Value → Shared → Prop), s.heap.get? x = some (PySem.W.instObj C dx) → Q' .notImplemented s →
      wpAny (model X.prog X.w) A' (B ⟨[.int i t, .ref x], []⟩) (fun fin s' => ∃ v, fin = PySem.Fin.done (.ret v) ∧ Q' v s') E s) :
    OpR X (binaryOp op) (rOwnR C sp) := by
  intro pins s σ H x y v u Q I rx ry hq
  obtain ⟨i, b, dy, gs, rfl, rfl, hb', q⟩ := hq
  obtain ⟨f0, _, _, hs0, _⟩ := M0.ex
  obtain ⟨f, fd, ps, hs, hf, F, hb⟩ := M.ex
  obtain ⟨t, rfl⟩ := rx
  cases ry
  obtain ⟨mA, J, _⟩ := ins_get I.hok hb'
  obtain ⟨od, J, _⟩ := J.look
  obtain ⟨m, hF⟩ := I.fr
  have r2 : Vals [V.ref b, V.int i] [Value.ref b, Value.int i t] := .cons rfl (.cons ⟨_, rfl⟩ .nil)
  exact binRefl hF I.ok.mod.kin J c.first hs0 hs hf c.subC hfl (fun Q' q' => tryN slot entry (args _ _) (fun A' Q2 q2 => hB _ _ _ _ _ _ _ _ J.1 q2) q') (runM F hr hb I r2 q)
theorem un_own (M : OwnM X k C "__neg__" sp) (hr : Room k X.A) : UnR X (unaryOp .USub) (fun x H Q => ∃ a dx fs, x = .ref a ∧ H a = some (.ins C dx fs) ∧ sp [x] H Q E0) := by
  intro pins s σ H x v Q I rx hq
  obtain ⟨a, dx, fs, rfl, ha, q⟩ := hq
  obtain ⟨f, fd, ps, hs, hf, F, hb⟩ := M.ex
  cases rx
  obtain ⟨mA, J, _⟩ := ins_get I.hok ha
  obtain ⟨od, J, _⟩ := J.look
  obtain ⟨m, hF⟩ := I.fr
  have r2 : Vals [V.ref a] [Value.ref a] := .cons rfl .nil
  exact PySem.W.ksp_neg hF I.ok.mod.kin J hs hf (run_fn (dvs := []) F hr hb .nil pass0 I r2 q)
theorem op_addR {sp0 : Sp} {k0 : Nat} (M0 : OwnM X k0 C "__add__" sp0) (M : OwnM X k C "__radd__" sp) (c : OwnC X.K C) (hr : Room k X.A) : OpR X (binaryOp .Add) (rOwnR C sp) :=
  op_ownR (op := .Add) M0 M c hr fills_int_add F.slot_int_add F.entry_int_add F.args_int_add_2 fun i t x dx s A' E Q' hx q => niBin hx q
theorem op_subR {sp0 : Sp} {k0 : Nat} (M0 : OwnM X k0 C "__sub__" sp0) (M : OwnM X k C "__rsub__" sp) (c : OwnC X.K C) (hr : Room k X.A) : OpR X (binaryOp .Sub) (rOwnR C sp) :=
  op_ownR (op := .Sub) M0 M c hr fills_int_sub F.slot_int_sub F.entry_int_sub F.args_int_sub_2 fun i t x dx s A' E Q' hx q => niBin hx q
theorem op_mulR {sp0 : Sp} {k0 : Nat} (M0 : OwnM X k0 C "__mul__" sp0) (M : OwnM X k C "__rmul__" sp) (c : OwnC X.K C) (hr : Room k X.A) : OpR X (binaryOp .Mult) (rOwnR C sp) :=
  op_ownR (op := .Mult) M0 M c hr fills_int_mul F.slot_int_mul F.entry_int_mul F.args_int_mul_2 fun i t x dx s A' E Q' hx q => niBin hx q
theorem fI1 (K : PySem.W.Frag) : PySem.W.findIn K (.type "int") "__add__" = some (some (.builtin "int.__add__")) := by kernel_rfl
theorem fI2 (K : PySem.W.Frag) : PySem.W.findIn K (.type "int") "__radd__" = some (some (.builtin "int.__radd__")) := by kernel_rfl
theorem fI3 (K : PySem.W.Frag) : PySem.W.findIn K (.type "int") "__sub__" = some (some (.builtin "int.__sub__")) := by kernel_rfl
theorem fI4 (K : PySem.W.Frag) : PySem.W.findIn K (.type "int") "__rsub__" = some (some (.builtin "int.__rsub__")) := by kernel_rfl
theorem fI5 (K : PySem.W.Frag) : PySem.W.findIn K (.type "int") "__mul__" = some (some (.builtin "int.__mul__")) := by kernel_rfl
theorem fI6 (K : PySem.W.Frag) : PySem.W.findIn K (.type "int") "__rmul__" = some (some (.builtin "int.__rmul__")) := by kernel_rfl
theorem op_addL {g : Addr} (M : OwnM X k C "__add__" sp) (hg : PySem.W.findIn X.K (.ref C) "__radd__" = some (some (.ref g))) (c : OwnC X.K C) (hr : Room k X.A) : OpR X (binaryOp .Add) (rOwnL C sp) :=
  op_ownL (op := .Add) M c hr hg (.inr ⟨_, rfl⟩) (fI1 _) (fI2 _)
theorem op_subL {g : Addr} (M : OwnM X k C "__sub__" sp) (hg : PySem.W.findIn X.K (.ref C) "__rsub__" = some (some (.ref g))) (c : OwnC X.K C) (hr : Room k X.A) : OpR X (binaryOp .Sub) (rOwnL C sp) :=
  op_ownL (op := .Sub) M c hr hg (.inr ⟨_, rfl⟩) (fI3 _) (fI4 _)
theorem op_mulL {g : Addr} (M : OwnM X k C "__mul__" sp) (hg : PySem.W.findIn X.K (.ref C) "__rmul__" = some (some (.ref g))) (c : OwnC X.K C) (hr : Room k X.A) : OpR X (binaryOp .Mult) (rOwnL C sp) :=
  op_ownL (op := .Mult) M c hr hg (.inr ⟨_, rfl⟩) (fI5 _) (fI6 _)
/-! division by any number but nought -/
theorem op_fdivG : OpR X (binaryOp .FloorDiv) (rI (fun _ j => j ≠ 0 ∧ j.natAbs.log2 < 9000) fun i j => .int (i.fdiv j)) := opI fun _ _ _ _ _ _ _ hc q => floordiv_int hc.1 q (.inl (PyProof.noPylong_of_log2 hc.2))
theorem op_mulG : OpR X (binaryOp .Mult) (rI IntMulOk fun i j => .int (i * j)) := opI fun _ _ _ _ _ _ _ hc q => mul_int q hc
end
end LV
set_option Elab.async false
set_option linter.all false
set_option maxRecDepth 100000
set_option maxHeartbeats 2000000
namespace LV
open PySem PySem.Spec PyProof.Rows L2
theorem walk_enumT {K : PySem.W.Frag} {a : Addr} {xs : List V} : Walk (IteT K a) xs.length (fun H => SqT K H a xs) (YPair (fun i => some (.int (i : Nat))) (fun i => xs[i]?)) := by
  refine ⟨fun i _ hi q => ⟨xs, xs[i], q, by simp [hi]⟩, fun _ q => ⟨xs, q, rfl⟩, fun i H v H' _ q y => ?_⟩
  obtain ⟨T, x, h1, h2, h3, h4⟩ := y
  exact ⟨T, .int (i : Nat), x, h1, h2, h3, rfl, h4 xs q⟩
/-- built-in names that the module does not bind -/
structure Bt (mg : Str → Option Value) : Prop where
  len : mg "len" = none
  int : mg "int" = none
  enumerate : mg "enumerate" = none
  isinstance : mg "isinstance" = none
  zip : mg "zip" = none
  all : mg "all" = none
  range : mg "range" = none
  list : mg "list" = none
  tuple : mg "tuple" = none
  bool : mg "bool" = none
abbrev FnD (K : PySem.W.Frag) (x qual : Str) (st : Stmt) (f : Addr) (fd : FuncData) : Prop := FunD K x qual (defArgs st) (defBody st) (defScope st) [] [] f fd
/-! heaps -/
def But (a : Addr) (H H' : Hp) : Prop := ∀ b o, b ≠ a → H b = some o → H' b = some o
theorem But.refl (a : Addr) (H : Hp) : But a H H := fun _ _ _ h => h
theorem But.trans {a : Addr} {H H1 H2 : Hp} (x : But a H H1) (y : But a H1 H2) : But a H H2 := fun b o n h => y b o n (x b o n h)
theorem Same.but {a : Addr} {H H1 : Hp} (x : Same H H1) : But a H H1 := fun b o _ h => x b o h
theorem But.upd {a : Addr} {H H1 : Hp} {o : HO} (x : But a H H1) : But a H (upd H1 a o) := fun b u n h => by
  rw [upd_ne n]
  exact x b u n h
theorem Same.new {H : Hp} {p : Addr} {o : HO} (h : H p = none) : Same H (upd H p o) := fun b u e => by
  rw [upd_ne (ne_of_none e h)]
  exact e
theorem But.sq {K : PySem.W.Frag} {a c : Addr} {H H1 : Hp} {xs : List V} (x : But a H H1) (n : c ≠ a) (h : SqL K H c xs) : SqL K H1 c xs := by
  rcases h with (h | ⟨o, h⟩) | h
  · exact .inl (.inl (x _ _ n h))
  · exact .inl (.inr ⟨o, x _ _ n h⟩)
  · exact .inr h
theorem Same.sqT {K : PySem.W.Frag} {a : Addr} {H H1 : Hp} {xs : List V} (x : Same H H1) (h : SqT K H a xs) : SqT K H1 a xs := by
  rcases h with (h | ⟨o, h⟩) | h
  · exact .inl (.inl (x _ _ h))
  · exact .inl (.inr ⟨o, x _ _ h⟩)
  · exact .inr h
/-- a new object: the heap behind it is some heap -/
theorem nAt {H H1 : Hp} {p : Addr} {o : HO} (q : upd H p o = H1) : H1 p = some o := by
  rw [← q]
  exact upd_same
theorem nSm {H H1 : Hp} {p : Addr} {o : HO} (q : upd H p o = H1) (n : H p = none) : Same H H1 := by
  rw [← q]
  exact Same.new n
theorem nBt {H H1 : Hp} {p : Addr} {o : HO} (q : upd H p o = H1) : But p H H1 := by
  rw [← q]
  exact (But.refl p H).upd
/-- the law's state for draws -/
abbrev stL (c : Addr) (n l : Int) (m : Bool) : HO := .lst [.ref c, .int n, .int l, .bl m]
def Stt (K : PySem.W.Frag) (H : Hp) (a : Addr) : Prop := ∃ (c : Addr) (ns : List Int) (n l : Int) (m : Bool), H a = some (stL c n l m) ∧ c ≠ a ∧ SqL K H c (ns.map V.int) ∧ ns.length ≤ 63
theorem Stt.same {K : PySem.W.Frag} {H H1 : Hp} {a : Addr} (e : Same H H1) (s : Stt K H a) : Stt K H1 a := by
  obtain ⟨c, ns, n, l, m, h, hn, hs, hl⟩ := s
  exact ⟨c, ns, n, l, m, e _ _ h, hn, e.seq hs, hl⟩
def notSt : HO → Bool
  | .lst (.ref _ :: .int _ :: .int _ :: .bl _ :: []) => false
  | _ => true
theorem But.get {K : PySem.W.Frag} {a x : Addr} {H H1 : Hp} {o : HO} (e : But a H H1) (s : Stt K H a) (h : H x = some o) (n : notSt o = true) : H1 x = some o := by
  refine e x o (fun q => ?_) h
  obtain ⟨c, ns, n', l, m, h2, _⟩ := s
  rw [q, h2] at h
  cases h
  cases n
theorem atL {α : Type} {xs : List α} {z : Int} {n : Nat} (h0 : 0 ≤ z) (h1 : z < n) (hn : n = xs.length) : ∃ v, xs[z.toNat]? = some v ∧ atI xs z = some v := by
  have hj : z.toNat < xs.length := by omega
  refine ⟨xs[z.toNat], by simp [hj], ?_⟩
  have e : z = ((z.toNat : Nat) : Int) := by omega
  have q : atI xs ((z.toNat : Nat) : Int) = some xs[z.toNat] := atI_nat (by simp [hj])
  rw [← e] at q
  exact q
theorem mulS {i j : Int} (h : -(2 ^ 64) < j ∧ j < 2 ^ 64) : IntMulOk i j := CMul.ok (.inr h)
theorem mulS' {i j : Int} (h : -(2 ^ 64) < i ∧ i < 2 ^ 64) : IntMulOk i j := CMul.ok (.inl h)
theorem fdp {i j : Int} (h : 0 < j) : i.fdiv j = i / j := Int.fdiv_eq_ediv_of_nonneg i (by omega)
/-! tests as a whole -/
theorem ans_or2 {t u : TT} {σ : L2.St} {H : Hp} {a b : Bool} (h1 : Ans t σ H a) (h2 : Ans u σ H b) : Ans (tOr t u) σ H (a || b) := by
  cases a with
  | true => exact ans_or1 h1
  | false => exact ans_or h1 h2
theorem ansE {t : TT} {σ : L2.St} {H : Hp} {Q : Bool → Hp → Prop} (P : Bool → Prop) (h : ∃ b, Ans t σ H b ∧ P b) (q : ∀ b, P b → Q b H) : t σ H Q := by
  obtain ⟨b, hb, hp⟩ := h
  exact hb Q (q b hp)
theorem vIx {K : PySem.W.Frag} {ta tb : TE} {σ : L2.St} {H : Hp} {p : Addr} {xs : List V} {i : Int} {v : V} (h1 : Val ta σ H (.ref p)) (h2 : Val tb σ H (.int i)) (h : SqL K H p xs) (hv : atI xs i = some v) : Val (tOp (rIxL K) ta tb) σ H v :=
  val_op h1 h2 fun Q q => ⟨p, xs, i, v, rfl, rfl, h, hv, q⟩
theorem vI0 {ta tb : TE} {σ : L2.St} {H : Hp} {i j : Int} {g : Int → Int → V} (h1 : Val ta σ H (.int i)) (h2 : Val tb σ H (.int j)) : Val (tOp (rI0 g) ta tb) σ H (g i j) := val_op h1 h2 fun Q q => ⟨i, j, rfl, rfl, q⟩
theorem vI {ta tb : TE} {σ : L2.St} {H : Hp} {i j : Int} {C : Int → Int → Prop} {g : Int → Int → V} (h1 : Val ta σ H (.int i)) (h2 : Val tb σ H (.int j)) (hc : C i j) : Val (tOp (rI C g) ta tb) σ H (g i j) := val_op h1 h2 fun Q q => ⟨i, j, rfl, rfl, hc, q⟩
theorem aI0 {ta tb : TE} {σ : L2.St} {H : Hp} {i j : Int} {g : Int → Int → Bool} (h1 : Val ta σ H (.int i)) (h2 : Val tb σ H (.int j)) : Ans (tTest (tOp (rI0 fun i j => .bl (g i j)) ta tb)) σ H (g i j) := ans_cmp h1 h2 fun Q q => ⟨i, j, rfl, rfl, q⟩
theorem aEq {ta tb : TE} {σ : L2.St} {H : Hp} {x y : V} (h1 : Val ta σ H x) (h2 : Val tb σ H y) (hs : scal x y = true) : Ans (tTest (tOp rEq ta tb)) σ H (decide (x = y)) := ans_cmp h1 h2 fun Q q => ⟨hs, q⟩
end LV
set_option Elab.async false
set_option linter.all false
set_option maxRecDepth 100000
set_option maxHeartbeats 2000000
namespace LV
open PySem PySem.Spec PyProof.Rows L2
open AutoSeq1 (wpAny_loadPart')
/-! comparisons: a built-in value beside an instance -/
section
variable {prog : Program} {w : World} {A : Around} {E : Value → Shared → Prop} {s : Shared}
theorem tryC {nm : Str} {id T : String} {B : Builtin} {a : Value} {x : Addr} {Q : Option Value → Shared → Prop} (hT : s.TypeIs a T) (slot : Slot T nm id) (entry : entryFor table id = some B) (args : argsOk id ⟨[a, .ref x], []⟩)
    (hB : ∀ (A' : Around) (Q' : Value → Shared → Prop), Q' .notImplemented s → wpAny (model prog w) A' (B ⟨[a, .ref x], []⟩) (fun fin s' => ∃ v, fin = PySem.Fin.done (.ret v) ∧ Q' v s') E s) (h : Q none s) :
    wpAny (model prog w) A (tryCompare a nm (.ref x)) Q E s := by
  unfold tryCompare
  refine wpAny_bind (wpAny_callSpecialIfBound?_slot hT slot (wpAny_call_entry slot hT entry (hB _ _ ?_) args))
  exact wpAny_pure h
open PySem.W in
theorem cmpRefl {K : Frag} {x C f L : Addr} {h0 : Heap} {m : Str → Option Value} {ox : Obj} {od : Option Obj} {op : CmpOp} {a : Value} {T : String} {Q : Value → Shared → Prop} (hu : A.units < cLine) (FR : Fr h0 L s.heap m) (X0 : K.In h0) (I : InstAt s.heap x ox C od)
    (ha : Looks (model prog w) s.heap (typeOf a) (.type T)) (ho : oneThing? op a (.ref x) = none) (hsub : subIn K (.ref C) (.type T) = some false)
    (h1 : ∀ Q' : Option Value → Shared → Prop, Q' none s → wpAny (model prog w) A (tryCompare a (cmpInfo op).2.1 (.ref x)) Q' E s)
    (hs : findIn K (.ref C) (cmpInfo op).2.2 = some (some (.ref f))) (hf : isFn K (.ref f) = true)
    (h : wpAny (model prog w) A (call (.ref f) [.ref x, a]) (W.CmpBack Q) E s) : wpAny (model prog w) A (richCompare op a (.ref x)) Q E s := by
  have X := X0.keeps FR.keep
  have two : wpAny (model prog w) A (tryCompare (.ref x) (cmpInfo op).2.2 a) (fun r s' => ∃ v, r = some v ∧ Q v s') E s := by
    unfold tryCompare
    refine wpAny_bind (ifBound_K X I hs hf (wpAny_mono h (fun v s' hv => ?_) fun _ _ e => e))
    cases v <;> first | exact hv.elim | exact wpAny_pure ⟨_, rfl, hv⟩
  have hne0 : (Value.type T == Value.ref C) = false := Bool.eq_false_iff.mpr fun z => by cases beq_iff_eq.mp z
  have hne : (Value.type T != Value.ref C) = true := by
    unfold bne
    rw [hne0]
    rfl
  unfold richCompare
  simp only [ho]
  refine wpAny_holding (wpAny_bind (wpAny_cRoomFor hu ?_))
  refine wpAny_bind (ha.here (wpAny_bind (I.type.here ?_)))
  simp only [hne, if_true]
  refine wpAny_bind ((looks_subIn X hsub).here ?_)
  simp only [Bool.false_eq_true, if_false]
  refine wpAny_bind (h1 _ ?_)
  simp only [Bool.not_false, if_true]
  refine wpAny_bind (wpAny_mono two (fun r s' z => ?_) fun _ _ e => e)
  obtain ⟨v, rfl, hq⟩ := z
  exact wpAny_pure hq
/-! x != y by the object's own way over __eq__ -/
open PySem.W in
theorem neOwn {K : Frag} {x C f L : Addr} {h0 : Heap} {m : Str → Option Value} {od : Option Obj} {b tb : Value} {dx : Addr} {Q : Value → Shared → Prop} (hu : A.units + 1 < cLine) (FR : Fr h0 L s.heap m) (X0 : K.In h0) (I : InstAt s.heap x (instObj C dx) C od)
    (hb : Looks (model prog w) s.heap (typeOf b) tb) (hn : notFirst K C tb = true) (hne : findIn K (.ref C) "__ne__" = some (some (.builtin "object.__ne__"))) (hobj : mroIn K C (.type "object") = some true)
    (hs : findIn K (.ref C) "__eq__" = some (some (.ref f))) (hf : isFn K (.ref f) = true)
    (h : wpAny (model prog w) A.in1 (call (.ref f) [.ref x, b]) (fun v s' => ∃ r, v = .bool r ∧ Q (.bool (!r)) s') E s) : wpAny (model prog w) A (richCompare .NotEq (.ref x) b) Q E s := by
  have X := X0.keeps FR.keep
  have S := F.cmp_object.ne
  have sub : Looks (model prog w) s.heap (isInstance (.ref x) (.type "object")) true := I.type.andThen (looks_mroIn X hobj)
  have cs : wpAny (model prog w) A (callSpecialIfBound? (.ref x) "__ne__" [b]) (fun r s' => ∃ z, r = some (.bool z) ∧ Q (.bool z) s') E s := by
    simp only [callSpecialIfBound?, bindSpecialIfBound?]
    refine wpAny_holding (wpAny_bind (wpAny_bind (wpAny_bind (I.type.here ((looks_findIn X hne).here ?_)))))
    simp only [S.bind]
    refine wpAny_bind (wpAny_askSetting (wpAny_ite ?_))
    have call1 : wpAny (model prog w) A (call (.builtin "object.__ne__") [.ref x, b]) (fun v s' => ∃ r, v = .bool r ∧ Q (.bool r) s') E s := by
      refine wpAny_call (codeAny_call_builtin S.plain F.cmpEntry_ne (check_slot F.cmpKind_ne F.cmpSplit_ne sub (F.cmpArgs_ne _ _) ?_))
      unfold Builtin.«object.__ne__»
      obtain ⟨hp, ge, dr, tk, os⟩ := s
      repeat (first
        | with_reducible refine wpAny_cRoomFor hu ?_
        | (refine wpAny_bind (m := callSpecialIfBound? (.ref x) (Str.ofString "__eq__") [b])
            (ifBound_K X I hs hf (wpAny_mono h (fun r s' hr => by
              obtain ⟨z, rfl, hq⟩ := hr
              repeat (first | exact ⟨_, rfl, hq⟩ | exact wpAny_pure ⟨_, rfl, hq⟩ | exact wpAny_truthy_bool ⟨_, rfl, hq⟩ | (refine wpAny_bind (m := truthy (.bool _)) (wpAny_truthy_bool ?_)) | wp_step)) fun _ _ e => e)))
        | wp_step)
    have fin : wpAny (model prog w) A (call (.builtin "object.__ne__") ([.ref x] ++ [b]) >>= fun v => pure (some v)) (fun r s' => ∃ z, r = some (.bool z) ∧ Q (.bool z) s') E s :=
      wpAny_bind (wpAny_mono call1 (fun v s' h' => wpAny_pure (by
        obtain ⟨z, rfl, hq⟩ := h'
        exact ⟨z, rfl, hq⟩)) fun _ _ h' => h')
    split
    · exact wpAny_bind (wpAny_pure (wpAny_pure fin))
    · exact wpAny_tryCatch (wpAny_bind (wpAny_pure (wpAny_pure fin)))
  have one : wpAny (model prog w) A (tryCompare (.ref x) "__ne__" b) (fun r s' => ∃ v, r = some v ∧ Q v s') E s := by
    unfold tryCompare
    refine wpAny_bind (wpAny_mono cs (fun r s' hr => ?_) fun _ _ e => e)
    obtain ⟨z, rfl, hq⟩ := hr
    exact wpAny_pure ⟨_, rfl, hq⟩
  unfold richCompare
  simp only [oneThing_ref]
  refine wpAny_holding (wpAny_bind (wpAny_cRoomFor (Nat.lt_of_succ_lt hu) ?_))
  rw [cmpInfo_NotEq]
  dsimp only
  refine wpAny_bind (I.type.here (wpAny_bind (hb.here ?_)))
  split
  · rename_i z
    have e : subIn K tb (.ref C) = some false := by
      rcases Bool.or_eq_true_iff.mp hn with e | e
      · rw [beq_iff_eq.mp e] at z
        simp at z
      · exact beq_iff_eq.mp e
    refine wpAny_bind ((looks_subIn X e).here ?_)
    simp only [Bool.false_eq_true, if_false]
    refine wpAny_bind (wpAny_mono one (fun r s' y => ?_) fun _ _ e => e)
    obtain ⟨v, rfl, hq⟩ := y
    exact wpAny_pure hq
  · refine wpAny_bind (wpAny_pure ?_)
    simp only [Bool.false_eq_true, if_false]
    refine wpAny_bind (wpAny_mono one (fun r s' y => ?_) fun _ _ e => e)
    obtain ⟨v, rfl, hq⟩ := y
    exact wpAny_pure hq
end
end LV
set_option Elab.async false
set_option linter.all false
set_option maxRecDepth 100000
set_option maxHeartbeats 2000000
namespace LV
open PySem PySem.Spec PyProof.Rows L2
open AutoSeq1 (wpAny_loadPart')
/-! a built-in value's own == with an instance: NotImplemented -/
section
variable {prog : Program} {w : World} {A : Around} {E : Value → Shared → Prop} {s : Shared} {M : Model} {x C dx : Addr} {Q : Value → Shared → Prop}
abbrev NiQ (Q : Value → Shared → Prop) : PySem.Fin → Shared → Prop := fun fin s' => ∃ v, fin = PySem.Fin.done (.ret v) ∧ Q v s'
theorem niBoolEq {b : Bool} (hx : s.heap.get? x = some (PySem.W.instObj C dx)) (h : Q .notImplemented s) : wpAny M A (Builtin.«int.__eq__» ⟨[.bool b, .ref x], []⟩) (NiQ Q) E s := by
  obtain ⟨hp, ge, dr, tk, os⟩ := s
  show wpAny M A (Builtin.Int.intBinary _ _ false ⟨[.bool b, .ref x], []⟩) _ E _
  unfold Builtin.Int.intBinary
  wp_walk using wpAny_load hx
  exact ⟨_, rfl, h⟩
theorem niNoneEq (hx : s.heap.get? x = some (PySem.W.instObj C dx)) (h : Q .notImplemented s) : wpAny M A (Builtin.«NoneType.__eq__» ⟨[.none, .ref x], []⟩) (NiQ Q) E s := by
  obtain ⟨hp, ge, dr, tk, os⟩ := s
  unfold Builtin.«NoneType.__eq__»
  wp_walk using wpAny_load hx
  exact ⟨_, rfl, h⟩
theorem niStrEq {z : Str} {t : Tok} (hx : s.heap.get? x = some (PySem.W.instObj C dx)) (h : Q .notImplemented s) : wpAny M A (Builtin.«str.__eq__» ⟨[.str z t, .ref x], []⟩) (NiQ Q) E s := by
  obtain ⟨hp, ge, dr, tk, os⟩ := s
  wp_walk using wpAny_load hx
  exact ⟨_, rfl, h⟩
theorem niListEq {K : PySem.W.Frag} {l : Addr} (X : K.In s.heap) (hs : PySem.W.subIn K (.ref C) (.type "list") = some false) (hx : s.heap.get? x = some (PySem.W.instObj C dx)) (h : Q .notImplemented s) :
    wpAny (model prog w) A (Builtin.«list.__eq__» ⟨[.ref l, .ref x], []⟩) (NiQ Q) E s := by
  have L := PySem.W.looks_subIn (M := model prog w) X hs
  obtain ⟨hp, ge, dr, tk, os⟩ := s
  wp_walk using wpAny_loadPart' hx, L.at
  exact ⟨_, rfl, h⟩
theorem niTupEq {K : PySem.W.Frag} {l : Addr} (X : K.In s.heap) (hs : PySem.W.subIn K (.ref C) (.type "tuple") = some false) (hx : s.heap.get? x = some (PySem.W.instObj C dx)) (h : Q .notImplemented s) :
    wpAny (model prog w) A (Builtin.«tuple.__eq__» ⟨[.ref l, .ref x], []⟩) (NiQ Q) E s := by
  have L := PySem.W.looks_subIn (M := model prog w) X hs
  obtain ⟨hp, ge, dr, tk, os⟩ := s
  wp_walk using wpAny_loadPart' hx, L.at
  exact ⟨_, rfl, h⟩
theorem niDictEq {K : PySem.W.Frag} {l : Addr} (X : K.In s.heap) (hs : PySem.W.subIn K (.ref C) (.type "dict") = some false) (hx : s.heap.get? x = some (PySem.W.instObj C dx)) (h : Q .notImplemented s) :
    wpAny (model prog w) A (Builtin.«dict.__eq__» ⟨[.ref l, .ref x], []⟩) (NiQ Q) E s := by
  have L := PySem.W.looks_subIn (M := model prog w) X hs
  obtain ⟨hp, ge, dr, tk, os⟩ := s
  wp_walk using wpAny_loadPart' hx, L.at
  exact ⟨_, rfl, h⟩
end
/-! comparisons over the layer -/
section
variable {X : Cx} {k : Nat} {C : Addr} {sp : Sp} {op : CmpOp}
/-- the method runs one level within -/
theorem runIn {f : Addr} {fd : FuncData} {ps : List Str} {pins : List (Addr × Obj)} {σ : L2.St} {H : Hp} {s : Shared} {Q : VK} {us : List Value} {vs : List V} (F : FnOk X.prog X.w X.K X.mg X.base CX0 k f fd ps sp) (hr : Room (k + 1) X.A) (hb : Binds X.K fd ps [])
    (I : Inv X pins σ H s) (r : Vals vs us) (h : sp vs H Q E0) : wpAny (model X.prog X.w) X.A.in1 (call (.ref f) us) (EP X pins σ Q) X.xe s := by
  have hl : us.length = ps.length := by
    rw [← r.length]
    exact F.len _ _ _ _ h
  have b0 := hb s us I.kIn (by simpa using hl)
  refine wpAny_call (codeAny_mono (F.run X.A.in1 X.stack s H ⟨us, []⟩ us vs Q E0 hr.in1 (Env0.in1 I.env0) (by simpa using b0) r h) fun r s' hq => ?_)
  cases r with
  | error e => exact hq.elim
  | ok fl =>
    cases fl with
    | ret u => exact I.after hq
    | next => exact False.elim hq
    | brk => exact False.elim hq
    | cont => exact False.elim hq
/-- what stands to the right of an instance: its type is none below the class -/
def NotF (K : PySem.W.Frag) (C : Addr) (H : Hp) (y : V) : Prop := ∃ t, TyX K H y t ∧ PySem.W.notFirst K C t = true
def rCmpL (K : PySem.W.Frag) (C : Addr) (sp : Sp) : R2 := fun x y H Q => ∃ a dx fs, x = .ref a ∧ H a = some (.ins C dx fs) ∧ NotF K C H y ∧ sp [x, y] H Q E0
theorem op_cmpL (hcm : ∀ v u, compareOp op v u = richCompare op v u) (M : OwnM X k C (cmpInfo op).2.1 sp) (hr : Room k X.A) : OpR X (compareOp op) (rCmpL X.K C sp) := by
  intro pins s σ H x y v u Q I rx ry hq
  obtain ⟨a, dx, fs, rfl, ha, ⟨t, ht, hn⟩, q⟩ := hq
  obtain ⟨f, fd, ps, hs, hf, F, hb⟩ := M.ex
  cases rx
  obtain ⟨mA, J, _⟩ := ins_get I.hok ha
  obtain ⟨od, J, _⟩ := J.look
  obtain ⟨m, hF⟩ := I.fr
  obtain ⟨PP, kt, hP, _⟩ := kit_of I ry ht
  have r2 : Vals [V.ref a, y] [Value.ref a, u] := .cons rfl (.cons ry .nil)
  rw [hcm]
  exact PySem.W.cmp_K hr.units0 hF I.ok.mod.kin J (kt.ty _ _ I.kIn hP) hn hs hf (runM F hr hb I r2 q)
/-- x != y over __eq__ -/
def rNeL (K : PySem.W.Frag) (C : Addr) (sp : Sp) : R2 := fun x y H Q => ∃ a dx fs, x = .ref a ∧ H a = some (.ins C dx fs) ∧ NotF K C H y ∧ sp [x, y] H (fun v H' => ∃ b, v = .bl b ∧ Q (.bl (!b)) H') E0
theorem op_neL (M : OwnM X k C "__eq__" sp) (hne : PySem.W.findIn X.K (.ref C) "__ne__" = some (some (.builtin "object.__ne__"))) (hobj : PySem.W.mroIn X.K C (.type "object") = some true) (hr : Room (k + 1) X.A) : OpR X (compareOp .NotEq) (rNeL X.K C sp) := by
  intro pins s σ H x y v u Q I rx ry hq
  obtain ⟨a, dx, fs, rfl, ha, ⟨t, ht, hn⟩, q⟩ := hq
  obtain ⟨f, fd, ps, hs, hf, F, hb⟩ := M.ex
  cases rx
  obtain ⟨mA, J, _⟩ := ins_get I.hok ha
  obtain ⟨od, J, _⟩ := J.look
  obtain ⟨m, hF⟩ := I.fr
  obtain ⟨PP, kt, hP, _⟩ := kit_of I ry ht
  have r2 : Vals [V.ref a, y] [Value.ref a, u] := .cons rfl (.cons ry .nil)
  show wpAny (model X.prog X.w) X.A (richCompare .NotEq (.ref a) u) (EP X pins σ Q) X.xe s
  have hu : X.A.units + 1 < cLine := hu_of hr
  refine neOwn hu hF I.ok.mod.kin J (kt.ty _ _ I.kIn hP) hn hne hobj hs hf (wpAny_mono (runIn F hr hb I r2 q) (fun v s' z => ?_) fun _ _ z => z)
  obtain ⟨v', H', I', rv, b, rfl, q'⟩ := z
  exact ⟨b, rv, .bl (!b), H', I', rfl, q'⟩
/-- a built-in value to the left of an instance -/
inductive Lft (K : PySem.W.Frag) (H : Hp) : V → String → Prop where
  | non : Lft K H .non "NoneType"
  | bl (b : Bool) : Lft K H (.bl b) "bool"
  | int (i : Int) : Lft K H (.int i) "int"
  | str (z : Str) : Lft K H (.str z) "str"
  | lst {a : Addr} {xs : List V} (h : H a = some (.lst xs)) : Lft K H (.ref a) "list"
  | tup {a : Addr} {xs : List V} (h : H a = some (.tup xs)) : Lft K H (.ref a) "tuple"
  | dK {a : Addr} {kvs : List (Key × V)} (h : H a = some (.dK kvs)) : Lft K H (.ref a) "dict"
def rCmpR (K : PySem.W.Frag) (C : Addr) (sp : Sp) : R2 := fun x y H Q => ∃ b dy gs T, y = .ref b ∧ H b = some (.ins C dy gs) ∧ Lft K H x T ∧ PySem.W.subIn K (.ref C) (.type T) = some false ∧ sp [y, x] H Q E0
theorem op_eqR (M : OwnM X k C "__eq__" sp) (hr : Room k X.A) : OpR X (compareOp .Eq) (rCmpR X.K C sp) := by
  intro pins s σ H x y v u Q I rx ry hq
  obtain ⟨b, dy, gs, T, rfl, hb', hx, hsub, q⟩ := hq
  obtain ⟨f, fd, ps, hs, hf, FM, hb⟩ := M.ex
  cases ry
  obtain ⟨mA, J, _⟩ := ins_get I.hok hb'
  obtain ⟨od, J, _⟩ := J.look
  obtain ⟨m, hF⟩ := I.fr
  have r2 : Vals [V.ref b, x] [Value.ref b, v] := .cons rfl (.cons rx .nil)
  have run := runM FM hr hb I r2 q
  show wpAny (model X.prog X.w) X.A (richCompare .Eq v (.ref b)) (EP X pins σ Q) X.xe s
  cases hx with
  | non =>
    cases rx
    exact cmpRefl hr.units0 hF I.ok.mod.kin J (PySem.W.Looks.of_pure rfl) rfl hsub (fun Q' q' => tryC (T := "NoneType") (show s.TypeIs Value.none "NoneType" from rfl) F.slot_NoneType_eq F.entry_NoneType_eq (F.args_NoneType_eq_2 _ _) (fun A' Q2 q2 => niNoneEq J.1 q2) q') hs hf run
  | bl z =>
    cases rx
    exact cmpRefl hr.units0 hF I.ok.mod.kin J (PySem.W.Looks.of_pure rfl) rfl hsub (fun Q' q' => tryC (T := "bool") (show s.TypeIs (Value.bool z) "bool" from rfl) F.slot_bool_eq F.entry_int_eq (F.args_int_eq_2 _ _) (fun A' Q2 q2 => niBoolEq J.1 q2) q') hs hf run
  | int i =>
    obtain ⟨t, rfl⟩ := rx
    exact cmpRefl hr.units0 hF I.ok.mod.kin J (PySem.W.Looks.of_pure rfl) rfl hsub (fun Q' q' => tryC (T := "int") (typeIs_int s i t) F.slot_int_eq F.entry_int_eq (F.args_int_eq_2 _ _) (fun A' Q2 q2 => niBin J.1 q2) q') hs hf run
  | str z =>
    obtain ⟨t, rfl⟩ := rx
    exact cmpRefl hr.units0 hF I.ok.mod.kin J (PySem.W.Looks.of_pure rfl) rfl hsub (fun Q' q' => tryC (T := "str") (show s.TypeIs (Value.str z t) "str" from rfl) F.slot_str_eq F.entry_str_eq (F.args_str_eq_2 _ _) (fun A' Q2 q2 => niStrEq J.1 q2) q') hs hf run
  | lst h =>
    obtain ⟨PP, kt, hP, _⟩ := kit_of I rx (TyX.base (TyOf.lst h))
    cases rx
    obtain ⟨_, _, n, _, h1⟩ := (show ObjOk X.prog X.w H s.heap _ (.lst _) from I.hok _ _ h)
    exact cmpRefl hr.units0 hF I.ok.mod.kin J (kt.ty _ _ I.kIn hP) rfl hsub (fun Q' q' => tryC (T := "list") ⟨_, h1, rfl⟩ F.slot_list_eq F.entry_list_eq (F.args_list_eq_2 _ _) (fun A' Q2 q2 => niListEq I.kIn hsub J.1 q2) q') hs hf run
  | tup h =>
    obtain ⟨PP, kt, hP, _⟩ := kit_of I rx (TyX.base (TyOf.tup h))
    cases rx
    obtain ⟨_, _, _, o, h1, h2, _⟩ := (show ObjOk X.prog X.w H s.heap _ (.tup _) from I.hok _ _ h)
    exact cmpRefl hr.units0 hF I.ok.mod.kin J (kt.ty _ _ I.kIn hP) rfl hsub (fun Q' q' => tryC (T := "tuple") ⟨o, h1, h2⟩ F.slot_tuple_eq F.entry_tuple_eq (F.args_tuple_eq_2 _ _) (fun A' Q2 q2 => niTupEq I.kIn hsub J.1 q2) q') hs hf run
  | dK h =>
    obtain ⟨PP, kt, hP, _⟩ := kit_of I rx (TyX.base (TyOf.dK h))
    cases rx
    obtain ⟨_, _, vs, _, o, es, ep, h1, h2, _⟩ := (show ObjOk X.prog X.w H s.heap _ (.dK _) from I.hok _ _ h)
    exact cmpRefl hr.units0 hF I.ok.mod.kin J (kt.ty _ _ I.kIn hP) rfl hsub (fun Q' q' => tryC (T := "dict") ⟨o, h1, h2.1⟩ F.slot_dict_eq F.entry_dict_eq (F.args_dict_eq_2 _ _) (fun A' Q2 q2 => niDictEq I.kIn hsub J.1 q2) q') hs hf run
/-- int op instance, by the reflected method -/
def rCmpRI (C : Addr) (sp : Sp) : R2 := fun x y H Q => ∃ i b dy gs, x = .int i ∧ y = .ref b ∧ H b = some (.ins C dy gs) ∧ sp [y, x] H Q E0
theorem op_cmpRI {id : String} {B : Builtin} (hcm : ∀ v u, compareOp op v u = richCompare op v u) (M : OwnM X k C (cmpInfo op).2.2 sp) (c : OwnC X.K C) (hr : Room k X.A) (ho : ∀ i t b, oneThing? op (.int i t) (.ref b) = none)
    (slot : Slot "int" (cmpInfo op).2.1 id) (entry : entryFor table id = some B) (args : ∀ a b, argsOk id ⟨[a, b], []⟩)
    (hB : ∀ (i : Int) (t : Tok) (x dx : Addr) (s : Shared) (A' : Around) (E : Value → Shared → Prop) (Q' : Value → Shared → Prop), s.heap.get? x = some (PySem.W.instObj C dx) → Q' .notImplemented s →
      wpAny (model X.prog X.w) A' (B ⟨[.int i t, .ref x], []⟩) (fun fin s' => ∃ v, fin = PySem.Fin.done (.ret v) ∧ Q' v s') E s) : OpR X (compareOp op) (rCmpRI C sp) := by
  intro pins s σ H x y v u Q I rx ry hq
  obtain ⟨i, b, dy, gs, rfl, rfl, hb', q⟩ := hq
  obtain ⟨f, fd, ps, hs, hf, FM, hb⟩ := M.ex
  obtain ⟨t, rfl⟩ := rx
  cases ry
  obtain ⟨mA, J, _⟩ := ins_get I.hok hb'
  obtain ⟨od, J, _⟩ := J.look
  obtain ⟨m, hF⟩ := I.fr
  have r2 : Vals [V.ref b, V.int i] [Value.ref b, Value.int i t] := .cons rfl (.cons ⟨_, rfl⟩ .nil)
  rw [hcm]
  exact cmpRefl hr.units0 hF I.ok.mod.kin J (PySem.W.Looks.of_pure rfl) (ho _ _ _) c.subC (fun Q' q' => tryC (T := "int") (typeIs_int s i t) slot entry (args _ _) (fun A' Q2 q2 => hB _ _ _ _ _ _ _ _ J.1 q2) q') hs hf (runM FM hr hb I r2 q)
theorem op_ltR (M : OwnM X k C "__gt__" sp) (c : OwnC X.K C) (hr : Room k X.A) : OpR X (compareOp .Lt) (rCmpRI C sp) :=
  op_cmpRI (op := .Lt) (fun _ _ => rfl) M c hr (fun _ _ _ => rfl) F.slot_int_lt F.entry_int_lt F.args_int_lt_2 fun i t x dx s A' E Q' hx q => niBin hx q
theorem op_leR (M : OwnM X k C "__ge__" sp) (c : OwnC X.K C) (hr : Room k X.A) : OpR X (compareOp .LtE) (rCmpRI C sp) :=
  op_cmpRI (op := .LtE) (fun _ _ => rfl) M c hr (fun _ _ _ => rfl) F.slot_int_le F.entry_int_le F.args_int_le_2 fun i t x dx s A' E Q' hx q => niBin hx q
theorem op_gtR (M : OwnM X k C "__lt__" sp) (c : OwnC X.K C) (hr : Room k X.A) : OpR X (compareOp .Gt) (rCmpRI C sp) :=
  op_cmpRI (op := .Gt) (fun _ _ => rfl) M c hr (fun _ _ _ => rfl) F.slot_int_gt F.entry_int_gt F.args_int_gt_2 fun i t x dx s A' E Q' hx q => niBin hx q
theorem op_geR (M : OwnM X k C "__le__" sp) (c : OwnC X.K C) (hr : Room k X.A) : OpR X (compareOp .GtE) (rCmpRI C sp) :=
  op_cmpRI (op := .GtE) (fun _ _ => rfl) M c hr (fun _ _ _ => rfl) F.slot_int_ge F.entry_int_ge F.args_int_ge_2 fun i t x dx s A' E Q' hx q => niBin hx q
theorem op_ltL (M : OwnM X k C "__lt__" sp) (hr : Room k X.A) : OpR X (compareOp .Lt) (rCmpL X.K C sp) := op_cmpL (op := .Lt) (fun _ _ => rfl) M hr
theorem op_leL (M : OwnM X k C "__le__" sp) (hr : Room k X.A) : OpR X (compareOp .LtE) (rCmpL X.K C sp) := op_cmpL (op := .LtE) (fun _ _ => rfl) M hr
theorem op_gtL (M : OwnM X k C "__gt__" sp) (hr : Room k X.A) : OpR X (compareOp .Gt) (rCmpL X.K C sp) := op_cmpL (op := .Gt) (fun _ _ => rfl) M hr
theorem op_geL (M : OwnM X k C "__ge__" sp) (hr : Room k X.A) : OpR X (compareOp .GtE) (rCmpL X.K C sp) := op_cmpL (op := .GtE) (fun _ _ => rfl) M hr
theorem op_eqL (M : OwnM X k C "__eq__" sp) (hr : Room k X.A) : OpR X (compareOp .Eq) (rCmpL X.K C sp) := op_cmpL (op := .Eq) (fun _ _ => rfl) M hr
end
end LV
set_option Elab.async false
set_option linter.all false
set_option maxRecDepth 100000
set_option maxHeartbeats 4000000
namespace LW
open PySem PySem.Spec PyProof.Rows L2 LV
def top (i : Nat) : Stmt := PySem.Challenge.pw_surelevels_k03_numbers_ordered.main.body.getD i (.Pass ⟨0, 0, 0, 0⟩)
section
variable {P : Program} {w : World} {K : PySem.W.Frag} {mg : Str → Option Value} {base : Heap}
def spFresh (K : PySem.W.Frag) : Sp := fun vs H Q _ => ∃ (a : Addr) (ns : List Int), vs = [.ref a] ∧ SqL K H a (ns.map V.int) ∧ ns.length ≤ 63 ∧ ∀ p H', Same H H' → Stt K H' p → Q (.ref p) H'
abbrev s__law_fresh : Stmt := top 11
abbrev N__law_fresh : List Str := ["_law_script"]
theorem sc__law_fresh : FnScope N__law_fresh ["_law_script"] (defScope s__law_fresh) := ⟨rfl, rfl, rfl, by decide +kernel, rfl, by decide +kernel, by decide +kernel⟩
-- slots: 0 _law_script
theorem ok__law_fresh {f : Addr} {fd : FuncData} (F : FunD K "_law_fresh" "_law_fresh" (defArgs s__law_fresh) (defBody s__law_fresh) (defScope s__law_fresh) [] [] f fd) : FnOk P w K mg base CX0 1 f fd ["_law_script"] (spFresh K) := by
  refine F.ok sc__law_fresh (fun vs H Q E h => ?_) (fun cdv A outer s H vs Q E hr h => ?_)
  · obtain ⟨a, ns, rfl, hS, hl, k⟩ := h
    rfl
  · obtain ⟨a, ns, rfl, hS, hl, k⟩ := h
    refine ⟨_, PSs.nox (pss_one (ps_ret (pe_lst (pa_cons (pe_slice sl_list (pv 0) po_none (po_some pe_int)) (pa_cons pe_int (pa_cons pe_int (pa_cons pe_bl pa_nil))))))), ?_⟩
    refine ⟨_, rfl, _, rfl, a, _, rfl, hS, fun c n1 => ?_⟩
    generalize q1 : upd H c _ = H1
    have h1 := nAt q1
    have e1 := nSm q1 n1
    refine ⟨by show 4 ≤ sizeLine; decide, fun p n2 => ?_⟩
    generalize q2 : upd H1 p _ = H2
    have h2 := nAt q2
    have e2 := nSm q2 n2
    refine k p H2 (e1.trans e2) ⟨c, ns, 0, 0, false, h2, ne_of_none h1 n2, ?_, hl⟩
    have e : cutV (ns.map V.int) none (some 63) = ns.map V.int := by
      have hz : (ns.map V.int).length ≤ 63 := by rw [List.length_map]; exact hl
      unfold cutV
      rw [HT.sIx_none, show (some (63 : Int)) = some ((63 : Nat) : Int) from rfl, HT.sIx_nat, List.drop_zero, List.take_of_length_le]
      omega
    rw [← e]
    exact SqL.of (e2 _ _ h1)
def spFill (K : PySem.W.Frag) : Sp := fun vs H Q _ => ∃ (a : Addr), vs = [.ref a] ∧ Stt K H a ∧ ∀ H', But a H H' → Stt K H' a → Q .non H'
abbrev s__law_fill : Stmt := top 12
abbrev N__law_fill : List Str := ["_law_state", "_law_cells", "_law_nth", "_law_seed", "_law_k", "_law_prime", "_law_far"]
theorem sc__law_fill : FnScope N__law_fill ["_law_state"] (defScope s__law_fill) := ⟨rfl, rfl, rfl, by decide +kernel, rfl, by decide +kernel, by decide +kernel⟩
-- slots: 0 _law_state, 1 _law_cells, 2 _law_nth, 3 _law_seed, 4 _law_k, 5 _law_prime, 6 _law_far
theorem ok__law_fill {f : Addr} {fd : FuncData} (F : FunD K "_law_fill" "_law_fill" (defArgs s__law_fill) (defBody s__law_fill) (defScope s__law_fill) [] [] f fd) (T : Bt mg) : FnOk P w K mg base CX0 1 f fd ["_law_state"] (spFill K) := by
  refine F.ok sc__law_fill (fun vs H Q E h => ?_) (fun cdv A outer s H vs Q E hr h => ?_)
  · obtain ⟨a, rfl, ⟨c, ns, n, l, m, ha, hca, hS, hl⟩, k⟩ := h
    rfl
  · obtain ⟨a, rfl, ⟨c, ns, n, l, m, ha, hca, hS, hl⟩, k⟩ := h
    refine ⟨_, PSs.nox (pss_cons (ps_par (i := 1) (j := 2) rfl sc__law_fill.nd rfl rfl (by decide) rfl rfl (pa_cons (pe_ix ix_list (pv 0) pe_int (fun _ _ => rfl)) (pa_cons (pe_ix ix_list (pv 0) pe_int (fun _ _ => rfl)) pa_nil)) rfl)
      (pss_cons (ps_set (i := 3) sc__law_fill.nd rfl (Or.inl rfl) (pe_op op_add (pe_op op_mulG pe_int (pv 2)) pe_int))
      (Evl.pss_cut (ps_if (pt_cmpR op_gt (pe_callB call_len_seq rfl T.len (by decide +kernel) (pa_cons (pv 1) pa_nil)) pe_int (nomark _)) (pss_one (ps_set (i := 3) sc__law_fill.nd rfl (Or.inl rfl) (pe_op op_add (pe_op op_mulG pe_int (pe_op op_fdivG (pv 2) (pe_callB call_len_seq rfl T.len (by decide +kernel) (pa_cons (pv 1) pa_nil)))) (pe_ix ix_list (pv 1) (pe_op op_mod (pe_callTy call_int1 rfl T.int (by decide +kernel) (pa_cons (pv 2) pa_nil)) (pe_callB call_len_seq rfl T.len (by decide +kernel) (pa_cons (pv 1) pa_nil))) (fun _ _ => rfl))))) pss_nil)
      (pss_cons (ps_asg (pe_op op_add (pv 2) pe_int) (pg_sub (pv 0) pe_int set_list))
      (Evl.pss_cut (ps_asg (pe_or (pe_cmpR op_ge (pv 2) (pe_callB call_len_seq rfl T.len (by decide +kernel) (pa_cons (pv 1) pa_nil)) (nomark _)) (pe_one (pe_cmpR op_lt (pv 3) (pe_op op_pow pe_int pe_int) (nomark _)))) (pg_sub (pv 0) pe_int set_list))
      (pss_cons (ps_asg (pe_op op_sub (pv 3) (pe_op op_pow pe_int pe_int)) (pg_sub (pv 0) pe_int set_list))
      (pss_one (ps_if (pt_val (pe_ix ix_list (pv 0) pe_int (fun _ _ => rfl))) (pss_cons (ps_asg pe_int (pg_sub (pv 0) pe_int set_list))
      (pss_one (ps_for PassesOwn.never rfl (pi_enumT rfl T.enumerate (pa_cons (pe_tup (pa_cons pe_int (pa_cons pe_int (pa_cons pe_int (pa_cons pe_int (pa_cons pe_int pa_nil)))))) pa_nil)) (pg_tup rfl (pgs_cons (pg_name (i := 4) sc__law_fill.nd rfl (Or.inl rfl)) (pgs_cons (pg_name (i := 5) sc__law_fill.nd rfl (Or.inl rfl)) pgs_nil))) (pss_cons (ps_set (i := 6) sc__law_fill.nd rfl (Or.inl rfl) (pe_op op_mod (pe_callTy call_int1 rfl T.int (by decide +kernel) (pa_cons (pe_op op_mulG (pe_op op_add (pe_op op_add (pv 3) (pe_op op_mulG (pe_op op_mulG pe_int (pv 4)) (pv 4))) (pe_op op_mulG pe_int (pv 4))) (pe_op op_add pe_int (pe_op op_mulG pe_int (pv 4)))) pa_nil)) (pv 5)))
      (pss_one (ps_asg (pe_op op_add (pe_op op_mulG (pe_ix ix_list (pv 0) pe_int (fun _ _ => rfl)) (pv 5)) (pe_op op_mod (pe_callTy call_int1 rfl T.int (by decide +kernel) (pa_cons (pe_op op_pow (pv 6) pe_int) pa_nil)) (pv 5))) (pg_sub (pv 0) pe_int set_list))))))) pss_nil)))))))), ?_⟩
    refine ⟨_, rfl, a, _, _, _, rfl, rfl, SqL.of ha, rfl, _, rfl, a, _, _, _, rfl, rfl, SqL.of ha, rfl, _, _, rfl, ?_⟩
    refine ⟨_, rfl, _, _, rfl, rfl, mulS' (by decide), _, _, rfl, rfl, ?_⟩
    refine ⟨fun σ H' => H' = H ∧ ∃ sd : Int, σ = [some (.ref a), some (.ref c), some (.int n), some (.int sd), none, none, none], ?_, ?_⟩
    · refine ⟨_, rfl, c, _, rfl, .inl hS, _, _, rfl, rfl, _, rfl, ?_⟩
      refine ite2 (fun hc => ?_) (fun _ => ⟨rfl, _, rfl⟩)
      have hc0 : (0 : Int) < ((ns.map V.int).length : Nat) := of_decide_eq_true hc
      have hlen : (ns.map V.int).length ≤ 63 := by rw [List.length_map]; exact hl
      have hm := Int.emod_nonneg n (b := ((ns.map V.int).length : Nat)) (by omega)
      have hm2 := Int.emod_lt_of_pos n hc0
      obtain ⟨v, hv, hat⟩ := atL (xs := ns.map V.int) hm hm2 rfl
      obtain ⟨z, rfl⟩ : ∃ z, v = V.int z := by
        rw [List.getElem?_map] at hv
        cases e : ns[(n % ((ns.map V.int).length : Nat)).toNat]? with
        | none => rw [e] at hv; cases hv
        | some z => rw [e] at hv; exact ⟨z, (Option.some.inj hv).symm⟩
      refine ⟨_, rfl, _, rfl, c, _, rfl, .inl hS, _, _, rfl, rfl, ⟨by omega, ?_⟩, _, _, rfl, rfl, mulS' (by decide), _, rfl, _, rfl, .inl ⟨_, rfl, _, rfl, c, _, rfl, .inl hS, _, _, rfl, rfl, hc0, c, _, _, _, rfl, rfl, hS, hat, _, _, rfl, rfl, rfl, _, rfl⟩⟩
      have z : ((((ns.map V.int).length : Nat) : Int).natAbs) < 2 ^ 6 := by omega
      exact Nat.lt_of_lt_of_le (PySem.Flt.log2_lt_of (by decide) z) (by decide)
    · rintro σ H' ⟨rfl, sd, rfl⟩
      refine ⟨_, rfl, _, _, rfl, rfl, _, rfl, a, _, _, 1, rfl, rfl, ha, rfl, ?_⟩
      have hS1 : ∀ o, SqL K (upd H' a o) c (ns.map V.int) := fun o => ((But.refl a H').upd).sq hca hS
      refine ⟨fun σ H2 => σ = [some (.ref a), some (.ref c), some (.int n), some (.int sd), none, none, none] ∧ ∃ b, H2 = upd H' a (stL c (n + 1) l b), ?_, ?_⟩
      · refine ⟨_, rfl, _, rfl, c, _, rfl, .inl (hS1 _), _, _, rfl, rfl, _, rfl, ?_⟩
        refine ite2 (fun _ => ?_) (fun _ => ?_)
        · refine ⟨_, rfl, a, _, _, 3, rfl, rfl, upd_same, rfl, rfl, _, upd_upd⟩
        · refine ⟨_, rfl, _, _, rfl, rfl, ⟨by decide, by decide, by decide⟩, _, _, rfl, rfl, _, rfl, a, _, _, 3, rfl, rfl, upd_same, rfl, rfl, _, upd_upd⟩
      · rintro σ H2 ⟨rfl, b, rfl⟩
        refine ⟨_, rfl, _, _, rfl, rfl, ⟨by decide, by decide, by decide⟩, _, _, rfl, rfl, _, rfl, a, _, _, 2, rfl, rfl, upd_same, rfl, ?_⟩
        generalize q2 : upd (upd H' a (stL c (n + 1) l b)) a _ = H2
        have h2a : H2 a = some (stL c (n + 1) (sd - 10 ^ 18) b) := nAt q2
        have e2 : But a H' H2 := ((But.refl a H').upd).trans (nBt q2)
        generalize sd - 10 ^ 18 = l2 at h2a
        clear q2
        refine ⟨_, rfl, a, _, _, _, rfl, rfl, SqL.of h2a, rfl, _, rfl, ?_⟩
        refine ite2 (fun _ => ?_) (fun _ => ?_)
        · refine ⟨_, rfl, a, _, _, 2, rfl, rfl, h2a, rfl, ?_⟩
          generalize q3 : upd H2 a _ = H3
          have h3a : H3 a = some (stL c (n + 1) 0 b) := nAt q3
          have e3 : But a H' H3 := e2.trans (nBt q3)
          clear q3
          refine ⟨by show 5 ≤ sizeLine; decide, fun p n1 => ?_⟩
          generalize q1 : upd H3 p _ = H1
          have h1 := nAt q1
          have e1 := nSm q1 n1
          refine ⟨p, _, rfl, SqT.of h1, ?_⟩
          refine for_it (walk_enumT (xs := [.int 2147483647, .int 2147483629, .int 2147483587, .int 2147483579, .int 2147483563])) (fun i σ H3 => ∃ (x y z : Option V) (l : Int), σ = [some (.ref a), some (.ref c), some (.int n), some (.int sd), x, y, z] ∧ But a H' H3 ∧ H3 a = some (stL c (n + 1) l b) ∧ H3 p = some (.tup [.int 2147483647, .int 2147483629, .int 2147483587, .int 2147483579, .int 2147483563]))
            ⟨_, _, _, 0, rfl, e3.trans (Same.but e1), e1 _ _ h3a, h1⟩ (fun i σ H3 _ ⟨_, _, _, _, _, _, _, h⟩ => SqT.of h) ?_ ?_
          · rintro i x σ H3 H4 hi ⟨x4, x5, x6, l, rfl, eb, h3a, h3p⟩ ⟨T5, x1, x2, rfl, nT, rfl, hx1, hx2⟩
            obtain ⟨pr, hpr, hp0, hp1⟩ : ∃ pr : Int, x2 = .int pr ∧ 0 < pr ∧ pr < 2 ^ 32 := by
              rcases i with _ | _ | _ | _ | _ | i
              · exact ⟨_, (Option.some.inj hx2).symm, by decide, by decide⟩
              · exact ⟨_, (Option.some.inj hx2).symm, by decide, by decide⟩
              · exact ⟨_, (Option.some.inj hx2).symm, by decide, by decide⟩
              · exact ⟨_, (Option.some.inj hx2).symm, by decide, by decide⟩
              · exact ⟨_, (Option.some.inj hx2).symm, by decide, by decide⟩
              · exact absurd hi (by simp)
            have hx1' : x1 = .int (i : Nat) := (Option.some.inj hx1).symm
            subst hpr hx1'
            have hi5 : (i : Int) < 5 := by
              have hi' : i < 5 := hi
              omega
            have h4a : upd H3 T5 (.tup [.int (i : Nat), .int pr]) a = some (stL c (n + 1) l b) := by
              rw [upd_ne (ne_of_none h3a nT)]
              exact h3a
            have h4p := (Same.new (o := .tup [.int (i : Nat), .int pr]) nT) _ _ h3p
            have eb4 : But a H' (upd H3 T5 (.tup [.int (i : Nat), .int pr])) := eb.trans (Same.but (Same.new nT))
            have hT5 : upd H3 T5 (.tup [.int (i : Nat), .int pr]) T5 = some (.tup [.int (i : Nat), .int pr]) := upd_same
            generalize upd H3 T5 (.tup [.int (i : Nat), .int pr]) = H4 at h4a h4p eb4 hT5
            refine ⟨T5, _, rfl, SqT.of hT5, rfl, _, _, rfl, _, _, rfl, rfl, ?_⟩
            refine ⟨_, rfl, _, rfl, _, _, rfl, rfl, mulS' (by decide), _, rfl, _, _, rfl, rfl, mulS (by omega), _, _, rfl, rfl, _, rfl, _, _, rfl, rfl, mulS' (by decide), _, _, rfl, rfl, _, rfl, _, _, rfl, rfl, mulS' (by decide), _, _, rfl, rfl, _, _, rfl, rfl, mulS (by omega), .inl ⟨_, rfl, _, rfl, _, _, rfl, rfl, hp0, ?_⟩⟩
            have hf0 := Int.emod_nonneg ((sd + 10007 * (i : Int) * i + 101 * i) * (48271 + 2 * i)) (b := pr) (by omega)
            have hf1 := Int.emod_lt_of_pos ((sd + 10007 * (i : Int) * i + 101 * i) * (48271 + 2 * i)) hp0
            refine ⟨_, rfl, a, _, _, _, rfl, rfl, SqL.of h4a, rfl, _, rfl, _, _, rfl, rfl, mulS (by omega), _, rfl, _, _, rfl, rfl, ⟨by decide, by decide, by omega⟩, .inl ⟨_, rfl, _, rfl, _, _, rfl, rfl, hp0, _, _, rfl, rfl, _, rfl, a, _, _, 2, rfl, rfl, h4a, rfl, ?_⟩⟩
            refine ⟨_, _, _, _, rfl, eb4.upd, upd_same, ?_⟩
            rw [upd_ne (ne_of h4p h4a (by intro z; cases z))]
            exact h4p
          · rintro σ H3 ⟨_, _, _, l, rfl, eb, h3a, h3p⟩
            exact k _ eb ⟨c, ns, _, _, _, h3a, hca, eb.sq hca hS, hl⟩
        · exact k _ e2 ⟨c, ns, _, _, _, h2a, hca, e2.sq hca hS, hl⟩
def spTake (K : PySem.W.Frag) : Sp := fun vs H Q _ => ∃ (a : Addr) (z : Int), vs = [.ref a, .int z] ∧ Stt K H a ∧ 0 < z ∧ z < 2 ^ 200 ∧ ∀ H' d, But a H H' → Stt K H' a → 0 ≤ d → d < z → Q (.int d) H'
abbrev s__law_take : Stmt := top 13
abbrev N__law_take : List Str := ["_law_state", "_law_many", "_law_laps", "_law_digit"]
theorem sc__law_take : FnScope N__law_take ["_law_state", "_law_many"] (defScope s__law_take) := ⟨rfl, rfl, rfl, by decide +kernel, rfl, by decide +kernel, by decide +kernel⟩
-- slots: 0 _law_state, 1 _law_many, 2 _law_laps, 3 _law_digit
theorem ok__law_take {f : Addr} {fd : FuncData} (F : FunD K "_law_take" "_law_take" (defArgs s__law_take) (defBody s__law_take) (defScope s__law_take) [] [] f fd) (T : Bt mg) (c__law_fill : C8.Cal P w K mg base 1 "_law_fill" (spFill K) []) : FnOk P w K mg base CX0 2 f fd ["_law_state", "_law_many"] (spTake K) := by
  refine F.ok sc__law_take (fun vs H Q E h => ?_) (fun cdv A outer s H vs Q E hr h => ?_)
  · obtain ⟨a, z, rfl, hs, hz, hz2, k⟩ := h
    rfl
  · obtain ⟨a, z, rfl, hs, hz, hz2, k⟩ := h
    refine ⟨_, PSs.nox (pss_cons (ps_set (i := 2) sc__law_take.nd rfl (Or.inl rfl) pe_int)
      (Evl.pss_cut (ps_while PassesOwn.never (PW.pt (pw_and (pt_cmpR op_lt (pv 2) pe_int (nomark _)) (pw_and1 (PW.pt (pw_or (pt_cmpR op_eq (pe_ix ix_list (pv 0) pe_int (fun _ _ => rfl)) pe_int (nomark _)) (pw_or1 (PW.pt (pw_and (pt_val (pe_ix ix_list (pv 0) pe_int (fun _ _ => rfl))) (pw_and1 (pt_cmpR op_lt (pe_ix ix_list (pv 0) pe_int (fun _ _ => rfl)) (pe_op op_mulG (pv 1) pe_int) (nomark _))))))))))) (pss_cons (ps_expr (C8.pe_c c__law_fill hr (by decide) rfl (pa_cons (pv 0) pa_nil)))
      (pss_cons (ps_aug (i := 2) sc__law_take.nd rfl (Or.inl rfl) pe_int ip_add)
      (pss_one (ps_if (PW.pt (pw_and (pt_val (pe_ix ix_list (pv 0) pe_int (fun _ _ => rfl))) (pw_and1 (pt_cmpR op_lt (pe_ix ix_list (pv 0) pe_int (fun _ _ => rfl)) (pe_op op_mulG (pv 1) pe_int) (nomark _))))) (pss_one (ps_asg (pe_op op_add (pe_ix ix_list (pv 0) pe_int (fun _ _ => rfl)) (pe_op op_mulG (pe_op op_mulG (pv 1) pe_int) (pe_op op_add pe_int (pe_op op_mod (pe_callTy call_int1 rfl T.int (by decide +kernel) (pa_cons (pe_ix ix_list (pv 0) pe_int (fun _ _ => rfl)) pa_nil)) pe_int)))) (pg_sub (pv 0) pe_int set_list))) pss_nil)))))
      (pss_cons (ps_set (i := 3) sc__law_take.nd rfl (Or.inl rfl) (pe_op op_mod (pe_callTy call_int1 rfl T.int (by decide +kernel) (pa_cons (pe_ix ix_list (pv 0) pe_int (fun _ _ => rfl)) pa_nil)) (pv 1)))
      (pss_cons (ps_asg (pe_op op_fdivG (pe_ix ix_list (pv 0) pe_int (fun _ _ => rfl)) (pv 1)) (pg_sub (pv 0) pe_int set_list))
      (pss_one (ps_ret (pv 3))))))), ?_⟩
    refine ⟨fun σ H' => ∃ x, σ = [some (.ref a), some (.int z), x, none] ∧ Stt K H' a ∧ But a H H', ?_, ?_⟩
    · refine ⟨fun m σ H' => ∃ laps : Nat, m + laps = 64 ∧ σ = [some (.ref a), some (.int z), some (.int (laps : Nat)), none] ∧ Stt K H' a ∧ But a H H', ⟨64, 0, rfl, rfl, hs, But.refl a H⟩, ?_⟩
      rintro m σ H1 ⟨laps, hm, rfl, hs1, e1⟩
      obtain ⟨c, ns, n, l, mx, ha, hca, hS, hl⟩ := id hs1
      refine ansE (fun b => b = true → laps < 64) ⟨_, ans_and2 (aI0 (val_var rfl) val_c) (ans_or2 (aEq (vIx (val_var rfl) val_c (SqL.of ha) rfl) val_c rfl) (ans_and2 (ans_val (vIx (val_var rfl) val_c (SqL.of ha) rfl)) (aI0 (vIx (val_var rfl) val_c (SqL.of ha) rfl) (vI (val_var rfl) val_c (mulS (by decide)))))), fun hb => ?_⟩ (fun b hb => ?_)
      · have := of_decide_eq_true (Bool.and_eq_true_iff.mp hb).1
        omega
      · refine ite2 (fun hb2 => ?_) (fun _ => ⟨_, rfl, hs1, e1⟩)
        have hlt := hb hb2
        refine ⟨fun σ' H' => ∃ laps' : Nat, laps' = laps + 1 ∧ σ' = [some (.ref a), some (.int z), some (.int (laps' : Nat)), none] ∧ Stt K H' a ∧ But a H H', fun σ' H' ⟨l', hl', r⟩ => ⟨m - 1, by omega, l', by omega, r⟩, ?_⟩
        refine ⟨_, rfl, a, rfl, hs1, fun H2 e2 hs2 => ?_⟩
        obtain ⟨c, ns, n, l, mx, ha, hca, hS, hl⟩ := id hs2
        have e12 := e1.trans e2
        refine ⟨_, rfl, _, _, rfl, rfl, ?_⟩
        refine ansE (fun _ => True) ⟨_, ans_and2 (ans_val (vIx (val_var rfl) val_c (SqL.of ha) rfl)) (aI0 (vIx (val_var rfl) val_c (SqL.of ha) rfl) (vI (val_var rfl) val_c (mulS (by decide)))), trivial⟩ (fun b _ => ?_)
        refine ite2 (fun _ => ?_) (fun _ => ⟨laps + 1, rfl, rfl, hs2, e12⟩)
        have hq0 := Int.emod_nonneg l (b := 4093) (by decide)
        have hq1 := Int.emod_lt_of_pos l (b := 4093) (by decide)
        refine ⟨_, rfl, a, _, _, _, rfl, rfl, SqL.of ha, rfl, _, rfl, _, _, rfl, rfl, mulS (by decide), _, rfl, a, _, _, _, rfl, rfl, SqL.of ha, rfl, .inl ⟨_, rfl, _, _, rfl, rfl, (show (0 : Int) < 4093 by decide), _, _, rfl, rfl, _, _, rfl, rfl, mulS (by omega), _, _, rfl, rfl, _, rfl, a, _, _, 2, rfl, rfl, ha, rfl, ?_⟩⟩
        generalize q3 : upd H2 a _ = H3
        have h3a := nAt q3
        have e3 : But a H2 H3 := nBt q3
        exact ⟨laps + 1, rfl, rfl, ⟨c, ns, _, _, _, h3a, hca, e3.sq hca hS, hl⟩, e12.trans e3⟩
    · rintro σ H1 ⟨x, rfl, hs1, e1⟩
      obtain ⟨c, ns, n, l, mx, ha, hca, hS, hl⟩ := id hs1
      refine ⟨_, rfl, a, _, _, _, rfl, rfl, SqL.of ha, rfl, .inl ⟨_, rfl, _, rfl, _, _, rfl, rfl, hz, ?_⟩⟩
      refine ⟨_, rfl, a, _, _, _, rfl, rfl, SqL.of ha, rfl, _, rfl, _, _, rfl, rfl, ⟨by omega, ?_⟩, _, rfl, a, _, _, 2, rfl, rfl, ha, rfl, ?_⟩
      · have zz : z.natAbs < 2 ^ 200 := by omega
        exact Nat.lt_of_lt_of_le (PySem.Flt.log2_lt_of (by decide) zz) (by decide)
      generalize q3 : upd H1 a _ = H3
      have h3a := nAt q3
      have e3 : But a H1 H3 := nBt q3
      exact ⟨_, rfl, k _ _ (e1.trans e3) ⟨c, ns, _, _, _, h3a, hca, e3.sq hca hS, hl⟩ (Int.emod_nonneg _ (by omega)) (Int.emod_lt_of_pos _ hz)⟩
def spOne (K : PySem.W.Frag) : Sp := fun vs H Q _ => ∃ (a b : Addr) (xs : List V), vs = [.ref a, .ref b] ∧ Stt K H a ∧ H b = some (.lst xs) ∧ notSt (.lst xs) = true ∧ 0 < xs.length ∧ xs.length ≤ 1000 ∧ ∀ H' v, But a H H' → Stt K H' a → v ∈ xs → Q v H'
abbrev s__law_one : Stmt := top 14
abbrev N__law_one : List Str := ["_law_state", "_law_things"]
theorem sc__law_one : FnScope N__law_one ["_law_state", "_law_things"] (defScope s__law_one) := ⟨rfl, rfl, rfl, by decide +kernel, rfl, by decide +kernel, by decide +kernel⟩
-- slots: 0 _law_state, 1 _law_things
theorem ok__law_one {f : Addr} {fd : FuncData} (F : FunD K "_law_one" "_law_one" (defArgs s__law_one) (defBody s__law_one) (defScope s__law_one) [] [] f fd) (T : Bt mg) (c__law_take : C8.Cal P w K mg base 2 "_law_take" (spTake K) []) : FnOk P w K mg base CX0 3 f fd ["_law_state", "_law_things"] (spOne K) := by
  refine F.ok sc__law_one (fun vs H Q E h => ?_) (fun cdv A outer s H vs Q E hr h => ?_)
  · obtain ⟨a, b, xs, rfl, hs, hb, hn, h0, h1, k⟩ := h
    rfl
  · obtain ⟨a, b, xs, rfl, hs, hb, hn, h0, h1, k⟩ := h
    refine ⟨_, PSs.nox (pss_one (ps_ret (pe_ix ix_list (pv 1) (C8.pe_c c__law_take hr (by decide) rfl (pa_cons (pv 0) (pa_cons (pe_callB call_len_seq rfl T.len (by decide +kernel) (pa_cons (pv 1) pa_nil)) pa_nil))) (fun _ _ => rfl)))), ?_⟩
    refine ⟨_, rfl, _, rfl, _, rfl, b, xs, rfl, .inl (SqL.of hb), a, _, rfl, hs, by omega, by omega, fun H1 d e1 hs1 hd0 hd1 => ?_⟩
    obtain ⟨v, hv, hat⟩ := atL (xs := xs) hd0 hd1 rfl
    exact ⟨b, xs, _, v, rfl, rfl, SqL.of (e1.get hs hb hn), hat, k _ _ e1 hs1 (List.mem_of_getElem? hv)⟩
end
end LW
namespace LM
/-! fractions as pairs -/
def rwh (o u : Int) : Int := if u < 0 then -(o.gcd u : Int) else (o.gcd u : Int)
def rO (o u : Int) : Int := o.fdiv (rwh o u)
def rD (o u : Int) : Int := u.fdiv (rwh o u)
def Red (o u : Int) : Prop := 0 < u ∧ o.gcd u = 1
theorem gcd_step (a b : Int) : b.gcd (a.fmod b) = a.gcd b := by
  have h : a.fmod b = a + (-(a.fdiv b)) * b := by
    have := Int.mul_fdiv_add_fmod a b
    have e : a.fdiv b * b = b * a.fdiv b := Int.mul_comm _ _
    rw [Int.neg_mul, e]
    omega
  rw [h, Int.gcd_add_mul_right_right, Int.gcd_comm]
theorem fmod_lt (a b : Int) (h : b ≠ 0) : (a.fmod b).natAbs < b.natAbs := by
  rcases Int.lt_or_gt_of_ne h with h1 | h1
  · have q1 : b < a.fmod b := by
      have := Int.fmod_eq_emod (a := a) (b := b)
      have e1 := Int.emod_nonneg a h
      have e2 := Int.emod_lt_of_neg a h1
      by_cases hd : 0 ≤ b ∨ b ∣ a
      · rw [if_pos hd] at this
        omega
      · rw [if_neg hd] at this
        have e3 : a % b ≠ 0 := fun z => hd (.inr (Int.dvd_of_emod_eq_zero z))
        omega
    have q2 : a.fmod b ≤ 0 := by
      have := Int.fmod_eq_emod (a := a) (b := b)
      have e2 := Int.emod_lt_of_neg a h1
      by_cases hd : 0 ≤ b ∨ b ∣ a
      · rw [if_pos hd] at this
        have e3 : a % b = 0 := Int.emod_eq_zero_of_dvd (hd.resolve_left (by omega))
        omega
      · rw [if_neg hd] at this
        omega
    omega
  · have q1 := Int.fmod_nonneg_of_pos a h1
    have q2 := Int.fmod_lt_of_pos a h1
    omega
theorem gcd_pos {o u : Int} (h : u ≠ 0) : 0 < o.gcd u := Int.gcd_pos_of_ne_zero_right o h
theorem rwh_ne {o u : Int} (h : u ≠ 0) : rwh o u ≠ 0 := by
  have := gcd_pos (o := o) h
  unfold rwh
  split <;> omega
theorem rwh_dvd_o (o u : Int) : rwh o u ∣ o := by
  unfold rwh
  split
  · exact Int.neg_dvd.mpr (Int.gcd_dvd_left o u)
  · exact Int.gcd_dvd_left o u
theorem rwh_dvd_u (o u : Int) : rwh o u ∣ u := by
  unfold rwh
  split
  · exact Int.neg_dvd.mpr (Int.gcd_dvd_right o u)
  · exact Int.gcd_dvd_right o u
theorem fdiv_dvd {a b : Int} (h : b ∣ a) : a.fdiv b = a / b := by
  rw [Int.fdiv_eq_ediv_of_dvd h]
theorem rO_mul (o u : Int) : rO o u * rwh o u = o := by
  unfold rO
  rw [fdiv_dvd (rwh_dvd_o o u)]
  exact Int.ediv_mul_cancel (rwh_dvd_o o u)
theorem rD_mul (o u : Int) : rD o u * rwh o u = u := by
  unfold rD
  rw [fdiv_dvd (rwh_dvd_u o u)]
  exact Int.ediv_mul_cancel (rwh_dvd_u o u)
/-- what such a pair is, it is by these -/
theorem red_unique {o u x y w : Int} (hu : u ≠ 0) (hr : Red x y) (h1 : x * w = o) (h2 : y * w = u) : rO o u = x ∧ rD o u = y := by
  have hw : w ≠ 0 := fun z => by
    rw [z, Int.mul_zero] at h2
    omega
  have hg : o.gcd u = w.natAbs := by
    rw [← h1, ← h2, Int.gcd_mul_right, hr.2, Nat.one_mul]
  have hs : rwh o u = w := by
    unfold rwh
    rw [hg]
    have hy := hr.1
    by_cases hneg : w < 0
    · have : u < 0 := by
        rw [← h2]
        exact Int.mul_neg_of_pos_of_neg hy hneg
      rw [if_pos this]
      omega
    · have : ¬ u < 0 := by
        have : 0 < y * w := Int.mul_pos hy (by omega)
        omega
      rw [if_neg this]
      omega
  unfold rO rD
  rw [hs]
  constructor
  · rw [← h1]
    exact Int.mul_fdiv_cancel x hw
  · rw [← h2]
    exact Int.mul_fdiv_cancel y hw
theorem red_of {o u : Int} (hu : u ≠ 0) : Red (rO o u) (rD o u) := by
  have hg := gcd_pos (o := o) hu
  have e := Int.gcd_ediv_gcd_ediv_gcd (i := o) (j := u) hg
  have hgd := Int.gcd_dvd_right o u
  unfold rO rD
  rw [fdiv_dvd (rwh_dvd_o o u), fdiv_dvd (rwh_dvd_u o u)]
  by_cases hneg : u < 0
  · have hw : rwh o u = -(o.gcd u : Int) := by
      unfold rwh
      rw [if_pos hneg]
    rw [hw, Int.ediv_neg, Int.ediv_neg]
    refine ⟨?_, ?_⟩
    · have : u / (o.gcd u : Int) < 0 := Int.ediv_neg_of_neg_of_pos hneg (by omega)
      omega
    · rw [Int.gcd_neg, Int.neg_gcd]
      exact e
  · have hw : rwh o u = (o.gcd u : Int) := by
      unfold rwh
      rw [if_neg hneg]
    rw [hw]
    refine ⟨?_, e⟩
    exact Int.ediv_pos_of_pos_of_dvd (by omega) (by omega) hgd
theorem red_self {o u : Int} (h : Red o u) : rO o u = o ∧ rD o u = u :=
  red_unique (w := 1) (by have := h.1; omega) h (Int.mul_one o) (Int.mul_one u)
theorem red_scale {o u s : Int} (h : Red o u) (hs : s ≠ 0) : rO (o * s) (u * s) = o ∧ rD (o * s) (u * s) = u :=
  red_unique (w := s) (by
    have := h.1
    exact Int.mul_ne_zero (by omega) hs) h rfl rfl
theorem red_one (o : Int) : Red o 1 := ⟨by decide, by simp⟩
theorem red_neg {o u : Int} (h : Red o u) : Red (-o) u := ⟨h.1, by rw [Int.neg_gcd]; exact h.2⟩
/-! bounds -/
theorem abs_rO {o u : Int} (hu : u ≠ 0) : (rO o u).natAbs ≤ o.natAbs := by
  have e := rO_mul o u
  have hw := rwh_ne (o := o) hu
  have : (rO o u).natAbs * (rwh o u).natAbs = o.natAbs := by rw [← Int.natAbs_mul, e]
  have hp : 0 < (rwh o u).natAbs := by omega
  rw [← this]
  exact Nat.le_mul_of_pos_right _ hp
theorem abs_rD {o u : Int} (hu : u ≠ 0) : (rD o u).natAbs ≤ u.natAbs := by
  have e := rD_mul o u
  have hw := rwh_ne (o := o) hu
  have : (rD o u).natAbs * (rwh o u).natAbs = u.natAbs := by rw [← Int.natAbs_mul, e]
  have hp : 0 < (rwh o u).natAbs := by omega
  rw [← this]
  exact Nat.le_mul_of_pos_right _ hp
theorem abs_rwh {o u : Int} (hu : u ≠ 0) : (rwh o u).natAbs ≤ u.natAbs := by
  have e := rD_mul o u
  have hw : rD o u ≠ 0 := by
    have := (red_of (o := o) hu).1
    omega
  have : (rD o u).natAbs * (rwh o u).natAbs = u.natAbs := by rw [← Int.natAbs_mul, e]
  have hp : 0 < (rD o u).natAbs := by omega
  rw [← this]
  exact Nat.le_mul_of_pos_left _ hp
end LM
set_option Elab.async false
set_option linter.all false
set_option maxRecDepth 100000
set_option maxHeartbeats 4000000
namespace LW
open PySem PySem.Spec PyProof.Rows L2 LV LM
/-! the class Exact -/
structure XC (K : PySem.W.Frag) (mg : Str → Option Value) (C : Addr) : Prop extends Bt mg where
  cl : Cls K C
  nO : NoAttr K C "over"
  nU : NoAttr K C "under"
  own : OwnC K C
  mgC : mg "Exact" = some (.ref C)
  ha : PySem.W.findIn K (.ref C) "__class__" = some (some (.builtin "object.__class__"))
  hn : PySem.W.specialIn K (.builtin "object.__class__") "__get__" = some (some (.builtin "getset_descriptor.__get__"))
  htk : PySem.W.takesIn K (.builtin "object.__class__") = some true
  hm : PySem.W.mroIn K C (.type "object") = some true
  kXI : PySem.W.kitOne K (.ref C) (.type "int") = some false
  kXB : PySem.W.kitOne K (.ref C) (.type "bool") = some false
  kXL : PySem.W.kitOne K (.ref C) (.type "list") = some false
  kXT : PySem.W.kitOne K (.ref C) (.type "tuple") = some false
  kIX : PySem.W.kitOne K (.type "int") (.ref C) = some false
  kLX : PySem.W.kitOne K (.type "list") (.ref C) = some false
  kTX : PySem.W.kitOne K (.type "tuple") (.ref C) = some false
  f_radd : ∃ g, PySem.W.findIn K (.ref C) "__radd__" = some (some (.ref g))
  f_rsub : ∃ g, PySem.W.findIn K (.ref C) "__rsub__" = some (some (.ref g))
  f_rmul : ∃ g, PySem.W.findIn K (.ref C) "__rmul__" = some (some (.ref g))
def exF (o u : Int) : List (Str × V) := [("over", .int o), ("under", .int u)]
/-- v is an Exact over o under u -/
def IsX (C : Addr) (H : Hp) (v : V) (o u : Int) : Prop := ∃ x dx, v = .ref x ∧ H x = some (.ins C dx (exF o u))
theorem IsX.same {C : Addr} {H H1 : Hp} {v : V} {o u : Int} (e : Same H H1) (h : IsX C H v o u) : IsX C H1 v o u := by
  obtain ⟨x, dx, rfl, h⟩ := h
  exact ⟨x, dx, rfl, e _ _ h⟩
theorem IsX.but {K : PySem.W.Frag} {a C : Addr} {H H1 : Hp} {v : V} {o u : Int} (e : But a H H1) (s : Stt K H a) (h : IsX C H v o u) : IsX C H1 v o u := by
  obtain ⟨x, dx, rfl, h⟩ := h
  exact ⟨x, dx, rfl, e.get s h rfl⟩
/-- v is a number: an int or an Exact -/
def IsN (C : Addr) (H : Hp) (v : V) (o u : Int) : Prop := (v = .int o ∧ u = 1) ∨ IsX C H v o u
theorem IsN.same {C : Addr} {H H1 : Hp} {v : V} {o u : Int} (e : Same H H1) (h : IsN C H v o u) : IsN C H1 v o u := h.imp id (IsX.same e)
theorem IsN.num {C : Addr} {H : Hp} {v : V} {o u : Int} (h : IsN C H v o u) : NumV C H v := by
  rcases h with ⟨rfl, _⟩ | ⟨x, dx, rfl, h⟩
  · exact .inl ⟨_, rfl⟩
  · exact .inr ⟨x, dx, _, rfl, h⟩
abbrev Big (i : Int) : Prop := i.natAbs < 2 ^ 4000
theorem big_ne {i : Int} (h : Big i) : i.natAbs.log2 < 9000 := Nat.lt_of_lt_of_le (PySem.Flt.log2_lt_of (by decide) h) (by decide)
theorem mulB {i j : Int} (h : Big i) (h' : Big j) : IntMulOk i j := (wide_mul h h' (by decide) (by decide) (by decide)).ok
abbrev Sm (i : Int) : Prop := i.natAbs < 2 ^ 1000
theorem Sm.big {i : Int} (h : Sm i) : Big i := Nat.lt_of_lt_of_le h (Nat.pow_le_pow_right (by decide) (by decide))
theorem smul {i j : Int} (h : Sm i) (h' : Sm j) : IntMulOk i j := mulB h.big h'.big
theorem big_mul {i j : Int} (h : Sm i) (h' : Sm j) : Big (i * j) := by
  have q := wide_lt h h'
  exact Nat.lt_of_lt_of_le q (Nat.pow_le_pow_right (by decide) (by decide))
theorem kII (K : PySem.W.Frag) : PySem.W.kitOne K (.type "int") (.type "int") = some true := rfl
theorem kIB (K : PySem.W.Frag) : PySem.W.kitOne K (.type "int") (.type "bool") = some false := by kernel_rfl
section
variable {P : Program} {w : World} {K : PySem.W.Frag} {mg : Str → Option Value} {base : Heap} {C : Addr}
/-! is_integer -/
def spInt (K : PySem.W.Frag) : Sp := fun vs H Q _ => ∃ (v : V) (t : Value) (b c : Bool), vs = [v] ∧ TyX K H v t ∧ PySem.W.kitOne K t (.type "int") = some b ∧ PySem.W.kitOne K t (.type "bool") = some c ∧ Q (.bl (b && !c)) H
abbrev s_is_integer : Stmt := top 5
abbrev N_is_integer : List Str := ["thing"]
theorem sc_is_integer : FnScope N_is_integer ["thing"] (defScope s_is_integer) := ⟨rfl, rfl, rfl, by decide +kernel, rfl, by decide +kernel, by decide +kernel⟩
-- slots: 0 thing
theorem ok_is_integer {f : Addr} {fd : FuncData} (F : FunD K "is_integer" "is_integer" (defArgs s_is_integer) (defBody s_is_integer) (defScope s_is_integer) [] [] f fd) (T : Bt mg) : FnOk P w K mg base CX0 1 f fd ["thing"] (spInt K) := by
  refine F.ok sc_is_integer (fun vs H Q E h => ?_) (fun cdv A outer s H vs Q E hr h => ?_)
  · obtain ⟨v, t, b, c, rfl, ht, hb, hc, k⟩ := h
    rfl
  · obtain ⟨v, t, b, c, rfl, ht, hb, hc, k⟩ := h
    refine ⟨_, PSs.nox (pss_one (ps_ret (pe_and (pe_callB call_isi rfl T.isinstance (by decide +kernel) (pa_cons (pv 0) (pa_cons (pe_bltn (v := .ty "int") rfl T.int (by decide +kernel) rfl) pa_nil))) (pe_one (pe_not (pe_callB call_isi rfl T.isinstance (by decide +kernel) (pa_cons (pv 0) (pa_cons (pe_bltn (v := .ty "bool") rfl T.bool (by decide +kernel) rfl) pa_nil)))))))), ?_⟩
    refine ⟨_, rfl, _, _, t, _, b, rfl, .ty "int", ht, hb, b, rfl, ?_⟩
    cases b with
    | false => exact k
    | true => exact ⟨_, rfl, _, _, t, _, c, rfl, .ty "bool", ht, hc, c, rfl, k⟩
theorem int_yes {H : Hp} {Q : VK} {E : XK} {i : Int} (q : Q (.bl true) H) : spInt K [.int i] H Q E := ⟨_, _, true, false, rfl, .base (.int i), kII K, kIB K, q⟩
/-! common -/
def spGcd : Sp := fun vs H Q _ => ∃ a b : Int, vs = [.int a, .int b] ∧ Q (.int (a.gcd b : Int)) H
abbrev s_common : Stmt := top 7
abbrev N_common : List Str := ["a", "b"]
theorem sc_common : FnScope N_common ["a", "b"] (defScope s_common) := ⟨rfl, rfl, rfl, by decide +kernel, rfl, by decide +kernel, by decide +kernel⟩
-- slots: 0 a, 1 b
theorem ok_common {f : Addr} {fd : FuncData} (F : FunD K "common" "common" (defArgs s_common) (defBody s_common) (defScope s_common) [] [] f fd) (T : Bt mg) : FnOk P w K mg base CX0 1 f fd ["a", "b"] spGcd := by
  refine F.ok sc_common (fun vs H Q E h => ?_) (fun cdv A outer s H vs Q E hr h => ?_)
  · obtain ⟨a, b, rfl, k⟩ := h
    rfl
  · obtain ⟨a, b, rfl, k⟩ := h
    refine ⟨_, PSs.nox (pss_cons (ps_while PassesOwn.never (pt_cmpR op_ne (pv 1) pe_int (nomark _)) (pss_one (ps_par (i := 0) (j := 1) rfl sc_common.nd rfl rfl (by decide) rfl rfl (pa_cons (pv 1) (pa_cons (pe_op op_modN (pv 0) (pv 1)) pa_nil)) rfl)))
      (pss_one (ps_ret (pe_ifExp (pt_cmpR op_gt (pv 0) pe_int (nomark _)) (pv 0) (pe_un un_neg (pv 0)))))), ?_⟩
    refine ⟨fun m σ H' => ∃ x y : Int, σ = [some (.int x), some (.int y)] ∧ H' = H ∧ m = y.natAbs ∧ x.gcd y = a.gcd b, ⟨_, a, b, rfl, rfl, rfl, rfl⟩, ?_⟩
    rintro m σ H' ⟨x, y, rfl, rfl, rfl, hg⟩
    refine ⟨_, rfl, rfl, _, rfl, ?_⟩
    by_cases hy : y = 0
    · subst hy
      refine iteF ?_
      rw [Int.gcd_zero_right] at hg
      refine ⟨_, rfl, _, _, rfl, rfl, _, rfl, ?_⟩
      refine ite2 (fun hc => ?_) (fun hc => ?_)
      · have h0 : 0 < x := of_decide_eq_true hc
        refine ⟨_, rfl, ?_⟩
        have e : x = (a.gcd b : Int) := by omega
        rw [e]
        exact k
      · have h0 : ¬ 0 < x := fun z => hc (decide_eq_true z)
        refine ⟨_, rfl, _, rfl, ?_⟩
        have e : -x = (a.gcd b : Int) := by omega
        show Q (.int (-x)) _
        rw [e]
        exact k
    · have e : (!decide (V.int y = V.int 0)) = true := by simp [hy]
      rw [e]
      refine iteT ⟨fun σ' H'' => σ' = [some (.int y), some (.int (x.fmod y))] ∧ H'' = H', fun σ' H'' ⟨h1, h2⟩ => ⟨_, fmod_lt x y hy, y, _, h1, h2, rfl, (gcd_step x y).trans hg⟩, ?_⟩
      exact ⟨_, rfl, _, rfl, _, rfl, _, _, rfl, rfl, hy, _, _, rfl, rfl, rfl⟩
/-! Exact(over, under) -/
def spInit (C : Addr) : Sp := fun vs H Q _ => ∃ (p dx : Addr) (o u : Int), vs = [.ref p, .int o, .int u] ∧ H p = some (.ins C dx []) ∧ u ≠ 0 ∧ Big u ∧ ∀ H', But p H H' → H' p = some (.ins C dx (exF (rO o u) (rD o u))) → Q .non H'
abbrev s_Exact___init__ : Stmt := inClass (top 8) 0
abbrev N_Exact___init__ : List Str := ["self", "over", "under", "part", "whole"]
theorem sc_Exact___init__ : FnScope N_Exact___init__ ["self", "over", "under"] (defScope s_Exact___init__) := ⟨rfl, rfl, rfl, by decide +kernel, rfl, by decide +kernel, by decide +kernel⟩
-- slots: 0 self, 1 over, 2 under, 3 part, 4 whole
theorem ok_Exact___init__ {f : Addr} {fd : FuncData} (F : FunD K "__init__" "Exact.__init__" (defArgs s_Exact___init__) (defBody s_Exact___init__) (defScope s_Exact___init__) [.int 1] [] f fd) (T : XC K mg C) (c_is_integer : C8.Cal P w K mg base 1 "is_integer" (spInt K) []) (c_common : C8.Cal P w K mg base 1 "common" spGcd []) : FnOk P w K mg base CX0 2 f fd ["self", "over", "under"] (spInit C) := by
  refine F.ok sc_Exact___init__ (fun vs H Q E h => ?_) (fun cdv A outer s H vs Q E hr h => ?_)
  · obtain ⟨p, dx, o, u, rfl, hp, hu, hub, k⟩ := h
    rfl
  · obtain ⟨p, dx, o, u, rfl, hp, hu, hub, k⟩ := h
    refine ⟨_, PSs.nox (pss_cons (ps_for PassesOwn.never rfl (pi_tup (pe_tup (pa_cons (pv 1) (pa_cons (pv 2) pa_nil)))) (pg_name (i := 3) sc_Exact___init__.nd rfl (Or.inl rfl)) (pss_one (ps_if (pt_not (pt_val (C8.pe_c c_is_integer hr (by decide) rfl (pa_cons (pv 3) pa_nil)))) (pss_one ps_never) pss_nil)))
      (pss_cons (ps_if (pt_cmpR op_eq (pv 2) pe_int (nomark _)) (pss_one ps_never) pss_nil)
      (pss_cons (ps_set (i := 4) sc_Exact___init__.nd rfl (Or.inl rfl) (C8.pe_c c_common hr (by decide) rfl (pa_cons (pv 1) (pa_cons (pv 2) pa_nil))))
      (Evl.pss_cut (ps_if (pt_cmpR op_lt (pv 2) pe_int (nomark _)) (pss_one (ps_set (i := 4) sc_Exact___init__.nd rfl (Or.inl rfl) (pe_un un_neg (pv 4)))) pss_nil)
      (pss_cons (ps_fld (pv 0) (pe_op op_fdivG (pv 1) (pv 4)) rfl)
      (pss_one (ps_fld (pv 0) (pe_op op_fdivG (pv 2) (pv 4)) rfl))))))), ?_⟩
    refine ⟨_, rfl, _, rfl, by show 2 ≤ sizeLine; decide, fun t n1 => ?_⟩
    generalize q1 : upd H t _ = H1
    have h1 := nAt q1
    have e1 := nSm q1 n1
    refine ⟨t, rfl, ⟨_, SqT.of h1⟩, ?_⟩
    refine for_it (walk_tup (xs := [.int o, .int u])) (fun i σ H2 => ∃ x, σ = [some (.ref p), some (.int o), some (.int u), x, none] ∧ H2 = H1) ⟨_, rfl, rfl⟩ (fun i σ H2 _ ⟨_, _, e⟩ => by rw [e]; exact SqT.of h1) ?_ ?_
    · rintro i x σ H2 H3 hi ⟨x3, rfl, rfl⟩ ⟨rfl, hx⟩
      obtain ⟨z, rfl⟩ : ∃ z, x = .int z := by
        rcases i with _ | _ | i
        · exact ⟨_, (Option.some.inj hx).symm⟩
        · exact ⟨_, (Option.some.inj hx).symm⟩
        · exact absurd hi (by simp)
      exact ⟨_, rfl, _, _, true, false, rfl, .base (.int z), kII K, kIB K, _, rfl, iteF ⟨_, rfl, rfl⟩⟩
    rintro σ H2 ⟨x3, rfl, rfl⟩
    refine ⟨_, rfl, rfl, _, rfl, ?_⟩
    have e0 : decide (V.int u = V.int 0) = false := by simp [hu]
    rw [e0]
    refine iteF ⟨_, rfl, _, rfl, o, u, rfl, ?_⟩
    refine ⟨fun σ H3 => σ = [some (.ref p), some (.int o), some (.int u), x3, some (.int (rwh o u))] ∧ H3 = H2, ?_, ?_⟩
    · refine ⟨_, rfl, _, _, rfl, rfl, _, rfl, ?_⟩
      refine ite2 (fun hc => ?_) (fun hc => ?_)
      · have h0 : u < 0 := of_decide_eq_true hc
        refine ⟨_, rfl, _, rfl, ?_, rfl⟩
        have e : rwh o u = -(o.gcd u : Int) := by unfold rwh; rw [if_pos h0]
        rw [e]
        rfl
      · have h0 : ¬ u < 0 := fun z => hc (decide_eq_true z)
        refine ⟨?_, rfl⟩
        have e : rwh o u = (o.gcd u : Int) := by unfold rwh; rw [if_neg h0]
        rw [e]
        rfl
    rintro σ H3 ⟨rfl, rfl⟩
    have hw : rwh o u ≠ 0 ∧ (rwh o u).natAbs.log2 < 9000 := ⟨rwh_ne hu, big_ne (Nat.lt_of_le_of_lt (abs_rwh hu) hub)⟩
    have hp1 := e1 _ _ hp
    refine ⟨_, rfl, _, rfl, _, _, rfl, rfl, hw, _, rfl, p, C, dx, _, rfl, hp1, T.cl, T.nO, (by show 0 < 1000; decide), ?_⟩
    refine ⟨_, rfl, _, rfl, _, _, rfl, rfl, hw, _, rfl, p, C, dx, _, rfl, upd_same, T.cl, T.nU, (by show 1 < 1000; decide), ?_⟩
    refine k _ ((Same.but e1).trans (((But.refl p _).upd).upd)) ?_
    rw [upd_same]
    rfl
/-- what Exact(o, u) makes -/
theorem mkX {H : Hp} {o u : Int} {Q : VK} {E : XK} (hu : u ≠ 0) (hub : Big u) (k : ∀ v H', Same H H' → IsX C H' v (rO o u) (rD o u) → Q v H') :
    ∀ x dx : Addr, H x = none → H dx = none → dx ≠ x → spInit C [.ref x, .int o, .int u] (upd (upd H dx (.own x)) x (.ins C dx [])) (fun v H2 => v = .non ∧ Q (.ref x) H2) E := by
  intro x dx nx nd ne
  refine ⟨x, dx, o, u, rfl, upd_same, hu, hub, fun H' e h => ⟨rfl, k _ _ (fun b ob hb => ?_) ⟨x, dx, rfl, h⟩⟩⟩
  have n1 := ne_of_none hb nx
  refine e b ob n1 ?_
  rw [upd_ne n1, upd_ne (ne_of_none hb nd)]
  exact hb
/-! part_of -/
def spPart (C : Addr) : Sp := fun vs H Q _ => ∃ (v : V) (o u : Int), vs = [v] ∧ IsN C H v o u ∧ ∀ v' H', Same H H' → IsX C H' v' o u → Q v' H'
theorem tyX {H : Hp} {x dx : Addr} {fs : List (Str × V)} (T : XC K mg C) (h : H x = some (.ins C dx fs)) : TyX K H (.ref x) (.ref C) := .base (.ins h T.cl T.ha T.hn T.htk T.hm)
theorem kXX (K : PySem.W.Frag) (C : Addr) : PySem.W.kitOne K (.ref C) (.ref C) = some true := by
  unfold PySem.W.kitOne
  rw [if_pos (by simp)]
abbrev s_part_of : Stmt := top 9
abbrev N_part_of : List Str := ["other"]
theorem sc_part_of : FnScope N_part_of ["other"] (defScope s_part_of) := ⟨rfl, rfl, rfl, by decide +kernel, rfl, by decide +kernel, by decide +kernel⟩
-- slots: 0 other
theorem ok_part_of {f : Addr} {fd : FuncData} (F : FunD K "part_of" "part_of" (defArgs s_part_of) (defBody s_part_of) (defScope s_part_of) [] [] f fd) (T : XC K mg C) (c_is_integer : C8.Cal P w K mg base 1 "is_integer" (spInt K) []) (c_Exact : C8.Mak P w K mg base 2 "Exact" C (spInit C) [.int 1]) : FnOk P w K mg base CX0 4 f fd ["other"] (spPart C) := by
  refine F.ok sc_part_of (fun vs H Q E h => ?_) (fun cdv A outer s H vs Q E hr h => ?_)
  · obtain ⟨v, o, u, rfl, hv, k⟩ := h
    rfl
  · obtain ⟨v, o, u, rfl, hv, k⟩ := h
    refine ⟨_, PSs.nox (pss_cons (ps_if (pt_val (pe_callB call_isi rfl T.isinstance (by decide +kernel) (pa_cons (pv 0) (pa_cons (pe_glob (v := .ref C) rfl T.mgC rfl) pa_nil)))) (pss_one (ps_ret (pv 0))) pss_nil)
      (pss_cons (ps_if (pt_not (pt_val (C8.pe_c c_is_integer hr (by decide) rfl (pa_cons (pv 0) pa_nil)))) (pss_one ps_never) pss_nil)
      (pss_one (ps_ret (C8.pe_mk c_Exact hr (by decide) rfl (pa_cons (pv 0) pa_nil)))))), ?_⟩
    rcases hv with ⟨rfl, rfl⟩ | ⟨x, dx, rfl, hx⟩
    · refine ⟨_, rfl, _, _, _, _, _, rfl, .own C, .base (.int o), T.kIX, false, rfl, iteF ?_⟩
      refine ⟨_, rfl, _, _, true, false, rfl, .base (.int o), kII K, kIB K, _, rfl, iteF ?_⟩
      refine ⟨_, rfl, fun x dx nx nd ne => mkX (by decide) (by decide) (fun v' H' e hx => k v' H' e ?_) x dx nx nd ne⟩
      obtain ⟨e1, e2⟩ := red_self (red_one o)
      rw [e1, e2] at hx
      exact hx
    · exact ⟨_, rfl, _, _, _, _, _, rfl, .own C, tyX T hx, kXX K C, true, rfl, iteT ⟨_, rfl, k _ _ (Same.refl H) ⟨x, dx, rfl, hx⟩⟩⟩
end
end LW
set_option Elab.async false
set_option linter.all false
set_option maxRecDepth 100000
set_option maxHeartbeats 4000000
namespace LW
open PySem PySem.Spec PyProof.Rows L2 LV LM
def spBin (C : Addr) (f g : Int → Int → Int → Int → Int) : Sp := fun vs H Q _ => ∃ (x y : V) (o u p q : Int), vs = [x, y] ∧ IsX C H x o u ∧ IsN C H y p q ∧ Sm o ∧ Sm u ∧ Sm p ∧ Sm q ∧ u ≠ 0 ∧ q ≠ 0 ∧
  ∀ v H', Same H H' → IsX C H' v (rO (f o u p q) (g o u p q)) (rD (f o u p q) (g o u p q)) → Q v H'
abbrev spAdd (C : Addr) : Sp := spBin C (fun o u p q => o * q + p * u) (fun _ u _ q => u * q)
abbrev spSub (C : Addr) : Sp := spBin C (fun o u p q => o * q - p * u) (fun _ u _ q => u * q)
abbrev spMul (C : Addr) : Sp := spBin C (fun o _ p _ => o * p) (fun _ u _ q => u * q)
abbrev spRadd (C : Addr) : Sp := spBin C (fun o u p q => p * u + o * q) (fun _ u _ q => q * u)
abbrev spRsub (C : Addr) : Sp := spBin C (fun o u p q => p * u - o * q) (fun _ u _ q => q * u)
abbrev spRmul (C : Addr) : Sp := spBin C (fun o _ p _ => p * o) (fun _ u _ q => q * u)
section
variable {P : Program} {w : World} {K : PySem.W.Frag} {mg : Str → Option Value} {base : Heap} {C : Addr}
abbrev s_Exact___add__ : Stmt := inClass (top 8) 1
abbrev N_Exact___add__ : List Str := ["self", "other", "b"]
theorem sc_Exact___add__ : FnScope N_Exact___add__ ["self", "other"] (defScope s_Exact___add__) := ⟨rfl, rfl, rfl, by decide +kernel, rfl, by decide +kernel, by decide +kernel⟩
-- slots: 0 self, 1 other, 2 b
theorem ok_Exact___add__ {f : Addr} {fd : FuncData} (F : FunD K "__add__" "Exact.__add__" (defArgs s_Exact___add__) (defBody s_Exact___add__) (defScope s_Exact___add__) [] [] f fd) (T : XC K mg C) (c_part_of : C8.Cal P w K mg base 4 "part_of" (spPart C) []) (c_Exact : C8.Mak P w K mg base 2 "Exact" C (spInit C) []) : FnOk P w K mg base CX0 5 f fd ["self", "other"] (spAdd C) := by
  refine F.ok sc_Exact___add__ (fun vs H Q E h => ?_) (fun cdv A outer s H vs Q E hr h => ?_)
  · obtain ⟨x, y, o, u, p, q, rfl, hx, hy, so, su, sp, sq, hu, hq, k⟩ := h
    rfl
  · obtain ⟨x, y, o, u, p, q, rfl, hx, hy, so, su, sp, sq, hu, hq, k⟩ := h
    refine ⟨_, PSs.nox (pss_cons (ps_set (i := 2) sc_Exact___add__.nd rfl (Or.inl rfl) (C8.pe_c c_part_of hr (by decide) rfl (pa_cons (pv 1) pa_nil)))
      (pss_one (ps_ret (C8.pe_mk c_Exact hr (by decide) rfl (pa_cons (pe_op op_add (pe_op op_mulG (pe_fld (pv 0) rfl) (pe_fld (pv 2) rfl)) (pe_op op_mulG (pe_fld (pv 2) rfl) (pe_fld (pv 0) rfl))) (pa_cons (pe_op op_mulG (pe_fld (pv 0) rfl) (pe_fld (pv 2) rfl)) pa_nil)))))), ?_⟩
    refine ⟨_, rfl, y, p, q, rfl, hy, fun b H1 e1 hb => ?_⟩
    obtain ⟨xa, xd, rfl, hx1⟩ := hx.same e1
    obtain ⟨ba, bd, rfl, hb⟩ := hb
    refine ⟨_, rfl, xa, C, xd, _, _, rfl, hx1, T.cl, T.nO, rfl, _, rfl, ba, C, bd, _, _, rfl, hb, T.cl, T.nU, rfl, _, _, rfl, rfl, smul so sq, _, rfl, ba, C, bd, _, _, rfl, hb, T.cl, T.nO, rfl, _, rfl, xa, C, xd, _, _, rfl, hx1, T.cl, T.nU, rfl, _, _, rfl, rfl, smul sp su, _, _, rfl, rfl, _, rfl, xa, C, xd, _, _, rfl, hx1, T.cl, T.nU, rfl, _, rfl, ba, C, bd, _, _, rfl, hb, T.cl, T.nU, rfl, _, _, rfl, rfl, smul su sq, fun n dn nx nd ne => mkX (Int.mul_ne_zero hu hq) (big_mul su sq) (fun v H' e hv => k v H' (e1.trans e) hv) n dn nx nd ne⟩
abbrev s_Exact___sub__ : Stmt := inClass (top 8) 3
abbrev N_Exact___sub__ : List Str := ["self", "other", "b"]
theorem sc_Exact___sub__ : FnScope N_Exact___sub__ ["self", "other"] (defScope s_Exact___sub__) := ⟨rfl, rfl, rfl, by decide +kernel, rfl, by decide +kernel, by decide +kernel⟩
-- slots: 0 self, 1 other, 2 b
theorem ok_Exact___sub__ {f : Addr} {fd : FuncData} (F : FunD K "__sub__" "Exact.__sub__" (defArgs s_Exact___sub__) (defBody s_Exact___sub__) (defScope s_Exact___sub__) [] [] f fd) (T : XC K mg C) (c_part_of : C8.Cal P w K mg base 4 "part_of" (spPart C) []) (c_Exact : C8.Mak P w K mg base 2 "Exact" C (spInit C) []) : FnOk P w K mg base CX0 5 f fd ["self", "other"] (spSub C) := by
  refine F.ok sc_Exact___sub__ (fun vs H Q E h => ?_) (fun cdv A outer s H vs Q E hr h => ?_)
  · obtain ⟨x, y, o, u, p, q, rfl, hx, hy, so, su, sp, sq, hu, hq, k⟩ := h
    rfl
  · obtain ⟨x, y, o, u, p, q, rfl, hx, hy, so, su, sp, sq, hu, hq, k⟩ := h
    refine ⟨_, PSs.nox (pss_cons (ps_set (i := 2) sc_Exact___sub__.nd rfl (Or.inl rfl) (C8.pe_c c_part_of hr (by decide) rfl (pa_cons (pv 1) pa_nil)))
      (pss_one (ps_ret (C8.pe_mk c_Exact hr (by decide) rfl (pa_cons (pe_op op_sub (pe_op op_mulG (pe_fld (pv 0) rfl) (pe_fld (pv 2) rfl)) (pe_op op_mulG (pe_fld (pv 2) rfl) (pe_fld (pv 0) rfl))) (pa_cons (pe_op op_mulG (pe_fld (pv 0) rfl) (pe_fld (pv 2) rfl)) pa_nil)))))), ?_⟩
    refine ⟨_, rfl, y, p, q, rfl, hy, fun b H1 e1 hb => ?_⟩
    obtain ⟨xa, xd, rfl, hx1⟩ := hx.same e1
    obtain ⟨ba, bd, rfl, hb⟩ := hb
    refine ⟨_, rfl, xa, C, xd, _, _, rfl, hx1, T.cl, T.nO, rfl, _, rfl, ba, C, bd, _, _, rfl, hb, T.cl, T.nU, rfl, _, _, rfl, rfl, smul so sq, _, rfl, ba, C, bd, _, _, rfl, hb, T.cl, T.nO, rfl, _, rfl, xa, C, xd, _, _, rfl, hx1, T.cl, T.nU, rfl, _, _, rfl, rfl, smul sp su, _, _, rfl, rfl, _, rfl, xa, C, xd, _, _, rfl, hx1, T.cl, T.nU, rfl, _, rfl, ba, C, bd, _, _, rfl, hb, T.cl, T.nU, rfl, _, _, rfl, rfl, smul su sq, fun n dn nx nd ne => mkX (Int.mul_ne_zero hu hq) (big_mul su sq) (fun v H' e hv => k v H' (e1.trans e) hv) n dn nx nd ne⟩
abbrev s_Exact___mul__ : Stmt := inClass (top 8) 5
abbrev N_Exact___mul__ : List Str := ["self", "other", "b"]
theorem sc_Exact___mul__ : FnScope N_Exact___mul__ ["self", "other"] (defScope s_Exact___mul__) := ⟨rfl, rfl, rfl, by decide +kernel, rfl, by decide +kernel, by decide +kernel⟩
-- slots: 0 self, 1 other, 2 b
theorem ok_Exact___mul__ {f : Addr} {fd : FuncData} (F : FunD K "__mul__" "Exact.__mul__" (defArgs s_Exact___mul__) (defBody s_Exact___mul__) (defScope s_Exact___mul__) [] [] f fd) (T : XC K mg C) (c_part_of : C8.Cal P w K mg base 4 "part_of" (spPart C) []) (c_Exact : C8.Mak P w K mg base 2 "Exact" C (spInit C) []) : FnOk P w K mg base CX0 5 f fd ["self", "other"] (spMul C) := by
  refine F.ok sc_Exact___mul__ (fun vs H Q E h => ?_) (fun cdv A outer s H vs Q E hr h => ?_)
  · obtain ⟨x, y, o, u, p, q, rfl, hx, hy, so, su, sp, sq, hu, hq, k⟩ := h
    rfl
  · obtain ⟨x, y, o, u, p, q, rfl, hx, hy, so, su, sp, sq, hu, hq, k⟩ := h
    refine ⟨_, PSs.nox (pss_cons (ps_set (i := 2) sc_Exact___mul__.nd rfl (Or.inl rfl) (C8.pe_c c_part_of hr (by decide) rfl (pa_cons (pv 1) pa_nil)))
      (pss_one (ps_ret (C8.pe_mk c_Exact hr (by decide) rfl (pa_cons (pe_op op_mulG (pe_fld (pv 0) rfl) (pe_fld (pv 2) rfl)) (pa_cons (pe_op op_mulG (pe_fld (pv 0) rfl) (pe_fld (pv 2) rfl)) pa_nil)))))), ?_⟩
    refine ⟨_, rfl, y, p, q, rfl, hy, fun b H1 e1 hb => ?_⟩
    obtain ⟨xa, xd, rfl, hx1⟩ := hx.same e1
    obtain ⟨ba, bd, rfl, hb⟩ := hb
    refine ⟨_, rfl, xa, C, xd, _, _, rfl, hx1, T.cl, T.nO, rfl, _, rfl, ba, C, bd, _, _, rfl, hb, T.cl, T.nO, rfl, _, _, rfl, rfl, smul so sp, _, rfl, xa, C, xd, _, _, rfl, hx1, T.cl, T.nU, rfl, _, rfl, ba, C, bd, _, _, rfl, hb, T.cl, T.nU, rfl, _, _, rfl, rfl, smul su sq, fun n dn nx nd ne => mkX (Int.mul_ne_zero hu hq) (big_mul su sq) (fun v H' e hv => k v H' (e1.trans e) hv) n dn nx nd ne⟩
abbrev s_Exact___radd__ : Stmt := inClass (top 8) 2
abbrev N_Exact___radd__ : List Str := ["self", "other"]
theorem sc_Exact___radd__ : FnScope N_Exact___radd__ ["self", "other"] (defScope s_Exact___radd__) := ⟨rfl, rfl, rfl, by decide +kernel, rfl, by decide +kernel, by decide +kernel⟩
-- slots: 0 self, 1 other
theorem ok_Exact___radd__ {f : Addr} {fd : FuncData} (F : FunD K "__radd__" "Exact.__radd__" (defArgs s_Exact___radd__) (defBody s_Exact___radd__) (defScope s_Exact___radd__) [] [] f fd) (T : XC K mg C) (c_part_of : C8.Cal P w K mg base 4 "part_of" (spPart C) []) (m__add__ : ∀ X : Cx, X.prog = P → X.w = w → X.K = K → X.mg = mg → X.base = base → OwnM X 5 C "__add__" (spAdd C)) : FnOk P w K mg base CX0 6 f fd ["self", "other"] (spRadd C) := by
  refine F.ok sc_Exact___radd__ (fun vs H Q E h => ?_) (fun cdv A outer s H vs Q E hr h => ?_)
  · obtain ⟨x, y, o, u, p, q, rfl, hx, hy, so, su, sp, sq, hu, hq, k⟩ := h
    rfl
  · obtain ⟨x, y, o, u, p, q, rfl, hx, hy, so, su, sp, sq, hu, hq, k⟩ := h
    refine ⟨_, PSs.nox (pss_one (ps_ret (pe_op (op_addL (m__add__ _ rfl rfl rfl rfl rfl) T.f_radd.choose_spec T.own (hr.mono (by decide))) (C8.pe_c c_part_of hr (by decide) rfl (pa_cons (pv 1) pa_nil)) (pv 0)))), ?_⟩
    refine ⟨_, rfl, y, p, q, rfl, hy, fun b H1 e1 hb => ?_⟩
    obtain ⟨ba, bd, rfl, hb⟩ := hb
    exact ⟨_, rfl, ba, bd, _, rfl, hb, (IsN.num (.inr (hx.same e1))), _, _, p, q, o, u, rfl, ⟨ba, bd, rfl, hb⟩, .inr (hx.same e1), sp, sq, so, su, hq, hu, fun v H' e hv => k v H' (e1.trans e) hv⟩
abbrev s_Exact___rsub__ : Stmt := inClass (top 8) 4
abbrev N_Exact___rsub__ : List Str := ["self", "other"]
theorem sc_Exact___rsub__ : FnScope N_Exact___rsub__ ["self", "other"] (defScope s_Exact___rsub__) := ⟨rfl, rfl, rfl, by decide +kernel, rfl, by decide +kernel, by decide +kernel⟩
-- slots: 0 self, 1 other
theorem ok_Exact___rsub__ {f : Addr} {fd : FuncData} (F : FunD K "__rsub__" "Exact.__rsub__" (defArgs s_Exact___rsub__) (defBody s_Exact___rsub__) (defScope s_Exact___rsub__) [] [] f fd) (T : XC K mg C) (c_part_of : C8.Cal P w K mg base 4 "part_of" (spPart C) []) (m__sub__ : ∀ X : Cx, X.prog = P → X.w = w → X.K = K → X.mg = mg → X.base = base → OwnM X 5 C "__sub__" (spSub C)) : FnOk P w K mg base CX0 6 f fd ["self", "other"] (spRsub C) := by
  refine F.ok sc_Exact___rsub__ (fun vs H Q E h => ?_) (fun cdv A outer s H vs Q E hr h => ?_)
  · obtain ⟨x, y, o, u, p, q, rfl, hx, hy, so, su, sp, sq, hu, hq, k⟩ := h
    rfl
  · obtain ⟨x, y, o, u, p, q, rfl, hx, hy, so, su, sp, sq, hu, hq, k⟩ := h
    refine ⟨_, PSs.nox (pss_one (ps_ret (pe_op (op_subL (m__sub__ _ rfl rfl rfl rfl rfl) T.f_rsub.choose_spec T.own (hr.mono (by decide))) (C8.pe_c c_part_of hr (by decide) rfl (pa_cons (pv 1) pa_nil)) (pv 0)))), ?_⟩
    refine ⟨_, rfl, y, p, q, rfl, hy, fun b H1 e1 hb => ?_⟩
    obtain ⟨ba, bd, rfl, hb⟩ := hb
    exact ⟨_, rfl, ba, bd, _, rfl, hb, (IsN.num (.inr (hx.same e1))), _, _, p, q, o, u, rfl, ⟨ba, bd, rfl, hb⟩, .inr (hx.same e1), sp, sq, so, su, hq, hu, fun v H' e hv => k v H' (e1.trans e) hv⟩
abbrev s_Exact___rmul__ : Stmt := inClass (top 8) 6
abbrev N_Exact___rmul__ : List Str := ["self", "other"]
theorem sc_Exact___rmul__ : FnScope N_Exact___rmul__ ["self", "other"] (defScope s_Exact___rmul__) := ⟨rfl, rfl, rfl, by decide +kernel, rfl, by decide +kernel, by decide +kernel⟩
-- slots: 0 self, 1 other
theorem ok_Exact___rmul__ {f : Addr} {fd : FuncData} (F : FunD K "__rmul__" "Exact.__rmul__" (defArgs s_Exact___rmul__) (defBody s_Exact___rmul__) (defScope s_Exact___rmul__) [] [] f fd) (T : XC K mg C) (c_part_of : C8.Cal P w K mg base 4 "part_of" (spPart C) []) (m__mul__ : ∀ X : Cx, X.prog = P → X.w = w → X.K = K → X.mg = mg → X.base = base → OwnM X 5 C "__mul__" (spMul C)) : FnOk P w K mg base CX0 6 f fd ["self", "other"] (spRmul C) := by
  refine F.ok sc_Exact___rmul__ (fun vs H Q E h => ?_) (fun cdv A outer s H vs Q E hr h => ?_)
  · obtain ⟨x, y, o, u, p, q, rfl, hx, hy, so, su, sp, sq, hu, hq, k⟩ := h
    rfl
  · obtain ⟨x, y, o, u, p, q, rfl, hx, hy, so, su, sp, sq, hu, hq, k⟩ := h
    refine ⟨_, PSs.nox (pss_one (ps_ret (pe_op (op_mulL (m__mul__ _ rfl rfl rfl rfl rfl) T.f_rmul.choose_spec T.own (hr.mono (by decide))) (C8.pe_c c_part_of hr (by decide) rfl (pa_cons (pv 1) pa_nil)) (pv 0)))), ?_⟩
    refine ⟨_, rfl, y, p, q, rfl, hy, fun b H1 e1 hb => ?_⟩
    obtain ⟨ba, bd, rfl, hb⟩ := hb
    exact ⟨_, rfl, ba, bd, _, rfl, hb, (IsN.num (.inr (hx.same e1))), _, _, p, q, o, u, rfl, ⟨ba, bd, rfl, hb⟩, .inr (hx.same e1), sp, sq, so, su, hq, hu, fun v H' e hv => k v H' (e1.trans e) hv⟩
/-- a.by(b), b not nought -/
def spBy (C : Addr) : Sp := fun vs H Q _ => ∃ (x y : V) (o u p q : Int), vs = [x, y] ∧ IsX C H x o u ∧ IsN C H y p q ∧ Sm o ∧ Sm u ∧ Sm p ∧ Sm q ∧ u ≠ 0 ∧ p ≠ 0 ∧
  ∀ v H', Same H H' → IsX C H' v (rO (o * q) (u * p)) (rD (o * q) (u * p)) → Q v H'
def spNeg (C : Addr) : Sp := fun vs H Q _ => ∃ (x : V) (o u : Int), vs = [x] ∧ IsX C H x o u ∧ Sm u ∧ u ≠ 0 ∧ ∀ v H', Same H H' → IsX C H' v (rO (-o) u) (rD (-o) u) → Q v H'
abbrev s_Exact___neg__ : Stmt := inClass (top 8) 8
abbrev N_Exact___neg__ : List Str := ["self"]
theorem sc_Exact___neg__ : FnScope N_Exact___neg__ ["self"] (defScope s_Exact___neg__) := ⟨rfl, rfl, rfl, by decide +kernel, rfl, by decide +kernel, by decide +kernel⟩
-- slots: 0 self
theorem ok_Exact___neg__ {f : Addr} {fd : FuncData} (F : FunD K "__neg__" "Exact.__neg__" (defArgs s_Exact___neg__) (defBody s_Exact___neg__) (defScope s_Exact___neg__) [] [] f fd) (T : XC K mg C) (c_Exact : C8.Mak P w K mg base 2 "Exact" C (spInit C) []) : FnOk P w K mg base CX0 5 f fd ["self"] (spNeg C) := by
  refine F.ok sc_Exact___neg__ (fun vs H Q E h => ?_) (fun cdv A outer s H vs Q E hr h => ?_)
  · obtain ⟨x, o, u, rfl, hx, su, hu, k⟩ := h
    rfl
  · obtain ⟨x, o, u, rfl, hx, su, hu, k⟩ := h
    refine ⟨_, PSs.nox (pss_one (ps_ret (C8.pe_mk c_Exact hr (by decide) rfl (pa_cons (pe_un un_neg (pe_fld (pv 0) rfl)) (pa_cons (pe_fld (pv 0) rfl) pa_nil))))), ?_⟩
    obtain ⟨xa, xd, rfl, hx1⟩ := hx
    exact ⟨_, rfl, xa, C, xd, _, _, rfl, hx1, T.cl, T.nO, rfl, _, rfl, _, rfl, xa, C, xd, _, _, rfl, hx1, T.cl, T.nU, rfl, fun n dn nx nd ne => mkX hu su.big (fun v H' e hv => k v H' e hv) n dn nx nd ne⟩
/-- a number as results are told -/
def TN (C : Addr) (H : Hp) (v : V) (o u : Int) : Prop := (u = 1 ∧ v = .int o) ∨ (u ≠ 1 ∧ IsX C H v o u)
theorem TN.same {H H1 : Hp} {v : V} {o u : Int} (e : Same H H1) (h : TN C H v o u) : TN C H1 v o u := h.imp id fun ⟨n, x⟩ => ⟨n, x.same e⟩
def spPlain (C : Addr) : Sp := fun vs H Q _ => ∃ (y : V) (p q : Int), vs = [y] ∧ IsN C H y p q ∧ ∀ v H', Same H H' → TN C H' v p q → Q v H'
end
end LW
set_option Elab.async false
set_option linter.all false
set_option maxRecDepth 100000
set_option maxHeartbeats 4000000
namespace LW
open PySem PySem.Spec PyProof.Rows L2 LV LM
abbrev typs : List String := ["NoneType", "bool", "int", "str", "list", "dict", "tuple"]
/-- the class Exact beside all kinds of objects -/
structure XE (K : PySem.W.Frag) (mg : Str → Option Value) (C : Addr) : Prop extends XC K mg C where
  kT : ∀ t ∈ typs, PySem.W.kitOne K (.type t) (.ref C) = some false ∧ PySem.W.subIn K (.type t) (.ref C) = some false ∧ PySem.W.subIn K (.ref C) (.type t) = some false
  ne : PySem.W.findIn K (.ref C) "__ne__" = some (some (.builtin "object.__ne__"))
section
variable {P : Program} {w : World} {K : PySem.W.Frag} {mg : Str → Option Value} {base : Heap} {C : Addr}
/-! is_number -/
def spNum (K : PySem.W.Frag) (C : Addr) : Sp := fun vs H Q _ => ∃ (v : V) (t : Value) (b c d : Bool), vs = [v] ∧ TyX K H v t ∧ PySem.W.kitOne K t (.type "int") = some b ∧ PySem.W.kitOne K t (.type "bool") = some c ∧ PySem.W.kitOne K t (.ref C) = some d ∧ Q (.bl ((b && !c) || d)) H
abbrev s_is_number : Stmt := top 6
abbrev N_is_number : List Str := ["thing"]
theorem sc_is_number : FnScope N_is_number ["thing"] (defScope s_is_number) := ⟨rfl, rfl, rfl, by decide +kernel, rfl, by decide +kernel, by decide +kernel⟩
-- slots: 0 thing
theorem ok_is_number {f : Addr} {fd : FuncData} (F : FunD K "is_number" "is_number" (defArgs s_is_number) (defBody s_is_number) (defScope s_is_number) [] [] f fd) (T : XC K mg C) (c_is_integer : C8.Cal P w K mg base 1 "is_integer" (spInt K) []) : FnOk P w K mg base CX0 2 f fd ["thing"] (spNum K C) := by
  refine F.ok sc_is_number (fun vs H Q E h => ?_) (fun cdv A outer s H vs Q E hr h => ?_)
  · obtain ⟨v, t, b, c, d, rfl, ht, hb, hc, hd, k⟩ := h
    rfl
  · obtain ⟨v, t, b, c, d, rfl, ht, hb, hc, hd, k⟩ := h
    refine ⟨_, PSs.nox (pss_one (ps_ret (pe_or (C8.pe_c c_is_integer hr (by decide) rfl (pa_cons (pv 0) pa_nil)) (pe_one (pe_callB call_isi rfl T.isinstance (by decide +kernel) (pa_cons (pv 0) (pa_cons (pe_glob (v := .ref C) rfl T.mgC rfl) pa_nil))))))), ?_⟩
    refine ⟨_, rfl, _, t, b, c, rfl, ht, hb, hc, _, rfl, ?_⟩
    cases e : (b && !c) with
    | true =>
      rw [e] at k
      exact k
    | false =>
      rw [e, Bool.false_or] at k
      exact ⟨_, rfl, _, _, t, _, d, rfl, .own C, ht, hd, k⟩
/-- whether a thing is a number, by its type -/
def NumB (K : PySem.W.Frag) (C : Addr) (H : Hp) (v : V) (r : Bool) : Prop := ∃ (t : Value) (b c d : Bool), TyX K H v t ∧ PySem.W.kitOne K t (.type "int") = some b ∧ PySem.W.kitOne K t (.type "bool") = some c ∧ PySem.W.kitOne K t (.ref C) = some d ∧ r = ((b && !c) || d)
theorem NumB.sp {H : Hp} {v : V} {r : Bool} {Q : VK} {E : XK} (h : NumB K C H v r) (q : Q (.bl r) H) : spNum K C [v] H Q E := by
  obtain ⟨t, b, c, d, h1, h2, h3, h4, rfl⟩ := h
  exact ⟨v, t, b, c, d, rfl, h1, h2, h3, h4, q⟩
theorem IsN.numB {H : Hp} {v : V} {o u : Int} (T : XC K mg C) (h : IsN C H v o u) : NumB K C H v true := by
  rcases h with ⟨rfl, _⟩ | ⟨x, dx, rfl, h⟩
  · exact ⟨_, true, false, false, .base (.int o), kII K, kIB K, T.kIX, rfl⟩
  · exact ⟨_, false, false, true, tyX T h, T.kXI, T.kXB, kXX K C, rfl⟩
theorem IsN.notF {H : Hp} {v : V} {o u : Int} (T : XC K mg C) (h : IsN C H v o u) : NotF K C H v := by
  rcases h with ⟨rfl, _⟩ | ⟨x, dx, rfl, h⟩
  · refine ⟨_, .base (.int o), ?_⟩
    unfold PySem.W.notFirst
    rw [T.own.subI]
    rfl
  · refine ⟨_, tyX T h, ?_⟩
    unfold PySem.W.notFirst
    simp
/-! order -/
def spCmp (C : Addr) (r : Int → Int → Int → Int → Bool) : Sp := fun vs H Q _ => ∃ (x y : V) (o u p q : Int), vs = [x, y] ∧ IsX C H x o u ∧ IsN C H y p q ∧ Sm o ∧ Sm u ∧ Sm p ∧ Sm q ∧ ∀ H', Same H H' → Q (.bl (r o u p q)) H'
abbrev spLt (C : Addr) : Sp := spCmp C fun o u p q => decide (o * q < p * u)
abbrev spLe (C : Addr) : Sp := spCmp C fun o u p q => decide (o * q ≤ p * u)
abbrev spGt (C : Addr) : Sp := spCmp C fun o u p q => decide (p * u < o * q)
abbrev spGe (C : Addr) : Sp := spCmp C fun o u p q => decide (p * u ≤ o * q)
abbrev s_Exact___lt__ : Stmt := inClass (top 8) 10
abbrev N_Exact___lt__ : List Str := ["self", "other", "b"]
theorem sc_Exact___lt__ : FnScope N_Exact___lt__ ["self", "other"] (defScope s_Exact___lt__) := ⟨rfl, rfl, rfl, by decide +kernel, rfl, by decide +kernel, by decide +kernel⟩
-- slots: 0 self, 1 other, 2 b
theorem ok_Exact___lt__ {f : Addr} {fd : FuncData} (F : FunD K "__lt__" "Exact.__lt__" (defArgs s_Exact___lt__) (defBody s_Exact___lt__) (defScope s_Exact___lt__) [] [] f fd) (T : XC K mg C) (c_part_of : C8.Cal P w K mg base 4 "part_of" (spPart C) []) : FnOk P w K mg base CX0 5 f fd ["self", "other"] (spLt C) := by
  refine F.ok sc_Exact___lt__ (fun vs H Q E h => ?_) (fun cdv A outer s H vs Q E hr h => ?_)
  · obtain ⟨x, y, o, u, p, q, rfl, hx, hy, so, su, sp, sq, k⟩ := h
    rfl
  · obtain ⟨x, y, o, u, p, q, rfl, hx, hy, so, su, sp, sq, k⟩ := h
    refine ⟨_, PSs.nox (pss_cons (ps_set (i := 2) sc_Exact___lt__.nd rfl (Or.inl rfl) (C8.pe_c c_part_of hr (by decide) rfl (pa_cons (pv 1) pa_nil)))
      (pss_one (ps_ret (pe_cmpR op_lt (pe_op op_mulG (pe_fld (pv 0) rfl) (pe_fld (pv 2) rfl)) (pe_op op_mulG (pe_fld (pv 2) rfl) (pe_fld (pv 0) rfl)) (nomark _))))), ?_⟩
    refine ⟨_, rfl, y, p, q, rfl, hy, fun b H1 e1 hb => ?_⟩
    obtain ⟨xa, xd, rfl, hx1⟩ := hx.same e1
    obtain ⟨ba, bd, rfl, hb⟩ := hb
    exact ⟨_, rfl, xa, C, xd, _, _, rfl, hx1, T.cl, T.nO, rfl, _, rfl, ba, C, bd, _, _, rfl, hb, T.cl, T.nU, rfl, _, _, rfl, rfl, smul so sq, _, rfl, ba, C, bd, _, _, rfl, hb, T.cl, T.nO, rfl, _, rfl, xa, C, xd, _, _, rfl, hx1, T.cl, T.nU, rfl, _, _, rfl, rfl, smul sp su, _, _, rfl, rfl, k _ e1⟩
abbrev s_Exact___le__ : Stmt := inClass (top 8) 11
abbrev N_Exact___le__ : List Str := ["self", "other", "b"]
theorem sc_Exact___le__ : FnScope N_Exact___le__ ["self", "other"] (defScope s_Exact___le__) := ⟨rfl, rfl, rfl, by decide +kernel, rfl, by decide +kernel, by decide +kernel⟩
-- slots: 0 self, 1 other, 2 b
theorem ok_Exact___le__ {f : Addr} {fd : FuncData} (F : FunD K "__le__" "Exact.__le__" (defArgs s_Exact___le__) (defBody s_Exact___le__) (defScope s_Exact___le__) [] [] f fd) (T : XC K mg C) (c_part_of : C8.Cal P w K mg base 4 "part_of" (spPart C) []) : FnOk P w K mg base CX0 5 f fd ["self", "other"] (spLe C) := by
  refine F.ok sc_Exact___le__ (fun vs H Q E h => ?_) (fun cdv A outer s H vs Q E hr h => ?_)
  · obtain ⟨x, y, o, u, p, q, rfl, hx, hy, so, su, sp, sq, k⟩ := h
    rfl
  · obtain ⟨x, y, o, u, p, q, rfl, hx, hy, so, su, sp, sq, k⟩ := h
    refine ⟨_, PSs.nox (pss_cons (ps_set (i := 2) sc_Exact___le__.nd rfl (Or.inl rfl) (C8.pe_c c_part_of hr (by decide) rfl (pa_cons (pv 1) pa_nil)))
      (pss_one (ps_ret (pe_cmpR op_le (pe_op op_mulG (pe_fld (pv 0) rfl) (pe_fld (pv 2) rfl)) (pe_op op_mulG (pe_fld (pv 2) rfl) (pe_fld (pv 0) rfl)) (nomark _))))), ?_⟩
    refine ⟨_, rfl, y, p, q, rfl, hy, fun b H1 e1 hb => ?_⟩
    obtain ⟨xa, xd, rfl, hx1⟩ := hx.same e1
    obtain ⟨ba, bd, rfl, hb⟩ := hb
    exact ⟨_, rfl, xa, C, xd, _, _, rfl, hx1, T.cl, T.nO, rfl, _, rfl, ba, C, bd, _, _, rfl, hb, T.cl, T.nU, rfl, _, _, rfl, rfl, smul so sq, _, rfl, ba, C, bd, _, _, rfl, hb, T.cl, T.nO, rfl, _, rfl, xa, C, xd, _, _, rfl, hx1, T.cl, T.nU, rfl, _, _, rfl, rfl, smul sp su, _, _, rfl, rfl, k _ e1⟩
abbrev s_Exact___gt__ : Stmt := inClass (top 8) 12
abbrev N_Exact___gt__ : List Str := ["self", "other", "b"]
theorem sc_Exact___gt__ : FnScope N_Exact___gt__ ["self", "other"] (defScope s_Exact___gt__) := ⟨rfl, rfl, rfl, by decide +kernel, rfl, by decide +kernel, by decide +kernel⟩
-- slots: 0 self, 1 other, 2 b
theorem ok_Exact___gt__ {f : Addr} {fd : FuncData} (F : FunD K "__gt__" "Exact.__gt__" (defArgs s_Exact___gt__) (defBody s_Exact___gt__) (defScope s_Exact___gt__) [] [] f fd) (T : XC K mg C) (c_part_of : C8.Cal P w K mg base 4 "part_of" (spPart C) []) : FnOk P w K mg base CX0 5 f fd ["self", "other"] (spGt C) := by
  refine F.ok sc_Exact___gt__ (fun vs H Q E h => ?_) (fun cdv A outer s H vs Q E hr h => ?_)
  · obtain ⟨x, y, o, u, p, q, rfl, hx, hy, so, su, sp, sq, k⟩ := h
    rfl
  · obtain ⟨x, y, o, u, p, q, rfl, hx, hy, so, su, sp, sq, k⟩ := h
    refine ⟨_, PSs.nox (pss_cons (ps_set (i := 2) sc_Exact___gt__.nd rfl (Or.inl rfl) (C8.pe_c c_part_of hr (by decide) rfl (pa_cons (pv 1) pa_nil)))
      (pss_one (ps_ret (pe_cmpR op_gt (pe_op op_mulG (pe_fld (pv 0) rfl) (pe_fld (pv 2) rfl)) (pe_op op_mulG (pe_fld (pv 2) rfl) (pe_fld (pv 0) rfl)) (nomark _))))), ?_⟩
    refine ⟨_, rfl, y, p, q, rfl, hy, fun b H1 e1 hb => ?_⟩
    obtain ⟨xa, xd, rfl, hx1⟩ := hx.same e1
    obtain ⟨ba, bd, rfl, hb⟩ := hb
    exact ⟨_, rfl, xa, C, xd, _, _, rfl, hx1, T.cl, T.nO, rfl, _, rfl, ba, C, bd, _, _, rfl, hb, T.cl, T.nU, rfl, _, _, rfl, rfl, smul so sq, _, rfl, ba, C, bd, _, _, rfl, hb, T.cl, T.nO, rfl, _, rfl, xa, C, xd, _, _, rfl, hx1, T.cl, T.nU, rfl, _, _, rfl, rfl, smul sp su, _, _, rfl, rfl, k _ e1⟩
abbrev s_Exact___ge__ : Stmt := inClass (top 8) 13
abbrev N_Exact___ge__ : List Str := ["self", "other", "b"]
theorem sc_Exact___ge__ : FnScope N_Exact___ge__ ["self", "other"] (defScope s_Exact___ge__) := ⟨rfl, rfl, rfl, by decide +kernel, rfl, by decide +kernel, by decide +kernel⟩
-- slots: 0 self, 1 other, 2 b
theorem ok_Exact___ge__ {f : Addr} {fd : FuncData} (F : FunD K "__ge__" "Exact.__ge__" (defArgs s_Exact___ge__) (defBody s_Exact___ge__) (defScope s_Exact___ge__) [] [] f fd) (T : XC K mg C) (c_part_of : C8.Cal P w K mg base 4 "part_of" (spPart C) []) : FnOk P w K mg base CX0 5 f fd ["self", "other"] (spGe C) := by
  refine F.ok sc_Exact___ge__ (fun vs H Q E h => ?_) (fun cdv A outer s H vs Q E hr h => ?_)
  · obtain ⟨x, y, o, u, p, q, rfl, hx, hy, so, su, sp, sq, k⟩ := h
    rfl
  · obtain ⟨x, y, o, u, p, q, rfl, hx, hy, so, su, sp, sq, k⟩ := h
    refine ⟨_, PSs.nox (pss_cons (ps_set (i := 2) sc_Exact___ge__.nd rfl (Or.inl rfl) (C8.pe_c c_part_of hr (by decide) rfl (pa_cons (pv 1) pa_nil)))
      (pss_one (ps_ret (pe_cmpR op_ge (pe_op op_mulG (pe_fld (pv 0) rfl) (pe_fld (pv 2) rfl)) (pe_op op_mulG (pe_fld (pv 2) rfl) (pe_fld (pv 0) rfl)) (nomark _))))), ?_⟩
    refine ⟨_, rfl, y, p, q, rfl, hy, fun b H1 e1 hb => ?_⟩
    obtain ⟨xa, xd, rfl, hx1⟩ := hx.same e1
    obtain ⟨ba, bd, rfl, hb⟩ := hb
    exact ⟨_, rfl, xa, C, xd, _, _, rfl, hx1, T.cl, T.nO, rfl, _, rfl, ba, C, bd, _, _, rfl, hb, T.cl, T.nU, rfl, _, _, rfl, rfl, smul so sq, _, rfl, ba, C, bd, _, _, rfl, hb, T.cl, T.nO, rfl, _, rfl, xa, C, xd, _, _, rfl, hx1, T.cl, T.nU, rfl, _, _, rfl, rfl, smul sp su, _, _, rfl, rfl, k _ e1⟩
/-! equality: with a number by value, else False -/
def spEqX (K : PySem.W.Frag) (C : Addr) : Sp := fun vs H Q _ => ∃ (x y : V) (o u : Int), vs = [x, y] ∧ IsX C H x o u ∧
  ((∃ p q, IsN C H y p q ∧ ∀ H', Same H H' → Q (.bl (decide (o = p) && decide (u = q))) H') ∨ (NumB K C H y false ∧ ∀ H', Same H H' → Q (.bl false) H'))
abbrev s_Exact___eq__ : Stmt := inClass (top 8) 9
abbrev N_Exact___eq__ : List Str := ["self", "other", "b"]
theorem sc_Exact___eq__ : FnScope N_Exact___eq__ ["self", "other"] (defScope s_Exact___eq__) := ⟨rfl, rfl, rfl, by decide +kernel, rfl, by decide +kernel, by decide +kernel⟩
-- slots: 0 self, 1 other, 2 b
theorem ok_Exact___eq__ {f : Addr} {fd : FuncData} (F : FunD K "__eq__" "Exact.__eq__" (defArgs s_Exact___eq__) (defBody s_Exact___eq__) (defScope s_Exact___eq__) [] [] f fd) (T : XC K mg C) (c_part_of : C8.Cal P w K mg base 4 "part_of" (spPart C) []) (c_is_number : C8.Cal P w K mg base 2 "is_number" (spNum K C) []) : FnOk P w K mg base CX0 5 f fd ["self", "other"] (spEqX K C) := by
  refine F.ok sc_Exact___eq__ (fun vs H Q E h => ?_) (fun cdv A outer s H vs Q E hr h => ?_)
  · obtain ⟨x, y, o, u, rfl, hx, hy⟩ := h
    rfl
  · obtain ⟨x, y, o, u, rfl, hx, hy⟩ := h
    refine ⟨_, PSs.nox (pss_cons (ps_if (pt_not (pt_val (C8.pe_c c_is_number hr (by decide) rfl (pa_cons (pv 1) pa_nil)))) (pss_one (ps_ret pe_bl)) pss_nil)
      (pss_cons (ps_set (i := 2) sc_Exact___eq__.nd rfl (Or.inl rfl) (C8.pe_c c_part_of hr (by decide) rfl (pa_cons (pv 1) pa_nil)))
      (pss_one (ps_ret (pe_and (pe_cmpR op_eq (pe_fld (pv 0) rfl) (pe_fld (pv 2) rfl) (nomark _)) (pe_one (pe_cmpR op_eq (pe_fld (pv 0) rfl) (pe_fld (pv 2) rfl) (nomark _)))))))), ?_⟩
    rcases hy with ⟨p, q, hy, k⟩ | ⟨hy, k⟩
    · obtain ⟨t, b, c, d, h1, h2, h3, h4, h5⟩ := hy.numB T
      refine ⟨_, rfl, _, t, b, c, d, rfl, h1, h2, h3, h4, _, rfl, ?_⟩
      rw [← h5]
      refine iteF ⟨_, rfl, y, p, q, rfl, hy, fun b H1 e1 hb => ?_⟩
      obtain ⟨xa, xd, rfl, hx1⟩ := hx.same e1
      obtain ⟨ba, bd, rfl, hb⟩ := hb
      refine ⟨_, rfl, xa, C, xd, _, _, rfl, hx1, T.cl, T.nO, rfl, _, rfl, ba, C, bd, _, _, rfl, hb, T.cl, T.nO, rfl, rfl, _, rfl, ?_⟩
      by_cases ho : o = p
      · have z : decide (V.int o = V.int p) = true := by simp [ho]
        rw [z]
        refine iteT ⟨_, rfl, xa, C, xd, _, _, rfl, hx1, T.cl, T.nU, rfl, _, rfl, ba, C, bd, _, _, rfl, hb, T.cl, T.nU, rfl, rfl, ?_⟩
        have z2 : decide (V.int u = V.int q) = (decide (o = p) && decide (u = q)) := by simp [ho]
        rw [z2]
        exact k _ e1
      · have z : decide (V.int o = V.int p) = false := by simp [ho]
        rw [z]
        refine iteF ?_
        have z2 : false = (decide (o = p) && decide (u = q)) := by simp [ho]
        rw [z2]
        exact k _ e1
    · obtain ⟨t, b, c, d, h1, h2, h3, h4, h5⟩ := hy
      refine ⟨_, rfl, _, t, b, c, d, rfl, h1, h2, h3, h4, _, rfl, ?_⟩
      rw [← h5]
      exact iteT (k _ (Same.refl H))
end
end LW
set_option Elab.async false
set_option linter.all false
set_option maxRecDepth 100000
set_option maxHeartbeats 4000000
namespace LW
open PySem PySem.Spec PyProof.Rows L2 LV LM
/-- the law's own fractions: tuples -/
def IsF (H : Hp) (v : V) (o u : Int) : Prop := ∃ p, v = .ref p ∧ H p = some (.tup [.int o, .int u])
theorem IsF.same {H H1 : Hp} {v : V} {o u : Int} (e : Same H H1) (h : IsF H v o u) : IsF H1 v o u := by
  obtain ⟨x, rfl, h⟩ := h
  exact ⟨x, rfl, e _ _ h⟩
theorem IsF.but {K : PySem.W.Frag} {a : Addr} {H H1 : Hp} {v : V} {o u : Int} (e : But a H H1) (s : Stt K H a) (h : IsF H v o u) : IsF H1 v o u := by
  obtain ⟨x, rfl, h⟩ := h
  exact ⟨x, rfl, e.get s h rfl⟩
theorem IsN.but {K : PySem.W.Frag} {a C : Addr} {H H1 : Hp} {v : V} {o u : Int} (e : But a H H1) (s : Stt K H a) (h : IsN C H v o u) : IsN C H1 v o u := h.imp id (IsX.but e s)
section
variable {P : Program} {w : World} {K : PySem.W.Frag} {mg : Str → Option Value} {base : Heap} {C : Addr}
abbrev s__law_gcd : Stmt := top 16
abbrev N__law_gcd : List Str := ["_law_a", "_law_b"]
theorem sc__law_gcd : FnScope N__law_gcd ["_law_a", "_law_b"] (defScope s__law_gcd) := ⟨rfl, rfl, rfl, by decide +kernel, rfl, by decide +kernel, by decide +kernel⟩
-- slots: 0 _law_a, 1 _law_b
theorem ok__law_gcd {f : Addr} {fd : FuncData} (F : FunD K "_law_gcd" "_law_gcd" (defArgs s__law_gcd) (defBody s__law_gcd) (defScope s__law_gcd) [] [] f fd) (T : Bt mg) : FnOk P w K mg base CX0 1 f fd ["_law_a", "_law_b"] spGcd := by
  refine F.ok sc__law_gcd (fun vs H Q E h => ?_) (fun cdv A outer s H vs Q E hr h => ?_)
  · obtain ⟨a, b, rfl, k⟩ := h
    rfl
  · obtain ⟨a, b, rfl, k⟩ := h
    refine ⟨_, PSs.nox (pss_cons (ps_while PassesOwn.never (pt_cmpR op_ne (pv 1) pe_int (nomark _)) (pss_one (ps_par (i := 0) (j := 1) rfl sc__law_gcd.nd rfl rfl (by decide) rfl rfl (pa_cons (pv 1) (pa_cons (pe_op op_modN (pv 0) (pv 1)) pa_nil)) rfl)))
      (pss_one (ps_ret (pe_ifExp (pt_cmpR op_gt (pv 0) pe_int (nomark _)) (pv 0) (pe_un un_neg (pv 0)))))), ?_⟩
    refine ⟨fun m σ H' => ∃ x y : Int, σ = [some (.int x), some (.int y)] ∧ H' = H ∧ m = y.natAbs ∧ x.gcd y = a.gcd b, ⟨_, a, b, rfl, rfl, rfl, rfl⟩, ?_⟩
    rintro m σ H' ⟨x, y, rfl, rfl, rfl, hg⟩
    refine ⟨_, rfl, rfl, _, rfl, ?_⟩
    by_cases hy : y = 0
    · subst hy
      refine iteF ?_
      rw [Int.gcd_zero_right] at hg
      refine ⟨_, rfl, _, _, rfl, rfl, _, rfl, ?_⟩
      refine ite2 (fun hc => ?_) (fun hc => ?_)
      · have h0 : 0 < x := of_decide_eq_true hc
        refine ⟨_, rfl, ?_⟩
        have e : x = (a.gcd b : Int) := by omega
        rw [e]
        exact k
      · have h0 : ¬ 0 < x := fun z => hc (decide_eq_true z)
        refine ⟨_, rfl, _, rfl, ?_⟩
        have e : -x = (a.gcd b : Int) := by omega
        show Q (.int (-x)) _
        rw [e]
        exact k
    · have e : (!decide (V.int y = V.int 0)) = true := by simp [hy]
      rw [e]
      refine iteT ⟨fun σ' H'' => σ' = [some (.int y), some (.int (x.fmod y))] ∧ H'' = H', fun σ' H'' ⟨h1, h2⟩ => ⟨_, fmod_lt x y hy, y, _, h1, h2, rfl, (gcd_step x y).trans hg⟩, ?_⟩
      exact ⟨_, rfl, _, rfl, _, rfl, _, _, rfl, rfl, hy, _, _, rfl, rfl, rfl⟩
def spFrac : Sp := fun vs H Q _ => ∃ o u : Int, vs = [.int o, .int u] ∧ u ≠ 0 ∧ Big u ∧ ∀ v H', Same H H' → IsF H' v (rO o u) (rD o u) → Q v H'
abbrev s__law_frac : Stmt := top 17
abbrev N__law_frac : List Str := ["_law_over", "_law_under", "_law_whole"]
theorem sc__law_frac : FnScope N__law_frac ["_law_over", "_law_under"] (defScope s__law_frac) := ⟨rfl, rfl, rfl, by decide +kernel, rfl, by decide +kernel, by decide +kernel⟩
-- slots: 0 _law_over, 1 _law_under, 2 _law_whole
theorem ok__law_frac {f : Addr} {fd : FuncData} (F : FunD K "_law_frac" "_law_frac" (defArgs s__law_frac) (defBody s__law_frac) (defScope s__law_frac) [] [] f fd) (T : Bt mg) (c__law_gcd : C8.Cal P w K mg base 1 "_law_gcd" spGcd []) : FnOk P w K mg base CX0 2 f fd ["_law_over", "_law_under"] spFrac := by
  refine F.ok sc__law_frac (fun vs H Q E h => ?_) (fun cdv A outer s H vs Q E hr h => ?_)
  · obtain ⟨o, u, rfl, hu, hub, k⟩ := h
    rfl
  · obtain ⟨o, u, rfl, hu, hub, k⟩ := h
    refine ⟨_, PSs.nox (pss_cons (ps_set (i := 2) sc__law_frac.nd rfl (Or.inl rfl) (C8.pe_c c__law_gcd hr (by decide) rfl (pa_cons (pv 0) (pa_cons (pv 1) pa_nil))))
      (pss_cons (ps_set (i := 2) sc__law_frac.nd rfl (Or.inl rfl) (pe_ifExp (pt_cmpR op_lt (pv 1) pe_int (nomark _)) (pe_un un_neg (pv 2)) (pv 2)))
      (pss_one (ps_ret (pe_tup (pa_cons (pe_op op_fdivG (pv 0) (pv 2)) (pa_cons (pe_op op_fdivG (pv 1) (pv 2)) pa_nil))))))), ?_⟩
    refine ⟨_, rfl, _, rfl, o, u, rfl, ?_⟩
    have hw : rwh o u ≠ 0 ∧ (rwh o u).natAbs.log2 < 9000 := ⟨rwh_ne hu, big_ne (Nat.lt_of_le_of_lt (abs_rwh hu) hub)⟩
    have fin : ∀ z : Int, z = rwh o u → tRet (tTup (tCons (tOp (rI (fun _ j => j ≠ 0 ∧ j.natAbs.log2 < 9000) fun i j => .int (i.fdiv j)) (tVar 0) (tVar 2)) (tCons (tOp (rI (fun _ j => j ≠ 0 ∧ j.natAbs.log2 < 9000) fun i j => .int (i.fdiv j)) (tVar 1) (tVar 2)) tNil))) { nx := fun _ H' => Q .non H', rt := Q } [some (.int o), some (.int u), some (.int z)] H := by
      rintro z rfl
      refine ⟨_, rfl, _, rfl, _, _, rfl, rfl, hw, _, rfl, _, rfl, _, _, rfl, rfl, hw, by show 2 ≤ sizeLine; decide, fun p n1 => ?_⟩
      generalize q1 : upd H p _ = H1
      exact k _ _ (nSm q1 n1) ⟨p, rfl, nAt q1⟩
    refine ⟨_, rfl, _, _, rfl, rfl, _, rfl, ?_⟩
    refine ite2 (fun hc => ?_) (fun hc => ?_)
    · have h0 : u < 0 := of_decide_eq_true hc
      refine ⟨_, rfl, _, rfl, fin _ ?_⟩
      unfold rwh
      rw [if_pos h0]
    · have h0 : ¬ u < 0 := fun z => hc (decide_eq_true z)
      refine ⟨_, rfl, fin _ ?_⟩
      unfold rwh
      rw [if_neg h0]
def spFBin (f g : Int → Int → Int → Int → Int) : Sp := fun vs H Q _ => ∃ (x y : V) (o u p q : Int), vs = [x, y] ∧ IsF H x o u ∧ IsF H y p q ∧ Sm o ∧ Sm u ∧ Sm p ∧ Sm q ∧ g o u p q ≠ 0 ∧
  ∀ v H', Same H H' → IsF H' v (rO (f o u p q) (g o u p q)) (rD (f o u p q) (g o u p q)) → Q v H'
abbrev spFAdd : Sp := spFBin (fun o u p q => o * q + p * u) (fun _ u _ q => u * q)
abbrev spFMul : Sp := spFBin (fun o _ p _ => o * p) (fun _ u _ q => u * q)
abbrev s__law_add : Stmt := top 18
abbrev N__law_add : List Str := ["_law_a", "_law_b"]
theorem sc__law_add : FnScope N__law_add ["_law_a", "_law_b"] (defScope s__law_add) := ⟨rfl, rfl, rfl, by decide +kernel, rfl, by decide +kernel, by decide +kernel⟩
-- slots: 0 _law_a, 1 _law_b
theorem ok__law_add {f : Addr} {fd : FuncData} (F : FunD K "_law_add" "_law_add" (defArgs s__law_add) (defBody s__law_add) (defScope s__law_add) [] [] f fd) (T : Bt mg) (c__law_frac : C8.Cal P w K mg base 2 "_law_frac" spFrac []) : FnOk P w K mg base CX0 3 f fd ["_law_a", "_law_b"] spFAdd := by
  refine F.ok sc__law_add (fun vs H Q E h => ?_) (fun cdv A outer s H vs Q E hr h => ?_)
  · obtain ⟨x, y, o, u, p, q, rfl, ⟨xa, rfl, hx⟩, ⟨ya, rfl, hy⟩, so, su, sp, sq, hg, k⟩ := h
    rfl
  · obtain ⟨x, y, o, u, p, q, rfl, ⟨xa, rfl, hx⟩, ⟨ya, rfl, hy⟩, so, su, sp, sq, hg, k⟩ := h
    refine ⟨_, PSs.nox (pss_one (ps_ret (C8.pe_c c__law_frac hr (by decide) rfl (pa_cons (pe_op op_add (pe_op op_mulG (pe_ix ix_tup (pv 0) pe_int (fun _ _ => rfl)) (pe_ix ix_tup (pv 1) pe_int (fun _ _ => rfl))) (pe_op op_mulG (pe_ix ix_tup (pv 1) pe_int (fun _ _ => rfl)) (pe_ix ix_tup (pv 0) pe_int (fun _ _ => rfl)))) (pa_cons (pe_op op_mulG (pe_ix ix_tup (pv 0) pe_int (fun _ _ => rfl)) (pe_ix ix_tup (pv 1) pe_int (fun _ _ => rfl))) pa_nil))))), ?_⟩
    exact ⟨_, rfl, xa, _, _, _, rfl, rfl, SqT.of hx, rfl, _, rfl, ya, _, _, _, rfl, rfl, SqT.of hy, rfl, _, _, rfl, rfl, smul so sq, _, rfl, ya, _, _, _, rfl, rfl, SqT.of hy, rfl, _, rfl, xa, _, _, _, rfl, rfl, SqT.of hx, rfl, _, _, rfl, rfl, smul sp su, _, _, rfl, rfl, _, rfl, xa, _, _, _, rfl, rfl, SqT.of hx, rfl, _, rfl, ya, _, _, _, rfl, rfl, SqT.of hy, rfl, _, _, rfl, rfl, smul su sq, _, _, rfl, hg, big_mul su sq, k⟩
/-- a fraction as it is passed -/
def spAsNum (K : PySem.W.Frag) (C : Addr) : Sp := fun vs H Q _ => ∃ (a : Addr) (x : V) (o u : Int), vs = [.ref a, x] ∧ Stt K H a ∧ IsF H x o u ∧ Red o u ∧ Sm u ∧ ∀ v H', But a H H' → Stt K H' a → IsN C H' v o u → Q v H'
abbrev s__law_as_number : Stmt := top 20
abbrev N__law_as_number : List Str := ["_law_state", "_law_a", "_law_far"]
theorem sc__law_as_number : FnScope N__law_as_number ["_law_state", "_law_a"] (defScope s__law_as_number) := ⟨rfl, rfl, rfl, by decide +kernel, rfl, by decide +kernel, by decide +kernel⟩
-- slots: 0 _law_state, 1 _law_a, 2 _law_far
theorem ok__law_as_number {f : Addr} {fd : FuncData} (F : FunD K "_law_as_number" "_law_as_number" (defArgs s__law_as_number) (defBody s__law_as_number) (defScope s__law_as_number) [] [] f fd) (T : XC K mg C) (c__law_take : C8.Cal P w K mg base 2 "_law_take" (spTake K) []) (c_Exact : C8.Mak P w K mg base 2 "Exact" C (spInit C) []) : FnOk P w K mg base CX0 4 f fd ["_law_state", "_law_a"] (spAsNum K C) := by
  refine F.ok sc__law_as_number (fun vs H Q E h => ?_) (fun cdv A outer s H vs Q E hr h => ?_)
  · obtain ⟨a, x, o, u, rfl, hs, ⟨xa, rfl, hx⟩, hr', su, k⟩ := h
    rfl
  · obtain ⟨a, x, o, u, rfl, hs, ⟨xa, rfl, hx⟩, hr', su, k⟩ := h
    refine ⟨_, PSs.nox (pss_cons (ps_if (PW.pt (pw_and (pt_cmpR op_eq (pe_ix ix_tup (pv 1) pe_int (fun _ _ => rfl)) pe_int (nomark _)) (pw_and1 (pt_cmpR op_gt (C8.pe_c c__law_take hr (by decide) rfl (pa_cons (pv 0) (pa_cons pe_int pa_nil))) pe_int (nomark _))))) (pss_one (ps_ret (pe_ix ix_tup (pv 1) pe_int (fun _ _ => rfl)))) pss_nil)
      (pss_cons (ps_set (i := 2) sc__law_as_number.nd rfl (Or.inl rfl) (pe_op op_add pe_int (C8.pe_c c__law_take hr (by decide) rfl (pa_cons (pv 0) (pa_cons pe_int pa_nil)))))
      (pss_one (ps_ret (C8.pe_mk c_Exact hr (by decide) rfl (pa_cons (pe_op op_mulG (pe_ix ix_tup (pv 1) pe_int (fun _ _ => rfl)) (pv 2)) (pa_cons (pe_op op_mulG (pe_ix ix_tup (pv 1) pe_int (fun _ _ => rfl)) (pv 2)) pa_nil))))))), ?_⟩
    have last : ∀ H1, But a H H1 → Stt K H1 a → _ := fun H1 e1 hs1 => (show tSeq (tAsg (tOp (rI0 fun i j => .int (i + j)) (tC (.int 1)) (tCall (spTake K) [] C8.E0 (tCons (tVar 0) (tCons (tC (.int 3)) tNil)))) (gName 2)) (tRet (tMake C (spInit C) [] C8.E0 (tCons (tOp (rI IntMulOk fun i j => .int (i * j)) (tOp (rIxT K) (tVar 1) (tC (.int 0))) (tVar 2)) (tCons (tOp (rI IntMulOk fun i j => .int (i * j)) (tOp (rIxT K) (tVar 1) (tC (.int 1))) (tVar 2)) tNil)))) { nx := fun _ H' => Q .non H', rt := Q } [some (.ref a), some (.ref xa), none] H1 by
      refine ⟨_, rfl, a, 3, rfl, hs1, by decide, by decide, fun H2 d e2 hs2 hd0 hd1 => ?_⟩
      have hx2 := e2.get hs1 (e1.get hs hx rfl) rfl
      refine ⟨_, _, rfl, rfl, ?_⟩
      refine ⟨_, rfl, xa, _, _, _, rfl, rfl, SqT.of hx2, rfl, _, rfl, _, _, rfl, rfl, mulS (by omega), _, rfl, xa, _, _, _, rfl, rfl, SqT.of hx2, rfl, _, rfl, _, _, rfl, rfl, mulS (by omega), ?_⟩
      have hu := hr'.1
      have hd : (1 + d : Int) ≠ 0 := by omega
      have hsd : Sm (1 + d) := Nat.lt_of_lt_of_le (show (1 + d).natAbs < 2 ^ 2 by omega) (Nat.pow_le_pow_right (by decide) (by decide))
      refine fun n dn nx nd ne => mkX (Int.mul_ne_zero (by omega) hd) (big_mul su hsd) (fun v H' e hv => k v H' ((e1.trans e2).trans (Same.but e)) (hs2.same e) (.inr ?_)) n dn nx nd ne
      obtain ⟨q1, q2⟩ := red_scale hr' hd
      rw [q1, q2] at hv
      exact hv)
    refine ⟨_, rfl, xa, _, _, _, rfl, rfl, SqT.of hx, rfl, rfl, _, rfl, ?_⟩
    refine ite2 (fun hc => ?_) (fun hc => ?_)
    · have hu1 : u = 1 := by simpa using hc
      refine ⟨_, rfl, a, 3, rfl, hs, by decide, by decide, fun H1 d e1 hs1 hd0 hd1 => ?_⟩
      refine ⟨_, _, rfl, rfl, _, rfl, ?_⟩
      refine ite2 (fun _ => ?_) (fun _ => last H1 e1 hs1)
      exact ⟨_, rfl, xa, _, _, _, rfl, rfl, SqT.of (e1.get hs hx rfl), rfl, k _ _ e1 hs1 (.inl ⟨rfl, hu1⟩)⟩
    · exact last H (But.refl a H) hs
/-- a fraction as it is told -/
def spLPlain (C : Addr) : Sp := fun vs H Q _ => ∃ (x : V) (o u : Int), vs = [x] ∧ IsF H x o u ∧ Red o u ∧ Big u ∧ ∀ v H', Same H H' → TN C H' v o u → Q v H'
end
end LW
set_option Elab.async false
set_option linter.all false
set_option maxRecDepth 100000
set_option maxHeartbeats 4000000
namespace LW
open PySem PySem.Spec PyProof.Rows L2 LV LM
theorem kA1 (K : PySem.W.Frag) : PySem.W.kitAny K (.type "int") [.type "list", .type "tuple"] = some false := by kernel_rfl
theorem kA2 (K : PySem.W.Frag) : PySem.W.kitAny K (.type "list") [.type "list", .type "tuple"] = some true := by rfl
theorem kLL (K : PySem.W.Frag) : PySem.W.kitOne K (.type "list") (.type "list") = some true := rfl
theorem kLT (K : PySem.W.Frag) : PySem.W.kitOne K (.type "list") (.type "tuple") = some false := by kernel_rfl
theorem kTL (K : PySem.W.Frag) : PySem.W.kitOne K (.type "tuple") (.type "list") = some false := by kernel_rfl
theorem kTT (K : PySem.W.Frag) : PySem.W.kitOne K (.type "tuple") (.type "tuple") = some true := rfl
section
variable {P : Program} {w : World} {K : PySem.W.Frag} {mg : Str → Option Value} {base : Heap} {C : Addr}
theorem kA3 (T : XC K mg C) : PySem.W.kitAny K (.ref C) [.type "list", .type "tuple"] = some false :=
  kitAny_cons T.kXL (fun _ => kitAny_cons T.kXT (fun _ => rfl) (fun z => nomatch z)) (fun z => nomatch z)
theorem clsLT : Paired ClsV [V.ty "list", V.ty "tuple"] [.type "list", .type "tuple"] := .cons (.ty _) (.cons (.ty _) .nil)
theorem kBI (K : PySem.W.Frag) : PySem.W.kitOne K (.type "bool") (.type "int") = some true := by kernel_rfl
theorem kBB (K : PySem.W.Frag) : PySem.W.kitOne K (.type "bool") (.type "bool") = some true := rfl
theorem kA4 (K : PySem.W.Frag) : PySem.W.kitAny K (.type "bool") [.type "list", .type "tuple"] = some false := by kernel_rfl
def IB (v : V) : Prop := (∃ i : Int, v = .int i) ∨ ∃ b : Bool, v = .bl b
def spSameI : Sp := fun vs H Q _ => ∃ v : V, vs = [v, v] ∧ IB v ∧ ∀ H', Same H H' → Q (.bl true) H'
abbrev s__law_same : Stmt := top 15
abbrev N__law_same : List Str := ["_law_found", "_law_due", "_law_a", "_law_b"]
theorem sc__law_same : FnScope N__law_same ["_law_found", "_law_due"] (defScope s__law_same) := ⟨rfl, rfl, rfl, by decide +kernel, rfl, by decide +kernel, by decide +kernel⟩
-- slots: 0 _law_found, 1 _law_due, 2 _law_a, 3 _law_b
theorem ok__law_same {f : Addr} {fd : FuncData} (F : FunD K "_law_same" "_law_same" (defArgs s__law_same) (defBody s__law_same) (defScope s__law_same) [] [] f fd) (T : Bt mg) : FnOk P w K mg base CX0 1 f fd ["_law_found", "_law_due"] spSameI := by
  refine F.ok sc__law_same (fun vs H Q E h => ?_) (fun cdv A outer s H vs Q E hr h => ?_)
  · obtain ⟨v, rfl, hv, k⟩ := h
    rfl
  · obtain ⟨v, rfl, hv, k⟩ := h
    refine ⟨_, PSs.nox (pss_cons (ps_if (pt_val (pe_callB call_isiT rfl T.isinstance (by decide +kernel) (pa_cons (pv 1) (pa_cons (pe_tup (pa_cons (pe_bltn (v := .ty "list") rfl T.list (by decide +kernel) rfl) (pa_cons (pe_bltn (v := .ty "tuple") rfl T.tuple (by decide +kernel) rfl) pa_nil))) pa_nil)))) (pss_cons ps_never
      (pss_one ps_never)) pss_nil)
      (pss_cons (ps_if (pt_val (pe_callB call_isi rfl T.isinstance (by decide +kernel) (pa_cons (pv 1) (pa_cons (pe_bltn (v := .ty "int") rfl T.int (by decide +kernel) rfl) pa_nil)))) (pss_one (ps_ret (pe_and (pe_callB call_isi rfl T.isinstance (by decide +kernel) (pa_cons (pv 0) (pa_cons (pe_bltn (v := .ty "int") rfl T.int (by decide +kernel) rfl) pa_nil))) (pe_and (pe_cmpR op_eq (pe_callB call_isi rfl T.isinstance (by decide +kernel) (pa_cons (pv 0) (pa_cons (pe_bltn (v := .ty "bool") rfl T.bool (by decide +kernel) rfl) pa_nil))) (pe_callB call_isi rfl T.isinstance (by decide +kernel) (pa_cons (pv 1) (pa_cons (pe_bltn (v := .ty "bool") rfl T.bool (by decide +kernel) rfl) pa_nil))) (nomark _)) (pe_one (pe_cmpR op_eq (pv 0) (pv 1) (nomark _))))))) pss_nil)
      (pss_one ps_never))), ?_⟩
    refine ⟨_, rfl, by show 2 ≤ sizeLine; decide, fun tp n1 => ?_⟩
    generalize q1 : upd H tp _ = H1
    have e1 := nSm q1 n1
    rcases hv with ⟨i, rfl⟩ | ⟨i, rfl⟩
    · refine ⟨_, tp, _, _, _, _, rfl, nAt q1, clsLT, .base (.int i), kA1 K, _, rfl, iteF ?_⟩
      refine ⟨_, rfl, _, _, _, _, _, rfl, .ty "int", .base (.int i), kII K, _, rfl, iteT ?_⟩
      refine ⟨_, rfl, _, _, _, _, _, rfl, .ty "int", .base (.int i), kII K, _, rfl, iteT ?_⟩
      refine ⟨_, rfl, _, _, _, _, _, rfl, .ty "bool", .base (.int i), kIB K, _, rfl, _, _, _, _, _, rfl, .ty "bool", .base (.int i), kIB K, rfl, _, rfl, iteT ?_⟩
      refine ⟨_, rfl, _, rfl, rfl, ?_⟩
      rw [decide_eq_true rfl]
      exact k _ e1
    · refine ⟨_, tp, _, _, _, _, rfl, nAt q1, clsLT, .base (.bl i), kA4 K, _, rfl, iteF ?_⟩
      refine ⟨_, rfl, _, _, _, _, _, rfl, .ty "int", .base (.bl i), kBI K, _, rfl, iteT ?_⟩
      refine ⟨_, rfl, _, _, _, _, _, rfl, .ty "int", .base (.bl i), kBI K, _, rfl, iteT ?_⟩
      refine ⟨_, rfl, _, _, _, _, _, rfl, .ty "bool", .base (.bl i), kBB K, _, rfl, _, _, _, _, _, rfl, .ty "bool", .base (.bl i), kBB K, rfl, _, rfl, iteT ?_⟩
      refine ⟨_, rfl, _, rfl, rfl, ?_⟩
      rw [decide_eq_true rfl]
      exact k _ e1
/-- two lists of the same ints and bools -/
def spSameL : Sp := fun vs H Q _ => ∃ (la lb : Addr) (xs : List V), vs = [.ref la, .ref lb] ∧ H la = some (.lst xs) ∧ H lb = some (.lst xs) ∧ xs.length ≤ 100 ∧ (∀ x ∈ xs, IB x) ∧ ∀ H', Same H H' → Q (.bl true) H'
-- slots: 0 _law_found, 1 _law_due, 2 _law_a, 3 _law_b
theorem ok__law_same_L {f : Addr} {fd : FuncData} (F : FunD K "_law_same" "_law_same" (defArgs s__law_same) (defBody s__law_same) (defScope s__law_same) [] [] f fd) (T : Bt mg) (c__law_same : C8.Cal P w K mg base 1 "_law_same" spSameI []) : FnOk P w K mg base CX0 2 f fd ["_law_found", "_law_due"] spSameL := by
  refine F.ok sc__law_same (fun vs H Q E h => ?_) (fun cdv A outer s H vs Q E hr h => ?_)
  · obtain ⟨la, lb, xs, rfl, hx, hy, hl, hs, k⟩ := h
    rfl
  · obtain ⟨la, lb, xs, rfl, hx, hy, hl, hs, k⟩ := h
    refine ⟨_, PSs.nox (pss_cons (ps_if (pt_val (pe_callB call_isiT rfl T.isinstance (by decide +kernel) (pa_cons (pv 1) (pa_cons (pe_tup (pa_cons (pe_bltn (v := .ty "list") rfl T.list (by decide +kernel) rfl) (pa_cons (pe_bltn (v := .ty "tuple") rfl T.tuple (by decide +kernel) rfl) pa_nil))) pa_nil)))) (pss_cons (ps_if (PW.pt (pw_or (pt_cmpR op_ne (pe_callB call_isi rfl T.isinstance (by decide +kernel) (pa_cons (pv 0) (pa_cons (pe_bltn (v := .ty "list") rfl T.list (by decide +kernel) rfl) pa_nil))) (pe_callB call_isi rfl T.isinstance (by decide +kernel) (pa_cons (pv 1) (pa_cons (pe_bltn (v := .ty "list") rfl T.list (by decide +kernel) rfl) pa_nil))) (nomark _)) (pw_or1 (pt_cmpR op_ne (pe_callB call_isi rfl T.isinstance (by decide +kernel) (pa_cons (pv 0) (pa_cons (pe_bltn (v := .ty "tuple") rfl T.tuple (by decide +kernel) rfl) pa_nil))) (pe_callB call_isi rfl T.isinstance (by decide +kernel) (pa_cons (pv 1) (pa_cons (pe_bltn (v := .ty "tuple") rfl T.tuple (by decide +kernel) rfl) pa_nil))) (nomark _))))) (pss_one (ps_ret pe_bl)) pss_nil)
      (pss_one (ps_ret (pe_and (pe_cmpR op_eq (pe_callB call_len_seq rfl T.len (by decide +kernel) (pa_cons (pv 0) pa_nil)) (pe_callB call_len_seq rfl T.len (by decide +kernel) (pa_cons (pv 1) pa_nil)) (nomark _)) (pe_one (pe_callB (cr_all rfl) rfl T.all (by decide +kernel) (pa_cons (pe_lc (own := [("_law_a", 2), ("_law_b", 3)]) (g := (gTup K 2 (gCons (gName 2) (gCons (gName 3) gNil)))) (tt := tYes) rfl sc__law_same.nd (pi_zip rfl T.zip (pa_cons (pv 0) (pa_cons (pv 1) pa_nil))) (blkOk_by (N := N__law_same) (sc := defScope s__law_same) (by decide +kernel)) (fun _ _ _ _ _ => by exact (pg_tup rfl (pgs_cons (pg_name (i := 2) sc__law_same.nd rfl (Or.inl rfl)) (pgs_cons (pg_name (i := 3) sc__law_same.nd rfl (Or.inl rfl)) pgs_nil)))) (fun _ _ _ _ _ => pts_nil) (fun _ _ _ _ _ => by exact (C8.pe_c c__law_same hr (by decide) rfl (pa_cons (pv 2) (pa_cons (pv 3) pa_nil))))) pa_nil))))))) pss_nil)
      (pss_cons ps_never
      (pss_one ps_never))), ?_⟩
    refine ⟨_, rfl, by show 2 ≤ sizeLine; decide, fun tp n1 => ?_⟩
    generalize q1 : upd H tp _ = H1
    have e1 := nSm q1 n1
    have hx1 := e1 _ _ hx
    have hy1 := e1 _ _ hy
    refine ⟨_, tp, _, _, _, _, rfl, nAt q1, clsLT, .base (.lst hy1), kA2 K, _, rfl, iteT ?_⟩
    refine ⟨_, rfl, _, _, _, _, _, rfl, .ty "list", .base (.lst hx1), kLL K, _, rfl, _, _, _, _, _, rfl, .ty "list", .base (.lst hy1), kLL K, rfl, _, rfl, iteF ?_⟩
    refine ⟨_, rfl, _, _, _, _, _, rfl, .ty "tuple", .base (.lst hx1), kLT K, _, rfl, _, _, _, _, _, rfl, .ty "tuple", .base (.lst hy1), kLT K, rfl, _, rfl, iteF ?_⟩
    refine ⟨_, rfl, la, _, rfl, .inl (SqL.of hx1), _, rfl, lb, _, rfl, .inl (SqL.of hy1), rfl, _, rfl, ?_⟩
    have el : decide (V.int (xs.length : Nat) = V.int (xs.length : Nat)) = true := decide_eq_true rfl
    rw [el]
    refine iteT ?_
    refine ⟨_, rfl, _, rfl, la, lb, xs, xs, rfl, SqL.of hx1, SqL.of hy1, fun D nD => ?_⟩
    refine lc_it (walk_zip (n := xs.length) (by omega)) (fun i H2 => Same H1 H2 ∧ H2 D = some (.lst (List.replicate i (.bl true)))) ⟨Same.new nD, upd_same⟩ (fun i H2 _ ⟨e2, _⟩ => ⟨SqL.of (e2 _ _ hx1), SqL.of (e2 _ _ hy1)⟩) ?_ ?_
    · rintro i x H2 H3 hi ⟨e2, h2⟩ ⟨T5, a, b, rfl, nT, rfl, ha, hb⟩
      have eab : a = b := Option.some.inj (ha.symm.trans hb)
      subst eab
      have hib := hs a (List.mem_of_getElem? ha)
      have e3 : Same H1 (upd H2 T5 (.tup [a, a])) := e2.trans (Same.new nT)
      have h3 := (Same.new (o := .tup [a, a]) nT) _ _ h2
      have hT5 : upd H2 T5 (.tup [a, a]) T5 = some (.tup [a, a]) := upd_same
      generalize upd H2 T5 (.tup [a, a]) = H4 at e3 h3 hT5
      refine ⟨T5, _, rfl, SqT.of hT5, rfl, _, _, rfl, _, _, rfl, rfl, rfl, ?_⟩
      refine ⟨_, rfl, _, rfl, a, rfl, hib, fun H5 e5 => ⟨_, e5 _ _ h3, by rw [List.length_replicate]; exact Nat.lt_of_lt_of_le (by omega : i < 100) (by decide), ?_, ?_⟩⟩
      · intro b' o' hb'
        have nb : b' ≠ D := ne_of_none hb' nD
        rw [upd_ne nb]
        exact e5 _ _ (e3 _ _ hb')
      · rw [upd_same, List.replicate_succ']
    · rintro H2 ⟨e2, h2⟩
      have eb : List.replicate xs.length (V.bl true) = (List.replicate xs.length true).map V.bl := by rw [List.map_replicate]
      rw [eb] at h2
      refine ⟨D, _, rfl, SqL.of h2, ?_⟩
      have ea : (List.replicate xs.length true).all id = true := by simp
      rw [ea]
      exact k _ (e1.trans e2)
/-- two numbers as they are told are the same -/
def SameN (C : Addr) (H : Hp) (v d : V) : Prop := (∃ i : Int, v = .int i ∧ d = .int i) ∨ ∃ o u, IsX C H v o u ∧ IsX C H d o u
theorem SameN.same {H H1 : Hp} {v d : V} (e : Same H H1) (h : SameN C H v d) : SameN C H1 v d := by
  rcases h with h | ⟨o, u, h1, h2⟩
  · exact .inl h
  · exact .inr ⟨o, u, h1.same e, h2.same e⟩
def spToldI (C : Addr) : Sp := fun vs H Q _ => ∃ v d : V, vs = [v, d] ∧ SameN C H v d ∧ ∀ H', Same H H' → Q (.bl true) H'
def spToldL (C : Addr) : Sp := fun vs H Q _ => ∃ (la lb : Addr) (xs ys : List V), vs = [.ref la, .ref lb] ∧ H la = some (.lst xs) ∧ H lb = some (.lst ys) ∧ xs.length = ys.length ∧ xs.length ≤ 100 ∧ (∀ (i : Nat) x y, xs[i]? = some x → ys[i]? = some y → SameN C H x y) ∧ ∀ H', Same H H' → Q (.bl true) H'
/-- a drawn fraction -/
def spSomeF (K : PySem.W.Frag) : Sp := fun vs H Q _ => ∃ a : Addr, vs = [.ref a] ∧ Stt K H a ∧ ∀ v H' o u, But a H H' → Stt K H' a → IsF H' v o u → Red o u → o.natAbs ≤ 10 ^ 38 → u.natAbs ≤ 10 ^ 12 → Q v H'
abbrev s__law_some_frac : Stmt := top 21
abbrev N__law_some_frac : List Str := ["_law_state", "_law_top"]
theorem sc__law_some_frac : FnScope N__law_some_frac ["_law_state"] (defScope s__law_some_frac) := ⟨rfl, rfl, rfl, by decide +kernel, rfl, by decide +kernel, by decide +kernel⟩
-- slots: 0 _law_state, 1 _law_top
theorem ok__law_some_frac {f : Addr} {fd : FuncData} (F : FunD K "_law_some_frac" "_law_some_frac" (defArgs s__law_some_frac) (defBody s__law_some_frac) (defScope s__law_some_frac) [] [] f fd) (T : Bt mg) (c__law_take : C8.Cal P w K mg base 2 "_law_take" (spTake K) []) (c__law_one : C8.Cal P w K mg base 3 "_law_one" (spOne K) []) (c__law_frac : C8.Cal P w K mg base 2 "_law_frac" spFrac []) : FnOk P w K mg base CX0 4 f fd ["_law_state"] (spSomeF K) := by
  refine F.ok sc__law_some_frac (fun vs H Q E h => ?_) (fun cdv A outer s H vs Q E hr h => ?_)
  · obtain ⟨a, rfl, hs, k⟩ := h
    rfl
  · obtain ⟨a, rfl, hs, k⟩ := h
    refine ⟨_, PSs.nox (pss_cons (ps_set (i := 1) sc__law_some_frac.nd rfl (Or.inl rfl) (C8.pe_c c__law_one hr (by decide) rfl (pa_cons (pv 0) (pa_cons (pe_lst (pa_cons pe_int (pa_cons pe_int (pa_cons pe_int (pa_cons (pe_op op_pow pe_int pe_int) (pa_cons (pe_op op_pow pe_int pe_int) pa_nil)))))) pa_nil))))
      (pss_one (ps_ret (C8.pe_c c__law_frac hr (by decide) rfl (pa_cons (pe_op op_sub (C8.pe_c c__law_take hr (by decide) rfl (pa_cons (pv 0) (pa_cons (pe_op op_mulG pe_int (pv 1)) pa_nil))) (pv 1)) (pa_cons (pe_op op_add pe_int (C8.pe_c c__law_take hr (by decide) rfl (pa_cons (pv 0) (pa_cons (C8.pe_c c__law_one hr (by decide) rfl (pa_cons (pv 0) (pa_cons (pe_lst (pa_cons pe_int (pa_cons pe_int (pa_cons pe_int (pa_cons pe_int (pa_cons (pe_op op_pow pe_int pe_int) pa_nil)))))) pa_nil))) pa_nil)))) pa_nil)))))), ?_⟩
    refine ⟨_, rfl, _, _, rfl, rfl, ⟨by decide, by decide, by decide⟩, _, _, rfl, rfl, ⟨by decide, by decide, by decide⟩, by show 5 ≤ sizeLine; decide, fun p n1 => ?_⟩
    generalize q1 : upd H p _ = H1
    have h1 := nAt q1
    have e1 := nSm q1 n1
    have hs1 := hs.same e1
    refine ⟨a, p, _, rfl, hs1, h1, rfl, by decide, by decide, fun H2 v e2 hs2 hv => ?_⟩
    obtain ⟨t, rfl, ht0, ht1⟩ : ∃ t : Int, v = .int t ∧ 0 < t ∧ t ≤ 10 ^ 38 := by
      simp only [List.mem_cons, List.not_mem_nil, or_false] at hv
      rcases hv with rfl | rfl | rfl | rfl | rfl <;> exact ⟨_, rfl, by decide, by decide⟩
    refine ⟨_, rfl, _, rfl, _, _, rfl, rfl, mulS' (by decide), a, _, rfl, hs2, by omega, by omega, fun H3 d e3 hs3 hd0 hd1 => ?_⟩
    refine ⟨_, rfl, _, _, rfl, rfl, ?_⟩
    refine ⟨_, rfl, _, rfl, _, _, rfl, rfl, ⟨by decide, by decide, by decide⟩, by show 5 ≤ sizeLine; decide, fun p4 n4 => ?_⟩
    generalize q4 : upd H3 p4 _ = H4
    have h4 := nAt q4
    have e4 := nSm q4 n4
    have hs4 := hs3.same e4
    refine ⟨a, p4, _, rfl, hs4, h4, rfl, by decide, by decide, fun H5 v5 e5 hs5 hv5 => ?_⟩
    obtain ⟨t5, rfl, h50, h51⟩ : ∃ t : Int, v5 = .int t ∧ 0 < t ∧ t ≤ 10 ^ 12 := by
      simp only [List.mem_cons, List.not_mem_nil, or_false] at hv5
      rcases hv5 with rfl | rfl | rfl | rfl | rfl <;> exact ⟨_, rfl, by decide, by decide⟩
    refine ⟨a, _, rfl, hs5, h50, by omega, fun H6 d6 e6 hs6 h60 h61 => ?_⟩
    have hu : (1 + d6 : Int) ≠ 0 := by omega
    refine ⟨_, _, rfl, rfl, _, _, rfl, hu, Nat.lt_of_lt_of_le (show (1 + d6).natAbs < 2 ^ 100 by omega) (Nat.pow_le_pow_right (by decide) (by decide)), fun v H7 e7 hv => ?_⟩
    have b1 := abs_rO (o := d - t) hu
    have b2 := abs_rD (o := d - t) hu
    exact k v H7 _ _ ((((((Same.but e1).trans e2).trans e3).trans (Same.but e4)).trans (e5.trans e6)).trans (Same.but e7)) (hs6.same e7) hv (red_of hu) (by omega) (by omega)
/-- a told number as a pair -/
def spAsX (C : Addr) : Sp := fun vs H Q _ => ∃ (x : V) (o u : Int), vs = [x] ∧ IsX C H x o u ∧ Red o u ∧ ∀ v H', Same H H' → IsF H' v o u → Q v H'
end
end LW
set_option Elab.async false
set_option linter.all false
set_option maxRecDepth 100000
set_option maxHeartbeats 4000000
namespace LW
open PySem PySem.Spec PyProof.Rows L2 LV LM
theorem ord_eq {o u p q : Int} (h1 : Red o u) (h2 : Red p q) : (o = p ∧ u = q) ↔ o * q = p * u := by
  constructor
  · rintro ⟨rfl, rfl⟩
    rfl
  · intro h
    have a := red_scale h1 (s := q) (by have := h2.1; omega)
    have b := red_scale h2 (s := u) (by have := h1.1; omega)
    rw [h, Int.mul_comm u q] at a
    exact ⟨a.1.symm.trans b.1, a.2.symm.trans b.2⟩
theorem Sm.le {i : Int} (h : i.natAbs ≤ 10 ^ 38) : Sm i := Nat.lt_of_le_of_lt h (Nat.lt_of_lt_of_le (show 10 ^ 38 < 2 ^ 127 by decide) (Nat.pow_le_pow_right (by decide) (by decide)))
section
variable {P : Program} {w : World} {K : PySem.W.Frag} {mg : Str → Option Value} {base : Heap} {C : Addr}
def spLess : Sp := fun vs H Q _ => ∃ (x y : V) (o u p q : Int), vs = [x, y] ∧ IsF H x o u ∧ IsF H y p q ∧ Sm o ∧ Sm u ∧ Sm p ∧ Sm q ∧ ∀ L, L = decide (o * q < p * u) → Q (.bl L) H
abbrev s__law_less : Stmt := top 19
abbrev N__law_less : List Str := ["_law_a", "_law_b"]
theorem sc__law_less : FnScope N__law_less ["_law_a", "_law_b"] (defScope s__law_less) := ⟨rfl, rfl, rfl, by decide +kernel, rfl, by decide +kernel, by decide +kernel⟩
-- slots: 0 _law_a, 1 _law_b
theorem ok__law_less {f : Addr} {fd : FuncData} (F : FunD K "_law_less" "_law_less" (defArgs s__law_less) (defBody s__law_less) (defScope s__law_less) [] [] f fd) (T : Bt mg) : FnOk P w K mg base CX0 1 f fd ["_law_a", "_law_b"] spLess := by
  refine F.ok sc__law_less (fun vs H Q E h => ?_) (fun cdv A outer s H vs Q E hr h => ?_)
  · obtain ⟨x, y, o, u, p, q, rfl, ⟨xa, rfl, hx⟩, ⟨ya, rfl, hy⟩, so, su, sp, sq, k⟩ := h
    rfl
  · obtain ⟨x, y, o, u, p, q, rfl, ⟨xa, rfl, hx⟩, ⟨ya, rfl, hy⟩, so, su, sp, sq, k⟩ := h
    refine ⟨_, PSs.nox (pss_one (ps_ret (pe_cmpR op_lt (pe_op op_mulG (pe_ix ix_tup (pv 0) pe_int (fun _ _ => rfl)) (pe_ix ix_tup (pv 1) pe_int (fun _ _ => rfl))) (pe_op op_mulG (pe_ix ix_tup (pv 1) pe_int (fun _ _ => rfl)) (pe_ix ix_tup (pv 0) pe_int (fun _ _ => rfl))) (nomark _)))), ?_⟩
    exact ⟨_, rfl, xa, _, _, _, rfl, rfl, SqT.of hx, rfl, _, rfl, ya, _, _, _, rfl, rfl, SqT.of hy, rfl, _, _, rfl, rfl, smul so sq, _, rfl, ya, _, _, _, rfl, rfl, SqT.of hy, rfl, _, rfl, xa, _, _, _, rfl, rfl, SqT.of hx, rfl, _, _, rfl, rfl, smul sp su, _, _, rfl, rfl, k _ rfl⟩
/-! readings of comparisons -/
section
variable {H : Hp} {vx vy : V} {o u p q : Int} {Q : VK} {r r' : Int → Int → Int → Int → Bool}
theorem cmpB (T : XC K mg C) (hx : IsX C H vx o u) (hy : IsN C H vy p q) (so : Sm o) (su : Sm u) (sp : Sm p) (sq : Sm q) (k : ∀ H', Same H H' → Q (.bl (r o u p q)) H') : rCmpL K C (spCmp C r) vx vy H Q := by
  obtain ⟨xa, xd, rfl, hx'⟩ := id hx
  exact ⟨xa, xd, _, rfl, hx', hy.notF T, _, _, o, u, p, q, rfl, hx, hy, so, su, sp, sq, k⟩
theorem cmpR (T : XC K mg C) (hr : ∀ o u p q, r p q o u = r' o u p q) (hx : IsX C H vx o u) (hy : IsN C H vy p q) (so : Sm o) (su : Sm u) (sp : Sm p) (sq : Sm q) (k : ∀ H', Same H H' → Q (.bl (r' o u p q)) H') :
    rCmpL K C (spCmp C r) vy vx H Q ∨ rCmpRI C (spCmp C r') vy vx H Q := by
  rcases id hy with ⟨rfl, rfl⟩ | hy'
  · obtain ⟨xa, xd, rfl, hx'⟩ := id hx
    exact .inr ⟨_, xa, xd, _, rfl, rfl, hx', _, _, o, u, p, 1, rfl, hx, hy, so, su, sp, sq, k⟩
  · exact .inl (cmpB T hy' (.inr hx) sp sq so su fun H' e => by rw [hr]; exact k H' e)
theorem eqB (T : XC K mg C) (hx : IsX C H vx o u) (hy : IsN C H vy p q) (k : ∀ H', Same H H' → Q (.bl (decide (o = p) && decide (u = q))) H') : rCmpL K C (spEqX K C) vx vy H Q := by
  obtain ⟨xa, xd, rfl, hx'⟩ := id hx
  exact ⟨xa, xd, _, rfl, hx', hy.notF T, _, _, o, u, rfl, hx, .inl ⟨p, q, hy, k⟩⟩
theorem eqR (T : XE K mg C) (hx : IsX C H vx o u) (hy : IsN C H vy p q) (k : ∀ H', Same H H' → Q (.bl (decide (o = p) && decide (u = q))) H') : rCmpL K C (spEqX K C) vy vx H Q ∨ rCmpR K C (spEqX K C) vy vx H Q := by
  rcases id hy with ⟨rfl, rfl⟩ | hy'
  · obtain ⟨xa, xd, rfl, hx'⟩ := id hx
    exact .inr ⟨xa, xd, _, "int", rfl, hx', .int p, T.own.subC, _, _, o, u, rfl, hx, .inl ⟨p, 1, hy, k⟩⟩
  · refine .inl (eqB T.toXC hy' (.inr hx) fun H' e => ?_)
    have z : (decide (p = o) && decide (q = u)) = (decide (o = p) && decide (u = q)) := by
      rw [show decide (p = o) = decide (o = p) from decide_eq_decide.mpr eq_comm, show decide (q = u) = decide (u = q) from decide_eq_decide.mpr eq_comm]
    rw [z]
    exact k H' e
theorem neB (T : XC K mg C) (hx : IsX C H vx o u) (hy : IsN C H vy p q) (k : ∀ H', Same H H' → Q (.bl (!(decide (o = p) && decide (u = q)))) H') : rNeL K C (spEqX K C) vx vy H Q := by
  obtain ⟨xa, xd, rfl, hx'⟩ := id hx
  exact ⟨xa, xd, _, rfl, hx', hy.notF T, _, _, o, u, rfl, hx, .inl ⟨p, q, hy, fun H' e => ⟨_, rfl, k H' e⟩⟩⟩
/-- an object that is no number -/
structure OthK (K : PySem.W.Frag) (C : Addr) (H : Hp) (v : V) : Prop where
  nb : NumB K C H v false
  nf : NotF K C H v
  lf : ∃ T, Lft K H v T ∧ PySem.W.subIn K (.ref C) (.type T) = some false
theorem eqO (hx : IsX C H vx o u) (hy : OthK K C H vy) (k : ∀ H', Same H H' → Q (.bl false) H') : rCmpL K C (spEqX K C) vx vy H Q := by
  obtain ⟨xa, xd, rfl, hx'⟩ := id hx
  exact ⟨xa, xd, _, rfl, hx', hy.nf, _, _, o, u, rfl, hx, .inr ⟨hy.nb, k⟩⟩
theorem neO (hx : IsX C H vx o u) (hy : OthK K C H vy) (k : ∀ H', Same H H' → Q (.bl true) H') : rNeL K C (spEqX K C) vx vy H Q := by
  obtain ⟨xa, xd, rfl, hx'⟩ := id hx
  exact ⟨xa, xd, _, rfl, hx', hy.nf, _, _, o, u, rfl, hx, .inr ⟨hy.nb, fun H' e => ⟨_, rfl, k H' e⟩⟩⟩
theorem eqOR (hx : IsX C H vx o u) (hy : OthK K C H vy) (k : ∀ H', Same H H' → Q (.bl false) H') : rCmpR K C (spEqX K C) vy vx H Q := by
  obtain ⟨xa, xd, rfl, hx'⟩ := id hx
  obtain ⟨t, h1, h2⟩ := hy.lf
  exact ⟨xa, xd, _, t, rfl, hx', h1, h2, _, _, o, u, rfl, hx, .inr ⟨hy.nb, k⟩⟩
theorem oth_of {v : V} {t : String} {b c : Bool} (T : XE K mg C) (ht : t ∈ typs) (h1 : TyX K H v (.type t)) (h2 : Lft K H v t) (h3 : PySem.W.kitOne K (.type t) (.type "int") = some b) (h4 : PySem.W.kitOne K (.type t) (.type "bool") = some c) (h5 : (b && !c) = false) : OthK K C H v := by
  obtain ⟨k1, k2, k3⟩ := T.kT t ht
  refine ⟨⟨_, b, c, false, h1, h3, h4, k1, by rw [h5]; rfl⟩, ⟨_, h1, ?_⟩, t, h2, k3⟩
  unfold PySem.W.notFirst
  rw [k2]
  simp
theorem oth_non (T : XE K mg C) : OthK K C H .non := oth_of T (b := false) (c := false) (by simp [typs]) (.base .non) .non (by kernel_rfl) (by kernel_rfl) rfl
theorem oth_bl (T : XE K mg C) (z : Bool) : OthK K C H (.bl z) := oth_of T (b := true) (c := true) (by simp [typs]) (.base (.bl z)) (.bl z) (by kernel_rfl) (by kernel_rfl) rfl
theorem oth_str (T : XE K mg C) (z : Str) : OthK K C H (.str z) := oth_of T (b := false) (c := false) (by simp [typs]) (.base (.str z)) (.str z) (by kernel_rfl) (by kernel_rfl) rfl
theorem oth_lst (T : XE K mg C) {a : Addr} {xs : List V} (h : H a = some (.lst xs)) : OthK K C H (.ref a) := oth_of T (b := false) (c := false) (by simp [typs]) (.base (.lst h)) (.lst h) (by kernel_rfl) (by kernel_rfl) rfl
theorem oth_tup (T : XE K mg C) {a : Addr} {xs : List V} (h : H a = some (.tup xs)) : OthK K C H (.ref a) := oth_of T (b := false) (c := false) (by simp [typs]) (.base (.tup h)) (.tup h) (by kernel_rfl) (by kernel_rfl) rfl
theorem oth_dK (T : XE K mg C) {a : Addr} {kvs : List (Key × V)} (h : H a = some (.dK kvs)) : OthK K C H (.ref a) := oth_of T (b := false) (c := false) (by simp [typs]) (.base (.dK h)) (.dK h) (by kernel_rfl) (by kernel_rfl) rfl
end
abbrev pd (p : Int × Int) : PyData := .tuple [.int p.1, .int p.2]
theorem dpF {H : Hp} {v : V} {o u : Int} (h : IsF H v o u) : Dp K H v (pd (o, u)) := by
  obtain ⟨p, rfl, h⟩ := h
  exact .tup (SqT.of h) (.cons (.int _) (.cons (.int _) .nil))
theorem eqFF (o u p q : Int) : PyData.eqv (pd (o, u)) (pd (p, q)) = (decide (o = p) && decide (u = q)) := by
  have e : ∀ a b : Int, (a == b) = decide (a = b) := fun a b => by
    by_cases h : a = b
    · rw [h]; simp
    · rw [decide_eq_false h]; simpa using h
  simp [PyData.eqv, PyData.eqvAll, e]
theorem shF (o u : Int) : SeqAt.shaped (pd (o, u)) = true := rfl
theorem mkY {H : Hp} {x dx : Addr} {o u : Int} {Q : VK} {E : XK} (hu : u ≠ 0) (hub : Big u) (nx : H x = none) (nd : H dx = none) (ne : dx ≠ x) (k : ∀ H', Same H H' → IsX C H' (.ref x) (rO o u) (rD o u) → Q .non H') :
    spInit C [.ref x, .int o, .int u] (upd (upd H dx (.own x)) x (.ins C dx [])) Q E := by
  refine ⟨x, dx, o, u, rfl, upd_same, hu, hub, fun H' e h => k _ (fun b ob hb => ?_) ⟨x, dx, rfl, h⟩⟩
  have n1 := ne_of_none hb nx
  refine e b ob n1 ?_
  rw [upd_ne n1, upd_ne (ne_of_none hb nd)]
  exact hb
structure Wd (K : PySem.W.Frag) (C st : Addr) (va vb vx vy : V) (oa ua ob ub : Int) (H : Hp) : Prop where
  s : Stt K H st
  a : IsF H va oa ua
  b : IsF H vb ob ub
  x : IsX C H vx oa ua
  y : IsN C H vy ob ub
theorem Wd.same {st : Addr} {va vb vx vy : V} {oa ua ob ub : Int} {H H' : Hp} (e : Same H H') (h : Wd K C st va vb vx vy oa ua ob ub H) : Wd K C st va vb vx vy oa ua ob ub H' := ⟨h.s.same e, h.a.same e, h.b.same e, h.x.same e, h.y.same e⟩
section
variable {ta tb : TE} {σ : L2.St} {H : Hp} {a b : Bool}
theorem vOr (h1 : Val ta σ H (.bl a)) (h2 : Val tb σ H (.bl b)) : Val (tOrV ta tb) σ H (.bl (a || b)) := fun Q q => h1 _ ⟨a, rfl, by
  cases a
  · exact iteF (h2 _ q)
  · exact iteT q⟩
theorem vAnd (h1 : Val ta σ H (.bl a)) (h2 : Val tb σ H (.bl b)) : Val (tAndV ta tb) σ H (.bl (a && b)) := fun Q q => h1 _ ⟨a, rfl, by
  cases a
  · exact iteF q
  · exact iteT (h2 _ q)⟩
theorem vNot (h1 : Val ta σ H (.bl a)) : Val (tNotV ta) σ H (.bl (!a)) := fun Q q => h1 _ ⟨a, rfl, q⟩
end
def spLaw (K : PySem.W.Frag) : Sp := fun vs H Q _ => ∃ (a : Addr) (ns : List Int), vs = [.ref a] ∧ SqL K H a (ns.map V.int) ∧ ns.length ≤ 63 ∧ ∀ H', Q (.bl true) H'
end
end LW
set_option Elab.async false
set_option linter.all false
set_option maxRecDepth 100000
set_option maxHeartbeats 4000000
namespace LW
open PySem PySem.Spec PyProof.Rows L2 LV LM
section
variable {P : Program} {w : World} {K : PySem.W.Frag} {mg : Str → Option Value} {base : Heap} {C : Addr}
theorem ordL {o u p q : Int} (h1 : Red o u) (h2 : Red p q) {L S : Bool} (hL : L = decide (o * q < p * u)) (hS : (decide (o = p) && decide (u = q)) = S) :
    decide (o * q ≤ p * u) = (L || S) ∧ decide (p * u < o * q) = (!L && !S) ∧ decide (p * u ≤ o * q) = ((!L && !S) || S) := by
  have e := ord_eq h1 h2
  have hS' : S = decide (o * q = p * u) := by
    rw [← hS, ← Bool.decide_and]
    exact decide_eq_decide.mpr e
  subst hL hS'
  generalize o * q = x
  generalize p * u = y
  rcases Int.lt_trichotomy x y with h | h | h
  · simp [h, Int.le_of_lt h, Int.ne_of_lt h, Int.not_lt.mpr (Int.le_of_lt h), Int.not_le.mpr h]
  · subst h; simp
  · simp [h, Int.le_of_lt h, Int.ne_of_gt h, Int.not_lt.mpr (Int.le_of_lt h), Int.not_le.mpr h]
abbrev s_law : Stmt := top 22
abbrev N_law : List Str := ["_law_script", "_law_state", "_law_turn", "_law_a", "_law_far", "_law_b", "_law_x", "_law_y", "_law_less_here", "_law_same_here", "_law_found", "_law_more", "_law_due", "_law_others", "_law_other"]
theorem sc_law : FnScope N_law ["_law_script"] (defScope s_law) := ⟨rfl, rfl, rfl, by decide +kernel, rfl, by decide +kernel, by decide +kernel⟩
-- slots: 0 _law_script, 1 _law_state, 2 _law_turn, 3 _law_a, 4 _law_far, 5 _law_b, 6 _law_x, 7 _law_y, 8 _law_less_here, 9 _law_same_here, 10 _law_found, 11 _law_more, 12 _law_due, 13 _law_others, 14 _law_other
theorem ok_law {f : Addr} {fd : FuncData} (F : FunD K "law" "law" (defArgs s_law) (defBody s_law) (defScope s_law) [] [] f fd) (T : XE K mg C) (c__law_fresh : C8.Cal P w K mg base 1 "_law_fresh" (spFresh K) []) (c__law_some_frac : C8.Cal P w K mg base 4 "_law_some_frac" (spSomeF K) []) (c__law_one : C8.Cal P w K mg base 3 "_law_one" (spOne K) []) (c__law_less : C8.Cal P w K mg base 1 "_law_less" spLess []) (c__law_same : C8.Cal P w K mg base 2 "_law_same" spSameL []) (c_Exact : C8.Mak P w K mg base 2 "Exact" C (spInit C) []) (c_Exact1 : C8.Mak P w K mg base 2 "Exact" C (spInit C) [.int 1]) (c__law_as_number : C8.Cal P w K mg base 4 "_law_as_number" (spAsNum K C) []) (c__law_add : C8.Cal P w K mg base 3 "_law_add" spFAdd []) (m__lt__ : ∀ X : Cx, X.prog = P → X.w = w → X.K = K → X.mg = mg → X.base = base → OwnM X 5 C "__lt__" (spLt C)) (m__le__ : ∀ X : Cx, X.prog = P → X.w = w → X.K = K → X.mg = mg → X.base = base → OwnM X 5 C "__le__" (spLe C)) (m__gt__ : ∀ X : Cx, X.prog = P → X.w = w → X.K = K → X.mg = mg → X.base = base → OwnM X 5 C "__gt__" (spGt C)) (m__ge__ : ∀ X : Cx, X.prog = P → X.w = w → X.K = K → X.mg = mg → X.base = base → OwnM X 5 C "__ge__" (spGe C)) (m__eq__ : ∀ X : Cx, X.prog = P → X.w = w → X.K = K → X.mg = mg → X.base = base → OwnM X 5 C "__eq__" (spEqX K C)) : FnOk P w K mg base CX0 7 f fd ["_law_script"] (spLaw K) := by
  refine F.ok sc_law (fun vs H Q E h => ?_) (fun cdv A outer s H vs Q E hr h => ?_)
  · obtain ⟨sc, ns, rfl, hS, hl, k⟩ := h
    rfl
  · obtain ⟨sc, ns, rfl, hS, hl, k⟩ := h
    refine ⟨_, PSs.nox (pss_cons (ps_set (i := 1) sc_law.nd rfl (Or.inl rfl) (C8.pe_c c__law_fresh hr (by decide) rfl (pa_cons (pv 0) pa_nil)))
      (pss_cons (ps_for PassesOwn.never rfl (pi_range1 rfl T.range (pa_cons pe_int pa_nil)) (pg_name (i := 2) sc_law.nd rfl (Or.inl rfl)) (pss_cons (ps_set (i := 3) sc_law.nd rfl (Or.inl rfl) (C8.pe_c c__law_some_frac hr (by decide) rfl (pa_cons (pv 1) pa_nil)))
      (pss_cons (ps_set (i := 4) sc_law.nd rfl (Or.inl rfl) (C8.pe_c c__law_one hr (by decide) rfl (pa_cons (pv 1) (pa_cons (pe_lst (pa_cons (pe_tup (pa_cons pe_int (pa_cons pe_int pa_nil))) (pa_cons (pe_tup (pa_cons pe_int (pa_cons (pe_op op_pow pe_int pe_int) pa_nil))) (pa_cons (pe_tup (pa_cons (pe_un un_neg pe_int) (pa_cons (pe_op op_pow pe_int pe_int) pa_nil))) (pa_cons (pe_tup (pa_cons pe_int (pa_cons pe_int pa_nil))) (pa_cons (C8.pe_c c__law_some_frac hr (by decide) rfl (pa_cons (pv 1) pa_nil)) pa_nil)))))) pa_nil))))
      (pss_cons (ps_set (i := 5) sc_law.nd rfl (Or.inl rfl) (C8.pe_c c__law_add hr (by decide) rfl (pa_cons (pv 3) (pa_cons (pv 4) pa_nil))))
      (Evl.pss_cut (ps_if (PW.pt (pw_or (pt_cmpR op_gt (pe_ix ix_tup (pv 5) pe_int (fun _ _ => rfl)) (pe_op op_pow pe_int pe_int) (nomark _)) (pw_or (pt_cmpR op_gt (pe_ix ix_tup (pv 5) pe_int (fun _ _ => rfl)) (pe_op op_pow pe_int pe_int) (nomark _)) (pw_or1 (pt_cmpR op_lt (pe_ix ix_tup (pv 5) pe_int (fun _ _ => rfl)) (pe_un un_neg (pe_op op_pow pe_int pe_int)) (nomark _)))))) (pss_one (ps_set (i := 5) sc_law.nd rfl (Or.inl rfl) (C8.pe_c c__law_some_frac hr (by decide) rfl (pa_cons (pv 1) pa_nil)))) pss_nil)
      (pss_cons (ps_par (i := 6) (j := 7) rfl sc_law.nd rfl rfl (by decide) rfl rfl (pa_cons (C8.pe_mk c_Exact hr (by decide) rfl (pa_cons (pe_ix ix_tup (pv 3) pe_int (fun _ _ => rfl)) (pa_cons (pe_ix ix_tup (pv 3) pe_int (fun _ _ => rfl)) pa_nil))) (pa_cons (C8.pe_c c__law_as_number hr (by decide) rfl (pa_cons (pv 1) (pa_cons (pv 5) pa_nil))) pa_nil)) rfl)
      (pss_cons (ps_par (i := 8) (j := 9) rfl sc_law.nd rfl rfl (by decide) rfl rfl (pa_cons (C8.pe_c c__law_less hr (by decide) rfl (pa_cons (pv 3) (pa_cons (pv 5) pa_nil))) (pa_cons (pe_cmpR (op_eqD hr.units) (pv 3) (pv 5) (nomark _)) pa_nil)) rfl)
      (pss_cons (ps_set (i := 10) sc_law.nd rfl (Or.inl rfl) (pe_lst (pa_cons (pe_cmpR (op_ltL (m__lt__ _ rfl rfl rfl rfl rfl) (hr.mono (by decide))) (pv 6) (pv 7) (nomark _)) (pa_cons (pe_cmpR (op_leL (m__le__ _ rfl rfl rfl rfl rfl) (hr.mono (by decide))) (pv 6) (pv 7) (nomark _)) (pa_cons (pe_cmpR (op_gtL (m__gt__ _ rfl rfl rfl rfl rfl) (hr.mono (by decide))) (pv 6) (pv 7) (nomark _)) (pa_cons (pe_cmpR (op_geL (m__ge__ _ rfl rfl rfl rfl rfl) (hr.mono (by decide))) (pv 6) (pv 7) (nomark _)) (pa_cons (pe_cmpR (op_eqL (m__eq__ _ rfl rfl rfl rfl rfl) (hr.mono (by decide))) (pv 6) (pv 7) (nomark _)) (pa_cons (pe_cmpR (OpR.or (op_ltL (m__lt__ _ rfl rfl rfl rfl rfl) (hr.mono (by decide))) (op_ltR (m__gt__ _ rfl rfl rfl rfl rfl) T.own (hr.mono (by decide)))) (pv 7) (pv 6) (nomark _)) (pa_cons (pe_cmpR (OpR.or (op_leL (m__le__ _ rfl rfl rfl rfl rfl) (hr.mono (by decide))) (op_leR (m__ge__ _ rfl rfl rfl rfl rfl) T.own (hr.mono (by decide)))) (pv 7) (pv 6) (nomark _)) (pa_cons (pe_cmpR (OpR.or (op_gtL (m__gt__ _ rfl rfl rfl rfl rfl) (hr.mono (by decide))) (op_gtR (m__lt__ _ rfl rfl rfl rfl rfl) T.own (hr.mono (by decide)))) (pv 7) (pv 6) (nomark _)) (pa_cons (pe_cmpR (OpR.or (op_geL (m__ge__ _ rfl rfl rfl rfl rfl) (hr.mono (by decide))) (op_geR (m__le__ _ rfl rfl rfl rfl rfl) T.own (hr.mono (by decide)))) (pv 7) (pv 6) (nomark _)) (pa_cons (pe_cmpR (OpR.or (op_eqL (m__eq__ _ rfl rfl rfl rfl rfl) (hr.mono (by decide))) (op_eqR (m__eq__ _ rfl rfl rfl rfl rfl) (hr.mono (by decide)))) (pv 7) (pv 6) (nomark _)) (pa_cons (pe_cmpR (op_neL (m__eq__ _ rfl rfl rfl rfl rfl) T.ne T.hm (hr.mono (by decide))) (pv 6) (pv 7) (nomark _)) pa_nil)))))))))))))
      (Evl.pss_cut (ps_set (i := 11) sc_law.nd rfl (Or.inl rfl) (pe_and (pe_not (pv 8)) (pe_one (pe_not (pv 9)))))
      (Evl.pss_cut (ps_set (i := 12) sc_law.nd rfl (Or.inl rfl) (pe_lst (pa_cons (pv 8) (pa_cons (pe_or (pv 8) (pe_one (pv 9))) (pa_cons (pv 11) (pa_cons (pe_or (pv 11) (pe_one (pv 9))) (pa_cons (pv 9) (pa_cons (pv 11) (pa_cons (pe_or (pv 11) (pe_one (pv 9))) (pa_cons (pv 8) (pa_cons (pe_or (pv 8) (pe_one (pv 9))) (pa_cons (pv 9) (pa_cons (pe_not (pv 9)) pa_nil)))))))))))))
      (Evl.pss_cut (ps_if (pt_not (pt_val (C8.pe_c c__law_same hr (by decide) rfl (pa_cons (pv 10) (pa_cons (pv 12) pa_nil))))) (pss_one (ps_ret pe_bl)) pss_nil)
      (pss_cons (ps_set (i := 13) sc_law.nd rfl (Or.inl rfl) (pe_lst (pa_cons pe_non (pa_cons pe_bl (pa_cons pe_str (pa_cons (pe_lst (pa_cons (pe_ix ix_tup (pv 3) pe_int (fun _ _ => rfl)) pa_nil)) (pa_cons pe_dnewK (pa_cons (pe_tup (pa_cons (pe_ix ix_tup (pv 3) pe_int (fun _ _ => rfl)) (pa_cons (pe_ix ix_tup (pv 3) pe_int (fun _ _ => rfl)) pa_nil))) (pa_cons pe_bl pa_nil)))))))))
      (pss_one (ps_for PassesOwn.never rfl (pi_list (pv 13)) (pg_name (i := 14) sc_law.nd rfl (Or.inl rfl)) (pss_one (ps_if (PW.pt (pw_or (pt_cmpR (op_eqL (m__eq__ _ rfl rfl rfl rfl rfl) (hr.mono (by decide))) (pv 6) (pv 14) (nomark _)) (pw_or (pt_not (pt_cmpR (op_neL (m__eq__ _ rfl rfl rfl rfl rfl) T.ne T.hm (hr.mono (by decide))) (pv 6) (pv 14) (nomark _))) (pw_or1 (pt_cmpR (op_eqR (m__eq__ _ rfl rfl rfl rfl rfl) (hr.mono (by decide))) (pv 14) (pv 6) (nomark _)))))) (pss_one (ps_ret pe_bl)) pss_nil))))))))))))))))
      (pss_one (ps_ret (pe_cmpR (op_eqL (m__eq__ _ rfl rfl rfl rfl rfl) (hr.mono (by decide))) (C8.pe_mk c_Exact1 hr (by decide) rfl (pa_cons pe_int pa_nil)) pe_int (nomark _)))))), ?_⟩
    refine ⟨_, rfl, sc, ns, rfl, hS, hl, fun st H0 e0 hs0 => ?_⟩
    refine ⟨8, rfl, by decide, by decide, ?_⟩
    refine for_it (walk_range) (fun i σ H' => ∃ x2 x3 x4 x5 x6 x7 x8 x9 x10 x11 x12 x13 x14 : Option V, σ = [some (.ref sc), some (.ref st), x2, x3, x4, x5, x6, x7, x8, x9, x10, x11, x12, x13, x14] ∧ Stt K H' st)
      ⟨_, _, _, _, _, _, _, _, _, _, _, _, _, rfl, hs0⟩ (fun _ _ _ _ _ => trivial) ?_ ?_
    · rintro i x σ H1 H1' hi ⟨x2, x3, x4, x5, x6, x7, x8, x9, x10, x11, x12, x13, x14, rfl, hs1⟩ ⟨rfl, rfl⟩
      refine ⟨_, rfl, st, rfl, hs1, fun va H2 oa ua e2 hs2 ha ra ba1 ba2 => ?_⟩
      have soa := Sm.le ba1
      have sua : Sm ua := Sm.le (Nat.le_trans ba2 (by decide))
      have ua0 : ua ≠ 0 := by have := ra.1; omega
      refine ⟨_, rfl, ?_⟩
      have pw : ∀ n : Nat, n ≤ 38 → (10 : Int) ^ ((n : Int)).toNat = 10 ^ n := fun n _ => rfl
      refine ⟨by show 2 ≤ sizeLine; decide, fun p1 n1 => ?_⟩
      generalize q1 : upd H2 p1 _ = G1
      have h1 : IsF G1 (.ref p1) 0 1 := ⟨p1, rfl, nAt q1⟩
      have g1 := nSm q1 n1
      refine ⟨_, _, rfl, rfl, ⟨by decide, by decide, by decide⟩, by show 2 ≤ sizeLine; decide, fun p2 n2 => ?_⟩
      generalize q2 : upd G1 p2 _ = G2
      have h2 : IsF G2 (.ref p2) 1 1000000000 := ⟨p2, rfl, nAt q2⟩
      have g2 := nSm q2 n2
      refine ⟨_, rfl, _, _, rfl, rfl, ⟨by decide, by decide, by decide⟩, by show 2 ≤ sizeLine; decide, fun p3 n3 => ?_⟩
      generalize q3 : upd G2 p3 _ = G3
      have h3 : IsF G3 (.ref p3) (-1) 1000000000 := ⟨p3, rfl, nAt q3⟩
      have g3 := nSm q3 n3
      refine ⟨by show 2 ≤ sizeLine; decide, fun p4 n4 => ?_⟩
      generalize q4 : upd G3 p4 _ = G4
      have h4 : IsF G4 (.ref p4) 1 1 := ⟨p4, rfl, nAt q4⟩
      have g4 := nSm q4 n4
      have e24 : Same H2 G4 := (g1.trans g2).trans (g3.trans g4)
      have hsG := hs2.same e24
      replace ha := ha.same e24
      refine ⟨_, rfl, st, rfl, hsG, fun vf H3 of uf e3 hs3 hf rf bf1 bf2 => ?_⟩
      replace ha := ha.but e3 hsG
      replace h1 := (h1.same (g2.trans (g3.trans g4))).but e3 hsG
      replace h2 := (h2.same (g3.trans g4)).but e3 hsG
      replace h3 := (h3.same g4).but e3 hsG
      replace h4 := h4.but e3 hsG
      refine ⟨by show 5 ≤ sizeLine; decide, fun lp nl => ?_⟩
      generalize q5 : upd H3 lp _ = H4
      have h5 := nAt q5
      have e4 := nSm q5 nl
      have hs4 := hs3.same e4
      refine ⟨st, lp, _, rfl, hs4, h5, rfl, by show 0 < 5; decide, by show 5 ≤ 1000; decide, fun H5 v e5 hs5 hv => ?_⟩
      obtain ⟨og, ug, hg, bg1, bg2, ug0⟩ : ∃ og ug, IsF H5 v og ug ∧ og.natAbs ≤ 10 ^ 38 ∧ ug.natAbs ≤ 10 ^ 12 ∧ ug ≠ 0 := by
        have zz : ∀ {v : V} {o u : Int}, IsF H3 v o u → IsF H5 v o u := fun z => (z.same e4).but e5 hs4
        simp only [List.mem_cons, List.not_mem_nil, or_false] at hv
        rcases hv with rfl | rfl | rfl | rfl | rfl
        · exact ⟨_, _, zz h1, by decide, by decide, by decide⟩
        · exact ⟨_, _, zz h2, by decide, by decide, by decide⟩
        · exact ⟨_, _, zz h3, by decide, by decide, by decide⟩
        · exact ⟨_, _, zz h4, by decide, by decide, by decide⟩
        · exact ⟨_, _, zz hf, bf1, bf2, by have := rf.1; omega⟩
      replace ha := (ha.same e4).but e5 hs4
      clear h1 h2 h3 h4 h5 hf q1 q2 q3 q4 q5 hs1 hs2 hs3 hs4 hsG g1 g2 g3 g4 e24 e2 e3 e4 e5
      refine ⟨_, rfl, _, rfl, _, _, oa, ua, og, ug, rfl, ha, hg, soa, sua, Sm.le bg1, Sm.le (Nat.le_trans bg2 (by decide)), Int.mul_ne_zero ua0 ug0, fun vb H6 e6 hb => ?_⟩
      have hs6 := hs5.same e6
      replace ha := ha.same e6
      have rb : Red (rO (oa * ug + og * ua) (ua * ug)) (rD (oa * ug + og * ua) (ua * ug)) := red_of (Int.mul_ne_zero ua0 ug0)
      generalize rO (oa * ug + og * ua) (ua * ug) = ob at hb rb
      generalize rD (oa * ug + og * ua) (ua * ug) = ub at hb rb
      refine ⟨fun σ' H' => ∃ vb ob ub, σ' = [some (.ref sc), some (.ref st), some (.int (0 + (i : Nat))), some va, some v, some vb, x6, x7, x8, x9, x10, x11, x12, x13, x14] ∧ Stt K H' st ∧ IsF H' va oa ua ∧ IsF H' vb ob ub ∧ Red ob ub ∧ ob.natAbs ≤ 10 ^ 38 ∧ ub.natAbs ≤ 10 ^ 20, ?_, ?_⟩
      · obtain ⟨pb, rfl, hb'⟩ := id hb
        have els : ∀ H', Stt K H' st → IsF H' va oa ua → (tAsg (tCall (spSomeF K) [] C8.E0 (tCons (tVar 1) tNil)) (gName 5)) { nx := fun σ' H' => ∃ vb ob ub, σ' = [some (.ref sc), some (.ref st), some (.int (0 + (i : Nat))), some va, some v, some vb, x6, x7, x8, x9, x10, x11, x12, x13, x14] ∧ Stt K H' st ∧ IsF H' va oa ua ∧ IsF H' vb ob ub ∧ Red ob ub ∧ ob.natAbs ≤ 10 ^ 38 ∧ ub.natAbs ≤ 10 ^ 20, rt := Q } [some (.ref sc), some (.ref st), some (.int (0 + (i : Nat))), some va, some v, some (.ref pb), x6, x7, x8, x9, x10, x11, x12, x13, x14] H' := by
          intro H' hs ha
          exact ⟨_, rfl, st, rfl, hs, fun vb H2 ob ub e2 hs2 hb rb bb1 bb2 => ⟨vb, ob, ub, rfl, hs2, ha.but e2 hs, hb, rb, bb1, Nat.le_trans bb2 (by decide)⟩⟩
        refine ⟨_, rfl, pb, _, _, _, rfl, rfl, SqT.of hb', rfl, _, _, rfl, rfl, ⟨by decide, by decide, by decide⟩, _, _, rfl, rfl, _, rfl, ?_⟩
        refine ite2 (fun _ => iteT (els _ hs6 ha)) (fun c1 => ?_)
        refine ⟨_, rfl, pb, _, _, _, rfl, rfl, SqT.of hb', rfl, _, _, rfl, rfl, ⟨by decide, by decide, by decide⟩, _, _, rfl, rfl, _, rfl, ?_⟩
        refine ite2 (fun _ => iteT (els _ hs6 ha)) (fun c2 => ?_)
        refine ⟨_, rfl, pb, _, _, _, rfl, rfl, SqT.of hb', rfl, _, _, rfl, rfl, ⟨by decide, by decide, by decide⟩, _, rfl, _, _, rfl, rfl, _, rfl, ?_⟩
        refine ite2 (fun _ => els _ hs6 ha) (fun c3 => ?_)
        have d1 : ¬ (10 ^ 20 : Int) < ub := fun z => c1 (decide_eq_true z)
        have d2 : ¬ (10 ^ 38 : Int) < ob := fun z => c2 (decide_eq_true z)
        have d3 : ¬ ob < -(10 ^ 38 : Int) := fun z => c3 (decide_eq_true z)
        have d4 := rb.1
        exact ⟨_, ob, ub, rfl, hs6, ha, hb, rb, by omega, by omega⟩
      · clear hb rb hs6 ha hs5 hg
        rintro _ H7 ⟨vb, ob, ub, rfl, hs7, ha, hb, rb, bb1, bb2⟩
        have sob := Sm.le bb1
        have sub : Sm ub := Sm.le (Nat.le_trans bb2 (by decide))
        have ub0 : ub ≠ 0 := by have := rb.1; omega
        obtain ⟨pa, rfl, ha'⟩ := id ha
        obtain ⟨pb, rfl, hb'⟩ := id hb
        refine ⟨_, rfl, pa, _, _, _, rfl, rfl, SqT.of ha', rfl, _, rfl, pa, _, _, _, rfl, rfl, SqT.of ha', rfl, fun n dn nx nd ne => mkY ua0 sua.big nx nd ne (fun H8 e8 hx => ⟨rfl, ?_⟩)⟩
        generalize V.ref n = vx at hx
        obtain ⟨q1, q2⟩ := red_self ra
        rw [q1, q2] at hx
        have hs8 := hs7.same e8
        replace ha := ha.same e8
        replace hb := hb.same e8
        refine ⟨_, rfl, _, rfl, st, .ref pb, ob, ub, rfl, hs8, hb, rb, sub, fun vy H9 e9 hs9 hy => ?_⟩
        have w9 : Wd K C st (.ref pa) (.ref pb) vx vy oa ua ob ub H9 := ⟨hs9, ha.but e9 hs8, hb.but e9 hs8, hx.but e9 hs8, hy⟩
        clear hs7 hs8 q1 q2 e8 e9 ha' hb' ha hb hx hy hs9
        refine ⟨_, _, rfl, ?_⟩
        refine ⟨_, rfl, _, rfl, _, _, oa, ua, ob, ub, rfl, w9.a, w9.b, soa, sua, sob, sub, fun L hL => ?_⟩
        refine ⟨_, rfl, _, rfl, _, _, dpF w9.a, dpF w9.b, shF _ _, shF _ _, ?_⟩
        rw [eqFF]
        refine ⟨_, _, rfl, ?_⟩
        generalize hSS : (decide (oa = ob) && decide (ua = ub)) = S
        -- found
        refine ⟨_, rfl, _, rfl, cmpB T.toXC w9.x w9.y soa sua sob sub fun K1 g1 => ?_⟩
        have w1 := w9.same g1
        refine ⟨_, rfl, _, rfl, cmpB T.toXC w1.x w1.y soa sua sob sub fun K2 g2 => ?_⟩
        have w2 := w1.same g2
        refine ⟨_, rfl, _, rfl, cmpB T.toXC w2.x w2.y soa sua sob sub fun K3 g3 => ?_⟩
        have w3 := w2.same g3
        refine ⟨_, rfl, _, rfl, cmpB T.toXC w3.x w3.y soa sua sob sub fun K4 g4 => ?_⟩
        have w4 := w3.same g4
        refine ⟨_, rfl, _, rfl, eqB T.toXC w4.x w4.y fun K5 g5 => ?_⟩
        have w5 := w4.same g5
        refine ⟨_, rfl, _, rfl, cmpR T.toXC (fun _ _ _ _ => rfl) w5.x w5.y soa sua sob sub fun K6 g6 => ?_⟩
        have w6 := w5.same g6
        refine ⟨_, rfl, _, rfl, cmpR T.toXC (fun _ _ _ _ => rfl) w6.x w6.y soa sua sob sub fun K7 g7 => ?_⟩
        have w7 := w6.same g7
        refine ⟨_, rfl, _, rfl, cmpR T.toXC (fun _ _ _ _ => rfl) w7.x w7.y soa sua sob sub fun K8 g8 => ?_⟩
        have w8 := w7.same g8
        refine ⟨_, rfl, _, rfl, cmpR T.toXC (fun _ _ _ _ => rfl) w8.x w8.y soa sua sob sub fun K9 g9 => ?_⟩
        have v9 := w8.same g9
        refine ⟨_, rfl, _, rfl, eqR T v9.x v9.y fun K10 g10 => ?_⟩
        have v10 := v9.same g10
        refine ⟨_, rfl, _, rfl, neB T.toXC v10.x v10.y fun K11 g11 => ?_⟩
        have v11 := v10.same g11
        refine ⟨by show 11 ≤ sizeLine; decide, fun lf nl => ?_⟩
        generalize q12 : upd K11 lf _ = K12
        have h12 := nAt q12
        have g12 := nSm q12 nl
        have v12 := v11.same g12
        clear w1 w2 w3 w4 w5 w6 w7 w8 w9 v9 v10 v11 g1 g2 g3 g4 g5 g6 g7 g8 g9 g10 g11 g12 q12
        obtain ⟨o1, o2, o3⟩ := ordL ra rb hL hSS
        rw [o1, o2, o3, hSS, ← hL] at h12
        refine ⟨fun σ' H' => σ' = [some (.ref sc), some (.ref st), some (.int (0 + (i : Nat))), some (.ref pa), some v, some (.ref pb), some vx, some vy, some (.bl L), some (.bl S), some (.ref lf), some (.bl (!L && !S)), x12, x13, x14] ∧ H' = K12, ?_, ?_⟩
        · clear hL hSS o1 o2 o3 h12
          cases L
          · exact ⟨_, rfl, _, rfl, _, rfl, iteT ⟨_, rfl, _, rfl, rfl, rfl⟩⟩
          · exact ⟨_, rfl, _, rfl, _, rfl, iteF ⟨rfl, rfl⟩⟩
        rintro _ H' ⟨rfl, rfl⟩
        refine ⟨fun σ' H' => ∃ ld xs, σ' = [some (.ref sc), some (.ref st), some (.int (0 + (i : Nat))), some (.ref pa), some v, some (.ref pb), some vx, some vy, some (.bl L), some (.bl S), some (.ref lf), some (.bl (!L && !S)), some (.ref ld), x13, x14] ∧ Wd K C st (.ref pa) (.ref pb) vx vy oa ua ob ub H' ∧ H' lf = some (.lst xs) ∧ H' ld = some (.lst xs) ∧ xs.length = 11 ∧ ∀ x ∈ xs, ∃ b, x = V.bl b, ?_, ?_⟩
        · clear hL hSS o1 o2 o3
          have fin : ∀ (xs : List V) (ld : Addr), H' lf = some (.lst xs) → H' ld = none → xs.length = 11 → (∀ x ∈ xs, ∃ b, x = V.bl b) → ∃ ld' xs', [some (V.ref sc), some (.ref st), some (.int (0 + (i : Nat))), some (.ref pa), some v, some (.ref pb), some vx, some vy, some (.bl L), some (.bl S), some (.ref lf), some (.bl (!L && !S)), some (.ref ld), x13, x14] = [some (V.ref sc), some (.ref st), some (.int (0 + (i : Nat))), some (.ref pa), some v, some (.ref pb), some vx, some vy, some (.bl L), some (.bl S), some (.ref lf), some (.bl (!L && !S)), some (.ref ld'), x13, x14] ∧ Wd K C st (.ref pa) (.ref pb) vx vy oa ua ob ub (upd H' ld (.lst xs)) ∧ upd H' ld (.lst xs) lf = some (.lst xs') ∧ upd H' ld (.lst xs) ld' = some (.lst xs') ∧ xs'.length = 11 ∧ ∀ x ∈ xs', ∃ b, x = V.bl b := by
            intro xs ld h n hl hb
            exact ⟨ld, xs, rfl, v12.same (Same.new n), (Same.new n) _ _ h, upd_same, hl, hb⟩
          have mb : ∀ x ∈ [V.bl L, .bl (L || S), .bl (!L && !S), .bl (!L && !S || S), .bl S, .bl (!L && !S), .bl (!L && !S || S), .bl L, .bl (L || S), .bl S, .bl (!S)], ∃ b, x = V.bl b := by
            intro x hx
            simp only [List.mem_cons, List.not_mem_nil, or_false] at hx
            rcases hx with rfl | rfl | rfl | rfl | rfl | rfl | rfl | rfl | rfl | rfl | rfl <;> exact ⟨_, rfl⟩
          cases L <;> cases S <;> (repeat first | refine ⟨_, rfl, ?_⟩ | refine iteT ?_ | refine iteF ?_) <;> exact ⟨by show 11 ≤ sizeLine; decide, fun ld nld => fin _ ld h12 nld rfl mb⟩
        rintro _ K13 ⟨ld, xs, rfl, v13, h12, h13, lx, bx⟩
        refine ⟨fun σ' H' => (∃ x8 x9 x10 x11 x12 x13 x14, σ' = [some (.ref sc), some (.ref st), some (.int (0 + (i : Nat))), some (.ref pa), some v, some (.ref pb), some vx, some vy, x8, x9, x10, x11, x12, x13, x14]) ∧ Wd K C st (.ref pa) (.ref pb) vx vy oa ua ob ub H', ?_, ?_⟩
        · refine ⟨_, rfl, _, rfl, lf, ld, xs, rfl, h12, h13, by omega, fun x hx => .inr (bx x hx), fun H' e' => ⟨_, rfl, iteF ?_⟩⟩
          exact ⟨⟨_, _, _, _, _, _, _, rfl⟩, v13.same e'⟩
        · clear h12 h13 v12 v13
          rintro _ H7 ⟨⟨x8, x9, x10, x11, x12, x13, x14, rfl⟩, w7⟩
          obtain ⟨_, ez, ha'⟩ := id w7.a
          cases ez
          refine ⟨_, rfl, pa, _, _, _, rfl, rfl, SqT.of ha', rfl, by show 1 ≤ sizeLine; decide, fun l1 n1 => ?_⟩
          generalize q1 : upd H7 l1 _ = J1
          have h1 := nAt q1
          have g1 := nSm q1 n1
          intro l2 n2
          generalize q2 : upd J1 l2 _ = J2
          have h2 := nAt q2
          have g2 := nSm q2 n2
          have ha2 := g2 _ _ (g1 _ _ ha')
          refine ⟨_, rfl, pa, _, _, _, rfl, rfl, SqT.of ha2, rfl, _, rfl, pa, _, _, _, rfl, rfl, SqT.of ha2, rfl, by show 2 ≤ sizeLine; decide, fun l3 n3 => ?_⟩
          generalize q3 : upd J2 l3 _ = J3
          have h3 := nAt q3
          have g3 := nSm q3 n3
          refine ⟨by show 7 ≤ sizeLine; decide, fun lo n4 => ?_⟩
          generalize q4 : upd J3 lo _ = J4
          have h4 := nAt q4
          have g4 := nSm q4 n4
          have w4 := (((w7.same g1).same g2).same g3).same g4
          replace h1 := (g2.trans (g3.trans g4)) _ _ h1
          replace h2 := (g3.trans g4) _ _ h2
          replace h3 := g4 _ _ h3
          have oth : ∀ H', Same J4 H' → ∀ x ∈ [V.non, .bl true, .str (Str.ofString "3"), .ref l1, .ref l2, .ref l3, .bl false], OthK K C H' x := by
            intro H' e x hx
            simp only [List.mem_cons, List.not_mem_nil, or_false] at hx
            rcases hx with rfl | rfl | rfl | rfl | rfl | rfl | rfl
            · exact oth_non T
            · exact oth_bl T _
            · exact oth_str T _
            · exact oth_lst T (e _ _ h1)
            · exact oth_dK T (e _ _ h2)
            · exact oth_tup T (e _ _ h3)
            · exact oth_bl T _
          clear h1 h2 h3 q1 q2 q3 q4 g1 g2 g3 g4 ha' ha2 w7
          refine ⟨_, rfl, lo, rfl, ⟨_, SqL.of h4⟩, ?_⟩
          refine for_it (walk_list (xs := [V.non, .bl true, .str (Str.ofString "3"), .ref l1, .ref l2, .ref l3, .bl false])) (fun j σ H' => Same J4 H' ∧ ∃ x14, σ = [some (.ref sc), some (.ref st), some (.int (0 + (i : Nat))), some (.ref pa), some v, some (.ref pb), some vx, some vy, x8, x9, x10, x11, x12, some (.ref lo), x14])
            ⟨Same.refl _, _, rfl⟩ (fun j σ H2 _ ⟨e2, _⟩ => SqL.of (e2 _ _ h4)) ?_ ?_
          · rintro j x σ H2 H2' hj ⟨e2, x14, rfl⟩ ⟨rfl, hx⟩
            have hm := List.mem_of_getElem? hx
            refine ⟨_, rfl, _, rfl, eqO (w4.x.same e2) (oth _ e2 x hm) fun Ha ea => ⟨_, rfl, iteF ?_⟩⟩
            have e3 := e2.trans ea
            refine ⟨_, rfl, _, rfl, neO (w4.x.same e3) (oth _ e3 x hm) fun Hb eb => ⟨_, rfl, iteF ?_⟩⟩
            have e4 := e3.trans eb
            refine ⟨_, rfl, _, rfl, eqOR (w4.x.same e4) (oth _ e4 x hm) fun Hc ec => ⟨_, rfl, iteF ?_⟩⟩
            exact ⟨e4.trans ec, _, rfl⟩
          · rintro σ H2 ⟨e2, x14, rfl⟩
            exact ⟨_, _, _, _, _, _, _, _, _, _, _, _, _, rfl, (w4.same e2).s⟩
    · rintro σ H1 ⟨x2, x3, x4, x5, x6, x7, x8, x9, x10, x11, x12, x13, x14, rfl, hs1⟩
      refine fun n dn nx nd ne => mkY (by decide) (by decide) nx nd ne (fun H8 e8 hx => ⟨rfl, ?_⟩)
      refine eqB T.toXC hx (.inl ⟨rfl, rfl⟩) fun H' e => ?_
      have z : (decide (rO 1 1 = 1) && decide (rD 1 1 = 1)) = true := by decide
      rw [z]
      exact k _
end
end LW
set_option Elab.async false
set_option linter.all false
set_option maxRecDepth 100000
set_option maxHeartbeats 0
namespace LW
open PySem PySem.Spec PyProof.Rows L2 LV LM
def dd_is_integer : He.DefD := ⟨("is_integer", none), "is_integer", "is_integer", defArgs s_is_integer, defBody s_is_integer, defScope s_is_integer, [], []⟩
def dd_is_number : He.DefD := ⟨("is_number", none), "is_number", "is_number", defArgs s_is_number, defBody s_is_number, defScope s_is_number, [], []⟩
def dd_common : He.DefD := ⟨("common", none), "common", "common", defArgs s_common, defBody s_common, defScope s_common, [], []⟩
def dd_Exact___init__ : He.DefD := ⟨("Exact", some "__init__"), "__init__", "Exact.__init__", defArgs s_Exact___init__, defBody s_Exact___init__, defScope s_Exact___init__, [.int 1], []⟩
def dd_part_of : He.DefD := ⟨("part_of", none), "part_of", "part_of", defArgs s_part_of, defBody s_part_of, defScope s_part_of, [], []⟩
def dd_Exact___add__ : He.DefD := ⟨("Exact", some "__add__"), "__add__", "Exact.__add__", defArgs s_Exact___add__, defBody s_Exact___add__, defScope s_Exact___add__, [], []⟩
def dd_Exact___sub__ : He.DefD := ⟨("Exact", some "__sub__"), "__sub__", "Exact.__sub__", defArgs s_Exact___sub__, defBody s_Exact___sub__, defScope s_Exact___sub__, [], []⟩
def dd_Exact___mul__ : He.DefD := ⟨("Exact", some "__mul__"), "__mul__", "Exact.__mul__", defArgs s_Exact___mul__, defBody s_Exact___mul__, defScope s_Exact___mul__, [], []⟩
def dd_Exact___radd__ : He.DefD := ⟨("Exact", some "__radd__"), "__radd__", "Exact.__radd__", defArgs s_Exact___radd__, defBody s_Exact___radd__, defScope s_Exact___radd__, [], []⟩
def dd_Exact___rsub__ : He.DefD := ⟨("Exact", some "__rsub__"), "__rsub__", "Exact.__rsub__", defArgs s_Exact___rsub__, defBody s_Exact___rsub__, defScope s_Exact___rsub__, [], []⟩
def dd_Exact___rmul__ : He.DefD := ⟨("Exact", some "__rmul__"), "__rmul__", "Exact.__rmul__", defArgs s_Exact___rmul__, defBody s_Exact___rmul__, defScope s_Exact___rmul__, [], []⟩
def dd_Exact___eq__ : He.DefD := ⟨("Exact", some "__eq__"), "__eq__", "Exact.__eq__", defArgs s_Exact___eq__, defBody s_Exact___eq__, defScope s_Exact___eq__, [], []⟩
def dd_Exact___lt__ : He.DefD := ⟨("Exact", some "__lt__"), "__lt__", "Exact.__lt__", defArgs s_Exact___lt__, defBody s_Exact___lt__, defScope s_Exact___lt__, [], []⟩
def dd_Exact___le__ : He.DefD := ⟨("Exact", some "__le__"), "__le__", "Exact.__le__", defArgs s_Exact___le__, defBody s_Exact___le__, defScope s_Exact___le__, [], []⟩
def dd_Exact___gt__ : He.DefD := ⟨("Exact", some "__gt__"), "__gt__", "Exact.__gt__", defArgs s_Exact___gt__, defBody s_Exact___gt__, defScope s_Exact___gt__, [], []⟩
def dd_Exact___ge__ : He.DefD := ⟨("Exact", some "__ge__"), "__ge__", "Exact.__ge__", defArgs s_Exact___ge__, defBody s_Exact___ge__, defScope s_Exact___ge__, [], []⟩
def dd__law_fresh : He.DefD := ⟨("_law_fresh", none), "_law_fresh", "_law_fresh", defArgs s__law_fresh, defBody s__law_fresh, defScope s__law_fresh, [], []⟩
def dd__law_fill : He.DefD := ⟨("_law_fill", none), "_law_fill", "_law_fill", defArgs s__law_fill, defBody s__law_fill, defScope s__law_fill, [], []⟩
def dd__law_take : He.DefD := ⟨("_law_take", none), "_law_take", "_law_take", defArgs s__law_take, defBody s__law_take, defScope s__law_take, [], []⟩
def dd__law_one : He.DefD := ⟨("_law_one", none), "_law_one", "_law_one", defArgs s__law_one, defBody s__law_one, defScope s__law_one, [], []⟩
def dd__law_same : He.DefD := ⟨("_law_same", none), "_law_same", "_law_same", defArgs s__law_same, defBody s__law_same, defScope s__law_same, [], []⟩
def dd__law_gcd : He.DefD := ⟨("_law_gcd", none), "_law_gcd", "_law_gcd", defArgs s__law_gcd, defBody s__law_gcd, defScope s__law_gcd, [], []⟩
def dd__law_frac : He.DefD := ⟨("_law_frac", none), "_law_frac", "_law_frac", defArgs s__law_frac, defBody s__law_frac, defScope s__law_frac, [], []⟩
def dd__law_add : He.DefD := ⟨("_law_add", none), "_law_add", "_law_add", defArgs s__law_add, defBody s__law_add, defScope s__law_add, [], []⟩
def dd__law_less : He.DefD := ⟨("_law_less", none), "_law_less", "_law_less", defArgs s__law_less, defBody s__law_less, defScope s__law_less, [], []⟩
def dd__law_as_number : He.DefD := ⟨("_law_as_number", none), "_law_as_number", "_law_as_number", defArgs s__law_as_number, defBody s__law_as_number, defScope s__law_as_number, [], []⟩
def dd__law_some_frac : He.DefD := ⟨("_law_some_frac", none), "_law_some_frac", "_law_some_frac", defArgs s__law_some_frac, defBody s__law_some_frac, defScope s__law_some_frac, [], []⟩
def dd_law : He.DefD := ⟨("law", none), "law", "law", defArgs s_law, defBody s_law, defScope s_law, [], []⟩
def fnL : List He.DefD := [dd_is_integer, dd_is_number, dd_common, dd_Exact___init__, dd_part_of, dd_Exact___add__, dd_Exact___sub__, dd_Exact___mul__, dd_Exact___radd__, dd_Exact___rsub__, dd_Exact___rmul__, dd_Exact___eq__, dd_Exact___lt__, dd_Exact___le__, dd_Exact___gt__, dd_Exact___ge__, dd__law_fresh, dd__law_fill, dd__law_take, dd__law_one, dd__law_same, dd__law_gcd, dd__law_frac, dd__law_add, dd__law_less, dd__law_as_number, dd__law_some_frac, dd_law]
def faL : List He.Fa := [.free "len", .free "int", .free "enumerate", .free "isinstance", .free "zip", .free "all", .free "range", .free "list", .free "tuple", .free "bool", .glo "Exact", .cls "Exact", .noat "Exact" "over", .noat "Exact" "under", .mkr "Exact", .glo "is_integer", .glo "is_number", .glo "common", .glo "part_of", .meth "Exact" "__add__", .meth "Exact" "__sub__", .meth "Exact" "__mul__", .meth "Exact" "__radd__", .meth "Exact" "__rsub__", .meth "Exact" "__rmul__", .meth "Exact" "__eq__", .meth "Exact" "__lt__", .meth "Exact" "__le__", .meth "Exact" "__gt__", .meth "Exact" "__ge__", .glo "_law_fresh", .glo "_law_fill", .glo "_law_take", .glo "_law_one", .glo "_law_same", .glo "_law_gcd", .glo "_law_frac", .glo "_law_add", .glo "_law_less", .glo "_law_as_number", .glo "_law_some_frac", .glo "law"]
def loose0 : List PySem.Str := ["_wall", "LevelError", "BadPart", "is_integer", "is_number", "common", "Exact", "part_of", "_law_fresh", "_law_fill", "_law_take", "_law_one", "_law_same", "_law_gcd", "_law_frac", "_law_add", "_law_less", "_law_as_number", "_law_some_frac"]
abbrev looseL : List PySem.Str := loose0
abbrev lawI : Nat := 22
/-- what else is looked at -/
def exB (K : PySem.W.Frag) : Bool :=
  (typs.all fun t => decide (PySem.W.kitOne K (.type t) (.ref (He.ga K "Exact")) = some false) && decide (PySem.W.subIn K (.type t) (.ref (He.ga K "Exact")) = some false) && decide (PySem.W.subIn K (.ref (He.ga K "Exact")) (.type t) = some false)) &&
  decide (PySem.W.findIn K (.ref (He.ga K "Exact")) "__ne__" = some (some (.builtin "object.__ne__"))) &&
  (  (PySem.W.selfFirst K (He.ga K "Exact") && decide (PySem.W.subIn K (.type "int") (.ref (He.ga K "Exact")) = some false) && decide (PySem.W.subIn K (.ref (He.ga K "Exact")) (.type "int") = some false)) &&
  (decide (PySem.W.findIn K (.ref (He.ga K "Exact")) "__class__" = some (some (.builtin "object.__class__"))) && decide (PySem.W.specialIn K (.builtin "object.__class__") "__get__" = some (some (.builtin "getset_descriptor.__get__"))) && decide (PySem.W.takesIn K (.builtin "object.__class__") = some true) && decide (PySem.W.mroIn K (He.ga K "Exact") (.type "object") = some true)) &&
  (decide (PySem.W.kitOne K (.ref (He.ga K "Exact")) (.type "int") = some false) && decide (PySem.W.kitOne K (.ref (He.ga K "Exact")) (.type "bool") = some false) && decide (PySem.W.kitOne K (.ref (He.ga K "Exact")) (.type "list") = some false) && decide (PySem.W.kitOne K (.ref (He.ga K "Exact")) (.type "tuple") = some false)) &&
  (decide (PySem.W.kitOne K (.type "int") (.ref (He.ga K "Exact")) = some false) && decide (PySem.W.kitOne K (.type "list") (.ref (He.ga K "Exact")) = some false) && decide (PySem.W.kitOne K (.type "tuple") (.ref (He.ga K "Exact")) = some false)))
abbrev R : PySem.W.OpenRow := PySem.W.OpenLaw.row PySem.Challenge.rw_surelevels_k03_numbers_ordered
abbrev hk : PySem.W.Hook := He.hookX 5 faL fnL [] [] exB
def ob (s : PySem.W.SharedT) : He.AlX := He.obsX 5 faL fnL [] [] exB (HandSHeadRun.getT s)
theorem ob_eq (s : PySem.W.SharedT) : ob s = hk.obs s.abs := He.obsX_eq (HandSHeadRun.getT_eq s)
theorem run (w : World) : HandSHeadRun.RunEq R (PySem.W.view R.prog [lawI]) hk ob 20000 looseL w := by
  intro os
  kernel_rfl
theorem facts {P : Program} {w : World} {K : PySem.W.Frag} {h : Heap} {mg : Str → Option Value} {fl : Addr} (XK : K.In h) (G : h.Ns mainGlobals mg) (hfa : mg ("law" : Str) = some (.ref fl)) (c : He.SaysX faL fnL [] [] exB w h K) :
    ∃ fd : FuncData, (∀ (s : Shared) (v : Value), BindsTo s fd ⟨[v], []⟩ [("_law_script", v)]) ∧ ∀ base : Heap, K.In base → base.Ns mainGlobals mg → FnOk P w K mg base CX0 7 fl fd ["_law_script"] (spLaw K) := by
  have dS := c.t.d
  have hex := c.more
  obtain ⟨fd_is_integer, F_is_integer⟩ := dS.def_ 0 (d := dd_is_integer) rfl
  have b_is_integer := FunD.bindsN (ps := ["thing"]) F_is_integer fun _ _ _ _ _ _ us hl => match us, hl with | [_], _ => rfl
  have g_is_integer := He.glo_ok XK G (dS.fact 15 (f := .glo "is_integer") rfl)
  obtain ⟨fd_is_number, F_is_number⟩ := dS.def_ 1 (d := dd_is_number) rfl
  have b_is_number := FunD.bindsN (ps := ["thing"]) F_is_number fun _ _ _ _ _ _ us hl => match us, hl with | [_], _ => rfl
  have g_is_number := He.glo_ok XK G (dS.fact 16 (f := .glo "is_number") rfl)
  obtain ⟨fd_common, F_common⟩ := dS.def_ 2 (d := dd_common) rfl
  have b_common := FunD.bindsN (ps := ["a", "b"]) F_common fun _ _ _ _ _ _ us hl => match us, hl with | [_, _], _ => rfl
  have g_common := He.glo_ok XK G (dS.fact 17 (f := .glo "common") rfl)
  obtain ⟨fd_Exact___init__, F_Exact___init__⟩ := dS.def_ 3 (d := dd_Exact___init__) rfl
  obtain ⟨fd_part_of, F_part_of⟩ := dS.def_ 4 (d := dd_part_of) rfl
  have b_part_of := FunD.bindsN (ps := ["other"]) F_part_of fun _ _ _ _ _ _ us hl => match us, hl with | [_], _ => rfl
  have g_part_of := He.glo_ok XK G (dS.fact 18 (f := .glo "part_of") rfl)
  obtain ⟨fd_Exact___add__, F_Exact___add__⟩ := dS.def_ 5 (d := dd_Exact___add__) rfl
  have b_Exact___add__ := FunD.bindsN (ps := ["self", "other"]) F_Exact___add__ fun _ _ _ _ _ _ us hl => match us, hl with | [_, _], _ => rfl
  have me_Exact___add__ := He.meth_ok (dS.fact 19 (f := .meth "Exact" "__add__") rfl)
  obtain ⟨fd_Exact___sub__, F_Exact___sub__⟩ := dS.def_ 6 (d := dd_Exact___sub__) rfl
  have b_Exact___sub__ := FunD.bindsN (ps := ["self", "other"]) F_Exact___sub__ fun _ _ _ _ _ _ us hl => match us, hl with | [_, _], _ => rfl
  have me_Exact___sub__ := He.meth_ok (dS.fact 20 (f := .meth "Exact" "__sub__") rfl)
  obtain ⟨fd_Exact___mul__, F_Exact___mul__⟩ := dS.def_ 7 (d := dd_Exact___mul__) rfl
  have b_Exact___mul__ := FunD.bindsN (ps := ["self", "other"]) F_Exact___mul__ fun _ _ _ _ _ _ us hl => match us, hl with | [_, _], _ => rfl
  have me_Exact___mul__ := He.meth_ok (dS.fact 21 (f := .meth "Exact" "__mul__") rfl)
  obtain ⟨fd_Exact___radd__, F_Exact___radd__⟩ := dS.def_ 8 (d := dd_Exact___radd__) rfl
  have b_Exact___radd__ := FunD.bindsN (ps := ["self", "other"]) F_Exact___radd__ fun _ _ _ _ _ _ us hl => match us, hl with | [_, _], _ => rfl
  have me_Exact___radd__ := He.meth_ok (dS.fact 22 (f := .meth "Exact" "__radd__") rfl)
  obtain ⟨fd_Exact___rsub__, F_Exact___rsub__⟩ := dS.def_ 9 (d := dd_Exact___rsub__) rfl
  have b_Exact___rsub__ := FunD.bindsN (ps := ["self", "other"]) F_Exact___rsub__ fun _ _ _ _ _ _ us hl => match us, hl with | [_, _], _ => rfl
  have me_Exact___rsub__ := He.meth_ok (dS.fact 23 (f := .meth "Exact" "__rsub__") rfl)
  obtain ⟨fd_Exact___rmul__, F_Exact___rmul__⟩ := dS.def_ 10 (d := dd_Exact___rmul__) rfl
  have b_Exact___rmul__ := FunD.bindsN (ps := ["self", "other"]) F_Exact___rmul__ fun _ _ _ _ _ _ us hl => match us, hl with | [_, _], _ => rfl
  have me_Exact___rmul__ := He.meth_ok (dS.fact 24 (f := .meth "Exact" "__rmul__") rfl)
  obtain ⟨fd_Exact___eq__, F_Exact___eq__⟩ := dS.def_ 11 (d := dd_Exact___eq__) rfl
  have b_Exact___eq__ := FunD.bindsN (ps := ["self", "other"]) F_Exact___eq__ fun _ _ _ _ _ _ us hl => match us, hl with | [_, _], _ => rfl
  have me_Exact___eq__ := He.meth_ok (dS.fact 25 (f := .meth "Exact" "__eq__") rfl)
  obtain ⟨fd_Exact___lt__, F_Exact___lt__⟩ := dS.def_ 12 (d := dd_Exact___lt__) rfl
  have b_Exact___lt__ := FunD.bindsN (ps := ["self", "other"]) F_Exact___lt__ fun _ _ _ _ _ _ us hl => match us, hl with | [_, _], _ => rfl
  have me_Exact___lt__ := He.meth_ok (dS.fact 26 (f := .meth "Exact" "__lt__") rfl)
  obtain ⟨fd_Exact___le__, F_Exact___le__⟩ := dS.def_ 13 (d := dd_Exact___le__) rfl
  have b_Exact___le__ := FunD.bindsN (ps := ["self", "other"]) F_Exact___le__ fun _ _ _ _ _ _ us hl => match us, hl with | [_, _], _ => rfl
  have me_Exact___le__ := He.meth_ok (dS.fact 27 (f := .meth "Exact" "__le__") rfl)
  obtain ⟨fd_Exact___gt__, F_Exact___gt__⟩ := dS.def_ 14 (d := dd_Exact___gt__) rfl
  have b_Exact___gt__ := FunD.bindsN (ps := ["self", "other"]) F_Exact___gt__ fun _ _ _ _ _ _ us hl => match us, hl with | [_, _], _ => rfl
  have me_Exact___gt__ := He.meth_ok (dS.fact 28 (f := .meth "Exact" "__gt__") rfl)
  obtain ⟨fd_Exact___ge__, F_Exact___ge__⟩ := dS.def_ 15 (d := dd_Exact___ge__) rfl
  have b_Exact___ge__ := FunD.bindsN (ps := ["self", "other"]) F_Exact___ge__ fun _ _ _ _ _ _ us hl => match us, hl with | [_, _], _ => rfl
  have me_Exact___ge__ := He.meth_ok (dS.fact 29 (f := .meth "Exact" "__ge__") rfl)
  obtain ⟨fd__law_fresh, F__law_fresh⟩ := dS.def_ 16 (d := dd__law_fresh) rfl
  have b__law_fresh := FunD.bindsN (ps := ["_law_script"]) F__law_fresh fun _ _ _ _ _ _ us hl => match us, hl with | [_], _ => rfl
  have g__law_fresh := He.glo_ok XK G (dS.fact 30 (f := .glo "_law_fresh") rfl)
  obtain ⟨fd__law_fill, F__law_fill⟩ := dS.def_ 17 (d := dd__law_fill) rfl
  have b__law_fill := FunD.bindsN (ps := ["_law_state"]) F__law_fill fun _ _ _ _ _ _ us hl => match us, hl with | [_], _ => rfl
  have g__law_fill := He.glo_ok XK G (dS.fact 31 (f := .glo "_law_fill") rfl)
  obtain ⟨fd__law_take, F__law_take⟩ := dS.def_ 18 (d := dd__law_take) rfl
  have b__law_take := FunD.bindsN (ps := ["_law_state", "_law_many"]) F__law_take fun _ _ _ _ _ _ us hl => match us, hl with | [_, _], _ => rfl
  have g__law_take := He.glo_ok XK G (dS.fact 32 (f := .glo "_law_take") rfl)
  obtain ⟨fd__law_one, F__law_one⟩ := dS.def_ 19 (d := dd__law_one) rfl
  have b__law_one := FunD.bindsN (ps := ["_law_state", "_law_things"]) F__law_one fun _ _ _ _ _ _ us hl => match us, hl with | [_, _], _ => rfl
  have g__law_one := He.glo_ok XK G (dS.fact 33 (f := .glo "_law_one") rfl)
  obtain ⟨fd__law_same, F__law_same⟩ := dS.def_ 20 (d := dd__law_same) rfl
  have b__law_same := FunD.bindsN (ps := ["_law_found", "_law_due"]) F__law_same fun _ _ _ _ _ _ us hl => match us, hl with | [_, _], _ => rfl
  have g__law_same := He.glo_ok XK G (dS.fact 34 (f := .glo "_law_same") rfl)
  obtain ⟨fd__law_gcd, F__law_gcd⟩ := dS.def_ 21 (d := dd__law_gcd) rfl
  have b__law_gcd := FunD.bindsN (ps := ["_law_a", "_law_b"]) F__law_gcd fun _ _ _ _ _ _ us hl => match us, hl with | [_, _], _ => rfl
  have g__law_gcd := He.glo_ok XK G (dS.fact 35 (f := .glo "_law_gcd") rfl)
  obtain ⟨fd__law_frac, F__law_frac⟩ := dS.def_ 22 (d := dd__law_frac) rfl
  have b__law_frac := FunD.bindsN (ps := ["_law_over", "_law_under"]) F__law_frac fun _ _ _ _ _ _ us hl => match us, hl with | [_, _], _ => rfl
  have g__law_frac := He.glo_ok XK G (dS.fact 36 (f := .glo "_law_frac") rfl)
  obtain ⟨fd__law_add, F__law_add⟩ := dS.def_ 23 (d := dd__law_add) rfl
  have b__law_add := FunD.bindsN (ps := ["_law_a", "_law_b"]) F__law_add fun _ _ _ _ _ _ us hl => match us, hl with | [_, _], _ => rfl
  have g__law_add := He.glo_ok XK G (dS.fact 37 (f := .glo "_law_add") rfl)
  obtain ⟨fd__law_less, F__law_less⟩ := dS.def_ 24 (d := dd__law_less) rfl
  have b__law_less := FunD.bindsN (ps := ["_law_a", "_law_b"]) F__law_less fun _ _ _ _ _ _ us hl => match us, hl with | [_, _], _ => rfl
  have g__law_less := He.glo_ok XK G (dS.fact 38 (f := .glo "_law_less") rfl)
  obtain ⟨fd__law_as_number, F__law_as_number⟩ := dS.def_ 25 (d := dd__law_as_number) rfl
  have b__law_as_number := FunD.bindsN (ps := ["_law_state", "_law_a"]) F__law_as_number fun _ _ _ _ _ _ us hl => match us, hl with | [_, _], _ => rfl
  have g__law_as_number := He.glo_ok XK G (dS.fact 39 (f := .glo "_law_as_number") rfl)
  obtain ⟨fd__law_some_frac, F__law_some_frac⟩ := dS.def_ 26 (d := dd__law_some_frac) rfl
  have b__law_some_frac := FunD.bindsN (ps := ["_law_state"]) F__law_some_frac fun _ _ _ _ _ _ us hl => match us, hl with | [_], _ => rfl
  have g__law_some_frac := He.glo_ok XK G (dS.fact 40 (f := .glo "_law_some_frac") rfl)
  obtain ⟨fd_law, F_law⟩ := dS.def_ 27 (d := dd_law) rfl
  have b_law := FunD.bindsN (ps := ["_law_script"]) F_law fun _ _ _ _ _ _ us hl => match us, hl with | [_], _ => rfl
  have g_law := He.glo_ok XK G (dS.fact 41 (f := .glo "law") rfl)
  have free_len := He.free_ok XK G (dS.fact 0 (f := .free "len") rfl)
  have free_int := He.free_ok XK G (dS.fact 1 (f := .free "int") rfl)
  have free_enumerate := He.free_ok XK G (dS.fact 2 (f := .free "enumerate") rfl)
  have free_isinstance := He.free_ok XK G (dS.fact 3 (f := .free "isinstance") rfl)
  have free_zip := He.free_ok XK G (dS.fact 4 (f := .free "zip") rfl)
  have free_all := He.free_ok XK G (dS.fact 5 (f := .free "all") rfl)
  have free_range := He.free_ok XK G (dS.fact 6 (f := .free "range") rfl)
  have free_list := He.free_ok XK G (dS.fact 7 (f := .free "list") rfl)
  have free_tuple := He.free_ok XK G (dS.fact 8 (f := .free "tuple") rfl)
  have free_bool := He.free_ok XK G (dS.fact 9 (f := .free "bool") rfl)
  have g_Exact := He.glo_ok XK G (dS.fact 10 (f := .glo "Exact") rfl)
  have cls_Exact := He.cls_ok (dS.fact 11 (f := .cls "Exact") rfl)
  have noat_Exact_over := He.noat_ok (dS.fact 12 (f := .noat "Exact" "over") rfl)
  have noat_Exact_under := He.noat_ok (dS.fact 13 (f := .noat "Exact" "under") rfl)
  have mkr_Exact := He.mkr_ok (dS.fact 14 (f := .mkr "Exact") rfl)
  have e := hfa.symm.trans g_law
  cases e
  have bl := FunD.bindsA (ps := ["_law_script"]) F_law fun _ _ _ _ _ _ us hl => match us, hl with | [_], _ => rfl
  refine ⟨fd_law, fun s v => bl s [v] rfl, fun base _ _ => ?_⟩
  unfold exB at hex
  simp only [Bool.and_eq_true, decide_eq_true_eq] at hex
  obtain ⟨⟨y1, y2⟩, ⟨⟨⟨⟨⟨x1, x2⟩, x3⟩, ⟨⟨⟨x4, x5⟩, x6⟩, x7⟩⟩, ⟨⟨⟨x8, x9⟩, x10⟩, x11⟩⟩, ⟨⟨x12, x13⟩, x14⟩⟩⟩ := hex
  have TB : Bt mg := ⟨free_len, free_int, free_enumerate, free_isinstance, free_zip, free_all, free_range, free_list, free_tuple, free_bool⟩
  have T : XC K mg (He.ga K "Exact") := ⟨TB, cls_Exact, noat_Exact_over, noat_Exact_under, ⟨x1, x2, x3⟩, g_Exact, x4, x5, x6, x7, x8, x9, x10, x11, x12, x13, x14, ⟨_, me_Exact___radd__.at_⟩, ⟨_, me_Exact___rsub__.at_⟩, ⟨_, me_Exact___rmul__.at_⟩⟩
  have TE : XE K mg (He.ga K "Exact") := ⟨T, fun t ht => by
    have z := List.all_eq_true.mp y1 t ht
    simp only [Bool.and_eq_true, decide_eq_true_eq] at z
    exact ⟨z.1.1, z.1.2, z.2⟩, y2⟩
  have c_is_integer : C8.Cal P w K mg base 1 "is_integer" (spInt K) [] := ⟨_, _, _, _, ok_is_integer F_is_integer TB, g_is_integer, F_is_integer.kp, b_is_integer, .nil⟩
  have c_common : C8.Cal P w K mg base 1 "common" spGcd [] := ⟨_, _, _, _, ok_common F_common TB, g_common, F_common.kp, b_common, .nil⟩
  have oi := ok_Exact___init__ (P := P) (w := w) (base := base) F_Exact___init__ T c_is_integer c_common
  obtain ⟨ds2, v2, b2⟩ := FunD.binds1 (ps := ["self", "over", "under"]) F_Exact___init__ 3 1 (by simp [dd_Exact___init__, He.DefD.dvs]) rfl (fun _ _ _ _ _ _ _ us its h1 h2 => match us, its, h1, h2 with | [_, _, _], [_], _, _ => ⟨_, rfl, rfl⟩)
  obtain ⟨ds1, v1, b1⟩ := FunD.binds1 (ps := ["self", "over", "under"]) F_Exact___init__ 2 0 (by simp [dd_Exact___init__, He.DefD.dvs]) rfl (fun _ _ _ _ _ _ _ us its h1 h2 => match us, its, h1, h2 with | [_, _], [_], _, _ => ⟨_, rfl, rfl⟩)
  have c_Exact : C8.Mak P w K mg base 2 "Exact" (He.ga K "Exact") (spInit (He.ga K "Exact")) [] := ⟨_, _, _, _, mkr_Exact, oi, g_Exact, b2, v2⟩
  have c_Exact1 : C8.Mak P w K mg base 2 "Exact" (He.ga K "Exact") (spInit (He.ga K "Exact")) [.int 1] := ⟨_, _, _, _, mkr_Exact, oi, g_Exact, b1, v1⟩
  have c_part_of : C8.Cal P w K mg base 4 "part_of" (spPart (He.ga K "Exact")) [] := ⟨_, _, _, _, ok_part_of F_part_of T c_is_integer c_Exact1, g_part_of, F_part_of.kp, b_part_of, .nil⟩
  have c_is_number : C8.Cal P w K mg base 2 "is_number" (spNum K (He.ga K "Exact")) [] := ⟨_, _, _, _, ok_is_number F_is_number T c_is_integer, g_is_number, F_is_number.kp, b_is_number, .nil⟩
  have olt := ok_Exact___lt__ (P := P) (w := w) (base := base) F_Exact___lt__ T c_part_of
  have mlt : ∀ X : Cx, X.prog = P → X.w = w → X.K = K → X.mg = mg → X.base = base → OwnM X 5 (He.ga K "Exact") "__lt__" (spLt (He.ga K "Exact")) := by
    rintro X rfl rfl rfl rfl rfl
    exact ⟨_, _, _, me_Exact___lt__.at_, me_Exact___lt__.fn, olt, b_Exact___lt__⟩
  have ole := ok_Exact___le__ (P := P) (w := w) (base := base) F_Exact___le__ T c_part_of
  have mle : ∀ X : Cx, X.prog = P → X.w = w → X.K = K → X.mg = mg → X.base = base → OwnM X 5 (He.ga K "Exact") "__le__" (spLe (He.ga K "Exact")) := by
    rintro X rfl rfl rfl rfl rfl
    exact ⟨_, _, _, me_Exact___le__.at_, me_Exact___le__.fn, ole, b_Exact___le__⟩
  have ogt := ok_Exact___gt__ (P := P) (w := w) (base := base) F_Exact___gt__ T c_part_of
  have mgt : ∀ X : Cx, X.prog = P → X.w = w → X.K = K → X.mg = mg → X.base = base → OwnM X 5 (He.ga K "Exact") "__gt__" (spGt (He.ga K "Exact")) := by
    rintro X rfl rfl rfl rfl rfl
    exact ⟨_, _, _, me_Exact___gt__.at_, me_Exact___gt__.fn, ogt, b_Exact___gt__⟩
  have oge := ok_Exact___ge__ (P := P) (w := w) (base := base) F_Exact___ge__ T c_part_of
  have mge : ∀ X : Cx, X.prog = P → X.w = w → X.K = K → X.mg = mg → X.base = base → OwnM X 5 (He.ga K "Exact") "__ge__" (spGe (He.ga K "Exact")) := by
    rintro X rfl rfl rfl rfl rfl
    exact ⟨_, _, _, me_Exact___ge__.at_, me_Exact___ge__.fn, oge, b_Exact___ge__⟩
  have oeq := ok_Exact___eq__ (P := P) (w := w) (base := base) F_Exact___eq__ T c_part_of c_is_number
  have meq : ∀ X : Cx, X.prog = P → X.w = w → X.K = K → X.mg = mg → X.base = base → OwnM X 5 (He.ga K "Exact") "__eq__" (spEqX K (He.ga K "Exact")) := by
    rintro X rfl rfl rfl rfl rfl
    exact ⟨_, _, _, me_Exact___eq__.at_, me_Exact___eq__.fn, oeq, b_Exact___eq__⟩
  have c_fresh : C8.Cal P w K mg base 1 "_law_fresh" (spFresh K) [] := ⟨_, _, _, _, ok__law_fresh F__law_fresh, g__law_fresh, F__law_fresh.kp, b__law_fresh, .nil⟩
  have c_fill : C8.Cal P w K mg base 1 "_law_fill" (spFill K) [] := ⟨_, _, _, _, ok__law_fill F__law_fill TB, g__law_fill, F__law_fill.kp, b__law_fill, .nil⟩
  have c_take : C8.Cal P w K mg base 2 "_law_take" (spTake K) [] := ⟨_, _, _, _, ok__law_take F__law_take TB c_fill, g__law_take, F__law_take.kp, b__law_take, .nil⟩
  have c_one : C8.Cal P w K mg base 3 "_law_one" (spOne K) [] := ⟨_, _, _, _, ok__law_one F__law_one TB c_take, g__law_one, F__law_one.kp, b__law_one, .nil⟩
  have c_same : C8.Cal P w K mg base 1 "_law_same" spSameI [] := ⟨_, _, _, _, ok__law_same F__law_same TB, g__law_same, F__law_same.kp, b__law_same, .nil⟩
  have c_gcd : C8.Cal P w K mg base 1 "_law_gcd" spGcd [] := ⟨_, _, _, _, ok__law_gcd F__law_gcd TB, g__law_gcd, F__law_gcd.kp, b__law_gcd, .nil⟩
  have c_frac : C8.Cal P w K mg base 2 "_law_frac" spFrac [] := ⟨_, _, _, _, ok__law_frac F__law_frac TB c_gcd, g__law_frac, F__law_frac.kp, b__law_frac, .nil⟩
  have c_add : C8.Cal P w K mg base 3 "_law_add" spFAdd [] := ⟨_, _, _, _, ok__law_add F__law_add TB c_frac, g__law_add, F__law_add.kp, b__law_add, .nil⟩
  have c_asn : C8.Cal P w K mg base 4 "_law_as_number" (spAsNum K (He.ga K "Exact")) [] := ⟨_, _, _, _, ok__law_as_number F__law_as_number T c_take c_Exact, g__law_as_number, F__law_as_number.kp, b__law_as_number, .nil⟩
  have c_sameL : C8.Cal P w K mg base 2 "_law_same" spSameL [] := ⟨_, _, _, _, ok__law_same_L F__law_same TB c_same, g__law_same, F__law_same.kp, b__law_same, .nil⟩
  have c_less : C8.Cal P w K mg base 1 "_law_less" spLess [] := ⟨_, _, _, _, ok__law_less F__law_less TB, g__law_less, F__law_less.kp, b__law_less, .nil⟩
  have c_some : C8.Cal P w K mg base 4 "_law_some_frac" (spSomeF K) [] := ⟨_, _, _, _, ok__law_some_frac F__law_some_frac TB c_take c_one c_frac, g__law_some_frac, F__law_some_frac.kp, b__law_some_frac, .nil⟩
  exact ok_law F_law TE c_fresh c_some c_one c_less c_sameL c_Exact c_Exact1 c_asn c_add mlt mle mgt mge meq
end LW
open PySem PySem.W PySem.Calls PyProof.Rows
theorem PySem.Challenge.cw_surelevels_k03_numbers_ordered_holds : PySem.Challenge.rw_surelevels_k03_numbers_ordered.Holds := by
  w_on; o_law
  refine HandSHeadRun.head_any (r := OpenLaw.row PySem.Challenge.rw_surelevels_k03_numbers_ordered) (q := view (OpenLaw.row PySem.Challenge.rw_surelevels_k03_numbers_ordered).prog [LW.lawI]) (H := LW.hk) (ob := LW.ob) (M := 20000) (loose := LW.looseL) (d := HandSHeadRun.topDef (OpenLaw.row PySem.Challenge.rw_surelevels_k03_numbers_ordered).prog LW.lawI) (kwd := []) LW.ob_eq
    (by kernel_rfl) (fun s => by kernel_rfl) LW.run (by kernel_rfl) (by kernel_rfl) (by kernel_rfl) (by rfl) (by first | assumption | decide +kernel) (by decide +kernel) ⟨rfl, rfl, rfl, rfl, rfl, by decide +kernel⟩ ?hw ?hc
  case hw => w_witness2
  case hc =>
    refine L2.walk_ofE (l := PySem.Challenge.rw_surelevels_k03_numbers_ordered) (n := 63) (k := 7) (x := "_law_script") (CX := L2.CX0) rfl (by decide) (by kernel_rfl) ⟨rfl, by decide, by decide⟩ ?F (fun _ _ _ _ z => z)
    intro w mg fa h Y G hmg0
    obtain ⟨K, KX, c⟩ := Y
    have hmg : mg ("law" : PySem.Str) = some (.ref fa) := by
      have e : (HandSHeadRun.topDef (OpenLaw.row PySem.Challenge.rw_surelevels_k03_numbers_ordered).prog LW.lawI).name = ("law" : PySem.Str) := by kernel_rfl
      rw [← e]
      exact hmg0
    obtain ⟨fd, hb, hF⟩ := LW.facts (P := (PySem.Challenge.rw_surelevels_k03_numbers_ordered).prog) (w := w) KX G hmg c
    exact ⟨K, fd, LW.spLaw K, KX, hb, fun H a ns hl _ hS => ⟨a, ns, rfl, hS, hl, fun _ => rfl⟩, hF⟩
#print axioms PySem.Challenge.cw_surelevels_k03_numbers_ordered_holds
