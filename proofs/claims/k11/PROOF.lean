import PyProof.Rows.All
import Wide.All
import OpenK.AllK
import Wide.FinOn
import HandS.ForMost
import HandS.Wide
import HandS.IsInst
import HandS.OwnEq
import HandS.Zip
import HandS.Defaults
import KE.GoesMore
import KE.GoesEnum
import KE.KOpsOwn
import HandS.Walk
import HandS.Evl
import HandS.Codes
import HandS.Style
import HandS.Steps
import HandS.Star
import PyProof.NeKinds
import PySem.Challenge.RW_surelevels_k11_lines_told
import Lean
import KE.KStateDown
import HandS.More
import HandS.Head0
import HandS.Head1
import HandS.Head2
import HandS.HeadEnd
import HandS.HeadHook1
import HandS.HeadHook2
import HandS.HeadHook3
import HandS.HeadHook4
set_option Elab.async false
set_option linter.all false
set_option maxRecDepth 100000
set_option maxHeartbeats 2000000
namespace LV
open PySem PySem.Spec PyProof.Rows L2
/-! enumerate over a tuple -/
theorem newE1 {v : Value} {o : Obj} {H : Heap → Prop} (B : Begins v o H) :
    Meets (Builtin.«enumerate.__new__» ⟨[.type "enumerate", v], []⟩) (fun _ R s => H s.heap ∧
      R (.ok (.ret (.ref (s.heap.push o).objs.size))) { s with heap := (s.heap.push o).push { cls := .type "enumerate", data := .fields #[.none, .bool false, .ref s.heap.objs.size, rawInt 0, .none, .none] } }) :=
  .of_wp fun prog w A R sh hh => by
    obtain ⟨hp, ge, dr, tk, os⟩ := sh
    obtain ⟨hb, hh⟩ := hh
    have subE := sub_enumerate
    have qi : ∀ {A' : Around} {E : Value → Shared → Prop} {Q : Value → Shared → Prop}, Q (.ref hp.objs.size) ⟨hp.push o, ge, dr, tk, os⟩ → wpAny (model prog w) A' (pyIter v) Q E ⟨hp, ge, dr, tk, os⟩ :=
      fun q => B.iter prog w _ _ ⟨hp, ge, dr, tk, os⟩ _ hb q
    wp_walk using qi
    refine wpAny_stack_any fun st => wpAny_pure ?_
    split
    · rename_i c _ _ _ _ _
      cases (c == Value.type "enumerate") <;>
      · wp_walk using qi
        exact ⟨_, rfl, hh⟩
    · wp_walk using qi
      exact ⟨_, rfl, hh⟩
theorem callE1 {prog : Program} {w : World} {A : Around} {E : Value → Shared → Prop} {s : Shared} {v : Value} {o : Obj} {H : Heap → Prop} {Q : Value → Shared → Prop} (B : Begins v o H) (hH : H s.heap)
    (h : ∀ h', IsEnum h' (s.heap.objs.size + 1) s.heap.objs.size 0 .none → h'.get? s.heap.objs.size = some o →
      (∀ b o, s.heap.get? b = some o → h'.get? b = some o) → Q (.ref (s.heap.objs.size + 1)) { s with heap := h' }) :
    wpAny (model prog w) A (call (.type "enumerate") [v]) Q E s := by
  refine callType_new F.called_enumerate (by decide) (F.typeCall_enumerate_1 _) (F.newCall_enumerate_1 _) (fun ob => F.args_object_init_2 ob _) F.entry_enumerate_new
    (newE1 B) ⟨hH, ?_⟩
  have hz : (s.heap.push o).objs.size = s.heap.objs.size + 1 := Heap.size_push ..
  show _ ∧ _
  rw [hz]
  have he : IsEnum ((s.heap.push o).push { cls := .type "enumerate", data := .fields #[.none, .bool false, .ref s.heap.objs.size, rawInt 0, .none, .none] }) (s.heap.objs.size + 1) s.heap.objs.size 0 .none := by
    have q := Heap.get?_push_size (s.heap.push o) (o := { cls := .type "enumerate", data := .fields #[.none, .bool false, .ref s.heap.objs.size, rawInt 0, .none, .none] }) rfl
    rw [hz] at q
    exact q
  exact ⟨⟨_, he, rfl⟩, h _ he (Heap.get?_push_of_some _ (Heap.get?_push_size _ B.free)) fun b o x => Heap.get?_push_of_some _ (Heap.get?_push_of_some _ x)⟩
/-- the tuple at a, each item in a new pair -/
def IteT (K : PySem.W.Frag) (a : Addr) : It :=
  ⟨fun i H => ∃ (xs : List V) (x : V), SqT K H a xs ∧ xs[i]? = some x, fun i H v H' => ∃ T x, v = .ref T ∧ H T = none ∧ H' = upd H T (.tup [.int (i : Nat), x]) ∧ ∀ xs, SqT K H a xs → xs[i]? = some x,
    fun i H => ∃ xs : List V, SqT K H a xs ∧ xs.length = i⟩
theorem turnET {P : Program} {w : World} {K : PySem.W.Frag} {elts : List Expr} {kk : Nat} {tpos : Pos} (a e it : Addr) :
    Turn P w K (.Tuple elts kk tpos) (IteT K a) [e, it] e (fun i h => (∃ old, IsEnum h e it ((i : Nat) : Int) old) ∧ h.IsTupleIter it a i ∧ e ≠ it) where
  mem := by simp
  obj := fun i h st b hb => by
    obtain ⟨⟨old, he⟩, ⟨o, ho, hc, hd⟩, _⟩ := st
    have eb : b = e ∨ b = it := by simpa using hb
    rcases eb with z | z
    · rw [z]
      exact ⟨_, he, fun v q => nomatch q⟩
    · rw [z]
      exact ⟨o, ho, fun v q => by rw [hd] at q; cases q⟩
  keep := fun i h h' st k => let ⟨⟨old, he⟩, hi, hne⟩ := st; ⟨⟨old, k e (by simp) _ he⟩, hi.at fun o q => k it (by simp) o q, hne⟩
  item := by
    intro X hP hw hK hc i pins s σ H E I hf st hg
    subst hP hw hK
    obtain ⟨⟨old, he⟩, hit, hne⟩ := st
    obtain ⟨xs, x, hq, hx⟩ := hg
    obtain ⟨its, rv, p, hz⟩ := I.tuple hq
    obtain ⟨u, hu, ru⟩ := rv.get hx
    obtain ⟨oa, hoa, hca, na, hda⟩ := id p
    have hel : e < s.heap.objs.size := Heap.lt_size he
    have hil : it < s.heap.objs.size := by
      obtain ⟨_, q, _⟩ := hit
      exact Heap.lt_size q
    have hae : a ≠ e := fun z => by
      rw [z, he] at hoa
      cases hoa
      injection hca with q
      exact absurd q (by decide)
    have hai : a ≠ it := fun z => by
      obtain ⟨oi, q, hci, _⟩ := hit
      rw [z, q] at hoa
      cases hoa
      rw [hci] at hca
      injection hca with q2
      exact absurd q2 (by decide)
    have hlt : i < its.toArray.size := by
      have q := (List.getElem?_eq_some_iff.mp hu).1
      simpa using q
    have D : Draws X.prog X.w X.A.in1 it [it, a] its.toArray.size (fun i v => its.toArray[i]? = some v) (fun i h => h.IsTupleIter it a i ∧ h.IsTuple a its.toArray) := Draws.tuple (A := X.A.in1) (show X.A.in1.handled = none from I.ok.hd hc) it a hai its.toArray
    refine wpAny_pyNext_enum_itemD D he ⟨hit, p⟩ hlt hne (by simp [hne, Ne.symm hae]) fun x' h' tk hx' ho hst hT hsz hk => ?_
    have exu : x' = u := by
      have q : its[i]? = some x' := by simpa using hx'
      rw [hu] at q
      exact (Option.some.inj q).symm
    subst exu
    refine ⟨_, rfl, wpAny_letOwnedTupleGo_enum (s := { s with heap := h', toks := tk + 1 }) ho fun h'' he' sb => ?_⟩
    have hT2 : h''.get? s.heap.objs.size = some { cls := .type "tuple", data := .seq #[.int i tk, x'] } := (sb.2 _ (Nat.ne_of_gt hel)).trans hT
    have new : ObjOk X.prog X.w (upd H s.heap.objs.size (.tup [.int (i : Nat), x])) h'' s.heap.objs.size (.tup [.int (i : Nat), x]) :=
      ⟨by show 2 ≤ sizeLine; decide, [.int i tk, x'], .cons ⟨_, rfl⟩ (.cons ru .nil), ⟨_, hT2, rfl, _, rfl⟩⟩
    have I1 : Inv X pins σ (upd H s.heap.objs.size (.tup [.int (i : Nat), x])) { s with heap := h'', toks := tk + 1 } :=
      I.turnedNew (ch := [e, it]) (fun b ob hb q => (sb.2 b (fun z => hb (by simp [z]))).trans (hk b ob (fun z => hb (by simp [z])) (fun z => hb (by simp [z])) q)) hf (Nat.le_refl _) new
    refine ⟨.ref s.heap.objs.size, _, I1, rfl, ⟨_, x, rfl, I.hok.fresh (Nat.le_refl _), rfl, fun ys hy => by rw [I.tuple_inj hy hq]; exact hx⟩, ⟨⟨x', ?_⟩, hst.1.at fun o q => (sb.2 it (Ne.symm hne)).trans q, hne⟩, fun b hb => ?_⟩
    · have e1 : ((i + 1 : Nat) : Int) = (i : Int) + 1 := by omega
      rw [e1]
      exact he'
    · have hb' : b < s.heap.objs.size := by
        have eb : b = e ∨ b = it := by simpa using hb
        rcases eb with z | z
        · rw [z]
          exact hel
        · rw [z]
          exact hil
      rw [upd_ne (Nat.ne_of_lt hb')]
      exact (hf b hb).1
  done := by
    intro X hP hw hK hc i pins s σ H E I hf st hg
    subst hP hw hK
    obtain ⟨⟨old, he⟩, hit, hne⟩ := st
    obtain ⟨xs, hq, hx⟩ := hg
    obtain ⟨its, rv, p, hz⟩ := I.tuple hq
    obtain ⟨oa, hoa, hca, na, hda⟩ := id p
    have hai : a ≠ it := fun z => by
      obtain ⟨oi, q, hci, _⟩ := hit
      rw [z, q] at hoa
      cases hoa
      rw [hci] at hca
      injection hca with q2
      exact absurd q2 (by decide)
    obtain ⟨f0, f1, f2, f3, f4, f5⟩ := hf it (by simp)
    have hl := rv.length
    have D : Draws X.prog X.w X.A.in1 it [it, a] its.toArray.size (fun i v => its.toArray[i]? = some v) (fun i h => h.IsTupleIter it a i ∧ h.IsTuple a its.toArray) := Draws.tuple (A := X.A.in1) (show X.A.in1.handled = none from I.ok.hd hc) it a hai its.toArray
    have hsz : its.toArray.size = i := by
      rw [List.size_toArray]
      omega
    have st : s.heap.IsTupleIter it a its.toArray.size ∧ s.heap.IsTuple a its.toArray := by
      rw [hsz]
      exact ⟨hit, p⟩
    exact wpAny_pyNext_enum_endD D he st fun h' eb => ⟨rfl, I.turned (t' := s.toks) (fun b o hb q => eb b o hb q) f0 f1 f3 f4 f5⟩
  self := fun A i s Q E st h => let ⟨⟨_, he⟩, _⟩ := st; wpAny_pyIter_enum he h
def iEnumT (K : PySem.W.Frag) (ta : TA) : TI := fun σ H R => ta σ H fun vs H1 => ∃ a xs, vs = [.ref a] ∧ SqT K H1 a xs ∧ R (IteT K a) H1
theorem pi_enumT {X : Cx} {e : Expr} {ta : TA} {p pos tpos : Pos} {elts : List Expr} {kk : Nat} (hg : Gl X "enumerate") (hm : X.mg "enumerate" = none) (ha : PA X [e] ta) (hs : starEach [e] X.env = [(false, eval e X.env)] := by rfl) :
    PI X (.Tuple elts kk tpos) (.Call (.Name "enumerate" p) [e] [] pos) (iEnumT X.K ta) := by
  refine ⟨fun pins s σ H R I h => ?_⟩
  refine Call_ (ld_blt I hg hm boot_enumerate (PyProof.Rows.callWith_type1 (thn (ha.run pos pins s σ H _ I h) fun us s1 ⟨vs, H1, I1, r1, q1⟩ => ?_) hs rfl))
  obtain ⟨a, xs, ex, hq, q⟩ := q1
  subst ex
  cases r1 with
  | cons r rr =>
    cases rr
    cases r
    obtain ⟨its, rv, p', hz⟩ := I1.tuple hq
    refine callE1 (begins_tuple a its.toArray) p' fun h' he hit hk => wpAny_pyIter_enum he ?_
    have I2 : Inv X pins σ H1 { s1 with heap := h' } := I1.kept (t' := s1.toks) hk
    refine ⟨s1.heap.objs.size + 1, [s1.heap.objs.size + 1, s1.heap.objs.size], _, _, H1, rfl, I2, turnET a (s1.heap.objs.size + 1) s1.heap.objs.size, ⟨⟨.none, he⟩, ⟨_, hit, rfl, rfl⟩, Nat.succ_ne_self _⟩, fun b hb => ?_, q⟩
    have eb : b = s1.heap.objs.size + 1 ∨ b = s1.heap.objs.size := by simpa using hb
    have hle : s1.heap.objs.size ≤ b := by
      rcases eb with z | z
      · rw [z]
        exact Nat.le_add_right _ _
      · rw [z]
        exact Nat.le_refl _
    exact I1.fpOk hle (I1.hok.fresh hle)
end LV
set_option Elab.async false
set_option linter.all false
set_option maxRecDepth 100000
set_option maxHeartbeats 2000000
namespace LV
open PySem PySem.Spec PyProof.Rows L2
/-! an int's own method is asked with an instance: NotImplemented -/
section
variable {prog : Program} {w : World} {A : Around} {E : Value → Shared → Prop} {s : Shared}
theorem niBin {nm : String} {f : Int → Int → Sem Fin} {i : Int} {t : Tok} {x C dx : Addr} {M : Model} {Q : Value → Shared → Prop} (hx : s.heap.get? x = some (PySem.W.instObj C dx)) (h : Q .notImplemented s) :
    wpAny M A (Builtin.Int.intBinary nm f false ⟨[.int i t, .ref x], []⟩) (fun fin s' => ∃ v, fin = .done (.ret v) ∧ Q v s') E s := by
  obtain ⟨hp, ge, dr, tk, os⟩ := s
  unfold Builtin.Int.intBinary
  wp_walk using wpAny_load hx
  exact ⟨_, rfl, h⟩
/-- int op instance: the instance's reflected method -/
theorem tryN {nm : Str} {id : String} {B : Builtin} {i : Int} {t : Tok} {x : Addr} {Q : Option Value → Shared → Prop} (slot : Slot "int" nm id) (entry : entryFor table id = some B) (args : argsOk id ⟨[.int i t, .ref x], []⟩)
    (hB : ∀ (A' : Around) (Q' : Value → Shared → Prop), Q' .notImplemented s → wpAny (model prog w) A' (B ⟨[.int i t, .ref x], []⟩) (fun fin s' => ∃ v, fin = PySem.Fin.done (.ret v) ∧ Q' v s') E s) (h : Q none s) :
    wpAny (model prog w) A (tryMethod (.int i t) nm (.ref x)) Q E s := by
  unfold tryMethod
  refine wpAny_bind (wpAny_callSpecial?_slot (typeIs_int s i t) slot (wpAny_call_entry slot (typeIs_int s i t) entry (hB _ _ ?_) args))
  exact wpAny_pure h
open PySem.W in
theorem binRefl {K : Frag} {x C dx f : Addr} {i : Int} {t : Tok} {h0 : Heap} {L : Addr} {m : Str → Option Value} {od : Option Obj} {op : Operator} {Q : Value → Shared → Prop} (F : Fr h0 L s.heap m) (X0 : K.In h0) (I : InstAt s.heap x (instObj C dx) C od) (hc : selfFirst K C = true)
    (hs : findIn K (.ref C) (PySem.dunder op.info.2) = some (some (.ref f0))) (hr : findIn K (.ref C) (dunderR op.info.2) = some (some (.ref f))) (hf : isFn K (.ref f) = true)
    (hsub : subIn K (.ref C) (.type "int") = some false) (hfl : fillsNumberSlot (.type "int") op.info.2 = pure true)
    (h1 : ∀ Q' : Option Value → Shared → Prop, Q' none s → wpAny (model prog w) A (tryMethod (.int i t) (PySem.dunder op.info.2) (.ref x)) Q' E s)
    (h : wpAny (model prog w) A (call (.ref f) [.ref x, .int i t]) (W.CmpBack Q) E s) : wpAny (model prog w) A (binaryOp op (.int i t) (.ref x)) Q E s := by
  have X := X0.keeps F.keep
  obtain ⟨cd, rest, hcd, hm⟩ := ksp_first hc
  rcases hi : op.info with ⟨sym, nm⟩
  rw [hi] at hs hr hfl h1
  dsimp only at hs hr hfl h1
  have one := ksp_try (E := E) X I hr hf h
  obtain ⟨hh, ge, dr, tt, os⟩ := s
  have L1 : Looks (model prog w) hh (typeOf (.ref x)) (.ref C) := I.type
  have L2 : Looks (model prog w) hh (typeOf (.int i t)) (.type "int") := Looks.of_pure rfl
  have L3 : Looks (model prog w) hh (fillsNumberSlot (.ref C) nm) true := fills_K X hcd hm hs
  have L4 : Looks (model prog w) hh (fillsNumberSlot (.type "int") nm) true := Looks.of_pure hfl
  have L5 : Looks (model prog w) hh (isSubtype (.ref C) (.type "int")) false := looks_subIn X hsub
  have L7 : Looks (model prog w) hh (numberSlotInPython (.type "int") nm) false := Looks.of_pure rfl
  have hne : (Value.type "int" == Value.ref C) = false := Bool.eq_false_iff.mpr fun q => by cases beq_iff_eq.mp q
  simp only [binaryOp, hi]
  refine wpAny_holding (wpAny_bind ?_)
  unfold binaryOp1
  refine wpAny_bind (L2.at (wpAny_bind (L1.at (wpAny_bind (L4.at ?_)))))
  simp only [hne, Bool.false_eq_true, if_false]
  ksp_lk
  refine h1 _ ?_
  ksp_lk
  refine wpAny_mono one (fun r s' hr' => ?_) fun _ _ e => e
  obtain ⟨v, rfl, hq⟩ := hr'
  ksp_lk
  exact hq
end
end LV
set_option Elab.async false
set_option linter.all false
set_option maxRecDepth 100000
set_option maxHeartbeats 2000000
namespace LV
open PySem PySem.Spec PyProof.Rows L2
/-! own operators over the layer -/
theorem backEP {X : Cx} {pins : List (Addr × Obj)} {σ : L2.St} {Q : VK} {u : Value} {s : Shared} (h : EP X pins σ Q u s) : W.CmpBack (EP X pins σ Q) u s := by
  obtain ⟨v, H, I, r, q⟩ := h
  have h2 : EP X pins σ Q u s := ⟨v, H, I, r, q⟩
  cases u with
  | notImplemented =>
    cases v <;> first
      | exact nomatch r
      | (obtain ⟨t, e⟩ := r; exact nomatch e)
  | _ => exact h2
/-- a def that is an instance's method, with its promise -/
structure OwnM (X : Cx) (k : Nat) (C : Addr) (nm : Str) (sp : Sp) : Prop where
  ex : ∃ (f : Addr) (fd : FuncData) (ps : List Str), PySem.W.findIn X.K (.ref C) nm = some (some (.ref f)) ∧ PySem.W.isFn X.K (.ref f) = true ∧ FnOk X.prog X.w X.K X.mg X.base CX0 k f fd ps sp ∧ Binds X.K fd ps []
/-- its class beside ints -/
structure OwnC (K : PySem.W.Frag) (C : Addr) : Prop where
  first : PySem.W.selfFirst K C = true
  subI : PySem.W.subIn K (.type "int") (.ref C) = some false
  subC : PySem.W.subIn K (.ref C) (.type "int") = some false
/-- the other operand: an int, or an instance of the class -/
def NumV (C : Addr) (H : Hp) (y : V) : Prop := (∃ i, y = .int i) ∨ ∃ b dy gs, y = .ref b ∧ H b = some (.ins C dy gs)
def rOwnL (C : Addr) (sp : Sp) : R2 := fun x y H Q => ∃ a dx fs, x = .ref a ∧ H a = some (.ins C dx fs) ∧ NumV C H y ∧ sp [x, y] H Q E0
def rOwnR (C : Addr) (sp : Sp) : R2 := fun x y H Q => ∃ i b dy gs, x = .int i ∧ y = .ref b ∧ H b = some (.ins C dy gs) ∧ sp [y, x] H Q E0
section
variable {X : Cx} {k : Nat} {C : Addr} {sp : Sp} {op : Operator}
theorem runM {f : Addr} {fd : FuncData} {ps : List Str} {pins : List (Addr × Obj)} {σ : L2.St} {H : Hp} {s : Shared} {Q : VK} {us : List Value} {vs : List V} (F : FnOk X.prog X.w X.K X.mg X.base CX0 k f fd ps sp) (hr : Room k X.A) (hb : Binds X.K fd ps [])
    (I : Inv X pins σ H s) (r : Vals vs us) (h : sp vs H Q E0) : wpAny (model X.prog X.w) X.A (call (.ref f) us) (W.CmpBack (EP X pins σ Q)) X.xe s :=
  wpAny_mono (run_fn (dvs := []) F hr hb .nil pass0 I r (by rw [List.append_nil]; exact h)) (fun _ _ z => backEP z) fun _ _ z => z
theorem op_ownL {fo ro rc : Option Value} (M : OwnM X k C (PySem.dunder op.info.2) sp) (c : OwnC X.K C) (hr : Room k X.A)
    (hrc : PySem.W.findIn X.K (.ref C) (dunderR op.info.2) = some rc) (hp : rc = none ∨ ∃ g : Addr, rc = some (.ref g))
    (h1 : PySem.W.findIn X.K (.type "int") (PySem.dunder op.info.2) = some fo) (h2 : PySem.W.findIn X.K (.type "int") (dunderR op.info.2) = some ro) :
    OpR X (binaryOp op) (rOwnL C sp) := by
  intro pins s σ H x y v u Q I rx ry hq
  obtain ⟨a, dx, fs, rfl, ha, hy, q⟩ := hq
  obtain ⟨f, fd, ps, hs, hf, F, hb⟩ := M.ex
  cases rx
  obtain ⟨mA, J, _⟩ := ins_get I.hok ha
  obtain ⟨od, J, _⟩ := J.look
  obtain ⟨m, hF⟩ := I.fr
  rcases hy with ⟨i, rfl⟩ | ⟨b, dy, gs, rfl, hb'⟩
  · obtain ⟨t, rfl⟩ := ry
    have r2 : Vals [V.ref a, V.int i] [Value.ref a, Value.int i t] := .cons rfl (.cons ⟨_, rfl⟩ .nil)
    exact PySem.W.ksp_binT hF I.ok.mod.kin J rfl c.first hs hf hrc hp h1 h2 c.subI (runM F hr hb I r2 q)
  · cases ry
    obtain ⟨mB, J', _⟩ := ins_get I.hok hb'
    obtain ⟨od', J', _⟩ := J'.look
    have r2 : Vals [V.ref a, V.ref b] [Value.ref a, Value.ref b] := .cons rfl (.cons rfl .nil)
    exact PySem.W.binop_K hF I.ok.mod.kin J J'.type c.first hs hf (runM F hr hb I r2 q)
theorem op_ownR {sp0 : Sp} {k0 : Nat} {id : String} {B : Builtin} (M0 : OwnM X k0 C (PySem.dunder op.info.2) sp0) (M : OwnM X k C (dunderR op.info.2) sp) (c : OwnC X.K C) (hr : Room k X.A)
    (hfl : fillsNumberSlot (.type "int") op.info.2 = pure true) (slot : Slot "int" (PySem.dunder op.info.2) id) (entry : entryFor table id = some B) (args : ∀ a b, argsOk id ⟨[a, b], []⟩)
    (hB : ∀ (i : Int) (t : Tok) (x dx : Addr) (s : Shared) (A' : Around) (E : Value → Shared → Prop) (Q' : Value → Shared → Prop), s.heap.get? x = some (PySem.W.instObj C dx) → Q' .notImplemented s →
      wpAny (model X.prog X.w) A' (B ⟨[.int i t, .ref x], []⟩) (fun fin s' => ∃ v, fin = PySem.Fin.done (.ret v) ∧ Q' v s') E s) :
    OpR X (binaryOp op) (rOwnR C sp) := by
  intro pins s σ H x y v u Q I rx ry hq
  obtain ⟨i, b, dy, gs, rfl, rfl, hb', q⟩ := hq
  obtain ⟨f0, _, _, hs0, _⟩ := M0.ex
  obtain ⟨f, fd, ps, hs, hf, F, hb⟩ := M.ex
  obtain ⟨t, rfl⟩ := rx
  cases ry
  obtain ⟨mA, J, _⟩ := ins_get I.hok hb'
  obtain ⟨od, J, _⟩ := J.look
  obtain ⟨m, hF⟩ := I.fr
  have r2 : Vals [V.ref b, V.int i] [Value.ref b, Value.int i t] := .cons rfl (.cons ⟨_, rfl⟩ .nil)
  exact binRefl hF I.ok.mod.kin J c.first hs0 hs hf c.subC hfl (fun Q' q' => tryN slot entry (args _ _) (fun A' Q2 q2 => hB _ _ _ _ _ _ _ _ J.1 q2) q') (runM F hr hb I r2 q)
theorem un_own (M : OwnM X k C "__neg__" sp) (hr : Room k X.A) : UnR X (unaryOp .USub) (fun x H Q => ∃ a dx fs, x = .ref a ∧ H a = some (.ins C dx fs) ∧ sp [x] H Q E0) := by
  intro pins s σ H x v Q I rx hq
  obtain ⟨a, dx, fs, rfl, ha, q⟩ := hq
  obtain ⟨f, fd, ps, hs, hf, F, hb⟩ := M.ex
  cases rx
  obtain ⟨mA, J, _⟩ := ins_get I.hok ha
  obtain ⟨od, J, _⟩ := J.look
  obtain ⟨m, hF⟩ := I.fr
  have r2 : Vals [V.ref a] [Value.ref a] := .cons rfl .nil
  exact PySem.W.ksp_neg hF I.ok.mod.kin J hs hf (run_fn (dvs := []) F hr hb .nil pass0 I r2 q)
theorem op_addR {sp0 : Sp} {k0 : Nat} (M0 : OwnM X k0 C "__add__" sp0) (M : OwnM X k C "__radd__" sp) (c : OwnC X.K C) (hr : Room k X.A) : OpR X (binaryOp .Add) (rOwnR C sp) :=
  op_ownR (op := .Add) M0 M c hr fills_int_add F.slot_int_add F.entry_int_add F.args_int_add_2 fun i t x dx s A' E Q' hx q => niBin hx q
theorem op_subR {sp0 : Sp} {k0 : Nat} (M0 : OwnM X k0 C "__sub__" sp0) (M : OwnM X k C "__rsub__" sp) (c : OwnC X.K C) (hr : Room k X.A) : OpR X (binaryOp .Sub) (rOwnR C sp) :=
  op_ownR (op := .Sub) M0 M c hr fills_int_sub F.slot_int_sub F.entry_int_sub F.args_int_sub_2 fun i t x dx s A' E Q' hx q => niBin hx q
theorem op_mulR {sp0 : Sp} {k0 : Nat} (M0 : OwnM X k0 C "__mul__" sp0) (M : OwnM X k C "__rmul__" sp) (c : OwnC X.K C) (hr : Room k X.A) : OpR X (binaryOp .Mult) (rOwnR C sp) :=
  op_ownR (op := .Mult) M0 M c hr fills_int_mul F.slot_int_mul F.entry_int_mul F.args_int_mul_2 fun i t x dx s A' E Q' hx q => niBin hx q
theorem fI1 (K : PySem.W.Frag) : PySem.W.findIn K (.type "int") "__add__" = some (some (.builtin "int.__add__")) := by kernel_rfl
theorem fI2 (K : PySem.W.Frag) : PySem.W.findIn K (.type "int") "__radd__" = some (some (.builtin "int.__radd__")) := by kernel_rfl
theorem fI3 (K : PySem.W.Frag) : PySem.W.findIn K (.type "int") "__sub__" = some (some (.builtin "int.__sub__")) := by kernel_rfl
theorem fI4 (K : PySem.W.Frag) : PySem.W.findIn K (.type "int") "__rsub__" = some (some (.builtin "int.__rsub__")) := by kernel_rfl
theorem fI5 (K : PySem.W.Frag) : PySem.W.findIn K (.type "int") "__mul__" = some (some (.builtin "int.__mul__")) := by kernel_rfl
theorem fI6 (K : PySem.W.Frag) : PySem.W.findIn K (.type "int") "__rmul__" = some (some (.builtin "int.__rmul__")) := by kernel_rfl
theorem op_addL {g : Addr} (M : OwnM X k C "__add__" sp) (hg : PySem.W.findIn X.K (.ref C) "__radd__" = some (some (.ref g))) (c : OwnC X.K C) (hr : Room k X.A) : OpR X (binaryOp .Add) (rOwnL C sp) :=
  op_ownL (op := .Add) M c hr hg (.inr ⟨_, rfl⟩) (fI1 _) (fI2 _)
theorem op_subL {g : Addr} (M : OwnM X k C "__sub__" sp) (hg : PySem.W.findIn X.K (.ref C) "__rsub__" = some (some (.ref g))) (c : OwnC X.K C) (hr : Room k X.A) : OpR X (binaryOp .Sub) (rOwnL C sp) :=
  op_ownL (op := .Sub) M c hr hg (.inr ⟨_, rfl⟩) (fI3 _) (fI4 _)
theorem op_mulL {g : Addr} (M : OwnM X k C "__mul__" sp) (hg : PySem.W.findIn X.K (.ref C) "__rmul__" = some (some (.ref g))) (c : OwnC X.K C) (hr : Room k X.A) : OpR X (binaryOp .Mult) (rOwnL C sp) :=
  op_ownL (op := .Mult) M c hr hg (.inr ⟨_, rfl⟩) (fI5 _) (fI6 _)
/-! division by any number but nought -/
theorem op_fdivG : OpR X (binaryOp .FloorDiv) (rI (fun _ j => j ≠ 0 ∧ j.natAbs.log2 < 9000) fun i j => .int (i.fdiv j)) := opI fun _ _ _ _ _ _ _ hc q => floordiv_int hc.1 q (.inl (PyProof.noPylong_of_log2 hc.2))
theorem op_mulG : OpR X (binaryOp .Mult) (rI IntMulOk fun i j => .int (i * j)) := opI fun _ _ _ _ _ _ _ hc q => mul_int q hc
end
end LV
set_option Elab.async false
set_option linter.all false
set_option maxRecDepth 100000
set_option maxHeartbeats 2000000
namespace LV
open PySem PySem.Spec PyProof.Rows L2
theorem walk_enumT {K : PySem.W.Frag} {a : Addr} {xs : List V} : Walk (IteT K a) xs.length (fun H => SqT K H a xs) (YPair (fun i => some (.int (i : Nat))) (fun i => xs[i]?)) := by
  refine ⟨fun i _ hi q => ⟨xs, xs[i], q, by simp [hi]⟩, fun _ q => ⟨xs, q, rfl⟩, fun i H v H' _ q y => ?_⟩
  obtain ⟨T, x, h1, h2, h3, h4⟩ := y
  exact ⟨T, .int (i : Nat), x, h1, h2, h3, rfl, h4 xs q⟩
/-- built-in names that the module does not bind -/
structure Bt (mg : Str → Option Value) : Prop where
  len : mg "len" = none
  int : mg "int" = none
  enumerate : mg "enumerate" = none
  isinstance : mg "isinstance" = none
  zip : mg "zip" = none
  all : mg "all" = none
  range : mg "range" = none
  list : mg "list" = none
  tuple : mg "tuple" = none
  bool : mg "bool" = none
abbrev FnD (K : PySem.W.Frag) (x qual : Str) (st : Stmt) (f : Addr) (fd : FuncData) : Prop := FunD K x qual (defArgs st) (defBody st) (defScope st) [] [] f fd
/-! heaps -/
def But (a : Addr) (H H' : Hp) : Prop := ∀ b o, b ≠ a → H b = some o → H' b = some o
theorem But.refl (a : Addr) (H : Hp) : But a H H := fun _ _ _ h => h
theorem But.trans {a : Addr} {H H1 H2 : Hp} (x : But a H H1) (y : But a H1 H2) : But a H H2 := fun b o n h => y b o n (x b o n h)
theorem Same.but {a : Addr} {H H1 : Hp} (x : Same H H1) : But a H H1 := fun b o _ h => x b o h
theorem But.upd {a : Addr} {H H1 : Hp} {o : HO} (x : But a H H1) : But a H (upd H1 a o) := fun b u n h => by
  rw [upd_ne n]
  exact x b u n h
theorem Same.new {H : Hp} {p : Addr} {o : HO} (h : H p = none) : Same H (upd H p o) := fun b u e => by
  rw [upd_ne (ne_of_none e h)]
  exact e
theorem But.sq {K : PySem.W.Frag} {a c : Addr} {H H1 : Hp} {xs : List V} (x : But a H H1) (n : c ≠ a) (h : SqL K H c xs) : SqL K H1 c xs := by
  rcases h with (h | ⟨o, h⟩) | h
  · exact .inl (.inl (x _ _ n h))
  · exact .inl (.inr ⟨o, x _ _ n h⟩)
  · exact .inr h
theorem Same.sqT {K : PySem.W.Frag} {a : Addr} {H H1 : Hp} {xs : List V} (x : Same H H1) (h : SqT K H a xs) : SqT K H1 a xs := by
  rcases h with (h | ⟨o, h⟩) | h
  · exact .inl (.inl (x _ _ h))
  · exact .inl (.inr ⟨o, x _ _ h⟩)
  · exact .inr h
/-- a new object: the heap behind it is some heap -/
theorem nAt {H H1 : Hp} {p : Addr} {o : HO} (q : upd H p o = H1) : H1 p = some o := by
  rw [← q]
  exact upd_same
theorem nSm {H H1 : Hp} {p : Addr} {o : HO} (q : upd H p o = H1) (n : H p = none) : Same H H1 := by
  rw [← q]
  exact Same.new n
theorem nBt {H H1 : Hp} {p : Addr} {o : HO} (q : upd H p o = H1) : But p H H1 := by
  rw [← q]
  exact (But.refl p H).upd
/-- the law's state for draws -/
abbrev stL (c : Addr) (n l : Int) (m : Bool) : HO := .lst [.ref c, .int n, .int l, .bl m]
def Stt (K : PySem.W.Frag) (H : Hp) (a : Addr) : Prop := ∃ (c : Addr) (ns : List Int) (n l : Int) (m : Bool), H a = some (stL c n l m) ∧ c ≠ a ∧ H c = some (.lst (ns.map V.int)) ∧ ns.length ≤ 63
theorem Stt.same {K : PySem.W.Frag} {H H1 : Hp} {a : Addr} (e : Same H H1) (s : Stt K H a) : Stt K H1 a := by
  obtain ⟨c, ns, n, l, m, h, hn, hs, hl⟩ := s
  exact ⟨c, ns, n, l, m, e _ _ h, hn, e _ _ hs, hl⟩
def notSt : HO → Bool
  | .lst (.ref _ :: .int _ :: .int _ :: .bl _ :: []) => false
  | _ => true
theorem But.get {K : PySem.W.Frag} {a x : Addr} {H H1 : Hp} {o : HO} (e : But a H H1) (s : Stt K H a) (h : H x = some o) (n : notSt o = true) : H1 x = some o := by
  refine e x o (fun q => ?_) h
  obtain ⟨c, ns, n', l, m, h2, _⟩ := s
  rw [q, h2] at h
  cases h
  cases n
/-- all but the state stays, and its cells are the same list -/
def Bus (a : Addr) (H H' : Hp) : Prop := But a H H' ∧ ∀ c n l m, H a = some (stL c n l m) → ∃ n' l' m', H' a = some (stL c n' l' m')
theorem Bus.refl (a : Addr) (H : Hp) : Bus a H H := ⟨But.refl a H, fun _ n l m h => ⟨n, l, m, h⟩⟩
theorem Bus.trans {a : Addr} {H H1 H2 : Hp} (x : Bus a H H1) (y : Bus a H1 H2) : Bus a H H2 := ⟨x.1.trans y.1, fun c n l m h => by
  obtain ⟨n', l', m', h'⟩ := x.2 c n l m h
  exact y.2 c n' l' m' h'⟩
theorem Same.bus {a : Addr} {H H1 : Hp} (x : Same H H1) : Bus a H H1 := ⟨Same.but x, fun _ n l m h => ⟨n, l, m, x _ _ h⟩⟩
theorem Bus.get {K : PySem.W.Frag} {a x : Addr} {H H1 : Hp} {o : HO} (e : Bus a H H1) (s : Stt K H a) (h : H x = some o) (n : notSt o = true) : H1 x = some o := e.1.get s h n
theorem nBus {a c : Addr} {n l n' l' : Int} {m m' : Bool} {H H1 : Hp} (h : H a = some (stL c n l m)) (q : upd H a (stL c n' l' m') = H1) : Bus a H H1 := ⟨nBt q, fun c2 n2 l2 m2 h2 => by
  rw [h] at h2
  cases h2
  exact ⟨_, _, _, nAt q⟩⟩
/-- a list apart from the state and its cells -/
def Apt (H : Hp) (a b : Addr) : Prop := b ≠ a ∧ ∀ c n l m, H a = some (stL c n l m) → c ≠ b
theorem Apt.bus {K : PySem.W.Frag} {a b : Addr} {H H' : Hp} (s : Stt K H a) (e : Bus a H H') (h : Apt H a b) : Apt H' a b := by
  obtain ⟨c, ns, n, l, m, h1, _⟩ := s
  obtain ⟨n', l', m', h2⟩ := e.2 c n l m h1
  refine ⟨h.1, fun c2 n2 l2 m2 h3 => ?_⟩
  rw [h2] at h3
  cases h3
  exact h.2 c n l m h1
theorem Apt.same {K : PySem.W.Frag} {a b : Addr} {H H' : Hp} (s : Stt K H a) (e : Same H H') (h : Apt H a b) : Apt H' a b := h.bus s (Same.bus e)
theorem Apt.new {K : PySem.W.Frag} {a b : Addr} {H : Hp} (s : Stt K H a) (h : H b = none) : Apt H a b := by
  obtain ⟨c, ns, n, l, m, h1, h2, h3, _⟩ := s
  refine ⟨fun z => ?_, fun c2 n2 l2 m2 h4 z => ?_⟩
  · subst z
    rw [h1] at h
    cases h
  · rw [h1] at h4
    cases h4
    subst z
    rw [h3] at h
    cases h
/-- the state stays where another list is changed -/
theorem Stt.but {K : PySem.W.Frag} {a b : Addr} {H H' : Hp} (s : Stt K H a) (h : Apt H a b) (e : But b H H') : Stt K H' a := by
  obtain ⟨c, ns, n, l, m, h1, h2, h3, h4⟩ := s
  exact ⟨c, ns, n, l, m, e _ _ h.1.symm h1, h2, e _ _ (h.2 _ _ _ _ h1) h3, h4⟩
theorem atL {α : Type} {xs : List α} {z : Int} {n : Nat} (h0 : 0 ≤ z) (h1 : z < n) (hn : n = xs.length) : ∃ v, xs[z.toNat]? = some v ∧ atI xs z = some v := by
  have hj : z.toNat < xs.length := by omega
  refine ⟨xs[z.toNat], by simp [hj], ?_⟩
  have e : z = ((z.toNat : Nat) : Int) := by omega
  have q : atI xs ((z.toNat : Nat) : Int) = some xs[z.toNat] := atI_nat (by simp [hj])
  rw [← e] at q
  exact q
theorem mulS {i j : Int} (h : -(2 ^ 64) < j ∧ j < 2 ^ 64) : IntMulOk i j := CMul.ok (.inr h)
theorem mulS' {i j : Int} (h : -(2 ^ 64) < i ∧ i < 2 ^ 64) : IntMulOk i j := CMul.ok (.inl h)
theorem fdp {i j : Int} (h : 0 < j) : i.fdiv j = i / j := Int.fdiv_eq_ediv_of_nonneg i (by omega)
/-! tests as a whole -/
theorem ans_or2 {t u : TT} {σ : L2.St} {H : Hp} {a b : Bool} (h1 : Ans t σ H a) (h2 : Ans u σ H b) : Ans (tOr t u) σ H (a || b) := by
  cases a with
  | true => exact ans_or1 h1
  | false => exact ans_or h1 h2
theorem ansE {t : TT} {σ : L2.St} {H : Hp} {Q : Bool → Hp → Prop} (P : Bool → Prop) (h : ∃ b, Ans t σ H b ∧ P b) (q : ∀ b, P b → Q b H) : t σ H Q := by
  obtain ⟨b, hb, hp⟩ := h
  exact hb Q (q b hp)
theorem vIx {K : PySem.W.Frag} {ta tb : TE} {σ : L2.St} {H : Hp} {p : Addr} {xs : List V} {i : Int} {v : V} (h1 : Val ta σ H (.ref p)) (h2 : Val tb σ H (.int i)) (h : SqL K H p xs) (hv : atI xs i = some v) : Val (tOp (rIxL K) ta tb) σ H v :=
  val_op h1 h2 fun Q q => ⟨p, xs, i, v, rfl, rfl, h, hv, q⟩
theorem vI0 {ta tb : TE} {σ : L2.St} {H : Hp} {i j : Int} {g : Int → Int → V} (h1 : Val ta σ H (.int i)) (h2 : Val tb σ H (.int j)) : Val (tOp (rI0 g) ta tb) σ H (g i j) := val_op h1 h2 fun Q q => ⟨i, j, rfl, rfl, q⟩
theorem vI {ta tb : TE} {σ : L2.St} {H : Hp} {i j : Int} {C : Int → Int → Prop} {g : Int → Int → V} (h1 : Val ta σ H (.int i)) (h2 : Val tb σ H (.int j)) (hc : C i j) : Val (tOp (rI C g) ta tb) σ H (g i j) := val_op h1 h2 fun Q q => ⟨i, j, rfl, rfl, hc, q⟩
theorem aI0 {ta tb : TE} {σ : L2.St} {H : Hp} {i j : Int} {g : Int → Int → Bool} (h1 : Val ta σ H (.int i)) (h2 : Val tb σ H (.int j)) : Ans (tTest (tOp (rI0 fun i j => .bl (g i j)) ta tb)) σ H (g i j) := ans_cmp h1 h2 fun Q q => ⟨i, j, rfl, rfl, q⟩
theorem aEq {ta tb : TE} {σ : L2.St} {H : Hp} {x y : V} (h1 : Val ta σ H x) (h2 : Val tb σ H y) (hs : scal x y = true) : Ans (tTest (tOp rEq ta tb)) σ H (decide (x = y)) := ans_cmp h1 h2 fun Q q => ⟨hs, q⟩
end LV
set_option Elab.async false
set_option linter.all false
set_option maxRecDepth 100000
set_option maxHeartbeats 2000000
namespace LV
open PySem PySem.Spec PyProof.Rows L2
open AutoSeq1 (wpAny_loadPart')
/-! comparisons: a built-in value beside an instance -/
section
variable {prog : Program} {w : World} {A : Around} {E : Value → Shared → Prop} {s : Shared}
theorem tryC {nm : Str} {id T : String} {B : Builtin} {a : Value} {x : Addr} {Q : Option Value → Shared → Prop} (hT : s.TypeIs a T) (slot : Slot T nm id) (entry : entryFor table id = some B) (args : argsOk id ⟨[a, .ref x], []⟩)
    (hB : ∀ (A' : Around) (Q' : Value → Shared → Prop), Q' .notImplemented s → wpAny (model prog w) A' (B ⟨[a, .ref x], []⟩) (fun fin s' => ∃ v, fin = PySem.Fin.done (.ret v) ∧ Q' v s') E s) (h : Q none s) :
    wpAny (model prog w) A (tryCompare a nm (.ref x)) Q E s := by
  unfold tryCompare
  refine wpAny_bind (wpAny_callSpecialIfBound?_slot hT slot (wpAny_call_entry slot hT entry (hB _ _ ?_) args))
  exact wpAny_pure h
open PySem.W in
theorem cmpRefl {K : Frag} {x C f L : Addr} {h0 : Heap} {m : Str → Option Value} {ox : Obj} {od : Option Obj} {op : CmpOp} {a : Value} {T : String} {Q : Value → Shared → Prop} (hu : A.units < cLine) (FR : Fr h0 L s.heap m) (X0 : K.In h0) (I : InstAt s.heap x ox C od)
    (ha : Looks (model prog w) s.heap (typeOf a) (.type T)) (ho : oneThing? op a (.ref x) = none) (hsub : subIn K (.ref C) (.type T) = some false)
    (h1 : ∀ Q' : Option Value → Shared → Prop, Q' none s → wpAny (model prog w) A (tryCompare a (cmpInfo op).2.1 (.ref x)) Q' E s)
    (hs : findIn K (.ref C) (cmpInfo op).2.2 = some (some (.ref f))) (hf : isFn K (.ref f) = true)
    (h : wpAny (model prog w) A (call (.ref f) [.ref x, a]) (W.CmpBack Q) E s) : wpAny (model prog w) A (richCompare op a (.ref x)) Q E s := by
  have X := X0.keeps FR.keep
  have two : wpAny (model prog w) A (tryCompare (.ref x) (cmpInfo op).2.2 a) (fun r s' => ∃ v, r = some v ∧ Q v s') E s := by
    unfold tryCompare
    refine wpAny_bind (ifBound_K X I hs hf (wpAny_mono h (fun v s' hv => ?_) fun _ _ e => e))
    cases v <;> first | exact hv.elim | exact wpAny_pure ⟨_, rfl, hv⟩
  have hne0 : (Value.type T == Value.ref C) = false := Bool.eq_false_iff.mpr fun z => by cases beq_iff_eq.mp z
  have hne : (Value.type T != Value.ref C) = true := by
    unfold bne
    rw [hne0]
    rfl
  unfold richCompare
  simp only [ho]
  refine wpAny_holding (wpAny_bind (wpAny_cRoomFor hu ?_))
  refine wpAny_bind (ha.here (wpAny_bind (I.type.here ?_)))
  simp only [hne, if_true]
  refine wpAny_bind ((looks_subIn X hsub).here ?_)
  simp only [Bool.false_eq_true, if_false]
  refine wpAny_bind (h1 _ ?_)
  simp only [Bool.not_false, if_true]
  refine wpAny_bind (wpAny_mono two (fun r s' z => ?_) fun _ _ e => e)
  obtain ⟨v, rfl, hq⟩ := z
  exact wpAny_pure hq
/-! x != y by the object's own way over __eq__ -/
open PySem.W in
theorem neOwn {K : Frag} {x C f L : Addr} {h0 : Heap} {m : Str → Option Value} {od : Option Obj} {b tb : Value} {dx : Addr} {Q : Value → Shared → Prop} (hu : A.units + 1 < cLine) (FR : Fr h0 L s.heap m) (X0 : K.In h0) (I : InstAt s.heap x (instObj C dx) C od)
    (hb : Looks (model prog w) s.heap (typeOf b) tb) (hn : notFirst K C tb = true) (hne : findIn K (.ref C) "__ne__" = some (some (.builtin "object.__ne__"))) (hobj : mroIn K C (.type "object") = some true)
    (hs : findIn K (.ref C) "__eq__" = some (some (.ref f))) (hf : isFn K (.ref f) = true)
    (h : wpAny (model prog w) A.in1 (call (.ref f) [.ref x, b]) (fun v s' => ∃ r, v = .bool r ∧ Q (.bool (!r)) s') E s) : wpAny (model prog w) A (richCompare .NotEq (.ref x) b) Q E s := by
  have X := X0.keeps FR.keep
  have S := F.cmp_object.ne
  have sub : Looks (model prog w) s.heap (isInstance (.ref x) (.type "object")) true := I.type.andThen (looks_mroIn X hobj)
  have cs : wpAny (model prog w) A (callSpecialIfBound? (.ref x) "__ne__" [b]) (fun r s' => ∃ z, r = some (.bool z) ∧ Q (.bool z) s') E s := by
    simp only [callSpecialIfBound?, bindSpecialIfBound?]
    refine wpAny_holding (wpAny_bind (wpAny_bind (wpAny_bind (I.type.here ((looks_findIn X hne).here ?_)))))
    simp only [S.bind]
    refine wpAny_bind (wpAny_askSetting (wpAny_ite ?_))
    have call1 : wpAny (model prog w) A (call (.builtin "object.__ne__") [.ref x, b]) (fun v s' => ∃ r, v = .bool r ∧ Q (.bool r) s') E s := by
      refine wpAny_call (codeAny_call_builtin S.plain F.cmpEntry_ne (check_slot F.cmpKind_ne F.cmpSplit_ne sub (F.cmpArgs_ne _ _) ?_))
      unfold Builtin.«object.__ne__»
      obtain ⟨hp, ge, dr, tk, os⟩ := s
      repeat (first
        | with_reducible refine wpAny_cRoomFor hu ?_
        | (refine wpAny_bind (m := callSpecialIfBound? (.ref x) (Str.ofString "__eq__") [b])
            (ifBound_K X I hs hf (wpAny_mono h (fun r s' hr => by
              obtain ⟨z, rfl, hq⟩ := hr
              repeat (first | exact ⟨_, rfl, hq⟩ | exact wpAny_pure ⟨_, rfl, hq⟩ | exact wpAny_truthy_bool ⟨_, rfl, hq⟩ | (refine wpAny_bind (m := truthy (.bool _)) (wpAny_truthy_bool ?_)) | wp_step)) fun _ _ e => e)))
        | wp_step)
    have fin : wpAny (model prog w) A (call (.builtin "object.__ne__") ([.ref x] ++ [b]) >>= fun v => pure (some v)) (fun r s' => ∃ z, r = some (.bool z) ∧ Q (.bool z) s') E s :=
      wpAny_bind (wpAny_mono call1 (fun v s' h' => wpAny_pure (by
        obtain ⟨z, rfl, hq⟩ := h'
        exact ⟨z, rfl, hq⟩)) fun _ _ h' => h')
    split
    · exact wpAny_bind (wpAny_pure (wpAny_pure fin))
    · exact wpAny_tryCatch (wpAny_bind (wpAny_pure (wpAny_pure fin)))
  have one : wpAny (model prog w) A (tryCompare (.ref x) "__ne__" b) (fun r s' => ∃ v, r = some v ∧ Q v s') E s := by
    unfold tryCompare
    refine wpAny_bind (wpAny_mono cs (fun r s' hr => ?_) fun _ _ e => e)
    obtain ⟨z, rfl, hq⟩ := hr
    exact wpAny_pure ⟨_, rfl, hq⟩
  unfold richCompare
  simp only [oneThing_ref]
  refine wpAny_holding (wpAny_bind (wpAny_cRoomFor (Nat.lt_of_succ_lt hu) ?_))
  rw [cmpInfo_NotEq]
  dsimp only
  refine wpAny_bind (I.type.here (wpAny_bind (hb.here ?_)))
  split
  · rename_i z
    have e : subIn K tb (.ref C) = some false := by
      rcases Bool.or_eq_true_iff.mp hn with e | e
      · rw [beq_iff_eq.mp e] at z
        simp at z
      · exact beq_iff_eq.mp e
    refine wpAny_bind ((looks_subIn X e).here ?_)
    simp only [Bool.false_eq_true, if_false]
    refine wpAny_bind (wpAny_mono one (fun r s' y => ?_) fun _ _ e => e)
    obtain ⟨v, rfl, hq⟩ := y
    exact wpAny_pure hq
  · refine wpAny_bind (wpAny_pure ?_)
    simp only [Bool.false_eq_true, if_false]
    refine wpAny_bind (wpAny_mono one (fun r s' y => ?_) fun _ _ e => e)
    obtain ⟨v, rfl, hq⟩ := y
    exact wpAny_pure hq
end
end LV
set_option Elab.async false
set_option linter.all false
set_option maxRecDepth 100000
set_option maxHeartbeats 2000000
namespace LV
open PySem PySem.Spec PyProof.Rows L2
open AutoSeq1 (wpAny_loadPart')
/-! a built-in value's own == with an instance: NotImplemented -/
section
variable {prog : Program} {w : World} {A : Around} {E : Value → Shared → Prop} {s : Shared} {M : Model} {x C dx : Addr} {Q : Value → Shared → Prop}
abbrev NiQ (Q : Value → Shared → Prop) : PySem.Fin → Shared → Prop := fun fin s' => ∃ v, fin = PySem.Fin.done (.ret v) ∧ Q v s'
theorem niBoolEq {b : Bool} (hx : s.heap.get? x = some (PySem.W.instObj C dx)) (h : Q .notImplemented s) : wpAny M A (Builtin.«int.__eq__» ⟨[.bool b, .ref x], []⟩) (NiQ Q) E s := by
  obtain ⟨hp, ge, dr, tk, os⟩ := s
  show wpAny M A (Builtin.Int.intBinary _ _ false ⟨[.bool b, .ref x], []⟩) _ E _
  unfold Builtin.Int.intBinary
  wp_walk using wpAny_load hx
  exact ⟨_, rfl, h⟩
theorem niNoneEq (hx : s.heap.get? x = some (PySem.W.instObj C dx)) (h : Q .notImplemented s) : wpAny M A (Builtin.«NoneType.__eq__» ⟨[.none, .ref x], []⟩) (NiQ Q) E s := by
  obtain ⟨hp, ge, dr, tk, os⟩ := s
  unfold Builtin.«NoneType.__eq__»
  wp_walk using wpAny_load hx
  exact ⟨_, rfl, h⟩
theorem niStrEq {z : Str} {t : Tok} (hx : s.heap.get? x = some (PySem.W.instObj C dx)) (h : Q .notImplemented s) : wpAny M A (Builtin.«str.__eq__» ⟨[.str z t, .ref x], []⟩) (NiQ Q) E s := by
  obtain ⟨hp, ge, dr, tk, os⟩ := s
  wp_walk using wpAny_load hx
  exact ⟨_, rfl, h⟩
theorem niListEq {K : PySem.W.Frag} {l : Addr} (X : K.In s.heap) (hs : PySem.W.subIn K (.ref C) (.type "list") = some false) (hx : s.heap.get? x = some (PySem.W.instObj C dx)) (h : Q .notImplemented s) :
    wpAny (model prog w) A (Builtin.«list.__eq__» ⟨[.ref l, .ref x], []⟩) (NiQ Q) E s := by
  have L := PySem.W.looks_subIn (M := model prog w) X hs
  obtain ⟨hp, ge, dr, tk, os⟩ := s
  wp_walk using wpAny_loadPart' hx, L.at
  exact ⟨_, rfl, h⟩
theorem niTupEq {K : PySem.W.Frag} {l : Addr} (X : K.In s.heap) (hs : PySem.W.subIn K (.ref C) (.type "tuple") = some false) (hx : s.heap.get? x = some (PySem.W.instObj C dx)) (h : Q .notImplemented s) :
    wpAny (model prog w) A (Builtin.«tuple.__eq__» ⟨[.ref l, .ref x], []⟩) (NiQ Q) E s := by
  have L := PySem.W.looks_subIn (M := model prog w) X hs
  obtain ⟨hp, ge, dr, tk, os⟩ := s
  wp_walk using wpAny_loadPart' hx, L.at
  exact ⟨_, rfl, h⟩
theorem niDictEq {K : PySem.W.Frag} {l : Addr} (X : K.In s.heap) (hs : PySem.W.subIn K (.ref C) (.type "dict") = some false) (hx : s.heap.get? x = some (PySem.W.instObj C dx)) (h : Q .notImplemented s) :
    wpAny (model prog w) A (Builtin.«dict.__eq__» ⟨[.ref l, .ref x], []⟩) (NiQ Q) E s := by
  have L := PySem.W.looks_subIn (M := model prog w) X hs
  obtain ⟨hp, ge, dr, tk, os⟩ := s
  wp_walk using wpAny_loadPart' hx, L.at
  exact ⟨_, rfl, h⟩
end
/-! comparisons over the layer -/
section
variable {X : Cx} {k : Nat} {C : Addr} {sp : Sp} {op : CmpOp}
/-- the method runs one level within -/
theorem runIn {f : Addr} {fd : FuncData} {ps : List Str} {pins : List (Addr × Obj)} {σ : L2.St} {H : Hp} {s : Shared} {Q : VK} {us : List Value} {vs : List V} (F : FnOk X.prog X.w X.K X.mg X.base CX0 k f fd ps sp) (hr : Room (k + 1) X.A) (hb : Binds X.K fd ps [])
    (I : Inv X pins σ H s) (r : Vals vs us) (h : sp vs H Q E0) : wpAny (model X.prog X.w) X.A.in1 (call (.ref f) us) (EP X pins σ Q) X.xe s := by
  have hl : us.length = ps.length := by
    rw [← r.length]
    exact F.len _ _ _ _ h
  have b0 := hb s us I.kIn (by simpa using hl)
  refine wpAny_call (codeAny_mono (F.run X.A.in1 X.stack s H ⟨us, []⟩ us vs Q E0 hr.in1 (Env0.in1 I.env0) (by simpa using b0) r h) fun r s' hq => ?_)
  cases r with
  | error e => exact hq.elim
  | ok fl =>
    cases fl with
    | ret u => exact I.after hq
    | next => exact False.elim hq
    | brk => exact False.elim hq
    | cont => exact False.elim hq
/-- what stands to the right of an instance: its type is none below the class -/
def NotF (K : PySem.W.Frag) (C : Addr) (H : Hp) (y : V) : Prop := ∃ t, TyX K H y t ∧ PySem.W.notFirst K C t = true
def rCmpL (K : PySem.W.Frag) (C : Addr) (sp : Sp) : R2 := fun x y H Q => ∃ a dx fs, x = .ref a ∧ H a = some (.ins C dx fs) ∧ NotF K C H y ∧ sp [x, y] H Q E0
theorem op_cmpL (hcm : ∀ v u, compareOp op v u = richCompare op v u) (M : OwnM X k C (cmpInfo op).2.1 sp) (hr : Room k X.A) : OpR X (compareOp op) (rCmpL X.K C sp) := by
  intro pins s σ H x y v u Q I rx ry hq
  obtain ⟨a, dx, fs, rfl, ha, ⟨t, ht, hn⟩, q⟩ := hq
  obtain ⟨f, fd, ps, hs, hf, F, hb⟩ := M.ex
  cases rx
  obtain ⟨mA, J, _⟩ := ins_get I.hok ha
  obtain ⟨od, J, _⟩ := J.look
  obtain ⟨m, hF⟩ := I.fr
  obtain ⟨PP, kt, hP, _⟩ := kit_of I ry ht
  have r2 : Vals [V.ref a, y] [Value.ref a, u] := .cons rfl (.cons ry .nil)
  rw [hcm]
  exact PySem.W.cmp_K hr.units0 hF I.ok.mod.kin J (kt.ty _ _ I.kIn hP) hn hs hf (runM F hr hb I r2 q)
/-- x != y over __eq__ -/
def rNeL (K : PySem.W.Frag) (C : Addr) (sp : Sp) : R2 := fun x y H Q => ∃ a dx fs, x = .ref a ∧ H a = some (.ins C dx fs) ∧ NotF K C H y ∧ sp [x, y] H (fun v H' => ∃ b, v = .bl b ∧ Q (.bl (!b)) H') E0
theorem op_neL (M : OwnM X k C "__eq__" sp) (hne : PySem.W.findIn X.K (.ref C) "__ne__" = some (some (.builtin "object.__ne__"))) (hobj : PySem.W.mroIn X.K C (.type "object") = some true) (hr : Room (k + 1) X.A) : OpR X (compareOp .NotEq) (rNeL X.K C sp) := by
  intro pins s σ H x y v u Q I rx ry hq
  obtain ⟨a, dx, fs, rfl, ha, ⟨t, ht, hn⟩, q⟩ := hq
  obtain ⟨f, fd, ps, hs, hf, F, hb⟩ := M.ex
  cases rx
  obtain ⟨mA, J, _⟩ := ins_get I.hok ha
  obtain ⟨od, J, _⟩ := J.look
  obtain ⟨m, hF⟩ := I.fr
  obtain ⟨PP, kt, hP, _⟩ := kit_of I ry ht
  have r2 : Vals [V.ref a, y] [Value.ref a, u] := .cons rfl (.cons ry .nil)
  show wpAny (model X.prog X.w) X.A (richCompare .NotEq (.ref a) u) (EP X pins σ Q) X.xe s
  have hu : X.A.units + 1 < cLine := hu_of hr
  refine neOwn hu hF I.ok.mod.kin J (kt.ty _ _ I.kIn hP) hn hne hobj hs hf (wpAny_mono (runIn F hr hb I r2 q) (fun v s' z => ?_) fun _ _ z => z)
  obtain ⟨v', H', I', rv, b, rfl, q'⟩ := z
  exact ⟨b, rv, .bl (!b), H', I', rfl, q'⟩
/-- a built-in value to the left of an instance -/
inductive Lft (K : PySem.W.Frag) (H : Hp) : V → String → Prop where
  | non : Lft K H .non "NoneType"
  | bl (b : Bool) : Lft K H (.bl b) "bool"
  | int (i : Int) : Lft K H (.int i) "int"
  | str (z : Str) : Lft K H (.str z) "str"
  | lst {a : Addr} {xs : List V} (h : H a = some (.lst xs)) : Lft K H (.ref a) "list"
  | tup {a : Addr} {xs : List V} (h : H a = some (.tup xs)) : Lft K H (.ref a) "tuple"
  | dK {a : Addr} {kvs : List (Key × V)} (h : H a = some (.dK kvs)) : Lft K H (.ref a) "dict"
def rCmpR (K : PySem.W.Frag) (C : Addr) (sp : Sp) : R2 := fun x y H Q => ∃ b dy gs T, y = .ref b ∧ H b = some (.ins C dy gs) ∧ Lft K H x T ∧ PySem.W.subIn K (.ref C) (.type T) = some false ∧ sp [y, x] H Q E0
theorem op_eqR (M : OwnM X k C "__eq__" sp) (hr : Room k X.A) : OpR X (compareOp .Eq) (rCmpR X.K C sp) := by
  intro pins s σ H x y v u Q I rx ry hq
  obtain ⟨b, dy, gs, T, rfl, hb', hx, hsub, q⟩ := hq
  obtain ⟨f, fd, ps, hs, hf, FM, hb⟩ := M.ex
  cases ry
  obtain ⟨mA, J, _⟩ := ins_get I.hok hb'
  obtain ⟨od, J, _⟩ := J.look
  obtain ⟨m, hF⟩ := I.fr
  have r2 : Vals [V.ref b, x] [Value.ref b, v] := .cons rfl (.cons rx .nil)
  have run := runM FM hr hb I r2 q
  show wpAny (model X.prog X.w) X.A (richCompare .Eq v (.ref b)) (EP X pins σ Q) X.xe s
  cases hx with
  | non =>
    cases rx
    exact cmpRefl hr.units0 hF I.ok.mod.kin J (PySem.W.Looks.of_pure rfl) rfl hsub (fun Q' q' => tryC (T := "NoneType") (show s.TypeIs Value.none "NoneType" from rfl) F.slot_NoneType_eq F.entry_NoneType_eq (F.args_NoneType_eq_2 _ _) (fun A' Q2 q2 => niNoneEq J.1 q2) q') hs hf run
  | bl z =>
    cases rx
    exact cmpRefl hr.units0 hF I.ok.mod.kin J (PySem.W.Looks.of_pure rfl) rfl hsub (fun Q' q' => tryC (T := "bool") (show s.TypeIs (Value.bool z) "bool" from rfl) F.slot_bool_eq F.entry_int_eq (F.args_int_eq_2 _ _) (fun A' Q2 q2 => niBoolEq J.1 q2) q') hs hf run
  | int i =>
    obtain ⟨t, rfl⟩ := rx
    exact cmpRefl hr.units0 hF I.ok.mod.kin J (PySem.W.Looks.of_pure rfl) rfl hsub (fun Q' q' => tryC (T := "int") (typeIs_int s i t) F.slot_int_eq F.entry_int_eq (F.args_int_eq_2 _ _) (fun A' Q2 q2 => niBin J.1 q2) q') hs hf run
  | str z =>
    obtain ⟨t, rfl⟩ := rx
    exact cmpRefl hr.units0 hF I.ok.mod.kin J (PySem.W.Looks.of_pure rfl) rfl hsub (fun Q' q' => tryC (T := "str") (show s.TypeIs (Value.str z t) "str" from rfl) F.slot_str_eq F.entry_str_eq (F.args_str_eq_2 _ _) (fun A' Q2 q2 => niStrEq J.1 q2) q') hs hf run
  | lst h =>
    obtain ⟨PP, kt, hP, _⟩ := kit_of I rx (TyX.base (TyOf.lst h))
    cases rx
    obtain ⟨_, _, n, _, h1⟩ := (show ObjOk X.prog X.w H s.heap _ (.lst _) from I.hok _ _ h)
    exact cmpRefl hr.units0 hF I.ok.mod.kin J (kt.ty _ _ I.kIn hP) rfl hsub (fun Q' q' => tryC (T := "list") ⟨_, h1, rfl⟩ F.slot_list_eq F.entry_list_eq (F.args_list_eq_2 _ _) (fun A' Q2 q2 => niListEq I.kIn hsub J.1 q2) q') hs hf run
  | tup h =>
    obtain ⟨PP, kt, hP, _⟩ := kit_of I rx (TyX.base (TyOf.tup h))
    cases rx
    obtain ⟨_, _, _, o, h1, h2, _⟩ := (show ObjOk X.prog X.w H s.heap _ (.tup _) from I.hok _ _ h)
    exact cmpRefl hr.units0 hF I.ok.mod.kin J (kt.ty _ _ I.kIn hP) rfl hsub (fun Q' q' => tryC (T := "tuple") ⟨o, h1, h2⟩ F.slot_tuple_eq F.entry_tuple_eq (F.args_tuple_eq_2 _ _) (fun A' Q2 q2 => niTupEq I.kIn hsub J.1 q2) q') hs hf run
  | dK h =>
    obtain ⟨PP, kt, hP, _⟩ := kit_of I rx (TyX.base (TyOf.dK h))
    cases rx
    obtain ⟨_, _, vs, _, o, es, ep, h1, h2, _⟩ := (show ObjOk X.prog X.w H s.heap _ (.dK _) from I.hok _ _ h)
    exact cmpRefl hr.units0 hF I.ok.mod.kin J (kt.ty _ _ I.kIn hP) rfl hsub (fun Q' q' => tryC (T := "dict") ⟨o, h1, h2.1⟩ F.slot_dict_eq F.entry_dict_eq (F.args_dict_eq_2 _ _) (fun A' Q2 q2 => niDictEq I.kIn hsub J.1 q2) q') hs hf run
/-- int op instance, by the reflected method -/
def rCmpRI (C : Addr) (sp : Sp) : R2 := fun x y H Q => ∃ i b dy gs, x = .int i ∧ y = .ref b ∧ H b = some (.ins C dy gs) ∧ sp [y, x] H Q E0
theorem op_cmpRI {id : String} {B : Builtin} (hcm : ∀ v u, compareOp op v u = richCompare op v u) (M : OwnM X k C (cmpInfo op).2.2 sp) (c : OwnC X.K C) (hr : Room k X.A) (ho : ∀ i t b, oneThing? op (.int i t) (.ref b) = none)
    (slot : Slot "int" (cmpInfo op).2.1 id) (entry : entryFor table id = some B) (args : ∀ a b, argsOk id ⟨[a, b], []⟩)
    (hB : ∀ (i : Int) (t : Tok) (x dx : Addr) (s : Shared) (A' : Around) (E : Value → Shared → Prop) (Q' : Value → Shared → Prop), s.heap.get? x = some (PySem.W.instObj C dx) → Q' .notImplemented s →
      wpAny (model X.prog X.w) A' (B ⟨[.int i t, .ref x], []⟩) (fun fin s' => ∃ v, fin = PySem.Fin.done (.ret v) ∧ Q' v s') E s) : OpR X (compareOp op) (rCmpRI C sp) := by
  intro pins s σ H x y v u Q I rx ry hq
  obtain ⟨i, b, dy, gs, rfl, rfl, hb', q⟩ := hq
  obtain ⟨f, fd, ps, hs, hf, FM, hb⟩ := M.ex
  obtain ⟨t, rfl⟩ := rx
  cases ry
  obtain ⟨mA, J, _⟩ := ins_get I.hok hb'
  obtain ⟨od, J, _⟩ := J.look
  obtain ⟨m, hF⟩ := I.fr
  have r2 : Vals [V.ref b, V.int i] [Value.ref b, Value.int i t] := .cons rfl (.cons ⟨_, rfl⟩ .nil)
  rw [hcm]
  exact cmpRefl hr.units0 hF I.ok.mod.kin J (PySem.W.Looks.of_pure rfl) (ho _ _ _) c.subC (fun Q' q' => tryC (T := "int") (typeIs_int s i t) slot entry (args _ _) (fun A' Q2 q2 => hB _ _ _ _ _ _ _ _ J.1 q2) q') hs hf (runM FM hr hb I r2 q)
theorem op_ltR (M : OwnM X k C "__gt__" sp) (c : OwnC X.K C) (hr : Room k X.A) : OpR X (compareOp .Lt) (rCmpRI C sp) :=
  op_cmpRI (op := .Lt) (fun _ _ => rfl) M c hr (fun _ _ _ => rfl) F.slot_int_lt F.entry_int_lt F.args_int_lt_2 fun i t x dx s A' E Q' hx q => niBin hx q
theorem op_leR (M : OwnM X k C "__ge__" sp) (c : OwnC X.K C) (hr : Room k X.A) : OpR X (compareOp .LtE) (rCmpRI C sp) :=
  op_cmpRI (op := .LtE) (fun _ _ => rfl) M c hr (fun _ _ _ => rfl) F.slot_int_le F.entry_int_le F.args_int_le_2 fun i t x dx s A' E Q' hx q => niBin hx q
theorem op_gtR (M : OwnM X k C "__lt__" sp) (c : OwnC X.K C) (hr : Room k X.A) : OpR X (compareOp .Gt) (rCmpRI C sp) :=
  op_cmpRI (op := .Gt) (fun _ _ => rfl) M c hr (fun _ _ _ => rfl) F.slot_int_gt F.entry_int_gt F.args_int_gt_2 fun i t x dx s A' E Q' hx q => niBin hx q
theorem op_geR (M : OwnM X k C "__le__" sp) (c : OwnC X.K C) (hr : Room k X.A) : OpR X (compareOp .GtE) (rCmpRI C sp) :=
  op_cmpRI (op := .GtE) (fun _ _ => rfl) M c hr (fun _ _ _ => rfl) F.slot_int_ge F.entry_int_ge F.args_int_ge_2 fun i t x dx s A' E Q' hx q => niBin hx q
theorem op_ltL (M : OwnM X k C "__lt__" sp) (hr : Room k X.A) : OpR X (compareOp .Lt) (rCmpL X.K C sp) := op_cmpL (op := .Lt) (fun _ _ => rfl) M hr
theorem op_leL (M : OwnM X k C "__le__" sp) (hr : Room k X.A) : OpR X (compareOp .LtE) (rCmpL X.K C sp) := op_cmpL (op := .LtE) (fun _ _ => rfl) M hr
theorem op_gtL (M : OwnM X k C "__gt__" sp) (hr : Room k X.A) : OpR X (compareOp .Gt) (rCmpL X.K C sp) := op_cmpL (op := .Gt) (fun _ _ => rfl) M hr
theorem op_geL (M : OwnM X k C "__ge__" sp) (hr : Room k X.A) : OpR X (compareOp .GtE) (rCmpL X.K C sp) := op_cmpL (op := .GtE) (fun _ _ => rfl) M hr
theorem op_eqL (M : OwnM X k C "__eq__" sp) (hr : Room k X.A) : OpR X (compareOp .Eq) (rCmpL X.K C sp) := op_cmpL (op := .Eq) (fun _ _ => rfl) M hr
end
end LV
set_option Elab.async false
set_option linter.all false
set_option maxRecDepth 100000
set_option maxHeartbeats 2000000
/-! == of lists and tuples of own instances, with its answer -/
namespace GB
open PySem PySem.SeqAt
open AutoSeq1 (wpAny_loadPart')
open MeetsSeq MeetsSeq2 MeetsSeq3 SeqRoads2
open GQ (FinOf call_here)
section
variable {prog : Program} {w : World} {A : Around} {R : Result → Shared → Prop}
/-- the two lists as they are read -/
def LRead (l b : Addr) (N : Nat) (s : Shared) (P : Array Value → Array Value → Prop) : Prop :=
  ∃ (items items2 : Array Value) (n n2 : Nat), s.heap.get? l = some { cls := .type "list", data := .seq items n } ∧ s.heap.get? b = some { cls := .type "list", data := .seq items2 n2 } ∧ items.size = N ∧ items2.size = N ∧ P items items2
def ListB (prog : Program) (w : World) (A : Around) (E : Value → Shared → Prop) (l b : Addr) (N : Nat) (I : Nat → Shared → Prop) (Fs : Shared → Prop) : Prop :=
  (∀ i s, I i s → LRead l b N s fun items items2 => ∀ (h1 : i < items.size) (h2 : i < items2.size), wpAny (model prog w) A.in1 (eqBool items[i] items2[i]) (fun r s' => (r = true ∧ I (i + 1) s') ∨ (r = false ∧ Fs s')) E s) ∧
  ∀ s, Fs s → LRead l b N s fun _ _ => True
theorem eq_loopB (l b : Addr) (N : Nat) (I : Nat → Shared → Prop) (Fs : Shared → Prop) (hl : ListB prog w A (fun e s' => R (.error e) s') l b N I Fs)
    (fin : ∀ s, I N s → R (.ok (.ret (.bool true))) s) (ff : ∀ s, Fs s → R (.ok (.ret (.bool false))) s) (k : Nat) :
    ∀ i : Nat, N - i = k → i ≤ N → ∀ s, I i s →
      wpAny (model prog w) A.in1 (Builtin.«list.__eq__.loop» ⟨[.ref l, .ref b, rawInt i, rawInt 2], []⟩) (FinOf prog w A R) (fun e s' => R (.error e) s') s := by
  induction k with
  | zero =>
    intro i hk hi s h
    obtain ⟨items, items2, n, n2, hl1, hb1, hs1, hs2, _⟩ := hl.1 _ _ h
    have hi' : i = N := by omega
    have hR : R (.ok (.ret (.bool true))) s := fin s (hi' ▸ h)
    obtain ⟨hp, g, d, tk, os⟩ := s
    wp_walk using wpAny_loadPart' hl1, wpAny_loadPart' hb1
    have hi1 : items[((i : Nat) : Int).toNat]? = none := by simp; omega
    have hi2 : items2[((i : Nat) : Int).toNat]? = none := by simp; omega
    rw [hi1, hi2]
    wp_walk using wpAny_loadPart' hl1, wpAny_loadPart' hb1
    show R (.ok (.ret (.bool (items.size == items2.size)))) _
    rw [hs1, hs2]
    simpa using hR
  | succ k ih =>
    intro i hk hi s h
    obtain ⟨items, items2, n, n2, hl1, hb1, hs1, hs2, turn⟩ := hl.1 _ _ h
    have hlt : i < items.size := by omega
    have hlt2 : i < items2.size := by omega
    have ht := turn hlt hlt2
    obtain ⟨hp, g, d, tk, os⟩ := s
    wp_walk using wpAny_loadPart' hl1, wpAny_loadPart' hb1
    have hi1 : items[((i : Nat) : Int).toNat]? = some items[i] := by simp [hlt]
    have hi2 : items2[((i : Nat) : Int).toNat]? = some items2[i] := by simp [hlt2]
    have hc : ((i : Int) + 1) = ((i + 1 : Nat) : Int) := by omega
    rw [hi1, hi2]
    refine wpAny_bind (wpAny_mono ht (fun r s2 h2 => ?_) fun _ _ x => x)
    rcases h2 with ⟨hr, h2⟩ | ⟨hr, h2⟩
    · subst hr
      have hrec := ih (i + 1) (by omega) (by omega) s2 h2
      obtain ⟨hp2, g2, d2, tk2, os2⟩ := s2
      wp_walk
      rw [hc]
      exact ⟨plainId_quiet plain_eq_loop _, codeAny_builtin entry_eq_loop (by
        rw [Around.under_plainId plain_eq_loop _]
        exact hrec)⟩
    · subst hr
      obtain ⟨jt, jt2, m, m2, kl, kb, z1, z2, _⟩ := hl.2 _ h2
      have hR := ff s2 h2
      obtain ⟨hp2, g2, d2, tk2, os2⟩ := s2
      wp_walk using wpAny_loadPart' kl, wpAny_loadPart' kb
      have hj1 : jt[((i : Nat) : Int).toNat]? = some (jt[i]'(by omega)) := by
        have : i < jt.size := by omega
        simp [this]
      have hj2 : jt2[((i : Nat) : Int).toNat]? = some (jt2[i]'(by omega)) := by
        have : i < jt2.size := by omega
        simp [this]
      rw [hj1, hj2]
      wp_walk
      exact hR
theorem list_eqB (l b : Addr) (N : Nat) (I : Nat → Shared → Prop) (Fs : Shared → Prop) (hl : ListB prog w A (fun e s' => R (.error e) s') l b N I Fs)
    (fin : ∀ s, I N s → R (.ok (.ret (.bool true))) s) (ff : ∀ s, Fs s → R (.ok (.ret (.bool false))) s) {s : Shared} (h : I 0 s) :
    wpAny (model prog w) A.in1 (Builtin.«list.__eq__» ⟨[.ref l, .ref b], []⟩) (FinOf prog w A R) (fun e s' => R (.error e) s') s := by
  obtain ⟨items, items2, n, n2, hl1, hb1, hs1, hs2, _⟩ := hl.1 _ _ h
  have hrec := eq_loopB (A := A) (R := R) l b N I Fs hl fin ff _ 0 rfl (Nat.zero_le _) s h
  obtain ⟨hp, g, d, tk, os⟩ := s
  have f3 := AutoSeq1.sub_list_list
  have hne : ¬ (items.size != items2.size) = true := by simp [hs1, hs2]
  wp_walk using wpAny_loadPart' hl1, wpAny_loadPart' hb1
  exact ⟨plainId_quiet plain_eq_loop _, codeAny_builtin entry_eq_loop (by
    rw [Around.under_plainId plain_eq_loop _]
    exact hrec)⟩
theorem tuple_eqB (l b : Addr) (items items2 : Array Value) (n n2 : Nat) (dd dd2 : Option Addr) (sl sl2 : Array (Option Value)) (hsz : items.size = items2.size) (I : Nat → Shared → Prop) (Fs : Shared → Prop)
    (turn : ∀ i (h1 : i < items.size) (h2 : i < items2.size) s, I i s → wpAny (model prog w) A.in1 (eqBool items[i] items2[i]) (fun r s' => (r = true ∧ I (i + 1) s') ∨ (r = false ∧ Fs s')) (fun e s' => R (.error e) s') s)
    (fin : ∀ s, I items.size s → R (.ok (.ret (.bool true))) s) (ff : ∀ s, Fs s → R (.ok (.ret (.bool false))) s) {s : Shared} (hl1 : s.heap.get? l = some { cls := .type "tuple", dict := dd, data := .seq items n, slots := sl }) (hb1 : s.heap.get? b = some { cls := .type "tuple", dict := dd2, data := .seq items2 n2, slots := sl2 }) (h : I 0 s) :
    wpAny (model prog w) A.in1 (Builtin.«tuple.__eq__» ⟨[.ref l, .ref b], []⟩) (FinOf prog w A R) (fun e s' => R (.error e) s') s := by
  have f2 := AutoSeq1.sub_tuple_tuple
  have hZ : (items.toList.zip items2.toList).length = items.size := by simp [hsz]
  have h0 := h
  obtain ⟨hp, g, d, tk, os⟩ := s
  wp_walk using wpAny_loadPart' hl1, wpAny_loadPart' hb1, wpAny_forIn_list _ (fun rest b s' => (b.1 = none ∧ ∃ i, rest = (items.toList.zip items2.toList).drop i ∧ i ≤ items.size ∧ I i s') ) _
  case turn =>
    rintro ⟨y, x⟩ rest b s' ⟨hb', i, hz, hi, hI⟩
    have hlt : i < (items.toList.zip items2.toList).length := by
      rcases Nat.lt_or_ge i (items.toList.zip items2.toList).length with h' | h'
      · exact h'
      · rw [List.drop_of_length_le h'] at hz; cases hz
    have h1 : i < items.size := hZ ▸ hlt
    have h2 : i < items2.size := hsz ▸ h1
    rw [List.drop_eq_getElem_cons hlt] at hz
    injection hz with hyx hrest
    have hy : y = items[i] := by have := congrArg Prod.fst hyx; simpa using this
    have hx : x = items2[i] := by have := congrArg Prod.snd hyx; simpa using this
    subst hy hx
    refine wpAny_bind (wpAny_mono (turn i h1 h2 s' hI) (fun r s2 q2 => ?_) fun _ _ x => x)
    rcases q2 with ⟨hr, q2⟩ | ⟨hr, q2⟩
    · subst hr
      wp_walk
      exact ⟨rfl, i + 1, hrest, h1, q2⟩
    · subst hr
      wp_walk
      exact ff _ q2
  case fin =>
    rintro ⟨b1, b2⟩ s' ⟨hb', i, hz, hi, hI⟩
    simp only at hb'
    subst hb'
    have hge : items.size ≤ i := by
      rcases Nat.lt_or_ge i (items.toList.zip items2.toList).length with h' | h'
      · rw [List.drop_eq_getElem_cons h'] at hz; cases hz
      · exact hZ ▸ h'
    have hi' : i = items.size := by omega
    have hR : R (.ok (.ret (.bool true))) s' := fin s' (hi' ▸ hI)
    wp_walk
    simpa [Builtin.Tuple.tupleCompareSizes, hsz] using hR
  case h =>
    exact ⟨rfl, 0, rfl, Nat.zero_le _, h0⟩
end
section
variable {prog : Program} {w : World} {A : Around} {E : Value → Shared → Prop} {s : Shared}
theorem rc_listB {l b : Addr} {N : Nat} {Q : Value → Shared → Prop} (hu : A.units < cLine) (I : Nat → Shared → Prop) (Fs : Shared → Prop) (hl : ListB prog w A E l b N I Fs)
    (fin : ∀ s, I N s → Q (.bool true) s) (ff : ∀ s, Fs s → Q (.bool false) s) (h : I 0 s) : wpAny (model prog w) A (richCompare .Eq (.ref l) (.ref b)) Q E s := by
  obtain ⟨items, items2, n, n2, hl1, hb1, _, _, _⟩ := hl.1 _ _ h
  refine wpAny_richCompare_same_room (op := .Eq) ⟨_, hl1, rfl⟩ ⟨_, hb1, rfl⟩ F.slot_list_eq (call_here F.slot_list_eq ⟨_, hl1, rfl⟩ F.entry_list_eq (F.args_list_eq_2 _ _) ?_) hu
  exact list_eqB (R := wants (fun v s' => v ≠ .notImplemented ∧ Q v s') E) l b N I Fs hl (fun s' q => ⟨(fun x => nomatch x), fin s' q⟩) (fun s' q => ⟨(fun x => nomatch x), ff s' q⟩) h
theorem rc_tupB {l b : Addr} {items items2 : Array Value} {Q : Value → Shared → Prop} (hsz : items.size = items2.size) (hu : A.units < cLine) (I : Nat → Shared → Prop) (Fs : Shared → Prop)
    (hl : s.heap.IsTuple l items) (hb : s.heap.IsTuple b items2)
    (turn : ∀ i (h1 : i < items.size) (h2 : i < items2.size) s, I i s → wpAny (model prog w) A.in1 (eqBool items[i] items2[i]) (fun r s' => (r = true ∧ I (i + 1) s') ∨ (r = false ∧ Fs s')) E s)
    (fin : ∀ s, I items.size s → Q (.bool true) s) (ff : ∀ s, Fs s → Q (.bool false) s) (h : I 0 s) : wpAny (model prog w) A (richCompare .Eq (.ref l) (.ref b)) Q E s := by
  obtain ⟨⟨cls, dd, data, sl⟩, ho, hc, n, hd⟩ := id hl
  obtain ⟨⟨cls2, dd2, data2, sl2⟩, ho2, hc2, n2, hd2⟩ := id hb
  simp only at hc hd hc2 hd2
  subst hc hd hc2 hd2
  refine wpAny_richCompare_same_room (op := .Eq) ⟨_, ho, rfl⟩ ⟨_, ho2, rfl⟩ F.slot_tuple_eq (call_here F.slot_tuple_eq ⟨_, ho, rfl⟩ F.entry_tuple_eq (F.args_tuple_eq_2 _ _) ?_) hu
  exact tuple_eqB (R := wants (fun v s' => v ≠ .notImplemented ∧ Q v s') E) l b items items2 n n2 dd dd2 sl sl2 hsz I Fs turn (fun s' q => ⟨(fun x => nomatch x), fin s' q⟩) (fun s' q => ⟨(fun x => nomatch x), ff s' q⟩) ho ho2 h
end
end GB
namespace LV
open PySem PySem.Spec PyProof.Rows L2
abbrev EqvB := V → V → Bool → Hp → Prop
def MonB (D : EqvB) : Prop := ∀ x y b H H', Ext H H' → D x y b H → D x y b H'
def RflB (D : EqvB) : Prop := ∀ x b H, D x x b H → b = true
def EqB (X : Cx) (n : Nat) (D : EqvB) : Prop :=
  ∀ (A : Around) (pins : List (Addr × Obj)) (s : Shared) (σ : L2.St) (H : Hp) (x y : V) (u v : Value) (b : Bool), Sub X n A → Inv X pins σ H s → RelV x u → RelV y v → D x y b H →
    wpAny (model X.prog X.w) A (eqBool u v) (fun r s' => r = b ∧ ∃ H', Inv X pins σ H' s' ∧ Ext H H') X.xe s
def RcB (X : Cx) (n : Nat) (D : EqvB) : Prop :=
  ∀ (A : Around) (pins : List (Addr × Obj)) (s : Shared) (σ : L2.St) (H : Hp) (x y : V) (u v : Value) (b : Bool), Sub X n A → Inv X pins σ H s → RelV x u → RelV y v → D x y b H →
    wpAny (model X.prog X.w) A (richCompare .Eq u v) (fun r s' => r = .bool b ∧ ∃ H', Inv X pins σ H' s' ∧ Ext H H') X.xe s
section
variable {X : Cx} {n m : Nat} {D D' : EqvB}
/-- item by item: the answers -/
def PrsB (D : EqvB) (xs ys : List V) (f : Nat → Bool) (H : Hp) : Prop := xs.length = ys.length ∧ ∀ (i : Nat) x y, xs[i]? = some x → ys[i]? = some y → D x y (f i) H
theorem PrsB.mon (hD : MonB D) {xs ys : List V} {f : Nat → Bool} {H H' : Hp} (e : Ext H H') (p : PrsB D xs ys f H) : PrsB D xs ys f H' := ⟨p.1, fun i x y h1 h2 => hD x y _ H H' e (p.2 i x y h1 h2)⟩
theorem turnB (hD : MonB D) (h : EqB X n D) {A : Around} (sb : Sub X (n + 1) A) {pins : List (Addr × Obj)} {σ : L2.St} {H : Hp} {xs ys : List V} {f : Nat → Bool} {its its2 : List Value} (p : PrsB D xs ys f H) (r : Vals xs its) (r2 : Vals ys its2)
    (i : Nat) (h1 : i < its.toArray.size) (h2 : i < its2.toArray.size) (s' : Shared) (l : LoopI X pins σ H s') :
    wpAny (model X.prog X.w) A.in1 (eqBool its.toArray[i] its2.toArray[i]) (fun r s2 => r = f i ∧ LoopI X pins σ H s2) X.xe s' := by
  obtain ⟨H1, I1, e1⟩ := l
  have g1 : its[i]? = some its.toArray[i] := by
    have h1' : i < its.length := by simpa using h1
    rw [List.getElem?_eq_getElem h1'] <;> simp
  have g2 : its2[i]? = some its2.toArray[i] := by
    have h2' : i < its2.length := by simpa using h2
    rw [List.getElem?_eq_getElem h2'] <;> simp
  have k1 : i < xs.length := by rw [r.length]; simpa using h1
  have k2 : i < ys.length := by rw [r2.length]; simpa using h2
  obtain ⟨u, hu, ru⟩ := r.get (List.getElem?_eq_getElem k1)
  obtain ⟨v, hv, rv⟩ := r2.get (List.getElem?_eq_getElem k2)
  rw [g1] at hu
  rw [g2] at hv
  rw [Option.some.inj hu, Option.some.inj hv]
  refine wpAny_mono (h A.in1 pins s' σ H1 _ _ u v _ sb.in1 I1 ru rv (hD _ _ _ _ _ e1 (p.2 i _ _ (List.getElem?_eq_getElem k1) (List.getElem?_eq_getElem k2)))) (fun r s2 q => ?_) fun _ _ x => x
  obtain ⟨hr, H2, I2, e2⟩ := q
  exact ⟨hr, H2, I2, e1.trans e2⟩
def DLstB (D : EqvB) : EqvB := fun x y b H => ∃ (a c : Addr) (xs ys : List V), x = .ref a ∧ y = .ref c ∧ H a = some (.lst xs) ∧ H c = some (.lst ys) ∧ ((xs.length ≠ ys.length ∧ b = false) ∨ ∃ f, PrsB D xs ys f H ∧ b = (List.range xs.length).all f)
def DTupB (D : EqvB) : EqvB := fun x y b H => ∃ (a c : Addr) (xs ys : List V), x = .ref a ∧ y = .ref c ∧ H a = some (.tup xs) ∧ H c = some (.tup ys) ∧ ∃ f, PrsB D xs ys f H ∧ b = (List.range xs.length).all f
theorem monB_lst (hD : MonB D) : MonB (DLstB D) := fun x y b H H' e d => by
  obtain ⟨a, c, xs, ys, hx, hy, h1, h2, p⟩ := d
  exact ⟨a, c, xs, ys, hx, hy, e _ _ h1, e _ _ h2, p.imp id fun ⟨f, p, q⟩ => ⟨f, p.mon hD e, q⟩⟩
theorem monB_tup (hD : MonB D) : MonB (DTupB D) := fun x y b H H' e d => by
  obtain ⟨a, c, xs, ys, hx, hy, h1, h2, f, p, q⟩ := d
  exact ⟨a, c, xs, ys, hx, hy, e _ _ h1, e _ _ h2, f, p.mon hD e, q⟩
theorem rflB_prs (hR : RflB D) {xs : List V} {f : Nat → Bool} {H : Hp} (p : PrsB D xs xs f H) : (List.range xs.length).all f = true := by
  rw [List.all_eq_true]
  intro i hi
  have hi' : i < xs.length := by simpa using hi
  exact hR _ _ _ (p.2 i _ _ (List.getElem?_eq_getElem hi') (List.getElem?_eq_getElem hi'))
theorem rflB_tup (hR : RflB D) : RflB (DTupB D) := fun x b H d => by
  obtain ⟨a, c, xs, ys, rfl, hy, h1, h2, f, p, q⟩ := d
  cases hy
  rw [h1] at h2
  cases h2
  rw [q, rflB_prs hR p]
theorem rflB_lst (hR : RflB D) : RflB (DLstB D) := fun x b H d => by
  obtain ⟨a, c, xs, ys, rfl, hy, h1, h2, p⟩ := d
  cases hy
  rw [h1] at h2
  cases h2
  rcases p with ⟨n, _⟩ | ⟨f, p, q⟩
  · exact absurd rfl n
  · rw [q, rflB_prs hR p]
theorem all_f {f : Nat → Bool} {N : Nat} (h : ∀ j, j < N → f j = true) : (List.range N).all f = true := by
  rw [List.all_eq_true]
  intro i hi
  exact h i (by simpa using hi)
theorem not_f {f : Nat → Bool} {N j : Nat} (hj : j < N) (h : f j = false) : (List.range N).all f = false := by
  cases z : (List.range N).all f with
  | false => rfl
  | true =>
    rw [List.all_eq_true] at z
    have := z j (by simpa using hj)
    rw [h] at this
    cases this
theorem rcB_lst (hD : MonB D) (h : EqB X n D) : RcB X (n + 1) (DLstB D) := by
  intro A pins s σ H x y u v b sb I rx ry d
  obtain ⟨a, c, xs, ys, rfl, rfl, ha, hb, p⟩ := d
  cases rx
  cases ry
  rcases p with ⟨ne, rfl⟩ | ⟨f, p, rfl⟩
  · obtain ⟨z, its, k, r, e⟩ := I.hok a _ ha
    obtain ⟨z2, its2, k2, r2, e2⟩ := I.hok c _ hb
    refine richCompare_meets_room (op := .Eq) ⟨_, e, rfl⟩ ⟨_, e2, rfl⟩ F.slot_list_eq F.entry_list_eq (F.args_list_eq_2 _ _) (SeqAt.list_eq_lengthsAt a c _ _ k k2 _ _ _ _ ?_) ⟨e, e2, ?_⟩ sb.room.units0
    · rw [List.size_toArray, List.size_toArray, ← r.length, ← r2.length]
      simpa using ne
    · exact ⟨(fun x => nomatch x), rfl, H, I, Ext.rfl'⟩
  · refine GB.rc_listB (N := xs.length) sb.room.units0 (fun i s' => LoopI X pins σ H s' ∧ ∀ j, j < i → f j = true) (fun s' => LoopI X pins σ H s' ∧ ∃ j, j < xs.length ∧ f j = false) ⟨fun i s' q => ?_, fun s' q => ?_⟩
      (fun s' q => ⟨by rw [all_f q.2], q.1⟩) (fun s' ⟨q, j, hj, hf⟩ => ⟨by rw [not_f hj hf], q⟩) ⟨⟨H, I, Ext.rfl'⟩, fun j hj => absurd hj (Nat.not_lt_zero j)⟩
    · obtain ⟨q, qf⟩ := q
      obtain ⟨H1, I1, e1⟩ := id q
      obtain ⟨z, its, k, r, e⟩ := I1.hok a _ (e1 _ _ ha)
      obtain ⟨z2, its2, k2, r2, e2⟩ := I1.hok c _ (e1 _ _ hb)
      refine ⟨its.toArray, its2.toArray, k, k2, e, e2, by rw [List.size_toArray, ← r.length], by rw [List.size_toArray, ← r2.length, ← p.1], fun h1 h2 => ?_⟩
      refine wpAny_mono (turnB hD h sb p r r2 i h1 h2 s' q) (fun w s2 z => ?_) fun _ _ x => x
      obtain ⟨hw, z⟩ := z
      cases hf : f i with
      | true =>
        refine .inl ⟨hw.trans hf, z, fun j hj => ?_⟩
        by_cases hji : j = i
        · rw [hji]; exact hf
        · exact qf j (by omega)
      | false =>
        refine .inr ⟨hw.trans hf, z, i, ?_, hf⟩
        rw [r.length]
        simpa using h1
    · obtain ⟨q, _⟩ := q
      obtain ⟨H1, I1, e1⟩ := id q
      obtain ⟨z, its, k, r, e⟩ := I1.hok a _ (e1 _ _ ha)
      obtain ⟨z2, its2, k2, r2, e2⟩ := I1.hok c _ (e1 _ _ hb)
      exact ⟨its.toArray, its2.toArray, k, k2, e, e2, by rw [List.size_toArray, ← r.length], by rw [List.size_toArray, ← r2.length, ← p.1], trivial⟩
theorem rcB_tup (hD : MonB D) (h : EqB X n D) : RcB X (n + 1) (DTupB D) := by
  intro A pins s σ H x y u v b sb I rx ry d
  obtain ⟨a, c, xs, ys, rfl, rfl, ha, hb, f, p, rfl⟩ := d
  cases rx
  cases ry
  obtain ⟨its, r, e, z⟩ := I.tuple (SqT.of ha)
  obtain ⟨its2, r2, e2, z2⟩ := I.tuple (SqT.of hb)
  have hsz : its.toArray.size = its2.toArray.size := by rw [List.size_toArray, List.size_toArray, ← r.length, ← r2.length]; exact p.1
  refine GB.rc_tupB hsz sb.room.units0 (fun i s' => LoopI X pins σ H s' ∧ ∀ j, j < i → f j = true) (fun s' => LoopI X pins σ H s' ∧ ∃ j, j < xs.length ∧ f j = false) e e2 (fun i h1 h2 s' q => ?_)
    (fun s' q => ⟨by rw [all_f fun j hj => q.2 j (by rw [List.size_toArray, ← r.length]; exact hj)], q.1⟩) (fun s' ⟨q, j, hj, hf⟩ => ⟨by rw [not_f hj hf], q⟩) ⟨⟨H, I, Ext.rfl'⟩, fun j hj => absurd hj (Nat.not_lt_zero j)⟩
  obtain ⟨q, qf⟩ := q
  refine wpAny_mono (turnB hD h sb p r r2 i h1 h2 s' q) (fun w s2 z => ?_) fun _ _ x => x
  obtain ⟨hw, z⟩ := z
  cases hf : f i with
  | true =>
    refine .inl ⟨hw.trans hf, z, fun j hj => ?_⟩
    by_cases hji : j = i
    · rw [hji]; exact hf
    · exact qf j (by omega)
  | false =>
    refine .inr ⟨hw.trans hf, z, i, ?_, hf⟩
    rw [r.length]
    simpa using h1
/-- instances with the text's own == -/
def DInsB (C : Addr) (sp : Sp) : EqvB := fun x y b H => (∃ a c dx dy fs gs, x = .ref a ∧ y = .ref c ∧ H a = some (.ins C dx fs) ∧ H c = some (.ins C dy gs)) ∧ (∀ H', Ext H H' → sp [x, y] H' (fun v H'' => v = .bl b ∧ Ext H' H'') E0) ∧ (x = y → b = true)
theorem monB_ins {C : Addr} {sp : Sp} : MonB (DInsB C sp) := fun x y b H H' e d => by
  obtain ⟨⟨a, c, dx, dy, fs, gs, hx, hy, h1, h2⟩, r, q⟩ := d
  exact ⟨⟨a, c, dx, dy, fs, gs, hx, hy, e _ _ h1, e _ _ h2⟩, fun H'' e' => r H'' (e.trans e'), q⟩
theorem rflB_ins {C : Addr} {sp : Sp} : RflB (DInsB C sp) := fun x b H d => d.2.2 rfl
theorem rcB_ins {C : Addr} {sp : Sp} (M : OwnM X n C "__eq__" sp) : RcB X n (DInsB C sp) := by
  intro A pins s σ H x y u v b sb I rx ry d
  obtain ⟨f, fd, ps, hs, hf, F, hbd⟩ := M.ex
  obtain ⟨⟨a, c, dx, dy, fs, gs, rfl, rfl, ha, hb'⟩, hr, _⟩ := d
  cases rx
  cases ry
  obtain ⟨mA, J, _⟩ := ins_get I.hok ha
  obtain ⟨mB, J', _⟩ := ins_get I.hok hb'
  obtain ⟨od, J, _⟩ := J.look
  obtain ⟨od', J', _⟩ := J'.look
  obtain ⟨m, hF⟩ := I.fr
  refine PySem.W.cmp_K (op := .Eq) (tb := .ref C) sb.room.units0 hF I.ok.mod.kin J J'.type (by simp [PySem.W.notFirst]) hs hf ?_
  have hsp := hr H Ext.rfl'
  have e0 : Env0 X.prog X.w X.K X.mg X.base A X.stack s H := by
    have e := I.env0
    exact ⟨by rw [sb.fr]; exact e.frames, e.mod, e.bs, e.bsz, e.funs, e.frf, e.hok, e.bare⟩
  have hl := F.len _ _ _ _ hsp
  have r2 : Vals [V.ref a, V.ref c] [Value.ref a, Value.ref c] := .cons rfl (.cons rfl .nil)
  refine wpAny_call (codeAny_mono (F.run A X.stack s H ⟨[.ref a, .ref c], []⟩ [.ref a, .ref c] [.ref a, .ref c] _ E0 sb.room e0 (by
    have := hbd s [.ref a, .ref c] I.kIn (by simpa using hl)
    simpa using this) r2 hsp) fun r s' hq => ?_)
  cases r with
  | error e => exact (show False from hq).elim
  | ok fl =>
    cases fl with
    | ret w =>
      obtain ⟨z, H', I', rz, ez, ex⟩ := I.after hq
      subst ez
      cases rz
      exact ⟨rfl, H', I', ex⟩
    | next => exact False.elim hq
    | brk => exact False.elim hq
    | cont => exact False.elim hq
theorem RcB.eqB (h : RcB X n D) (hR : RflB D) (hr : ∀ x y b H, D x y b H → ∃ a c, x = .ref a ∧ y = .ref c) : EqB X n D := by
  intro A pins s σ H x y u v b sb I rx ry d
  obtain ⟨a, c, rfl, rfl⟩ := hr _ _ _ _ d
  cases rx
  cases ry
  by_cases hab : a = c
  · subst hab
    exact SeqAt.EqAt.same (A := A) (s := s) (.ref a) X.prog X.w X.xe _ ⟨(hR _ _ _ d).symm, H, I, Ext.rfl'⟩
  · refine GQ.eqBool_refG hab (wpAny_mono (h A pins s σ H (.ref a) (.ref c) _ _ b sb I rfl rfl d) (fun r s' q => ?_) fun _ _ x => x)
    obtain ⟨hr', q⟩ := q
    exact ⟨b, hr', rfl, q⟩
theorem eqB_tup (hD : MonB D) (hR : RflB D) (h : EqB X n D) : EqB X (n + 1) (DTupB D) := (rcB_tup hD h).eqB (rflB_tup hR) fun _ _ _ _ d => let ⟨a, b, _, _, hx, hy, _⟩ := d; ⟨a, b, hx, hy⟩
theorem eqB_ins {C : Addr} {sp : Sp} (M : OwnM X n C "__eq__" sp) : EqB X n (DInsB C sp) := (rcB_ins M).eqB rflB_ins fun _ _ _ _ d => let ⟨⟨a, b, _, _, _, _, hx, hy, _⟩, _⟩ := d; ⟨a, b, hx, hy⟩
def rEqB (D : EqvB) : R2 := fun x y H Q => ∃ b, D x y b H ∧ ∀ H', Ext H H' → Q (.bl b) H'
theorem op_eqB (h : RcB X n D) (hr : Room n X.A) : OpR X (compareOp .Eq) (rEqB D) := by
  intro pins s σ H x y v u Q I rx ry hq
  obtain ⟨b, d, q⟩ := hq
  show wpAny (model X.prog X.w) X.A (richCompare .Eq v u) (EP X pins σ Q) X.xe s
  refine wpAny_mono (h X.A pins s σ H x y v u b ⟨hr, rfl⟩ I rx ry d) (fun r s' z => ?_) fun _ _ x => x
  obtain ⟨hr', H', I', e⟩ := z
  subst hr'
  exact ⟨.bl b, H', I', rfl, q H' e⟩
/-- lists of pairs of such instances -/
abbrev DRows (C : Addr) (sp : Sp) : EqvB := DLstB (DTupB (DInsB C sp))
theorem op_eqRows {C : Addr} {sp : Sp} (M : OwnM X n C "__eq__" sp) (hr : Room (n + 2) X.A) : OpR X (compareOp .Eq) (rEqB (DRows C sp)) :=
  op_eqB (rcB_lst (monB_tup monB_ins) (eqB_tup monB_ins rflB_ins (eqB_ins M))) hr
/-! xs != [] -/
def rNeNil : R2 := fun x y H Q => ∃ a c xs, x = .ref a ∧ y = .ref c ∧ H a = some (.lst xs) ∧ H c = some (.lst []) ∧ Q (.bl (!decide (xs = []))) H
theorem op_neNil (hu : X.A.units < cLine) : OpR X (compareOp .NotEq) rNeNil := by
  intro pins s σ H x y v u Q I rx ry h
  obtain ⟨a, c, xs, rfl, rfl, ha, hc, q⟩ := h
  cases rx
  cases ry
  obtain ⟨z, its, k, r, e⟩ := I.hok a _ ha
  obtain ⟨z2, its2, k2, r2, e2⟩ := I.hok c _ hc
  have e2n : its2 = [] := by
    have := r2.length
    cases its2 with
    | nil => rfl
    | cons _ _ => simp at this
  subst e2n
  have L1 : s.heap.IsList a its.toArray := ⟨_, e, rfl, _, rfl⟩
  have L2 : s.heap.IsList c ([] : List Value).toArray := ⟨_, e2, rfl, _, rfl⟩
  show wpAny (model X.prog X.w) X.A (richCompare .NotEq (.ref a) (.ref c)) (EP X pins σ Q) X.xe s
  cases xs with
  | nil =>
    have e1n : its = [] := by
      have := r.length
      cases its with
      | nil => rfl
      | cons _ _ => simp at this
    subst e1n
    exact SeqAt.RcNeAt.lists (e := fun _ => true) L1 L2 rfl hu (fun j h1 _ => absurd h1 (Nat.not_lt_zero j)) X.prog X.w X.xe _ ⟨.bl false, H, I, rfl, q⟩
  | cons x xs =>
    refine SeqAt.RcNeAt.lists_lengths L1 L2 ?_ hu X.prog X.w X.xe _ ⟨.bl true, H, I, rfl, q⟩
    have := r.length
    cases its with
    | nil => simp at this
    | cons _ _ => rfl
/-! walks over a list or a tuple -/
def iOr (w1 w2 : TI) : TI := fun σ H R => w1 σ H R ∨ w2 σ H R
theorem pi_or {tg e : Expr} {w1 w2 : TI} (h1 : PI X tg e w1) (h2 : PI X tg e w2) : PI X tg e (iOr w1 w2) := ⟨fun pins s σ H R I h => h.elim (h1.run pins s σ H R I) (h2.run pins s σ H R I)⟩
theorem pi_seq {tg l : Expr} {tl : TE} (hl : PE X l tl) : PI X tg l (iOr (iList X.K tl) (iTup X.K tl)) := pi_or (pi_list hl) (pi_tup hl)
end
end LV
set_option Elab.async false
set_option linter.all false
set_option maxRecDepth 100000
set_option maxHeartbeats 4000000
namespace LW
open PySem PySem.Spec PyProof.Rows L2 LV
def top (i : Nat) : Stmt := PySem.Challenge.pw_surelevels_k11_lines_told.main.body.getD i (.Pass ⟨0, 0, 0, 0⟩)
section
variable {P : Program} {w : World} {K : PySem.W.Frag} {mg : Str → Option Value} {base : Heap}
def spFresh (K : PySem.W.Frag) : Sp := fun vs H Q _ => ∃ (a : Addr) (ns : List Int), vs = [.ref a] ∧ SqL K H a (ns.map V.int) ∧ ns.length ≤ 63 ∧ ∀ p H', Same H H' → Stt K H' p → Q (.ref p) H'
abbrev s__law_fresh : Stmt := top 22
abbrev N__law_fresh : List Str := ["_law_script"]
theorem sc__law_fresh : FnScope N__law_fresh ["_law_script"] (defScope s__law_fresh) := ⟨rfl, rfl, rfl, by decide +kernel, rfl, by decide +kernel, by decide +kernel⟩
-- slots: 0 _law_script
theorem ok__law_fresh {f : Addr} {fd : FuncData} (F : FunD K "_law_fresh" "_law_fresh" (defArgs s__law_fresh) (defBody s__law_fresh) (defScope s__law_fresh) [] [] f fd) : FnOk P w K mg base CX0 1 f fd ["_law_script"] (spFresh K) := by
  refine F.ok sc__law_fresh (fun vs H Q E h => ?_) (fun cdv A outer s H vs Q E hr h => ?_)
  · obtain ⟨a, ns, rfl, hS, hl, k⟩ := h
    rfl
  · obtain ⟨a, ns, rfl, hS, hl, k⟩ := h
    refine ⟨_, PSs.nox (pss_one (ps_ret (pe_lst (pa_cons (pe_slice sl_list (pv 0) po_none (po_some pe_int)) (pa_cons pe_int (pa_cons pe_int (pa_cons pe_bl pa_nil))))))), ?_⟩
    refine ⟨_, rfl, _, rfl, a, _, rfl, hS, fun c n1 => ?_⟩
    generalize q1 : upd H c _ = H1
    have h1 := nAt q1
    have e1 := nSm q1 n1
    refine ⟨by show 4 ≤ sizeLine; decide, fun p n2 => ?_⟩
    generalize q2 : upd H1 p _ = H2
    have h2 := nAt q2
    have e2 := nSm q2 n2
    refine k p H2 (e1.trans e2) ⟨c, ns, 0, 0, false, h2, ne_of_none h1 n2, ?_, hl⟩
    have e : cutV (ns.map V.int) none (some 63) = ns.map V.int := by
      have hz : (ns.map V.int).length ≤ 63 := by rw [List.length_map]; exact hl
      unfold cutV
      rw [HT.sIx_none, show (some (63 : Int)) = some ((63 : Nat) : Int) from rfl, HT.sIx_nat, List.drop_zero, List.take_of_length_le]
      omega
    rw [← e]
    exact e2 _ _ h1
def spFill (K : PySem.W.Frag) : Sp := fun vs H Q _ => ∃ (a : Addr), vs = [.ref a] ∧ Stt K H a ∧ ∀ H', Bus a H H' → Stt K H' a → Q .non H'
abbrev s__law_fill : Stmt := top 23
abbrev N__law_fill : List Str := ["_law_state", "_law_cells", "_law_nth", "_law_seed", "_law_k", "_law_prime", "_law_far"]
theorem sc__law_fill : FnScope N__law_fill ["_law_state"] (defScope s__law_fill) := ⟨rfl, rfl, rfl, by decide +kernel, rfl, by decide +kernel, by decide +kernel⟩
-- slots: 0 _law_state, 1 _law_cells, 2 _law_nth, 3 _law_seed, 4 _law_k, 5 _law_prime, 6 _law_far
theorem ok__law_fill {f : Addr} {fd : FuncData} (F : FunD K "_law_fill" "_law_fill" (defArgs s__law_fill) (defBody s__law_fill) (defScope s__law_fill) [] [] f fd) (T : Bt mg) : FnOk P w K mg base CX0 1 f fd ["_law_state"] (spFill K) := by
  refine F.ok sc__law_fill (fun vs H Q E h => ?_) (fun cdv A outer s H vs Q E hr h => ?_)
  · obtain ⟨a, rfl, ⟨c, ns, n, l, m, ha, hca, hS, hl⟩, k⟩ := h
    rfl
  · obtain ⟨a, rfl, ⟨c, ns, n, l, m, ha, hca, hS, hl⟩, k⟩ := h
    refine ⟨_, PSs.nox (pss_cons (ps_par (i := 1) (j := 2) rfl sc__law_fill.nd rfl rfl (by decide) rfl rfl (pa_cons (pe_ix ix_list (pv 0) pe_int (fun _ _ => rfl)) (pa_cons (pe_ix ix_list (pv 0) pe_int (fun _ _ => rfl)) pa_nil)) rfl)
      (pss_cons (ps_set (i := 3) sc__law_fill.nd rfl (Or.inl rfl) (pe_op op_add (pe_op op_mulG pe_int (pv 2)) pe_int))
      (Evl.pss_cut (ps_if (pt_cmpR op_gt (pe_callB call_len_seq rfl T.len (by decide +kernel) (pa_cons (pv 1) pa_nil)) pe_int (nomark _)) (pss_one (ps_set (i := 3) sc__law_fill.nd rfl (Or.inl rfl) (pe_op op_add (pe_op op_mulG pe_int (pe_op op_fdivG (pv 2) (pe_callB call_len_seq rfl T.len (by decide +kernel) (pa_cons (pv 1) pa_nil)))) (pe_ix ix_list (pv 1) (pe_op op_mod (pe_callTy call_int1 rfl T.int (by decide +kernel) (pa_cons (pv 2) pa_nil)) (pe_callB call_len_seq rfl T.len (by decide +kernel) (pa_cons (pv 1) pa_nil))) (fun _ _ => rfl))))) pss_nil)
      (pss_cons (ps_asg (pe_op op_add (pv 2) pe_int) (pg_sub (pv 0) pe_int set_list))
      (Evl.pss_cut (ps_asg (pe_or (pe_cmpR op_ge (pv 2) (pe_callB call_len_seq rfl T.len (by decide +kernel) (pa_cons (pv 1) pa_nil)) (nomark _)) (pe_one (pe_cmpR op_lt (pv 3) (pe_op op_pow pe_int pe_int) (nomark _)))) (pg_sub (pv 0) pe_int set_list))
      (pss_cons (ps_asg (pe_op op_sub (pv 3) (pe_op op_pow pe_int pe_int)) (pg_sub (pv 0) pe_int set_list))
      (pss_one (ps_if (pt_val (pe_ix ix_list (pv 0) pe_int (fun _ _ => rfl))) (pss_cons (ps_asg pe_int (pg_sub (pv 0) pe_int set_list))
      (pss_one (ps_for PassesOwn.never rfl (pi_enumT rfl T.enumerate (pa_cons (pe_tup (pa_cons pe_int (pa_cons pe_int (pa_cons pe_int (pa_cons pe_int (pa_cons pe_int pa_nil)))))) pa_nil)) (pg_tup rfl (pgs_cons (pg_name (i := 4) sc__law_fill.nd rfl (Or.inl rfl)) (pgs_cons (pg_name (i := 5) sc__law_fill.nd rfl (Or.inl rfl)) pgs_nil))) (pss_cons (ps_set (i := 6) sc__law_fill.nd rfl (Or.inl rfl) (pe_op op_mod (pe_callTy call_int1 rfl T.int (by decide +kernel) (pa_cons (pe_op op_mulG (pe_op op_add (pe_op op_add (pv 3) (pe_op op_mulG (pe_op op_mulG pe_int (pv 4)) (pv 4))) (pe_op op_mulG pe_int (pv 4))) (pe_op op_add pe_int (pe_op op_mulG pe_int (pv 4)))) pa_nil)) (pv 5)))
      (pss_one (ps_asg (pe_op op_add (pe_op op_mulG (pe_ix ix_list (pv 0) pe_int (fun _ _ => rfl)) (pv 5)) (pe_op op_mod (pe_callTy call_int1 rfl T.int (by decide +kernel) (pa_cons (pe_op op_pow (pv 6) pe_int) pa_nil)) (pv 5))) (pg_sub (pv 0) pe_int set_list))))))) pss_nil)))))))), ?_⟩
    refine ⟨_, rfl, a, _, _, _, rfl, rfl, SqL.of ha, rfl, _, rfl, a, _, _, _, rfl, rfl, SqL.of ha, rfl, _, _, rfl, ?_⟩
    refine ⟨_, rfl, _, _, rfl, rfl, mulS' (by decide), _, _, rfl, rfl, ?_⟩
    refine ⟨fun σ H' => H' = H ∧ ∃ sd : Int, σ = [some (.ref a), some (.ref c), some (.int n), some (.int sd), none, none, none], ?_, ?_⟩
    · refine ⟨_, rfl, c, _, rfl, .inl (SqL.of hS), _, _, rfl, rfl, _, rfl, ?_⟩
      refine ite2 (fun hc => ?_) (fun _ => ⟨rfl, _, rfl⟩)
      have hc0 : (0 : Int) < ((ns.map V.int).length : Nat) := of_decide_eq_true hc
      have hlen : (ns.map V.int).length ≤ 63 := by rw [List.length_map]; exact hl
      have hm := Int.emod_nonneg n (b := ((ns.map V.int).length : Nat)) (by omega)
      have hm2 := Int.emod_lt_of_pos n hc0
      obtain ⟨v, hv, hat⟩ := atL (xs := ns.map V.int) hm hm2 rfl
      obtain ⟨z, rfl⟩ : ∃ z, v = V.int z := by
        rw [List.getElem?_map] at hv
        cases e : ns[(n % ((ns.map V.int).length : Nat)).toNat]? with
        | none => rw [e] at hv; cases hv
        | some z => rw [e] at hv; exact ⟨z, (Option.some.inj hv).symm⟩
      refine ⟨_, rfl, _, rfl, c, _, rfl, .inl (SqL.of hS), _, _, rfl, rfl, ⟨by omega, ?_⟩, _, _, rfl, rfl, mulS' (by decide), _, rfl, _, rfl, .inl ⟨_, rfl, _, rfl, c, _, rfl, .inl (SqL.of hS), _, _, rfl, rfl, hc0, c, _, _, _, rfl, rfl, SqL.of hS, hat, _, _, rfl, rfl, rfl, _, rfl⟩⟩
      have z : ((((ns.map V.int).length : Nat) : Int).natAbs) < 2 ^ 6 := by omega
      exact Nat.lt_of_lt_of_le (PySem.Flt.log2_lt_of (by decide) z) (by decide)
    · rintro σ H' ⟨rfl, sd, rfl⟩
      refine ⟨_, rfl, _, _, rfl, rfl, _, rfl, a, _, _, 1, rfl, rfl, ha, rfl, ?_⟩
      have hS1 : ∀ o, SqL K (upd H' a o) c (ns.map V.int) := fun o => SqL.of (by rw [upd_ne hca]; exact hS)
      refine ⟨fun σ H2 => σ = [some (.ref a), some (.ref c), some (.int n), some (.int sd), none, none, none] ∧ ∃ b, H2 = upd H' a (stL c (n + 1) l b), ?_, ?_⟩
      · refine ⟨_, rfl, _, rfl, c, _, rfl, .inl (hS1 _), _, _, rfl, rfl, _, rfl, ?_⟩
        refine ite2 (fun _ => ?_) (fun _ => ?_)
        · refine ⟨_, rfl, a, _, _, 3, rfl, rfl, upd_same, rfl, rfl, _, upd_upd⟩
        · refine ⟨_, rfl, _, _, rfl, rfl, ⟨by decide, by decide, by decide⟩, _, _, rfl, rfl, _, rfl, a, _, _, 3, rfl, rfl, upd_same, rfl, rfl, _, upd_upd⟩
      · rintro σ H2 ⟨rfl, b, rfl⟩
        refine ⟨_, rfl, _, _, rfl, rfl, ⟨by decide, by decide, by decide⟩, _, _, rfl, rfl, _, rfl, a, _, _, 2, rfl, rfl, upd_same, rfl, ?_⟩
        generalize q2 : upd (upd H' a (stL c (n + 1) l b)) a _ = H2
        have h2a : H2 a = some (stL c (n + 1) (sd - 10 ^ 18) b) := nAt q2
        have e2 : But a H' H2 := ((But.refl a H').upd).trans (nBt q2)
        generalize sd - 10 ^ 18 = l2 at h2a
        clear q2
        refine ⟨_, rfl, a, _, _, _, rfl, rfl, SqL.of h2a, rfl, _, rfl, ?_⟩
        refine ite2 (fun _ => ?_) (fun _ => ?_)
        · refine ⟨_, rfl, a, _, _, 2, rfl, rfl, h2a, rfl, ?_⟩
          generalize q3 : upd H2 a _ = H3
          have h3a : H3 a = some (stL c (n + 1) 0 b) := nAt q3
          have e3 : But a H' H3 := e2.trans (nBt q3)
          clear q3
          refine ⟨by show 5 ≤ sizeLine; decide, fun p n1 => ?_⟩
          generalize q1 : upd H3 p _ = H1
          have h1 := nAt q1
          have e1 := nSm q1 n1
          refine ⟨p, _, rfl, SqT.of h1, ?_⟩
          refine for_it (walk_enumT (xs := [.int 2147483647, .int 2147483629, .int 2147483587, .int 2147483579, .int 2147483563])) (fun i σ H3 => ∃ (x y z : Option V) (l : Int), σ = [some (.ref a), some (.ref c), some (.int n), some (.int sd), x, y, z] ∧ But a H' H3 ∧ H3 a = some (stL c (n + 1) l b) ∧ H3 p = some (.tup [.int 2147483647, .int 2147483629, .int 2147483587, .int 2147483579, .int 2147483563]))
            ⟨_, _, _, 0, rfl, e3.trans (Same.but e1), e1 _ _ h3a, h1⟩ (fun i σ H3 _ ⟨_, _, _, _, _, _, _, h⟩ => SqT.of h) ?_ ?_
          · rintro i x σ H3 H4 hi ⟨x4, x5, x6, l, rfl, eb, h3a, h3p⟩ ⟨T5, x1, x2, rfl, nT, rfl, hx1, hx2⟩
            obtain ⟨pr, hpr, hp0, hp1⟩ : ∃ pr : Int, x2 = .int pr ∧ 0 < pr ∧ pr < 2 ^ 32 := by
              rcases i with _ | _ | _ | _ | _ | i
              · exact ⟨_, (Option.some.inj hx2).symm, by decide, by decide⟩
              · exact ⟨_, (Option.some.inj hx2).symm, by decide, by decide⟩
              · exact ⟨_, (Option.some.inj hx2).symm, by decide, by decide⟩
              · exact ⟨_, (Option.some.inj hx2).symm, by decide, by decide⟩
              · exact ⟨_, (Option.some.inj hx2).symm, by decide, by decide⟩
              · exact absurd hi (by simp)
            have hx1' : x1 = .int (i : Nat) := (Option.some.inj hx1).symm
            subst hpr hx1'
            have hi5 : (i : Int) < 5 := by
              have hi' : i < 5 := hi
              omega
            have h4a : upd H3 T5 (.tup [.int (i : Nat), .int pr]) a = some (stL c (n + 1) l b) := by
              rw [upd_ne (ne_of_none h3a nT)]
              exact h3a
            have h4p := (Same.new (o := .tup [.int (i : Nat), .int pr]) nT) _ _ h3p
            have eb4 : But a H' (upd H3 T5 (.tup [.int (i : Nat), .int pr])) := eb.trans (Same.but (Same.new nT))
            have hT5 : upd H3 T5 (.tup [.int (i : Nat), .int pr]) T5 = some (.tup [.int (i : Nat), .int pr]) := upd_same
            generalize upd H3 T5 (.tup [.int (i : Nat), .int pr]) = H4 at h4a h4p eb4 hT5
            refine ⟨T5, _, rfl, SqT.of hT5, rfl, _, _, rfl, _, _, rfl, rfl, ?_⟩
            refine ⟨_, rfl, _, rfl, _, _, rfl, rfl, mulS' (by decide), _, rfl, _, _, rfl, rfl, mulS (by omega), _, _, rfl, rfl, _, rfl, _, _, rfl, rfl, mulS' (by decide), _, _, rfl, rfl, _, rfl, _, _, rfl, rfl, mulS' (by decide), _, _, rfl, rfl, _, _, rfl, rfl, mulS (by omega), .inl ⟨_, rfl, _, rfl, _, _, rfl, rfl, hp0, ?_⟩⟩
            have hf0 := Int.emod_nonneg ((sd + 10007 * (i : Int) * i + 101 * i) * (48271 + 2 * i)) (b := pr) (by omega)
            have hf1 := Int.emod_lt_of_pos ((sd + 10007 * (i : Int) * i + 101 * i) * (48271 + 2 * i)) hp0
            refine ⟨_, rfl, a, _, _, _, rfl, rfl, SqL.of h4a, rfl, _, rfl, _, _, rfl, rfl, mulS (by omega), _, rfl, _, _, rfl, rfl, ⟨by decide, by decide, by omega⟩, .inl ⟨_, rfl, _, rfl, _, _, rfl, rfl, hp0, _, _, rfl, rfl, _, rfl, a, _, _, 2, rfl, rfl, h4a, rfl, ?_⟩⟩
            refine ⟨_, _, _, _, rfl, eb4.upd, upd_same, ?_⟩
            rw [upd_ne (ne_of h4p h4a (by intro z; cases z))]
            exact h4p
          · rintro σ H3 ⟨_, _, _, l, rfl, eb, h3a, h3p⟩
            exact k _ ⟨eb, fun c' n' l' m' z => by rw [ha] at z; cases z; exact ⟨_, _, _, h3a⟩⟩ ⟨c, ns, _, _, _, h3a, hca, eb _ _ hca hS, hl⟩
        · exact k _ ⟨e2, fun c' n' l' m' z => by rw [ha] at z; cases z; exact ⟨_, _, _, h2a⟩⟩ ⟨c, ns, _, _, _, h2a, hca, e2 _ _ hca hS, hl⟩
def spTake (K : PySem.W.Frag) : Sp := fun vs H Q _ => ∃ (a : Addr) (z : Int), vs = [.ref a, .int z] ∧ Stt K H a ∧ 0 < z ∧ z < 2 ^ 200 ∧ ∀ H' d, Bus a H H' → Stt K H' a → 0 ≤ d → d < z → Q (.int d) H'
abbrev s__law_take : Stmt := top 24
abbrev N__law_take : List Str := ["_law_state", "_law_many", "_law_laps", "_law_digit"]
theorem sc__law_take : FnScope N__law_take ["_law_state", "_law_many"] (defScope s__law_take) := ⟨rfl, rfl, rfl, by decide +kernel, rfl, by decide +kernel, by decide +kernel⟩
-- slots: 0 _law_state, 1 _law_many, 2 _law_laps, 3 _law_digit
theorem ok__law_take {f : Addr} {fd : FuncData} (F : FunD K "_law_take" "_law_take" (defArgs s__law_take) (defBody s__law_take) (defScope s__law_take) [] [] f fd) (T : Bt mg) (c__law_fill : C8.Cal P w K mg base 1 "_law_fill" (spFill K) []) : FnOk P w K mg base CX0 2 f fd ["_law_state", "_law_many"] (spTake K) := by
  refine F.ok sc__law_take (fun vs H Q E h => ?_) (fun cdv A outer s H vs Q E hr h => ?_)
  · obtain ⟨a, z, rfl, hs, hz, hz2, k⟩ := h
    rfl
  · obtain ⟨a, z, rfl, hs, hz, hz2, k⟩ := h
    refine ⟨_, PSs.nox (pss_cons (ps_set (i := 2) sc__law_take.nd rfl (Or.inl rfl) pe_int)
      (Evl.pss_cut (ps_while PassesOwn.never (PW.pt (pw_and (pt_cmpR op_lt (pv 2) pe_int (nomark _)) (pw_and1 (PW.pt (pw_or (pt_cmpR op_eq (pe_ix ix_list (pv 0) pe_int (fun _ _ => rfl)) pe_int (nomark _)) (pw_or1 (PW.pt (pw_and (pt_val (pe_ix ix_list (pv 0) pe_int (fun _ _ => rfl))) (pw_and1 (pt_cmpR op_lt (pe_ix ix_list (pv 0) pe_int (fun _ _ => rfl)) (pe_op op_mulG (pv 1) pe_int) (nomark _))))))))))) (pss_cons (ps_expr (C8.pe_c c__law_fill hr (by decide) rfl (pa_cons (pv 0) pa_nil)))
      (pss_cons (ps_aug (i := 2) sc__law_take.nd rfl (Or.inl rfl) pe_int ip_add)
      (pss_one (ps_if (PW.pt (pw_and (pt_val (pe_ix ix_list (pv 0) pe_int (fun _ _ => rfl))) (pw_and1 (pt_cmpR op_lt (pe_ix ix_list (pv 0) pe_int (fun _ _ => rfl)) (pe_op op_mulG (pv 1) pe_int) (nomark _))))) (pss_one (ps_asg (pe_op op_add (pe_ix ix_list (pv 0) pe_int (fun _ _ => rfl)) (pe_op op_mulG (pe_op op_mulG (pv 1) pe_int) (pe_op op_add pe_int (pe_op op_mod (pe_callTy call_int1 rfl T.int (by decide +kernel) (pa_cons (pe_ix ix_list (pv 0) pe_int (fun _ _ => rfl)) pa_nil)) pe_int)))) (pg_sub (pv 0) pe_int set_list))) pss_nil)))))
      (pss_cons (ps_set (i := 3) sc__law_take.nd rfl (Or.inl rfl) (pe_op op_mod (pe_callTy call_int1 rfl T.int (by decide +kernel) (pa_cons (pe_ix ix_list (pv 0) pe_int (fun _ _ => rfl)) pa_nil)) (pv 1)))
      (pss_cons (ps_asg (pe_op op_fdivG (pe_ix ix_list (pv 0) pe_int (fun _ _ => rfl)) (pv 1)) (pg_sub (pv 0) pe_int set_list))
      (pss_one (ps_ret (pv 3))))))), ?_⟩
    refine ⟨fun σ H' => ∃ x, σ = [some (.ref a), some (.int z), x, none] ∧ Stt K H' a ∧ Bus a H H', ?_, ?_⟩
    · refine ⟨fun m σ H' => ∃ laps : Nat, m + laps = 64 ∧ σ = [some (.ref a), some (.int z), some (.int (laps : Nat)), none] ∧ Stt K H' a ∧ Bus a H H', ⟨64, 0, rfl, rfl, hs, Bus.refl a H⟩, ?_⟩
      rintro m σ H1 ⟨laps, hm, rfl, hs1, e1⟩
      obtain ⟨c, ns, n, l, mx, ha, hca, hS, hl⟩ := id hs1
      refine ansE (fun b => b = true → laps < 64) ⟨_, ans_and2 (aI0 (val_var rfl) val_c) (ans_or2 (aEq (vIx (val_var rfl) val_c (SqL.of ha) rfl) val_c rfl) (ans_and2 (ans_val (vIx (val_var rfl) val_c (SqL.of ha) rfl)) (aI0 (vIx (val_var rfl) val_c (SqL.of ha) rfl) (vI (val_var rfl) val_c (mulS (by decide)))))), fun hb => ?_⟩ (fun b hb => ?_)
      · have := of_decide_eq_true (Bool.and_eq_true_iff.mp hb).1
        omega
      · refine ite2 (fun hb2 => ?_) (fun _ => ⟨_, rfl, hs1, e1⟩)
        have hlt := hb hb2
        refine ⟨fun σ' H' => ∃ laps' : Nat, laps' = laps + 1 ∧ σ' = [some (.ref a), some (.int z), some (.int (laps' : Nat)), none] ∧ Stt K H' a ∧ Bus a H H', fun σ' H' ⟨l', hl', r⟩ => ⟨m - 1, by omega, l', by omega, r⟩, ?_⟩
        refine ⟨_, rfl, a, rfl, hs1, fun H2 e2 hs2 => ?_⟩
        obtain ⟨c, ns, n, l, mx, ha, hca, hS, hl⟩ := id hs2
        have e12 := e1.trans e2
        refine ⟨_, rfl, _, _, rfl, rfl, ?_⟩
        refine ansE (fun _ => True) ⟨_, ans_and2 (ans_val (vIx (val_var rfl) val_c (SqL.of ha) rfl)) (aI0 (vIx (val_var rfl) val_c (SqL.of ha) rfl) (vI (val_var rfl) val_c (mulS (by decide)))), trivial⟩ (fun b _ => ?_)
        refine ite2 (fun _ => ?_) (fun _ => ⟨laps + 1, rfl, rfl, hs2, e12⟩)
        have hq0 := Int.emod_nonneg l (b := 4093) (by decide)
        have hq1 := Int.emod_lt_of_pos l (b := 4093) (by decide)
        refine ⟨_, rfl, a, _, _, _, rfl, rfl, SqL.of ha, rfl, _, rfl, _, _, rfl, rfl, mulS (by decide), _, rfl, a, _, _, _, rfl, rfl, SqL.of ha, rfl, .inl ⟨_, rfl, _, _, rfl, rfl, (show (0 : Int) < 4093 by decide), _, _, rfl, rfl, _, _, rfl, rfl, mulS (by omega), _, _, rfl, rfl, _, rfl, a, _, _, 2, rfl, rfl, ha, rfl, ?_⟩⟩
        generalize q3 : upd H2 a _ = H3
        have h3a := nAt q3
        have e3 : Bus a H2 H3 := nBus ha q3
        exact ⟨laps + 1, rfl, rfl, ⟨c, ns, _, _, _, h3a, hca, e3.1 _ _ hca hS, hl⟩, e12.trans e3⟩
    · rintro σ H1 ⟨x, rfl, hs1, e1⟩
      obtain ⟨c, ns, n, l, mx, ha, hca, hS, hl⟩ := id hs1
      refine ⟨_, rfl, a, _, _, _, rfl, rfl, SqL.of ha, rfl, .inl ⟨_, rfl, _, rfl, _, _, rfl, rfl, hz, ?_⟩⟩
      refine ⟨_, rfl, a, _, _, _, rfl, rfl, SqL.of ha, rfl, _, rfl, _, _, rfl, rfl, ⟨by omega, ?_⟩, _, rfl, a, _, _, 2, rfl, rfl, ha, rfl, ?_⟩
      · have zz : z.natAbs < 2 ^ 200 := by omega
        exact Nat.lt_of_lt_of_le (PySem.Flt.log2_lt_of (by decide) zz) (by decide)
      generalize q3 : upd H1 a _ = H3
      have h3a := nAt q3
      have e3 : Bus a H1 H3 := nBus ha q3
      exact ⟨_, rfl, k _ _ (e1.trans e3) ⟨c, ns, _, _, _, h3a, hca, e3.1 _ _ hca hS, hl⟩ (Int.emod_nonneg _ (by omega)) (Int.emod_lt_of_pos _ hz)⟩
def spOne (K : PySem.W.Frag) : Sp := fun vs H Q _ => ∃ (a b : Addr) (xs : List V), vs = [.ref a, .ref b] ∧ Stt K H a ∧ H b = some (.lst xs) ∧ notSt (.lst xs) = true ∧ 0 < xs.length ∧ xs.length ≤ 1000 ∧ ∀ H' v, Bus a H H' → Stt K H' a → v ∈ xs → Q v H'
end
end LW
namespace LM
/-! fractions as pairs -/
def rwh (o u : Int) : Int := if u < 0 then -(o.gcd u : Int) else (o.gcd u : Int)
def rO (o u : Int) : Int := o.fdiv (rwh o u)
def rD (o u : Int) : Int := u.fdiv (rwh o u)
def Red (o u : Int) : Prop := 0 < u ∧ o.gcd u = 1
theorem gcd_step (a b : Int) : b.gcd (a.fmod b) = a.gcd b := by
  have h : a.fmod b = a + (-(a.fdiv b)) * b := by
    have := Int.mul_fdiv_add_fmod a b
    have e : a.fdiv b * b = b * a.fdiv b := Int.mul_comm _ _
    rw [Int.neg_mul, e]
    omega
  rw [h, Int.gcd_add_mul_right_right, Int.gcd_comm]
theorem fmod_lt (a b : Int) (h : b ≠ 0) : (a.fmod b).natAbs < b.natAbs := by
  rcases Int.lt_or_gt_of_ne h with h1 | h1
  · have q1 : b < a.fmod b := by
      have := Int.fmod_eq_emod (a := a) (b := b)
      have e1 := Int.emod_nonneg a h
      have e2 := Int.emod_lt_of_neg a h1
      by_cases hd : 0 ≤ b ∨ b ∣ a
      · rw [if_pos hd] at this
        omega
      · rw [if_neg hd] at this
        have e3 : a % b ≠ 0 := fun z => hd (.inr (Int.dvd_of_emod_eq_zero z))
        omega
    have q2 : a.fmod b ≤ 0 := by
      have := Int.fmod_eq_emod (a := a) (b := b)
      have e2 := Int.emod_lt_of_neg a h1
      by_cases hd : 0 ≤ b ∨ b ∣ a
      · rw [if_pos hd] at this
        have e3 : a % b = 0 := Int.emod_eq_zero_of_dvd (hd.resolve_left (by omega))
        omega
      · rw [if_neg hd] at this
        omega
    omega
  · have q1 := Int.fmod_nonneg_of_pos a h1
    have q2 := Int.fmod_lt_of_pos a h1
    omega
theorem gcd_pos {o u : Int} (h : u ≠ 0) : 0 < o.gcd u := Int.gcd_pos_of_ne_zero_right o h
theorem rwh_ne {o u : Int} (h : u ≠ 0) : rwh o u ≠ 0 := by
  have := gcd_pos (o := o) h
  unfold rwh
  split <;> omega
theorem rwh_dvd_o (o u : Int) : rwh o u ∣ o := by
  unfold rwh
  split
  · exact Int.neg_dvd.mpr (Int.gcd_dvd_left o u)
  · exact Int.gcd_dvd_left o u
theorem rwh_dvd_u (o u : Int) : rwh o u ∣ u := by
  unfold rwh
  split
  · exact Int.neg_dvd.mpr (Int.gcd_dvd_right o u)
  · exact Int.gcd_dvd_right o u
theorem fdiv_dvd {a b : Int} (h : b ∣ a) : a.fdiv b = a / b := by
  rw [Int.fdiv_eq_ediv_of_dvd h]
theorem rO_mul (o u : Int) : rO o u * rwh o u = o := by
  unfold rO
  rw [fdiv_dvd (rwh_dvd_o o u)]
  exact Int.ediv_mul_cancel (rwh_dvd_o o u)
theorem rD_mul (o u : Int) : rD o u * rwh o u = u := by
  unfold rD
  rw [fdiv_dvd (rwh_dvd_u o u)]
  exact Int.ediv_mul_cancel (rwh_dvd_u o u)
/-- what such a pair is, it is by these -/
theorem red_unique {o u x y w : Int} (hu : u ≠ 0) (hr : Red x y) (h1 : x * w = o) (h2 : y * w = u) : rO o u = x ∧ rD o u = y := by
  have hw : w ≠ 0 := fun z => by
    rw [z, Int.mul_zero] at h2
    omega
  have hg : o.gcd u = w.natAbs := by
    rw [← h1, ← h2, Int.gcd_mul_right, hr.2, Nat.one_mul]
  have hs : rwh o u = w := by
    unfold rwh
    rw [hg]
    have hy := hr.1
    by_cases hneg : w < 0
    · have : u < 0 := by
        rw [← h2]
        exact Int.mul_neg_of_pos_of_neg hy hneg
      rw [if_pos this]
      omega
    · have : ¬ u < 0 := by
        have : 0 < y * w := Int.mul_pos hy (by omega)
        omega
      rw [if_neg this]
      omega
  unfold rO rD
  rw [hs]
  constructor
  · rw [← h1]
    exact Int.mul_fdiv_cancel x hw
  · rw [← h2]
    exact Int.mul_fdiv_cancel y hw
theorem red_of {o u : Int} (hu : u ≠ 0) : Red (rO o u) (rD o u) := by
  have hg := gcd_pos (o := o) hu
  have e := Int.gcd_ediv_gcd_ediv_gcd (i := o) (j := u) hg
  have hgd := Int.gcd_dvd_right o u
  unfold rO rD
  rw [fdiv_dvd (rwh_dvd_o o u), fdiv_dvd (rwh_dvd_u o u)]
  by_cases hneg : u < 0
  · have hw : rwh o u = -(o.gcd u : Int) := by
      unfold rwh
      rw [if_pos hneg]
    rw [hw, Int.ediv_neg, Int.ediv_neg]
    refine ⟨?_, ?_⟩
    · have : u / (o.gcd u : Int) < 0 := Int.ediv_neg_of_neg_of_pos hneg (by omega)
      omega
    · rw [Int.gcd_neg, Int.neg_gcd]
      exact e
  · have hw : rwh o u = (o.gcd u : Int) := by
      unfold rwh
      rw [if_neg hneg]
    rw [hw]
    refine ⟨?_, e⟩
    exact Int.ediv_pos_of_pos_of_dvd (by omega) (by omega) hgd
theorem red_self {o u : Int} (h : Red o u) : rO o u = o ∧ rD o u = u :=
  red_unique (w := 1) (by have := h.1; omega) h (Int.mul_one o) (Int.mul_one u)
theorem red_scale {o u s : Int} (h : Red o u) (hs : s ≠ 0) : rO (o * s) (u * s) = o ∧ rD (o * s) (u * s) = u :=
  red_unique (w := s) (by
    have := h.1
    exact Int.mul_ne_zero (by omega) hs) h rfl rfl
theorem red_one (o : Int) : Red o 1 := ⟨by decide, by simp⟩
theorem red_neg {o u : Int} (h : Red o u) : Red (-o) u := ⟨h.1, by rw [Int.neg_gcd]; exact h.2⟩
/-! bounds -/
theorem abs_rO {o u : Int} (hu : u ≠ 0) : (rO o u).natAbs ≤ o.natAbs := by
  have e := rO_mul o u
  have hw := rwh_ne (o := o) hu
  have : (rO o u).natAbs * (rwh o u).natAbs = o.natAbs := by rw [← Int.natAbs_mul, e]
  have hp : 0 < (rwh o u).natAbs := by omega
  rw [← this]
  exact Nat.le_mul_of_pos_right _ hp
theorem abs_rD {o u : Int} (hu : u ≠ 0) : (rD o u).natAbs ≤ u.natAbs := by
  have e := rD_mul o u
  have hw := rwh_ne (o := o) hu
  have : (rD o u).natAbs * (rwh o u).natAbs = u.natAbs := by rw [← Int.natAbs_mul, e]
  have hp : 0 < (rwh o u).natAbs := by omega
  rw [← this]
  exact Nat.le_mul_of_pos_right _ hp
theorem abs_rwh {o u : Int} (hu : u ≠ 0) : (rwh o u).natAbs ≤ u.natAbs := by
  have e := rD_mul o u
  have hw : rD o u ≠ 0 := by
    have := (red_of (o := o) hu).1
    omega
  have : (rD o u).natAbs * (rwh o u).natAbs = u.natAbs := by rw [← Int.natAbs_mul, e]
  have hp : 0 < (rD o u).natAbs := by omega
  rw [← this]
  exact Nat.le_mul_of_pos_left _ hp
end LM
namespace LM
/-! fractions by their value -/
theorem red_rat (q : Rat) : Red q.num q.den := ⟨by have := q.den_pos; omega, by
  have := q.reduced
  unfold Nat.Coprime at this
  exact this⟩
theorem red_same {o u p q : Int} (h1 : Red o u) (h2 : Red p q) (h : o * q = p * u) : o = p ∧ u = q := by
  have a := red_scale h1 (s := q) (by have := h2.1; omega)
  have b := red_scale h2 (s := u) (by have := h1.1; omega)
  rw [h, Int.mul_comm u q] at a
  exact ⟨a.1.symm.trans b.1, a.2.symm.trans b.2⟩
theorem rat_of {o u : Int} (hu : u ≠ 0) : rO o u = (Rat.divInt o u).num ∧ rD o u = ((Rat.divInt o u).den : Int) := by
  refine red_same (red_of hu) (red_rat _) ?_
  generalize hq : Rat.divInt o u = q
  have hd : (q.den : Int) ≠ 0 := by have := q.den_pos; omega
  have e := (Rat.divInt_eq_divInt_iff hu hd).mp (hq.trans (Rat.num_divInt_den q).symm)
  have e1 := rO_mul o u
  have e2 := rD_mul o u
  have hw := rwh_ne (o := o) hu
  refine Int.eq_of_mul_eq_mul_right hw ?_
  calc rO o u * q.den * rwh o u = (rO o u * rwh o u) * q.den := by rw [Int.mul_right_comm]
    _ = o * q.den := by rw [e1]
    _ = q.num * u := e
    _ = q.num * (rD o u * rwh o u) := by rw [e2]
    _ = q.num * rD o u * rwh o u := by rw [Int.mul_assoc]
theorem den0 (q : Rat) : (q.den : Int) ≠ 0 := by have := q.den_pos; omega
theorem q_add (a b : Rat) : Rat.divInt (a.num * b.den + b.num * a.den) (a.den * b.den) = a + b := by
  rw [← Rat.divInt_add_divInt _ _ (den0 a) (den0 b), Rat.num_divInt_den, Rat.num_divInt_den]
theorem q_sub (a b : Rat) : Rat.divInt (a.num * b.den - b.num * a.den) (a.den * b.den) = a - b := by
  rw [← Rat.divInt_sub_divInt _ _ (den0 a) (den0 b), Rat.num_divInt_den, Rat.num_divInt_den]
theorem q_mul (a b : Rat) : Rat.divInt (a.num * b.num) (a.den * b.den) = a * b := by
  rw [← Rat.divInt_mul_divInt, Rat.num_divInt_den, Rat.num_divInt_den]
theorem q_div (a b : Rat) : Rat.divInt (a.num * b.den) (a.den * b.num) = a / b := by
  rw [← Rat.divInt_mul_divInt, Rat.num_divInt_den, Rat.div_def]
  congr 1
  rw [← Rat.inv_divInt, Rat.num_divInt_den]
theorem q_neg (a : Rat) : Rat.divInt (-a.num) a.den = -a := by
  rw [← Rat.neg_divInt, Rat.num_divInt_den]
theorem num0 {a : Rat} (h : a ≠ 0) : a.num ≠ 0 := fun z => h (Rat.num_eq_zero.mp z)
/-! sizes -/
def Ht (n : Nat) (q : Rat) : Prop := q.num.natAbs < 2 ^ n ∧ q.den < 2 ^ n
theorem Ht.mono {n m : Nat} {q : Rat} (h : Ht n q) (l : n ≤ m) : Ht m q := ⟨Nat.lt_of_lt_of_le h.1 (Nat.pow_le_pow_right (by decide) l), Nat.lt_of_lt_of_le h.2 (Nat.pow_le_pow_right (by decide) l)⟩
theorem ht_div {o u : Int} {n : Nat} (hu : u ≠ 0) (h1 : o.natAbs < 2 ^ n) (h2 : u.natAbs < 2 ^ n) : Ht n (Rat.divInt o u) := by
  obtain ⟨e1, e2⟩ := rat_of (o := o) hu
  have b1 := abs_rO (o := o) hu
  have b2 := abs_rD (o := o) hu
  rw [e1] at b1
  rw [e2] at b2
  exact ⟨by omega, by omega⟩
theorem mul_lt2 {a b n m : Nat} (h1 : a < 2 ^ n) (h2 : b < 2 ^ m) : a * b < 2 ^ (n + m) := by
  rw [Nat.pow_add]
  rcases Nat.eq_zero_or_pos b with rfl | hb
  · rw [Nat.mul_zero]
    exact Nat.mul_pos (Nat.two_pow_pos n) (Nat.two_pow_pos m)
  · exact Nat.mul_lt_mul_of_lt_of_le h1 (Nat.le_of_lt h2) (by omega)
theorem Ht.add {a b : Rat} {n m : Nat} (h1 : Ht n a) (h2 : Ht m b) : Ht (n + m + 1) (a + b) := by
  rw [← q_add]
  have x1 := mul_lt2 h1.1 h2.2
  have x2 := mul_lt2 h2.1 h1.2
  have x3 := mul_lt2 h1.2 h2.2
  rw [Nat.add_comm m n] at x2
  have e : 2 ^ (n + m + 1) = 2 ^ (n + m) + 2 ^ (n + m) := by rw [Nat.pow_succ]; omega
  refine ht_div (Int.mul_ne_zero (den0 a) (den0 b)) ?_ ?_
  · have y1 : (a.num * b.den).natAbs = a.num.natAbs * b.den := by rw [Int.natAbs_mul]; rfl
    have y2 : (b.num * a.den).natAbs = b.num.natAbs * a.den := by rw [Int.natAbs_mul]; rfl
    have := Int.natAbs_add_le (a.num * b.den) (b.num * a.den)
    omega
  · have y1 : ((a.den : Int) * b.den).natAbs = a.den * b.den := by rw [Int.natAbs_mul]; rfl
    omega
theorem Ht.neg {a : Rat} {n : Nat} (h : Ht n a) : Ht n (-a) := by
  refine ⟨?_, ?_⟩
  · rw [Rat.neg_num, Int.natAbs_neg]; exact h.1
  · rw [Rat.neg_den]; exact h.2
theorem Ht.sub {a b : Rat} {n m : Nat} (h1 : Ht n a) (h2 : Ht m b) : Ht (n + m + 1) (a - b) := by
  rw [Rat.sub_eq_add_neg]
  exact h1.add h2.neg
theorem Ht.mul {a b : Rat} {n m : Nat} (h1 : Ht n a) (h2 : Ht m b) : Ht (n + m) (a * b) := by
  rw [← q_mul]
  have x1 := mul_lt2 h1.1 h2.1
  have x3 := mul_lt2 h1.2 h2.2
  refine ht_div (Int.mul_ne_zero (den0 a) (den0 b)) ?_ ?_
  · rw [Int.natAbs_mul]; exact x1
  · rw [Int.natAbs_mul]; exact x3
theorem Ht.div {a b : Rat} {n m : Nat} (h1 : Ht n a) (h2 : Ht m b) (hb : b ≠ 0) : Ht (n + m) (a / b) := by
  rw [← q_div]
  have x1 := mul_lt2 h1.1 h2.2
  have x3 := mul_lt2 h1.2 h2.1
  refine ht_div (Int.mul_ne_zero (den0 a) (num0 hb)) ?_ ?_
  · rw [Int.natAbs_mul]; exact x1
  · rw [Int.natAbs_mul]; exact x3
/-! two lists, item by item -/
def All2 {α β : Type _} (R : α → β → Prop) : List α → List β → Prop
  | [], [] => True
  | a :: as, b :: bs => R a b ∧ All2 R as bs
  | _, _ => False
section
variable {α β : Type _} {R S : α → β → Prop}
theorem All2.imp (h : ∀ a b, R a b → S a b) : ∀ {as : List α} {bs : List β}, All2 R as bs → All2 S as bs
  | [], [], _ => trivial
  | _ :: _, _ :: _, x => ⟨h _ _ x.1, All2.imp h x.2⟩
  | [], _ :: _, x => x.elim
  | _ :: _, [], x => x.elim
theorem All2.len : ∀ {as : List α} {bs : List β}, All2 R as bs → as.length = bs.length
  | [], [], _ => rfl
  | _ :: _, _ :: _, x => congrArg Nat.succ (All2.len x.2)
  | [], _ :: _, x => x.elim
  | _ :: _, [], x => x.elim
theorem All2.app : ∀ {as : List α} {bs : List β} {cs : List α} {ds : List β}, All2 R as bs → All2 R cs ds → All2 R (as ++ cs) (bs ++ ds)
  | [], [], _, _, _, y => y
  | _ :: _, _ :: _, _, _, x, y => ⟨x.1, All2.app x.2 y⟩
  | [], _ :: _, _, _, x, _ => x.elim
  | _ :: _, [], _, _, x, _ => x.elim
theorem All2.snoc {as : List α} {bs : List β} {a : α} {b : β} (h : All2 R as bs) (r : R a b) : All2 R (as ++ [a]) (bs ++ [b]) := h.app ⟨r, trivial⟩
theorem All2.get : ∀ {as : List α} {bs : List β} {i : Nat} {a : α}, All2 R as bs → as[i]? = some a → ∃ b, bs[i]? = some b ∧ R a b
  | _ :: _, b :: _, 0, _, x, h => by
    simp only [List.getElem?_cons_zero, Option.some.injEq] at h
    exact ⟨b, rfl, h ▸ x.1⟩
  | _ :: _, _ :: _, i + 1, _, x, h => by
    simp only [List.getElem?_cons_succ] at h ⊢
    exact All2.get x.2 h
  | [], [], _, _, _, h => by simp at h
  | [], _ :: _, _, _, x, _ => x.elim
  | _ :: _, [], _, _, x, _ => x.elim
theorem All2.at : ∀ {as : List α} {bs : List β} {i : Nat} {b : β}, All2 R as bs → bs[i]? = some b → ∃ a, as[i]? = some a ∧ R a b
  | a :: _, _ :: _, 0, _, x, h => by
    simp only [List.getElem?_cons_zero, Option.some.injEq] at h
    exact ⟨a, rfl, h ▸ x.1⟩
  | _ :: _, _ :: _, i + 1, _, x, h => by
    simp only [List.getElem?_cons_succ] at h ⊢
    exact All2.at x.2 h
  | [], [], _, _, _, h => by simp at h
  | [], _ :: _, _, _, x, _ => x.elim
  | _ :: _, [], _, _, x, _ => x.elim
theorem All2.take : ∀ {as : List α} {bs : List β} (n : Nat), All2 R as bs → All2 R (as.take n) (bs.take n)
  | [], [], n, _ => by simp [All2]
  | _ :: _, _ :: _, 0, _ => by simp [All2]
  | _ :: _, _ :: _, n + 1, x => ⟨x.1, All2.take n x.2⟩
  | [], _ :: _, _, x => x.elim
  | _ :: _, [], _, x => x.elim
theorem All2.dropLast {as : List α} {bs : List β} (h : All2 R as bs) : All2 R as.dropLast bs.dropLast := by
  rw [List.dropLast_eq_take, List.dropLast_eq_take, h.len]
  exact h.take _
theorem All2.map {γ : Type _} {f : γ → α} {g : γ → β} (h : ∀ c, R (f c) (g c)) : ∀ cs : List γ, All2 R (cs.map f) (cs.map g)
  | [] => trivial
  | _ :: cs => ⟨h _, All2.map h cs⟩
theorem All2.split : ∀ {as : List α} {bs cs : List β}, All2 R as (bs ++ cs) → ∃ a1 a2, as = a1 ++ a2 ∧ All2 R a1 bs ∧ All2 R a2 cs
  | as, [], cs, h => ⟨[], as, rfl, trivial, h⟩
  | a :: as, b :: bs, cs, h => by
    obtain ⟨a1, a2, e, h1, h2⟩ := All2.split (bs := bs) h.2
    exact ⟨a :: a1, a2, by rw [e]; rfl, ⟨h.1, h1⟩, h2⟩
  | [], _ :: _, _, h => h.elim
theorem All2.one {as : List α} {b : β} (h : All2 R as [b]) : ∃ a, as = [a] ∧ R a b := by
  match as, h with
  | [a], h => exact ⟨a, rfl, h.1⟩
theorem All2.two {as : List α} {b c : β} (h : All2 R as [b, c]) : ∃ a d, as = [a, d] ∧ R a b ∧ R d c := by
  match as, h with
  | [a, d], h => exact ⟨a, d, rfl, h.1, h.2.1⟩
theorem All2.drop : ∀ {as : List α} {bs : List β} (n : Nat), All2 R as bs → All2 R (as.drop n) (bs.drop n)
  | [], [], n, _ => by simp [All2]
  | _ :: _, _ :: _, 0, h => h
  | _ :: _, _ :: _, n + 1, h => All2.drop n h.2
  | [], _ :: _, _, h => h.elim
  | _ :: _, [], _, h => h.elim
theorem All2.of_get : ∀ {as : List α} {bs : List β}, as.length = bs.length → (∀ (i : Nat) a b, as[i]? = some a → bs[i]? = some b → R a b) → All2 R as bs
  | [], [], _, _ => trivial
  | a :: as, b :: bs, l, h => ⟨h 0 a b rfl rfl, All2.of_get (by simpa using l) fun i x y hx hy => h (i + 1) x y (by simpa using hx) (by simpa using hy)⟩
  | [], _ :: _, l, _ => by simp at l
  | _ :: _, [], l, _ => by simp at l
end
end LM
namespace LM
/-! lines: points in order, straight rows between -/
abbrev Pt := Rat × Rat
def slp (p q : Pt) : Rat := (q.2 - p.2) / (q.1 - p.1)
def lin (p q : Pt) (t : Rat) : Rat := p.2 + slp p q * (t - p.1)
def Inc (ps : List Pt) : Prop := ps.Pairwise fun p q => p.1 < q.1
def bnd (f : Pt) : List Pt → List Pt
  | [] => []
  | [p] => [p]
  | p :: q :: r => if slp f p = slp p q then bnd f (q :: r) else p :: bnd p (q :: r)
def bends : List Pt → List Pt
  | [] => []
  | p :: r => p :: bnd p r
def OnL : List Pt → Rat → Rat → Prop
  | p :: q :: r, t, y => (p.1 ≤ t ∧ t ≤ q.1 ∧ y = lin p q t) ∨ OnL (q :: r) t y
  | _, _, _ => False
theorem Inc.two {p q : Pt} {r : List Pt} (h : Inc (p :: q :: r)) : p.1 < q.1 := (List.pairwise_cons.mp h).1 q (by simp)
theorem Inc.tail {p : Pt} {r : List Pt} (h : Inc (p :: r)) : Inc r := (List.pairwise_cons.mp h).2
theorem Inc.skip {p q : Pt} {r : List Pt} (h : Inc (p :: q :: r)) : Inc (p :: r) := by
  obtain ⟨a, b⟩ := List.pairwise_cons.mp h
  obtain ⟨_, c⟩ := List.pairwise_cons.mp b
  exact List.pairwise_cons.mpr ⟨fun x hx => a x (by simp [hx]), c⟩
theorem on_head {q : Pt} {r : List Pt} {y : Rat} (h : Inc (q :: r)) (o : OnL (q :: r) q.1 y) : y = q.2 := by
  cases r with
  | nil => exact o.elim
  | cons s r =>
    have h1 := h.two
    rcases o with ⟨_, _, e⟩ | o
    · rw [e]
      unfold lin
      grind
    · exfalso
      have : ∀ (s : Pt) (r : List Pt), q.1 < s.1 → Inc (s :: r) → ¬ OnL (s :: r) q.1 y := by
        intro s r hs hi
        induction r generalizing s with
        | nil => exact fun z => z
        | cons u r ih =>
          rintro (⟨z, _, _⟩ | z)
          · grind
          · have := hi.two
            exact ih u (by grind) hi.tail z
      exact this s r h1 h.tail o
theorem on_ge {q : Pt} {r : List Pt} {t y : Rat} (h : Inc (q :: r)) (o : OnL (q :: r) t y) : q.1 ≤ t := by
  induction r generalizing q with
  | nil => exact o.elim
  | cons s r ih =>
    rcases o with ⟨a, _, _⟩ | o
    · exact a
    · have h1 := h.two
      have := ih h.tail o
      grind
theorem on_one {ps : List Pt} {t y z : Rat} (h : Inc ps) (a : OnL ps t y) (b : OnL ps t z) : y = z := by
  induction ps with
  | nil => exact a.elim
  | cons p r ih =>
    cases r with
    | nil => exact a.elim
    | cons q r =>
      have h1 := h.two
      have key : ∀ {w : Rat}, t ≤ q.1 → OnL (q :: r) t w → w = lin p q t := by
        intro w l o
        have g := on_ge h.tail o
        have e : t = q.1 := by grind
        subst e
        rw [on_head h.tail o]
        unfold lin slp
        grind
      rcases a with ⟨_, l, e⟩ | a
      · rcases b with ⟨_, _, e2⟩ | b
        · rw [e, e2]
        · rw [e, key l b]
      · rcases b with ⟨_, l, e⟩ | b
        · rw [e, key l a]
        · exact ih h.tail a b
theorem on_get {ps : List Pt} {i : Nat} {p q : Pt} {t : Rat} (h1 : ps[i]? = some p) (h2 : ps[i + 1]? = some q) (a : p.1 ≤ t) (b : t ≤ q.1) : OnL ps t (lin p q t) := by
  induction ps generalizing i with
  | nil => simp at h1
  | cons x r ih =>
    cases i with
    | zero =>
      simp at h1
      subst h1
      cases r with
      | nil => simp at h2
      | cons y r =>
        simp at h2
        subst h2
        exact .inl ⟨a, b, rfl⟩
    | succ i =>
      cases r with
      | nil => simp at h1
      | cons y r => exact .inr (ih (by simpa using h1) (by simpa using h2))
theorem on_bnd {f : Pt} {r : List Pt} {t y : Rat} (h : Inc (f :: r)) (o : OnL (f :: bnd f r) t y) : OnL (f :: r) t y := by
  induction r generalizing f with
  | nil => exact o
  | cons p r ih =>
    cases r with
    | nil => exact o
    | cons q r =>
      have h1 := h.two
      have h2 := h.tail.two
      unfold bnd at o
      by_cases c : slp f p = slp p q
      · rw [if_pos c] at o
        have o2 := ih h.skip o
        rcases o2 with ⟨a, b, e⟩ | o2
        · have e1 : lin f q t = lin f p t := by
            unfold lin slp at *
            grind
          have e2 : lin f q t = lin p q t := by
            unfold lin slp at *
            grind
          by_cases l : t ≤ p.1
          · exact .inl ⟨a, l, e.trans e1⟩
          · exact .inr (.inl ⟨by grind, b, e.trans e2⟩)
        · exact .inr (.inr o2)
      · rw [if_neg c] at o
        rcases o with x | o
        · exact .inl x
        · exact .inr (ih h.tail o)
theorem on_bends {ps : List Pt} {t y : Rat} (h : Inc ps) (o : OnL (bends ps) t y) : OnL ps t y := by
  cases ps with
  | nil => exact o
  | cons f r => exact on_bnd h o
theorem bnd_sub (f : Pt) (r : List Pt) : (bnd f r).Sublist r := by
  induction r generalizing f with
  | nil => exact List.Sublist.refl _
  | cons p r ih =>
    cases r with
    | nil => exact List.Sublist.refl _
    | cons q r =>
      unfold bnd
      split
      · exact List.Sublist.cons p (ih f)
      · exact List.Sublist.cons_cons p (ih p)
theorem bends_sub (ps : List Pt) : (bends ps).Sublist ps := by
  cases ps with
  | nil => exact List.Sublist.refl _
  | cons f r => exact List.Sublist.cons_cons f (bnd_sub f r)
theorem Inc.bends {ps : List Pt} (h : Inc ps) : Inc (bends ps) := List.Pairwise.sublist (bends_sub ps) h
theorem bnd_next {p q : Pt} {r : List Pt} (h : Inc (p :: q :: r)) : ∃ n l, bnd p (q :: r) = n :: l ∧ slp p n = slp p q ∧ p.1 < n.1 := by
  induction r generalizing q with
  | nil => exact ⟨q, [], rfl, rfl, h.two⟩
  | cons s r ih =>
    unfold bnd
    have h1 := h.two
    have h2 := h.tail.two
    split
    · rename_i c
      obtain ⟨n, l, e, e2, e3⟩ := ih h.skip
      refine ⟨n, l, e, e2.trans ?_, e3⟩
      unfold slp at *
      grind
    · exact ⟨q, _, rfl, rfl, h1⟩
theorem bnd_idem {f : Pt} {r : List Pt} (h : Inc (f :: r)) : bnd f (bnd f r) = bnd f r := by
  induction r generalizing f with
  | nil => rfl
  | cons p r ih =>
    cases r with
    | nil => rfl
    | cons q r =>
      by_cases c : slp f p = slp p q
      · have e : bnd f (p :: q :: r) = bnd f (q :: r) := by rw [bnd, if_pos c]
        rw [e]
        exact ih h.skip
      · have e : bnd f (p :: q :: r) = p :: bnd p (q :: r) := by rw [bnd, if_neg c]
        rw [e]
        obtain ⟨n, l, e1, e2, _⟩ := bnd_next h.tail
        have i2 := ih h.tail
        rw [e1] at i2 ⊢
        rw [bnd, if_neg (by rw [e2]; exact c), i2]
theorem bends_idem {ps : List Pt} (h : Inc ps) : bends (bends ps) = bends ps := by
  cases ps with
  | nil => rfl
  | cons f r => exact congrArg (f :: ·) (bnd_idem h)
theorem bnd_last {f : Pt} {r : List Pt} (h : r ≠ []) : (bnd f r).getLast? = r.getLast? := by
  induction r generalizing f with
  | nil => exact absurd rfl h
  | cons p r ih =>
    cases r with
    | nil => rfl
    | cons q r =>
      have e : (p :: q :: r).getLast? = (q :: r).getLast? := by rw [List.getLast?_cons_cons]
      rw [e]
      unfold bnd
      split
      · exact ih (by simp)
      · have := ih (f := p) (by simp)
        rw [List.getLast?_cons, this]
        rw [List.getLast?_eq_some_getLast (List.cons_ne_nil q r)]
        rfl
theorem bends_last (ps : List Pt) : (bends ps).getLast? = ps.getLast? := by
  cases ps with
  | nil => rfl
  | cons f r =>
    cases r with
    | nil => rfl
    | cons q r =>
      show (f :: bnd f (q :: r)).getLast? = _
      rw [List.getLast?_cons, bnd_last (by simp), List.getLast?_cons_cons, List.getLast?_eq_some_getLast (List.cons_ne_nil q r)]
      rfl
theorem bends_head (ps : List Pt) : (bends ps).head? = ps.head? := by
  cases ps <;> rfl
theorem bends_two {ps : List Pt} (h : 2 ≤ ps.length) : 2 ≤ (bends ps).length := by
  match ps, h with
  | f :: q :: r, _ =>
    show 2 ≤ (bnd f (q :: r)).length + 1
    have := bnd_last (f := f) (r := q :: r) (by simp)
    cases e : bnd f (q :: r) with
    | nil =>
      rw [e, List.getLast?_eq_some_getLast (List.cons_ne_nil q r)] at this
      cases this
    | cons a b => simp
/-- that a point is on the straight row between two others -/
theorem col_iff {f p q : Pt} (h1 : f.1 < p.1) (h2 : p.1 < q.1) : slp f p = slp p q ↔ lin f q p.1 = p.2 := by
  unfold lin slp
  grind
theorem col_far {f p q : Pt} (h1 : f.1 < p.1) (h2 : p.1 < q.1) (c : slp f p = slp p q) : slp f q = slp f p := by
  unfold slp at *
  grind
theorem inc_get {ps : List Pt} {i j : Nat} {p q : Pt} (h : Inc ps) (hi : ps[i]? = some p) (hj : ps[j]? = some q) (l : i < j) : p.1 < q.1 := by
  obtain ⟨a, ha⟩ := List.getElem?_eq_some_iff.mp hi
  obtain ⟨b, hb⟩ := List.getElem?_eq_some_iff.mp hj
  have := List.pairwise_iff_getElem.mp h i j a b l
  rw [ha, hb] at this
  exact this
/-! the stack that bends a line -/
/-- behind i points, at least two: the kept ones, the last one of them, the last point -/
def StkG (ps : List Pt) (i : Nat) (G : List Pt) (f p : Pt) : Prop :=
  ∃ r, ps.drop (i - 1) = p :: r ∧ bends ps = G ++ f :: bnd f (p :: r) ∧ (∀ G' e, G = G' ++ [e] → slp e f ≠ slp f p ∧ e.1 < f.1) ∧ f.1 < p.1 ∧ 2 ≤ i
def StkOk (ps : List Pt) (i : Nat) (st : List Pt) : Prop :=
  (i = 0 ∧ st = []) ∨ (i = 1 ∧ ∃ p r, ps = p :: r ∧ st = [p]) ∨ ∃ G f p, st = G ++ [f, p] ∧ StkG ps i G f p
theorem stk0 {ps : List Pt} {q : Pt} (h : ps[0]? = some q) : StkOk ps 1 [q] := by
  cases ps with
  | nil => simp at h
  | cons p r =>
    simp at h
    exact .inr (.inl ⟨rfl, p, r, rfl, by rw [h]⟩)
theorem stk1 {ps : List Pt} {p q : Pt} {r : List Pt} (hi : Inc ps) (e : ps = p :: r) (h : ps[1]? = some q) : StkOk ps 2 [p, q] := by
  subst e
  cases r with
  | nil => simp at h
  | cons q' r =>
    simp at h
    subst h
    exact .inr (.inr ⟨[], p, q', rfl, r, rfl, rfl, fun G' e z => by simp at z, hi.two, Nat.le_refl 2⟩)
theorem drop_next {ps : List Pt} {i : Nat} {p q : Pt} {r : List Pt} (hi : 1 ≤ i) (hd : ps.drop (i - 1) = p :: r) (h : ps[i]? = some q) : ∃ r', r = q :: r' ∧ ps.drop i = q :: r' := by
  have e : ps.drop i = r := by
    have : (ps.drop (i - 1)).drop 1 = ps.drop i := by
      rw [List.drop_drop]
      congr 1
      omega
    rw [← this, hd]
    rfl
  cases r with
  | nil =>
    have := congrArg List.length e
    have hl := (List.getElem?_eq_some_iff.mp h).1
    simp at this
    omega
  | cons q' r' =>
    have : (ps.drop i)[0]? = some q := by simpa using h
    rw [e] at this
    simp at this
    subst this
    exact ⟨r', rfl, e⟩
theorem stkG_inc {ps : List Pt} {i : Nat} {G : List Pt} {f p q : Pt} (hi : Inc ps) (s : StkG ps i G f p) (h : ps[i]? = some q) : p.1 < q.1 := by
  obtain ⟨r, hd, _, _, _, h2⟩ := s
  have hp : ps[i - 1]? = some p := by
    have : (ps.drop (i - 1))[0]? = some p := by rw [hd]; rfl
    simpa using this
  exact inc_get hi hp h (by omega)
theorem stk_pop {ps : List Pt} {i : Nat} {G : List Pt} {f p q : Pt} (hi : Inc ps) (s : StkG ps i G f p) (h : ps[i]? = some q) (c : slp f p = slp p q) : StkOk ps (i + 1) (G ++ [f, q]) := by
  have l := stkG_inc hi s h
  obtain ⟨r, hd, hb, hn, hf, h2⟩ := s
  obtain ⟨r', rfl, hd'⟩ := drop_next (by omega) hd h
  refine .inr (.inr ⟨G, f, q, rfl, r', by simpa using hd', ?_, fun G' e z => ?_, by grind, by omega⟩)
  · rw [hb, bnd, if_pos c]
  · obtain ⟨n1, n2⟩ := hn G' e z
    refine ⟨?_, n2⟩
    rw [col_far hf l c]
    exact n1
theorem stk_push {ps : List Pt} {i : Nat} {G : List Pt} {f p q : Pt} (hi : Inc ps) (s : StkG ps i G f p) (h : ps[i]? = some q) (c : ¬ slp f p = slp p q) : StkOk ps (i + 1) (G ++ [f, p] ++ [q]) := by
  have l := stkG_inc hi s h
  obtain ⟨r, hd, hb, hn, hf, h2⟩ := s
  obtain ⟨r', rfl, hd'⟩ := drop_next (by omega) hd h
  refine .inr (.inr ⟨G ++ [f], p, q, by simp, r', by simpa using hd', ?_, fun G' e z => ?_, l, by omega⟩)
  · rw [hb, bnd, if_neg c]
    simp
  · have : e = f := by
      have := congrArg List.getLast? z
      simpa using this.symm
    subst this
    exact ⟨c, hf⟩
theorem stk_end {ps st : List Pt} (h2 : 2 ≤ ps.length) (s : StkOk ps ps.length st) : st = bends ps := by
  rcases s with ⟨e, _⟩ | ⟨e, _⟩ | ⟨G, f, p, rfl, r, hd, hb, _, _, _⟩
  · omega
  · omega
  · have hr : r = [] := by
      have := congrArg List.length hd
      simp at this
      cases r with
      | nil => rfl
      | cons _ _ => simp at this; omega
    subst hr
    rw [hb]
    rfl
theorem stkG_mem {ps : List Pt} {i : Nat} {G : List Pt} {f p : Pt} (s : StkG ps i G f p) : (∀ e ∈ G, e ∈ ps) ∧ f ∈ ps ∧ p ∈ ps := by
  obtain ⟨r, hd, hb, _⟩ := s
  have hs := (bends_sub ps).subset
  rw [hb] at hs
  refine ⟨fun e he => hs (by simp [he]), hs (by simp), ?_⟩
  have : p ∈ ps.drop (i - 1) := by rw [hd]; simp
  exact List.mem_of_mem_drop this
/-- the slope ahead is no more that of the new row, once the last point is away -/
theorem stk_stop {ps : List Pt} {i : Nat} {G' : List Pt} {e f p q : Pt} (hi : Inc ps) (s : StkG ps i (G' ++ [e]) f p) (h : ps[i]? = some q) (c : slp f p = slp p q) : slp e f ≠ slp f q ∧ e.1 < f.1 ∧ f.1 < q.1 := by
  have l := stkG_inc hi s h
  obtain ⟨r, hd, hb, hn, hf, h2⟩ := s
  obtain ⟨n1, n2⟩ := hn G' e rfl
  refine ⟨?_, n2, by grind⟩
  rw [col_far hf l c]
  exact n1
/-! the place of a moment -/
theorem cnt_pre {t : Rat} : ∀ {m : List Pt}, Inc m → (∀ i p, m[i]? = some p → i < (m.filter fun p => decide (p.1 ≤ t)).length → p.1 ≤ t) ∧ ∀ p, m[(m.filter fun p => decide (p.1 ≤ t)).length]? = some p → t < p.1
  | [], _ => ⟨fun i p h => by simp at h, fun p h => by simp at h⟩
  | q :: m, h => by
    obtain ⟨a, b⟩ := cnt_pre (t := t) h.tail
    by_cases hq : q.1 ≤ t
    · rw [List.filter_cons_of_pos (by simpa using hq)]
      refine ⟨fun i p hp hi => ?_, fun p hp => b p (by simpa using hp)⟩
      cases i with
      | zero =>
        simp at hp
        rw [← hp]
        exact hq
      | succ i => exact a i p (by simpa using hp) (by simpa using hi)
    · have e : ((q :: m).filter fun p => decide (p.1 ≤ t)) = [] := by
        rw [List.filter_eq_nil_iff]
        intro p hp
        simp only [decide_eq_true_eq]
        rcases List.mem_cons.mp hp with rfl | hp
        · exact hq
        · have := (List.pairwise_cons.mp h).1 p hp
          grind
      rw [e]
      refine ⟨fun i p _ hi => by simp at hi, fun p hp => ?_⟩
      simp at hp
      subst hp
      grind
theorem mid_get {ps : List Pt} {i : Nat} (h : i + 2 < ps.length) : ((ps.drop 1).dropLast)[i]? = ps[i + 1]? := by
  rw [List.getElem?_dropLast, List.length_drop, if_pos (by omega), List.getElem?_drop, Nat.add_comm]
theorem cnt_seg {ps : List Pt} {t : Rat} {p0 pn : Pt} (inc : Inc ps) (l2 : 2 ≤ ps.length) (h0 : ps[0]? = some p0) (hn : ps[ps.length - 1]? = some pn) (b0 : p0.1 ≤ t) (bn : t ≤ pn.1) :
    ∃ p q, ps[(((ps.drop 1).dropLast).filter fun p => decide (p.1 ≤ t)).length]? = some p ∧ ps[(((ps.drop 1).dropLast).filter fun p => decide (p.1 ≤ t)).length + 1]? = some q ∧ p.1 ≤ t ∧ t ≤ q.1 := by
  have hm : Inc ((ps.drop 1).dropLast) := List.Pairwise.sublist ((List.dropLast_sublist _).trans (List.drop_sublist 1 ps)) inc
  have hl : ((ps.drop 1).dropLast).length = ps.length - 2 := by
    rw [List.length_dropLast, List.length_drop]
    omega
  have hk := List.length_filter_le (fun p : Pt => decide (p.1 ≤ t)) ((ps.drop 1).dropLast)
  obtain ⟨a, b⟩ := cnt_pre (t := t) hm
  generalize (((ps.drop 1).dropLast).filter fun p => decide (p.1 ≤ t)).length = k at a b hk
  rw [hl] at hk
  have g1 : ps[k]? = some ps[k] := List.getElem?_eq_getElem (by omega)
  have g2 : ps[k + 1]? = some ps[k + 1] := List.getElem?_eq_getElem (by omega)
  refine ⟨_, _, g1, g2, ?_, ?_⟩
  · cases k with
    | zero =>
      rw [h0] at g1
      rw [← Option.some.inj g1]
      exact b0
    | succ k => exact a k _ ((mid_get (by omega)).trans g1) (by omega)
  · by_cases hk2 : k + 2 < ps.length
    · have := b _ ((mid_get hk2).trans g2)
      grind
    · have : k + 1 = ps.length - 1 := by omega
      rw [← this, g2] at hn
      rw [Option.some.inj hn]
      exact bn
theorem on_ht {ps : List Pt} {t y : Rat} {n : Nat} (inc : Inc ps) (h : ∀ p ∈ ps, Ht n p.1 ∧ Ht n p.2) (ht : Ht n t) (o : OnL ps t y) : Ht (n + (n + n + 1 + (n + n + 1) + (n + n + 1)) + 1) y := by
  induction ps with
  | nil => exact o.elim
  | cons p r ih =>
    cases r with
    | nil => exact o.elim
    | cons q r =>
      rcases o with ⟨_, _, e⟩ | o
      · have hp := h p (by simp)
        have hq := h q (by simp)
        have hl := inc.two
        rw [e]
        unfold lin slp
        exact hp.2.add (((hq.2.sub hp.2).div (hq.1.sub hp.1) (by grind)).mul (ht.sub hp.1))
      · exact ih inc.tail (fun p hp => h p (by simp [hp])) o
theorem share_in {d : Int} (h0 : 0 ≤ d) (h1 : d < 7) : 0 ≤ Rat.divInt d 6 ∧ Rat.divInt d 6 ≤ 1 := by
  rw [Rat.divInt_eq_div]
  have a : ((0 : Int) : Rat) ≤ ((d : Int) : Rat) := Rat.intCast_le_intCast.mpr h0
  have b : ((d : Int) : Rat) ≤ ((6 : Int) : Rat) := Rat.intCast_le_intCast.mpr (by omega)
  generalize ((d : Int) : Rat) = x at *
  have e6 : ((6 : Int) : Rat) = 6 := rfl
  have e0 : ((0 : Int) : Rat) = 0 := rfl
  rw [e6] at *
  rw [e0] at a
  grind
theorem between {a b s : Rat} (h : a ≤ b) (h0 : 0 ≤ s) (h1 : s ≤ 1) : a ≤ a + s * (b + -a) ∧ a + s * (b + -a) ≤ b := by
  have x : 0 ≤ s * (b - a) := Rat.mul_nonneg h0 (by grind)
  have y : 0 ≤ (1 - s) * (b - a) := Rat.mul_nonneg (by grind) (by grind)
  constructor <;> grind
end LM
set_option Elab.async false
set_option linter.all false
set_option maxRecDepth 100000
set_option maxHeartbeats 4000000
namespace LW
open PySem PySem.Spec PyProof.Rows L2 LV LM
/-! the class Exact -/
structure XC (K : PySem.W.Frag) (mg : Str → Option Value) (C : Addr) : Prop extends Bt mg where
  cl : Cls K C
  nO : NoAttr K C "over"
  nU : NoAttr K C "under"
  own : OwnC K C
  mgC : mg "Exact" = some (.ref C)
  ha : PySem.W.findIn K (.ref C) "__class__" = some (some (.builtin "object.__class__"))
  hn : PySem.W.specialIn K (.builtin "object.__class__") "__get__" = some (some (.builtin "getset_descriptor.__get__"))
  htk : PySem.W.takesIn K (.builtin "object.__class__") = some true
  hm : PySem.W.mroIn K C (.type "object") = some true
  kXI : PySem.W.kitOne K (.ref C) (.type "int") = some false
  kXB : PySem.W.kitOne K (.ref C) (.type "bool") = some false
  kXL : PySem.W.kitOne K (.ref C) (.type "list") = some false
  kXT : PySem.W.kitOne K (.ref C) (.type "tuple") = some false
  kIX : PySem.W.kitOne K (.type "int") (.ref C) = some false
  kLX : PySem.W.kitOne K (.type "list") (.ref C) = some false
  kTX : PySem.W.kitOne K (.type "tuple") (.ref C) = some false
  f_radd : ∃ g, PySem.W.findIn K (.ref C) "__radd__" = some (some (.ref g))
  f_rsub : ∃ g, PySem.W.findIn K (.ref C) "__rsub__" = some (some (.ref g))
  f_rmul : ∃ g, PySem.W.findIn K (.ref C) "__rmul__" = some (some (.ref g))
def exF (o u : Int) : List (Str × V) := [("over", .int o), ("under", .int u)]
/-- v is an Exact over o under u -/
def IsX (C : Addr) (H : Hp) (v : V) (o u : Int) : Prop := ∃ x dx, v = .ref x ∧ H x = some (.ins C dx (exF o u))
theorem IsX.same {C : Addr} {H H1 : Hp} {v : V} {o u : Int} (e : Same H H1) (h : IsX C H v o u) : IsX C H1 v o u := by
  obtain ⟨x, dx, rfl, h⟩ := h
  exact ⟨x, dx, rfl, e _ _ h⟩
theorem IsX.but {K : PySem.W.Frag} {a C : Addr} {H H1 : Hp} {v : V} {o u : Int} (e : Bus a H H1) (s : Stt K H a) (h : IsX C H v o u) : IsX C H1 v o u := by
  obtain ⟨x, dx, rfl, h⟩ := h
  exact ⟨x, dx, rfl, e.get s h rfl⟩
/-- v is a number: an int or an Exact -/
def IsN (C : Addr) (H : Hp) (v : V) (o u : Int) : Prop := (v = .int o ∧ u = 1) ∨ IsX C H v o u
theorem IsN.same {C : Addr} {H H1 : Hp} {v : V} {o u : Int} (e : Same H H1) (h : IsN C H v o u) : IsN C H1 v o u := h.imp id (IsX.same e)
theorem IsN.num {C : Addr} {H : Hp} {v : V} {o u : Int} (h : IsN C H v o u) : NumV C H v := by
  rcases h with ⟨rfl, _⟩ | ⟨x, dx, rfl, h⟩
  · exact .inl ⟨_, rfl⟩
  · exact .inr ⟨x, dx, _, rfl, h⟩
abbrev Big (i : Int) : Prop := i.natAbs < 2 ^ 4000
theorem big_ne {i : Int} (h : Big i) : i.natAbs.log2 < 9000 := Nat.lt_of_lt_of_le (PySem.Flt.log2_lt_of (by decide) h) (by decide)
theorem mulB {i j : Int} (h : Big i) (h' : Big j) : IntMulOk i j := (wide_mul h h' (by decide) (by decide) (by decide)).ok
abbrev Sm (i : Int) : Prop := i.natAbs < 2 ^ 1000
theorem Sm.big {i : Int} (h : Sm i) : Big i := Nat.lt_of_lt_of_le h (Nat.pow_le_pow_right (by decide) (by decide))
theorem smul {i j : Int} (h : Sm i) (h' : Sm j) : IntMulOk i j := mulB h.big h'.big
theorem big_mul {i j : Int} (h : Sm i) (h' : Sm j) : Big (i * j) := by
  have q := wide_lt h h'
  exact Nat.lt_of_lt_of_le q (Nat.pow_le_pow_right (by decide) (by decide))
theorem kII (K : PySem.W.Frag) : PySem.W.kitOne K (.type "int") (.type "int") = some true := rfl
theorem kIB (K : PySem.W.Frag) : PySem.W.kitOne K (.type "int") (.type "bool") = some false := by kernel_rfl
section
variable {P : Program} {w : World} {K : PySem.W.Frag} {mg : Str → Option Value} {base : Heap} {C : Addr}
/-! is_integer -/
def spInt (K : PySem.W.Frag) : Sp := fun vs H Q _ => ∃ (v : V) (t : Value) (b c : Bool), vs = [v] ∧ TyX K H v t ∧ PySem.W.kitOne K t (.type "int") = some b ∧ PySem.W.kitOne K t (.type "bool") = some c ∧ Q (.bl (b && !c)) H
abbrev s_is_integer : Stmt := top 7
abbrev N_is_integer : List Str := ["thing"]
theorem sc_is_integer : FnScope N_is_integer ["thing"] (defScope s_is_integer) := ⟨rfl, rfl, rfl, by decide +kernel, rfl, by decide +kernel, by decide +kernel⟩
-- slots: 0 thing
theorem ok_is_integer {f : Addr} {fd : FuncData} (F : FunD K "is_integer" "is_integer" (defArgs s_is_integer) (defBody s_is_integer) (defScope s_is_integer) [] [] f fd) (T : Bt mg) : FnOk P w K mg base CX0 1 f fd ["thing"] (spInt K) := by
  refine F.ok sc_is_integer (fun vs H Q E h => ?_) (fun cdv A outer s H vs Q E hr h => ?_)
  · obtain ⟨v, t, b, c, rfl, ht, hb, hc, k⟩ := h
    rfl
  · obtain ⟨v, t, b, c, rfl, ht, hb, hc, k⟩ := h
    refine ⟨_, PSs.nox (pss_one (ps_ret (pe_and (pe_callB call_isi rfl T.isinstance (by decide +kernel) (pa_cons (pv 0) (pa_cons (pe_bltn (v := .ty "int") rfl T.int (by decide +kernel) rfl) pa_nil))) (pe_one (pe_not (pe_callB call_isi rfl T.isinstance (by decide +kernel) (pa_cons (pv 0) (pa_cons (pe_bltn (v := .ty "bool") rfl T.bool (by decide +kernel) rfl) pa_nil)))))))), ?_⟩
    refine ⟨_, rfl, _, _, t, _, b, rfl, .ty "int", ht, hb, b, rfl, ?_⟩
    cases b with
    | false => exact k
    | true => exact ⟨_, rfl, _, _, t, _, c, rfl, .ty "bool", ht, hc, c, rfl, k⟩
theorem int_yes {H : Hp} {Q : VK} {E : XK} {i : Int} (q : Q (.bl true) H) : spInt K [.int i] H Q E := ⟨_, _, true, false, rfl, .base (.int i), kII K, kIB K, q⟩
/-! common -/
def spGcd : Sp := fun vs H Q _ => ∃ a b : Int, vs = [.int a, .int b] ∧ Q (.int (a.gcd b : Int)) H
abbrev s_common : Stmt := top 9
abbrev N_common : List Str := ["a", "b"]
theorem sc_common : FnScope N_common ["a", "b"] (defScope s_common) := ⟨rfl, rfl, rfl, by decide +kernel, rfl, by decide +kernel, by decide +kernel⟩
-- slots: 0 a, 1 b
theorem ok_common {f : Addr} {fd : FuncData} (F : FunD K "common" "common" (defArgs s_common) (defBody s_common) (defScope s_common) [] [] f fd) (T : Bt mg) : FnOk P w K mg base CX0 1 f fd ["a", "b"] spGcd := by
  refine F.ok sc_common (fun vs H Q E h => ?_) (fun cdv A outer s H vs Q E hr h => ?_)
  · obtain ⟨a, b, rfl, k⟩ := h
    rfl
  · obtain ⟨a, b, rfl, k⟩ := h
    refine ⟨_, PSs.nox (pss_cons (ps_while PassesOwn.never (pt_cmpR op_ne (pv 1) pe_int (nomark _)) (pss_one (ps_par (i := 0) (j := 1) rfl sc_common.nd rfl rfl (by decide) rfl rfl (pa_cons (pv 1) (pa_cons (pe_op op_modN (pv 0) (pv 1)) pa_nil)) rfl)))
      (pss_one (ps_ret (pe_ifExp (pt_cmpR op_gt (pv 0) pe_int (nomark _)) (pv 0) (pe_un un_neg (pv 0)))))), ?_⟩
    refine ⟨fun m σ H' => ∃ x y : Int, σ = [some (.int x), some (.int y)] ∧ H' = H ∧ m = y.natAbs ∧ x.gcd y = a.gcd b, ⟨_, a, b, rfl, rfl, rfl, rfl⟩, ?_⟩
    rintro m σ H' ⟨x, y, rfl, rfl, rfl, hg⟩
    refine ⟨_, rfl, rfl, _, rfl, ?_⟩
    by_cases hy : y = 0
    · subst hy
      refine iteF ?_
      rw [Int.gcd_zero_right] at hg
      refine ⟨_, rfl, _, _, rfl, rfl, _, rfl, ?_⟩
      refine ite2 (fun hc => ?_) (fun hc => ?_)
      · have h0 : 0 < x := of_decide_eq_true hc
        refine ⟨_, rfl, ?_⟩
        have e : x = (a.gcd b : Int) := by omega
        rw [e]
        exact k
      · have h0 : ¬ 0 < x := fun z => hc (decide_eq_true z)
        refine ⟨_, rfl, _, rfl, ?_⟩
        have e : -x = (a.gcd b : Int) := by omega
        show Q (.int (-x)) _
        rw [e]
        exact k
    · have e : (!decide (V.int y = V.int 0)) = true := by simp [hy]
      rw [e]
      refine iteT ⟨fun σ' H'' => σ' = [some (.int y), some (.int (x.fmod y))] ∧ H'' = H', fun σ' H'' ⟨h1, h2⟩ => ⟨_, fmod_lt x y hy, y, _, h1, h2, rfl, (gcd_step x y).trans hg⟩, ?_⟩
      exact ⟨_, rfl, _, rfl, _, rfl, _, _, rfl, rfl, hy, _, _, rfl, rfl, rfl⟩
/-! Exact(over, under) -/
def spInit (C : Addr) : Sp := fun vs H Q _ => ∃ (p dx : Addr) (o u : Int), vs = [.ref p, .int o, .int u] ∧ H p = some (.ins C dx []) ∧ u ≠ 0 ∧ Big u ∧ ∀ H', But p H H' → H' p = some (.ins C dx (exF (rO o u) (rD o u))) → Q .non H'
abbrev s_Exact___init__ : Stmt := inClass (top 10) 0
abbrev N_Exact___init__ : List Str := ["self", "over", "under", "part", "whole"]
theorem sc_Exact___init__ : FnScope N_Exact___init__ ["self", "over", "under"] (defScope s_Exact___init__) := ⟨rfl, rfl, rfl, by decide +kernel, rfl, by decide +kernel, by decide +kernel⟩
-- slots: 0 self, 1 over, 2 under, 3 part, 4 whole
theorem ok_Exact___init__ {f : Addr} {fd : FuncData} (F : FunD K "__init__" "Exact.__init__" (defArgs s_Exact___init__) (defBody s_Exact___init__) (defScope s_Exact___init__) [.int 1] [] f fd) (T : XC K mg C) (c_is_integer : C8.Cal P w K mg base 1 "is_integer" (spInt K) []) (c_common : C8.Cal P w K mg base 1 "common" spGcd []) : FnOk P w K mg base CX0 2 f fd ["self", "over", "under"] (spInit C) := by
  refine F.ok sc_Exact___init__ (fun vs H Q E h => ?_) (fun cdv A outer s H vs Q E hr h => ?_)
  · obtain ⟨p, dx, o, u, rfl, hp, hu, hub, k⟩ := h
    rfl
  · obtain ⟨p, dx, o, u, rfl, hp, hu, hub, k⟩ := h
    refine ⟨_, PSs.nox (pss_cons (ps_for PassesOwn.never rfl (pi_tup (pe_tup (pa_cons (pv 1) (pa_cons (pv 2) pa_nil)))) (pg_name (i := 3) sc_Exact___init__.nd rfl (Or.inl rfl)) (pss_one (ps_if (pt_not (pt_val (C8.pe_c c_is_integer hr (by decide) rfl (pa_cons (pv 3) pa_nil)))) (pss_one ps_never) pss_nil)))
      (pss_cons (ps_if (pt_cmpR op_eq (pv 2) pe_int (nomark _)) (pss_one ps_never) pss_nil)
      (pss_cons (ps_set (i := 4) sc_Exact___init__.nd rfl (Or.inl rfl) (C8.pe_c c_common hr (by decide) rfl (pa_cons (pv 1) (pa_cons (pv 2) pa_nil))))
      (Evl.pss_cut (ps_if (pt_cmpR op_lt (pv 2) pe_int (nomark _)) (pss_one (ps_set (i := 4) sc_Exact___init__.nd rfl (Or.inl rfl) (pe_un un_neg (pv 4)))) pss_nil)
      (pss_cons (ps_fld (pv 0) (pe_op op_fdivG (pv 1) (pv 4)) rfl)
      (pss_one (ps_fld (pv 0) (pe_op op_fdivG (pv 2) (pv 4)) rfl))))))), ?_⟩
    refine ⟨_, rfl, _, rfl, by show 2 ≤ sizeLine; decide, fun t n1 => ?_⟩
    generalize q1 : upd H t _ = H1
    have h1 := nAt q1
    have e1 := nSm q1 n1
    refine ⟨t, rfl, ⟨_, SqT.of h1⟩, ?_⟩
    refine for_it (walk_tup (xs := [.int o, .int u])) (fun i σ H2 => ∃ x, σ = [some (.ref p), some (.int o), some (.int u), x, none] ∧ H2 = H1) ⟨_, rfl, rfl⟩ (fun i σ H2 _ ⟨_, _, e⟩ => by rw [e]; exact SqT.of h1) ?_ ?_
    · rintro i x σ H2 H3 hi ⟨x3, rfl, rfl⟩ ⟨rfl, hx⟩
      obtain ⟨z, rfl⟩ : ∃ z, x = .int z := by
        rcases i with _ | _ | i
        · exact ⟨_, (Option.some.inj hx).symm⟩
        · exact ⟨_, (Option.some.inj hx).symm⟩
        · exact absurd hi (by simp)
      exact ⟨_, rfl, _, _, true, false, rfl, .base (.int z), kII K, kIB K, _, rfl, iteF ⟨_, rfl, rfl⟩⟩
    rintro σ H2 ⟨x3, rfl, rfl⟩
    refine ⟨_, rfl, rfl, _, rfl, ?_⟩
    have e0 : decide (V.int u = V.int 0) = false := by simp [hu]
    rw [e0]
    refine iteF ⟨_, rfl, _, rfl, o, u, rfl, ?_⟩
    refine ⟨fun σ H3 => σ = [some (.ref p), some (.int o), some (.int u), x3, some (.int (rwh o u))] ∧ H3 = H2, ?_, ?_⟩
    · refine ⟨_, rfl, _, _, rfl, rfl, _, rfl, ?_⟩
      refine ite2 (fun hc => ?_) (fun hc => ?_)
      · have h0 : u < 0 := of_decide_eq_true hc
        refine ⟨_, rfl, _, rfl, ?_, rfl⟩
        have e : rwh o u = -(o.gcd u : Int) := by unfold rwh; rw [if_pos h0]
        rw [e]
        rfl
      · have h0 : ¬ u < 0 := fun z => hc (decide_eq_true z)
        refine ⟨?_, rfl⟩
        have e : rwh o u = (o.gcd u : Int) := by unfold rwh; rw [if_neg h0]
        rw [e]
        rfl
    rintro σ H3 ⟨rfl, rfl⟩
    have hw : rwh o u ≠ 0 ∧ (rwh o u).natAbs.log2 < 9000 := ⟨rwh_ne hu, big_ne (Nat.lt_of_le_of_lt (abs_rwh hu) hub)⟩
    have hp1 := e1 _ _ hp
    refine ⟨_, rfl, _, rfl, _, _, rfl, rfl, hw, _, rfl, p, C, dx, _, rfl, hp1, T.cl, T.nO, (by show 0 < 1000; decide), ?_⟩
    refine ⟨_, rfl, _, rfl, _, _, rfl, rfl, hw, _, rfl, p, C, dx, _, rfl, upd_same, T.cl, T.nU, (by show 1 < 1000; decide), ?_⟩
    refine k _ ((Same.but e1).trans (((But.refl p _).upd).upd)) ?_
    rw [upd_same]
    rfl
/-- what Exact(o, u) makes -/
theorem mkX {H : Hp} {o u : Int} {Q : VK} {E : XK} (hu : u ≠ 0) (hub : Big u) (k : ∀ v H', Same H H' → IsX C H' v (rO o u) (rD o u) → Q v H') :
    ∀ x dx : Addr, H x = none → H dx = none → dx ≠ x → spInit C [.ref x, .int o, .int u] (upd (upd H dx (.own x)) x (.ins C dx [])) (fun v H2 => v = .non ∧ Q (.ref x) H2) E := by
  intro x dx nx nd ne
  refine ⟨x, dx, o, u, rfl, upd_same, hu, hub, fun H' e h => ⟨rfl, k _ _ (fun b ob hb => ?_) ⟨x, dx, rfl, h⟩⟩⟩
  have n1 := ne_of_none hb nx
  refine e b ob n1 ?_
  rw [upd_ne n1, upd_ne (ne_of_none hb nd)]
  exact hb
/-! part_of -/
def spPart (C : Addr) : Sp := fun vs H Q _ => ∃ (v : V) (o u : Int), vs = [v] ∧ IsN C H v o u ∧ ∀ v' H', Same H H' → IsX C H' v' o u → Q v' H'
theorem tyX {H : Hp} {x dx : Addr} {fs : List (Str × V)} (T : XC K mg C) (h : H x = some (.ins C dx fs)) : TyX K H (.ref x) (.ref C) := .base (.ins h T.cl T.ha T.hn T.htk T.hm)
theorem kXX (K : PySem.W.Frag) (C : Addr) : PySem.W.kitOne K (.ref C) (.ref C) = some true := by
  unfold PySem.W.kitOne
  rw [if_pos (by simp)]
abbrev s_part_of : Stmt := top 11
abbrev N_part_of : List Str := ["other"]
theorem sc_part_of : FnScope N_part_of ["other"] (defScope s_part_of) := ⟨rfl, rfl, rfl, by decide +kernel, rfl, by decide +kernel, by decide +kernel⟩
-- slots: 0 other
theorem ok_part_of {f : Addr} {fd : FuncData} (F : FunD K "part_of" "part_of" (defArgs s_part_of) (defBody s_part_of) (defScope s_part_of) [] [] f fd) (T : XC K mg C) (c_is_integer : C8.Cal P w K mg base 1 "is_integer" (spInt K) []) (c_Exact : C8.Mak P w K mg base 2 "Exact" C (spInit C) [.int 1]) : FnOk P w K mg base CX0 4 f fd ["other"] (spPart C) := by
  refine F.ok sc_part_of (fun vs H Q E h => ?_) (fun cdv A outer s H vs Q E hr h => ?_)
  · obtain ⟨v, o, u, rfl, hv, k⟩ := h
    rfl
  · obtain ⟨v, o, u, rfl, hv, k⟩ := h
    refine ⟨_, PSs.nox (pss_cons (ps_if (pt_val (pe_callB call_isi rfl T.isinstance (by decide +kernel) (pa_cons (pv 0) (pa_cons (pe_glob (v := .ref C) rfl T.mgC rfl) pa_nil)))) (pss_one (ps_ret (pv 0))) pss_nil)
      (pss_cons (ps_if (pt_not (pt_val (C8.pe_c c_is_integer hr (by decide) rfl (pa_cons (pv 0) pa_nil)))) (pss_one ps_never) pss_nil)
      (pss_one (ps_ret (C8.pe_mk c_Exact hr (by decide) rfl (pa_cons (pv 0) pa_nil)))))), ?_⟩
    rcases hv with ⟨rfl, rfl⟩ | ⟨x, dx, rfl, hx⟩
    · refine ⟨_, rfl, _, _, _, _, _, rfl, .own C, .base (.int o), T.kIX, false, rfl, iteF ?_⟩
      refine ⟨_, rfl, _, _, true, false, rfl, .base (.int o), kII K, kIB K, _, rfl, iteF ?_⟩
      refine ⟨_, rfl, fun x dx nx nd ne => mkX (by decide) (by decide) (fun v' H' e hx => k v' H' e ?_) x dx nx nd ne⟩
      obtain ⟨e1, e2⟩ := red_self (red_one o)
      rw [e1, e2] at hx
      exact hx
    · exact ⟨_, rfl, _, _, _, _, _, rfl, .own C, tyX T hx, kXX K C, true, rfl, iteT ⟨_, rfl, k _ _ (Same.refl H) ⟨x, dx, rfl, hx⟩⟩⟩
end
end LW
set_option Elab.async false
set_option linter.all false
set_option maxRecDepth 100000
set_option maxHeartbeats 4000000
namespace LW
open PySem PySem.Spec PyProof.Rows L2 LV LM
def spBin (C : Addr) (f g : Int → Int → Int → Int → Int) : Sp := fun vs H Q _ => ∃ (x y : V) (o u p q : Int), vs = [x, y] ∧ IsX C H x o u ∧ IsN C H y p q ∧ Sm o ∧ Sm u ∧ Sm p ∧ Sm q ∧ u ≠ 0 ∧ q ≠ 0 ∧
  ∀ v H', Same H H' → IsX C H' v (rO (f o u p q) (g o u p q)) (rD (f o u p q) (g o u p q)) → Q v H'
abbrev spAdd (C : Addr) : Sp := spBin C (fun o u p q => o * q + p * u) (fun _ u _ q => u * q)
abbrev spSub (C : Addr) : Sp := spBin C (fun o u p q => o * q - p * u) (fun _ u _ q => u * q)
abbrev spMul (C : Addr) : Sp := spBin C (fun o _ p _ => o * p) (fun _ u _ q => u * q)
abbrev spRadd (C : Addr) : Sp := spBin C (fun o u p q => p * u + o * q) (fun _ u _ q => q * u)
abbrev spRsub (C : Addr) : Sp := spBin C (fun o u p q => p * u - o * q) (fun _ u _ q => q * u)
abbrev spRmul (C : Addr) : Sp := spBin C (fun o _ p _ => p * o) (fun _ u _ q => q * u)
section
variable {P : Program} {w : World} {K : PySem.W.Frag} {mg : Str → Option Value} {base : Heap} {C : Addr}
abbrev s_Exact___add__ : Stmt := inClass (top 10) 1
abbrev N_Exact___add__ : List Str := ["self", "other", "b"]
theorem sc_Exact___add__ : FnScope N_Exact___add__ ["self", "other"] (defScope s_Exact___add__) := ⟨rfl, rfl, rfl, by decide +kernel, rfl, by decide +kernel, by decide +kernel⟩
-- slots: 0 self, 1 other, 2 b
theorem ok_Exact___add__ {f : Addr} {fd : FuncData} (F : FunD K "__add__" "Exact.__add__" (defArgs s_Exact___add__) (defBody s_Exact___add__) (defScope s_Exact___add__) [] [] f fd) (T : XC K mg C) (c_part_of : C8.Cal P w K mg base 4 "part_of" (spPart C) []) (c_Exact : C8.Mak P w K mg base 2 "Exact" C (spInit C) []) : FnOk P w K mg base CX0 5 f fd ["self", "other"] (spAdd C) := by
  refine F.ok sc_Exact___add__ (fun vs H Q E h => ?_) (fun cdv A outer s H vs Q E hr h => ?_)
  · obtain ⟨x, y, o, u, p, q, rfl, hx, hy, so, su, sp, sq, hu, hq, k⟩ := h
    rfl
  · obtain ⟨x, y, o, u, p, q, rfl, hx, hy, so, su, sp, sq, hu, hq, k⟩ := h
    refine ⟨_, PSs.nox (pss_cons (ps_set (i := 2) sc_Exact___add__.nd rfl (Or.inl rfl) (C8.pe_c c_part_of hr (by decide) rfl (pa_cons (pv 1) pa_nil)))
      (pss_one (ps_ret (C8.pe_mk c_Exact hr (by decide) rfl (pa_cons (pe_op op_add (pe_op op_mulG (pe_fld (pv 0) rfl) (pe_fld (pv 2) rfl)) (pe_op op_mulG (pe_fld (pv 2) rfl) (pe_fld (pv 0) rfl))) (pa_cons (pe_op op_mulG (pe_fld (pv 0) rfl) (pe_fld (pv 2) rfl)) pa_nil)))))), ?_⟩
    refine ⟨_, rfl, y, p, q, rfl, hy, fun b H1 e1 hb => ?_⟩
    obtain ⟨xa, xd, rfl, hx1⟩ := hx.same e1
    obtain ⟨ba, bd, rfl, hb⟩ := hb
    refine ⟨_, rfl, xa, C, xd, _, _, rfl, hx1, T.cl, T.nO, rfl, _, rfl, ba, C, bd, _, _, rfl, hb, T.cl, T.nU, rfl, _, _, rfl, rfl, smul so sq, _, rfl, ba, C, bd, _, _, rfl, hb, T.cl, T.nO, rfl, _, rfl, xa, C, xd, _, _, rfl, hx1, T.cl, T.nU, rfl, _, _, rfl, rfl, smul sp su, _, _, rfl, rfl, _, rfl, xa, C, xd, _, _, rfl, hx1, T.cl, T.nU, rfl, _, rfl, ba, C, bd, _, _, rfl, hb, T.cl, T.nU, rfl, _, _, rfl, rfl, smul su sq, fun n dn nx nd ne => mkX (Int.mul_ne_zero hu hq) (big_mul su sq) (fun v H' e hv => k v H' (e1.trans e) hv) n dn nx nd ne⟩
abbrev s_Exact___sub__ : Stmt := inClass (top 10) 3
abbrev N_Exact___sub__ : List Str := ["self", "other", "b"]
theorem sc_Exact___sub__ : FnScope N_Exact___sub__ ["self", "other"] (defScope s_Exact___sub__) := ⟨rfl, rfl, rfl, by decide +kernel, rfl, by decide +kernel, by decide +kernel⟩
-- slots: 0 self, 1 other, 2 b
theorem ok_Exact___sub__ {f : Addr} {fd : FuncData} (F : FunD K "__sub__" "Exact.__sub__" (defArgs s_Exact___sub__) (defBody s_Exact___sub__) (defScope s_Exact___sub__) [] [] f fd) (T : XC K mg C) (c_part_of : C8.Cal P w K mg base 4 "part_of" (spPart C) []) (c_Exact : C8.Mak P w K mg base 2 "Exact" C (spInit C) []) : FnOk P w K mg base CX0 5 f fd ["self", "other"] (spSub C) := by
  refine F.ok sc_Exact___sub__ (fun vs H Q E h => ?_) (fun cdv A outer s H vs Q E hr h => ?_)
  · obtain ⟨x, y, o, u, p, q, rfl, hx, hy, so, su, sp, sq, hu, hq, k⟩ := h
    rfl
  · obtain ⟨x, y, o, u, p, q, rfl, hx, hy, so, su, sp, sq, hu, hq, k⟩ := h
    refine ⟨_, PSs.nox (pss_cons (ps_set (i := 2) sc_Exact___sub__.nd rfl (Or.inl rfl) (C8.pe_c c_part_of hr (by decide) rfl (pa_cons (pv 1) pa_nil)))
      (pss_one (ps_ret (C8.pe_mk c_Exact hr (by decide) rfl (pa_cons (pe_op op_sub (pe_op op_mulG (pe_fld (pv 0) rfl) (pe_fld (pv 2) rfl)) (pe_op op_mulG (pe_fld (pv 2) rfl) (pe_fld (pv 0) rfl))) (pa_cons (pe_op op_mulG (pe_fld (pv 0) rfl) (pe_fld (pv 2) rfl)) pa_nil)))))), ?_⟩
    refine ⟨_, rfl, y, p, q, rfl, hy, fun b H1 e1 hb => ?_⟩
    obtain ⟨xa, xd, rfl, hx1⟩ := hx.same e1
    obtain ⟨ba, bd, rfl, hb⟩ := hb
    refine ⟨_, rfl, xa, C, xd, _, _, rfl, hx1, T.cl, T.nO, rfl, _, rfl, ba, C, bd, _, _, rfl, hb, T.cl, T.nU, rfl, _, _, rfl, rfl, smul so sq, _, rfl, ba, C, bd, _, _, rfl, hb, T.cl, T.nO, rfl, _, rfl, xa, C, xd, _, _, rfl, hx1, T.cl, T.nU, rfl, _, _, rfl, rfl, smul sp su, _, _, rfl, rfl, _, rfl, xa, C, xd, _, _, rfl, hx1, T.cl, T.nU, rfl, _, rfl, ba, C, bd, _, _, rfl, hb, T.cl, T.nU, rfl, _, _, rfl, rfl, smul su sq, fun n dn nx nd ne => mkX (Int.mul_ne_zero hu hq) (big_mul su sq) (fun v H' e hv => k v H' (e1.trans e) hv) n dn nx nd ne⟩
abbrev s_Exact___mul__ : Stmt := inClass (top 10) 5
abbrev N_Exact___mul__ : List Str := ["self", "other", "b"]
theorem sc_Exact___mul__ : FnScope N_Exact___mul__ ["self", "other"] (defScope s_Exact___mul__) := ⟨rfl, rfl, rfl, by decide +kernel, rfl, by decide +kernel, by decide +kernel⟩
-- slots: 0 self, 1 other, 2 b
theorem ok_Exact___mul__ {f : Addr} {fd : FuncData} (F : FunD K "__mul__" "Exact.__mul__" (defArgs s_Exact___mul__) (defBody s_Exact___mul__) (defScope s_Exact___mul__) [] [] f fd) (T : XC K mg C) (c_part_of : C8.Cal P w K mg base 4 "part_of" (spPart C) []) (c_Exact : C8.Mak P w K mg base 2 "Exact" C (spInit C) []) : FnOk P w K mg base CX0 5 f fd ["self", "other"] (spMul C) := by
  refine F.ok sc_Exact___mul__ (fun vs H Q E h => ?_) (fun cdv A outer s H vs Q E hr h => ?_)
  · obtain ⟨x, y, o, u, p, q, rfl, hx, hy, so, su, sp, sq, hu, hq, k⟩ := h
    rfl
  · obtain ⟨x, y, o, u, p, q, rfl, hx, hy, so, su, sp, sq, hu, hq, k⟩ := h
    refine ⟨_, PSs.nox (pss_cons (ps_set (i := 2) sc_Exact___mul__.nd rfl (Or.inl rfl) (C8.pe_c c_part_of hr (by decide) rfl (pa_cons (pv 1) pa_nil)))
      (pss_one (ps_ret (C8.pe_mk c_Exact hr (by decide) rfl (pa_cons (pe_op op_mulG (pe_fld (pv 0) rfl) (pe_fld (pv 2) rfl)) (pa_cons (pe_op op_mulG (pe_fld (pv 0) rfl) (pe_fld (pv 2) rfl)) pa_nil)))))), ?_⟩
    refine ⟨_, rfl, y, p, q, rfl, hy, fun b H1 e1 hb => ?_⟩
    obtain ⟨xa, xd, rfl, hx1⟩ := hx.same e1
    obtain ⟨ba, bd, rfl, hb⟩ := hb
    refine ⟨_, rfl, xa, C, xd, _, _, rfl, hx1, T.cl, T.nO, rfl, _, rfl, ba, C, bd, _, _, rfl, hb, T.cl, T.nO, rfl, _, _, rfl, rfl, smul so sp, _, rfl, xa, C, xd, _, _, rfl, hx1, T.cl, T.nU, rfl, _, rfl, ba, C, bd, _, _, rfl, hb, T.cl, T.nU, rfl, _, _, rfl, rfl, smul su sq, fun n dn nx nd ne => mkX (Int.mul_ne_zero hu hq) (big_mul su sq) (fun v H' e hv => k v H' (e1.trans e) hv) n dn nx nd ne⟩
abbrev s_Exact___radd__ : Stmt := inClass (top 10) 2
abbrev N_Exact___radd__ : List Str := ["self", "other"]
theorem sc_Exact___radd__ : FnScope N_Exact___radd__ ["self", "other"] (defScope s_Exact___radd__) := ⟨rfl, rfl, rfl, by decide +kernel, rfl, by decide +kernel, by decide +kernel⟩
-- slots: 0 self, 1 other
theorem ok_Exact___radd__ {f : Addr} {fd : FuncData} (F : FunD K "__radd__" "Exact.__radd__" (defArgs s_Exact___radd__) (defBody s_Exact___radd__) (defScope s_Exact___radd__) [] [] f fd) (T : XC K mg C) (c_part_of : C8.Cal P w K mg base 4 "part_of" (spPart C) []) (m__add__ : ∀ X : Cx, X.prog = P → X.w = w → X.K = K → X.mg = mg → X.base = base → OwnM X 5 C "__add__" (spAdd C)) : FnOk P w K mg base CX0 6 f fd ["self", "other"] (spRadd C) := by
  refine F.ok sc_Exact___radd__ (fun vs H Q E h => ?_) (fun cdv A outer s H vs Q E hr h => ?_)
  · obtain ⟨x, y, o, u, p, q, rfl, hx, hy, so, su, sp, sq, hu, hq, k⟩ := h
    rfl
  · obtain ⟨x, y, o, u, p, q, rfl, hx, hy, so, su, sp, sq, hu, hq, k⟩ := h
    refine ⟨_, PSs.nox (pss_one (ps_ret (pe_op (op_addL (m__add__ _ rfl rfl rfl rfl rfl) T.f_radd.choose_spec T.own (hr.mono (by decide))) (C8.pe_c c_part_of hr (by decide) rfl (pa_cons (pv 1) pa_nil)) (pv 0)))), ?_⟩
    refine ⟨_, rfl, y, p, q, rfl, hy, fun b H1 e1 hb => ?_⟩
    obtain ⟨ba, bd, rfl, hb⟩ := hb
    exact ⟨_, rfl, ba, bd, _, rfl, hb, (IsN.num (.inr (hx.same e1))), _, _, p, q, o, u, rfl, ⟨ba, bd, rfl, hb⟩, .inr (hx.same e1), sp, sq, so, su, hq, hu, fun v H' e hv => k v H' (e1.trans e) hv⟩
abbrev s_Exact___rsub__ : Stmt := inClass (top 10) 4
abbrev N_Exact___rsub__ : List Str := ["self", "other"]
theorem sc_Exact___rsub__ : FnScope N_Exact___rsub__ ["self", "other"] (defScope s_Exact___rsub__) := ⟨rfl, rfl, rfl, by decide +kernel, rfl, by decide +kernel, by decide +kernel⟩
-- slots: 0 self, 1 other
theorem ok_Exact___rsub__ {f : Addr} {fd : FuncData} (F : FunD K "__rsub__" "Exact.__rsub__" (defArgs s_Exact___rsub__) (defBody s_Exact___rsub__) (defScope s_Exact___rsub__) [] [] f fd) (T : XC K mg C) (c_part_of : C8.Cal P w K mg base 4 "part_of" (spPart C) []) (m__sub__ : ∀ X : Cx, X.prog = P → X.w = w → X.K = K → X.mg = mg → X.base = base → OwnM X 5 C "__sub__" (spSub C)) : FnOk P w K mg base CX0 6 f fd ["self", "other"] (spRsub C) := by
  refine F.ok sc_Exact___rsub__ (fun vs H Q E h => ?_) (fun cdv A outer s H vs Q E hr h => ?_)
  · obtain ⟨x, y, o, u, p, q, rfl, hx, hy, so, su, sp, sq, hu, hq, k⟩ := h
    rfl
  · obtain ⟨x, y, o, u, p, q, rfl, hx, hy, so, su, sp, sq, hu, hq, k⟩ := h
    refine ⟨_, PSs.nox (pss_one (ps_ret (pe_op (op_subL (m__sub__ _ rfl rfl rfl rfl rfl) T.f_rsub.choose_spec T.own (hr.mono (by decide))) (C8.pe_c c_part_of hr (by decide) rfl (pa_cons (pv 1) pa_nil)) (pv 0)))), ?_⟩
    refine ⟨_, rfl, y, p, q, rfl, hy, fun b H1 e1 hb => ?_⟩
    obtain ⟨ba, bd, rfl, hb⟩ := hb
    exact ⟨_, rfl, ba, bd, _, rfl, hb, (IsN.num (.inr (hx.same e1))), _, _, p, q, o, u, rfl, ⟨ba, bd, rfl, hb⟩, .inr (hx.same e1), sp, sq, so, su, hq, hu, fun v H' e hv => k v H' (e1.trans e) hv⟩
abbrev s_Exact___rmul__ : Stmt := inClass (top 10) 6
abbrev N_Exact___rmul__ : List Str := ["self", "other"]
theorem sc_Exact___rmul__ : FnScope N_Exact___rmul__ ["self", "other"] (defScope s_Exact___rmul__) := ⟨rfl, rfl, rfl, by decide +kernel, rfl, by decide +kernel, by decide +kernel⟩
-- slots: 0 self, 1 other
theorem ok_Exact___rmul__ {f : Addr} {fd : FuncData} (F : FunD K "__rmul__" "Exact.__rmul__" (defArgs s_Exact___rmul__) (defBody s_Exact___rmul__) (defScope s_Exact___rmul__) [] [] f fd) (T : XC K mg C) (c_part_of : C8.Cal P w K mg base 4 "part_of" (spPart C) []) (m__mul__ : ∀ X : Cx, X.prog = P → X.w = w → X.K = K → X.mg = mg → X.base = base → OwnM X 5 C "__mul__" (spMul C)) : FnOk P w K mg base CX0 6 f fd ["self", "other"] (spRmul C) := by
  refine F.ok sc_Exact___rmul__ (fun vs H Q E h => ?_) (fun cdv A outer s H vs Q E hr h => ?_)
  · obtain ⟨x, y, o, u, p, q, rfl, hx, hy, so, su, sp, sq, hu, hq, k⟩ := h
    rfl
  · obtain ⟨x, y, o, u, p, q, rfl, hx, hy, so, su, sp, sq, hu, hq, k⟩ := h
    refine ⟨_, PSs.nox (pss_one (ps_ret (pe_op (op_mulL (m__mul__ _ rfl rfl rfl rfl rfl) T.f_rmul.choose_spec T.own (hr.mono (by decide))) (C8.pe_c c_part_of hr (by decide) rfl (pa_cons (pv 1) pa_nil)) (pv 0)))), ?_⟩
    refine ⟨_, rfl, y, p, q, rfl, hy, fun b H1 e1 hb => ?_⟩
    obtain ⟨ba, bd, rfl, hb⟩ := hb
    exact ⟨_, rfl, ba, bd, _, rfl, hb, (IsN.num (.inr (hx.same e1))), _, _, p, q, o, u, rfl, ⟨ba, bd, rfl, hb⟩, .inr (hx.same e1), sp, sq, so, su, hq, hu, fun v H' e hv => k v H' (e1.trans e) hv⟩
/-- a.by(b), b not nought -/
def spBy (C : Addr) : Sp := fun vs H Q _ => ∃ (x y : V) (o u p q : Int), vs = [x, y] ∧ IsX C H x o u ∧ IsN C H y p q ∧ Sm o ∧ Sm u ∧ Sm p ∧ Sm q ∧ u ≠ 0 ∧ p ≠ 0 ∧
  ∀ v H', Same H H' → IsX C H' v (rO (o * q) (u * p)) (rD (o * q) (u * p)) → Q v H'
abbrev s_Exact_by : Stmt := inClass (top 10) 7
abbrev N_Exact_by : List Str := ["self", "other", "b"]
theorem sc_Exact_by : FnScope N_Exact_by ["self", "other"] (defScope s_Exact_by) := ⟨rfl, rfl, rfl, by decide +kernel, rfl, by decide +kernel, by decide +kernel⟩
-- slots: 0 self, 1 other, 2 b
theorem ok_Exact_by {f : Addr} {fd : FuncData} (F : FunD K "by" "Exact.by" (defArgs s_Exact_by) (defBody s_Exact_by) (defScope s_Exact_by) [] [] f fd) (T : XC K mg C) (c_part_of : C8.Cal P w K mg base 4 "part_of" (spPart C) []) (c_Exact : C8.Mak P w K mg base 2 "Exact" C (spInit C) []) : FnOk P w K mg base CX0 5 f fd ["self", "other"] (spBy C) := by
  refine F.ok sc_Exact_by (fun vs H Q E h => ?_) (fun cdv A outer s H vs Q E hr h => ?_)
  · obtain ⟨x, y, o, u, p, q, rfl, hx, hy, so, su, sp, sq, hu, hp, k⟩ := h
    rfl
  · obtain ⟨x, y, o, u, p, q, rfl, hx, hy, so, su, sp, sq, hu, hp, k⟩ := h
    refine ⟨_, PSs.nox (pss_cons (ps_set (i := 2) sc_Exact_by.nd rfl (Or.inl rfl) (C8.pe_c c_part_of hr (by decide) rfl (pa_cons (pv 1) pa_nil)))
      (pss_cons (ps_if (pt_cmpR op_eq (pe_fld (pv 2) rfl) pe_int (nomark _)) (pss_one ps_never) pss_nil)
      (pss_one (ps_ret (C8.pe_mk c_Exact hr (by decide) rfl (pa_cons (pe_op op_mulG (pe_fld (pv 0) rfl) (pe_fld (pv 2) rfl)) (pa_cons (pe_op op_mulG (pe_fld (pv 0) rfl) (pe_fld (pv 2) rfl)) pa_nil))))))), ?_⟩
    refine ⟨_, rfl, y, p, q, rfl, hy, fun b H1 e1 hb => ?_⟩
    obtain ⟨xa, xd, rfl, hx1⟩ := hx.same e1
    obtain ⟨ba, bd, rfl, hb⟩ := hb
    have e0 : decide (V.int p = V.int 0) = false := by simp [hp]
    refine ⟨_, rfl, ba, C, bd, _, _, rfl, hb, T.cl, T.nO, rfl, rfl, _, rfl, ?_⟩
    rw [e0]
    refine iteF ⟨_, rfl, xa, C, xd, _, _, rfl, hx1, T.cl, T.nO, rfl, _, rfl, ba, C, bd, _, _, rfl, hb, T.cl, T.nU, rfl, _, _, rfl, rfl, smul so sq, _, rfl, xa, C, xd, _, _, rfl, hx1, T.cl, T.nU, rfl, _, rfl, ba, C, bd, _, _, rfl, hb, T.cl, T.nO, rfl, _, _, rfl, rfl, smul su sp, fun n dn nx nd ne => mkX (Int.mul_ne_zero hu hp) (big_mul su sp) (fun v H' e hv => k v H' (e1.trans e) hv) n dn nx nd ne⟩
def spNeg (C : Addr) : Sp := fun vs H Q _ => ∃ (x : V) (o u : Int), vs = [x] ∧ IsX C H x o u ∧ Sm u ∧ u ≠ 0 ∧ ∀ v H', Same H H' → IsX C H' v (rO (-o) u) (rD (-o) u) → Q v H'
abbrev s_Exact___neg__ : Stmt := inClass (top 10) 8
abbrev N_Exact___neg__ : List Str := ["self"]
theorem sc_Exact___neg__ : FnScope N_Exact___neg__ ["self"] (defScope s_Exact___neg__) := ⟨rfl, rfl, rfl, by decide +kernel, rfl, by decide +kernel, by decide +kernel⟩
-- slots: 0 self
theorem ok_Exact___neg__ {f : Addr} {fd : FuncData} (F : FunD K "__neg__" "Exact.__neg__" (defArgs s_Exact___neg__) (defBody s_Exact___neg__) (defScope s_Exact___neg__) [] [] f fd) (T : XC K mg C) (c_Exact : C8.Mak P w K mg base 2 "Exact" C (spInit C) []) : FnOk P w K mg base CX0 5 f fd ["self"] (spNeg C) := by
  refine F.ok sc_Exact___neg__ (fun vs H Q E h => ?_) (fun cdv A outer s H vs Q E hr h => ?_)
  · obtain ⟨x, o, u, rfl, hx, su, hu, k⟩ := h
    rfl
  · obtain ⟨x, o, u, rfl, hx, su, hu, k⟩ := h
    refine ⟨_, PSs.nox (pss_one (ps_ret (C8.pe_mk c_Exact hr (by decide) rfl (pa_cons (pe_un un_neg (pe_fld (pv 0) rfl)) (pa_cons (pe_fld (pv 0) rfl) pa_nil))))), ?_⟩
    obtain ⟨xa, xd, rfl, hx1⟩ := hx
    exact ⟨_, rfl, xa, C, xd, _, _, rfl, hx1, T.cl, T.nO, rfl, _, rfl, _, rfl, xa, C, xd, _, _, rfl, hx1, T.cl, T.nU, rfl, fun n dn nx nd ne => mkX hu su.big (fun v H' e hv => k v H' e hv) n dn nx nd ne⟩
/-- a number as results are told -/
def TN (C : Addr) (H : Hp) (v : V) (o u : Int) : Prop := (u = 1 ∧ v = .int o) ∨ (u ≠ 1 ∧ IsX C H v o u)
theorem TN.same {H H1 : Hp} {v : V} {o u : Int} (e : Same H H1) (h : TN C H v o u) : TN C H1 v o u := h.imp id fun ⟨n, x⟩ => ⟨n, x.same e⟩
def spPlain (C : Addr) : Sp := fun vs H Q _ => ∃ (y : V) (p q : Int), vs = [y] ∧ IsN C H y p q ∧ ∀ v H', Same H H' → TN C H' v p q → Q v H'
abbrev s_plain : Stmt := top 12
abbrev N_plain : List Str := ["number", "found"]
theorem sc_plain : FnScope N_plain ["number"] (defScope s_plain) := ⟨rfl, rfl, rfl, by decide +kernel, rfl, by decide +kernel, by decide +kernel⟩
-- slots: 0 number, 1 found
theorem ok_plain {f : Addr} {fd : FuncData} (F : FunD K "plain" "plain" (defArgs s_plain) (defBody s_plain) (defScope s_plain) [] [] f fd) (T : XC K mg C) (c_part_of : C8.Cal P w K mg base 4 "part_of" (spPart C) []) : FnOk P w K mg base CX0 5 f fd ["number"] (spPlain C) := by
  refine F.ok sc_plain (fun vs H Q E h => ?_) (fun cdv A outer s H vs Q E hr h => ?_)
  · obtain ⟨y, p, q, rfl, hy, k⟩ := h
    rfl
  · obtain ⟨y, p, q, rfl, hy, k⟩ := h
    refine ⟨_, PSs.nox (pss_cons (ps_set (i := 1) sc_plain.nd rfl (Or.inl rfl) (C8.pe_c c_part_of hr (by decide) rfl (pa_cons (pv 0) pa_nil)))
      (pss_one (ps_ret (pe_ifExp (pt_cmpR op_eq (pe_fld (pv 1) rfl) pe_int (nomark _)) (pe_fld (pv 1) rfl) (pv 1))))), ?_⟩
    refine ⟨_, rfl, y, p, q, rfl, hy, fun b H1 e1 hb => ?_⟩
    obtain ⟨ba, bd, rfl, hb⟩ := hb
    refine ⟨_, rfl, ba, C, bd, _, _, rfl, hb, T.cl, T.nU, rfl, rfl, _, rfl, ?_⟩
    refine ite2 (fun hc => ?_) (fun hc => ?_)
    · have h1 : q = 1 := by simpa using hc
      exact ⟨_, rfl, ba, C, bd, _, _, rfl, hb, T.cl, T.nO, rfl, k _ _ e1 (.inl ⟨h1, rfl⟩)⟩
    · have h1 : q ≠ 1 := by simpa using hc
      exact ⟨_, rfl, k _ _ e1 (.inr ⟨h1, ba, bd, rfl, hb⟩)⟩
end
end LW
set_option Elab.async false
set_option linter.all false
set_option maxRecDepth 100000
set_option maxHeartbeats 4000000
namespace LW
open PySem PySem.Spec PyProof.Rows L2 LV LM
abbrev typs : List String := ["NoneType", "bool", "int", "str", "list", "dict", "tuple"]
/-- the class Exact beside all kinds of objects -/
structure XE (K : PySem.W.Frag) (mg : Str → Option Value) (C : Addr) : Prop extends XC K mg C where
  kT : ∀ t ∈ typs, PySem.W.kitOne K (.type t) (.ref C) = some false ∧ PySem.W.subIn K (.type t) (.ref C) = some false ∧ PySem.W.subIn K (.ref C) (.type t) = some false
  ne : PySem.W.findIn K (.ref C) "__ne__" = some (some (.builtin "object.__ne__"))
section
variable {P : Program} {w : World} {K : PySem.W.Frag} {mg : Str → Option Value} {base : Heap} {C : Addr}
/-! is_number -/
def spNum (K : PySem.W.Frag) (C : Addr) : Sp := fun vs H Q _ => ∃ (v : V) (t : Value) (b c d : Bool), vs = [v] ∧ TyX K H v t ∧ PySem.W.kitOne K t (.type "int") = some b ∧ PySem.W.kitOne K t (.type "bool") = some c ∧ PySem.W.kitOne K t (.ref C) = some d ∧ Q (.bl ((b && !c) || d)) H
abbrev s_is_number : Stmt := top 8
abbrev N_is_number : List Str := ["thing"]
theorem sc_is_number : FnScope N_is_number ["thing"] (defScope s_is_number) := ⟨rfl, rfl, rfl, by decide +kernel, rfl, by decide +kernel, by decide +kernel⟩
-- slots: 0 thing
theorem ok_is_number {f : Addr} {fd : FuncData} (F : FunD K "is_number" "is_number" (defArgs s_is_number) (defBody s_is_number) (defScope s_is_number) [] [] f fd) (T : XC K mg C) (c_is_integer : C8.Cal P w K mg base 1 "is_integer" (spInt K) []) : FnOk P w K mg base CX0 2 f fd ["thing"] (spNum K C) := by
  refine F.ok sc_is_number (fun vs H Q E h => ?_) (fun cdv A outer s H vs Q E hr h => ?_)
  · obtain ⟨v, t, b, c, d, rfl, ht, hb, hc, hd, k⟩ := h
    rfl
  · obtain ⟨v, t, b, c, d, rfl, ht, hb, hc, hd, k⟩ := h
    refine ⟨_, PSs.nox (pss_one (ps_ret (pe_or (C8.pe_c c_is_integer hr (by decide) rfl (pa_cons (pv 0) pa_nil)) (pe_one (pe_callB call_isi rfl T.isinstance (by decide +kernel) (pa_cons (pv 0) (pa_cons (pe_glob (v := .ref C) rfl T.mgC rfl) pa_nil))))))), ?_⟩
    refine ⟨_, rfl, _, t, b, c, rfl, ht, hb, hc, _, rfl, ?_⟩
    cases e : (b && !c) with
    | true =>
      rw [e] at k
      exact k
    | false =>
      rw [e, Bool.false_or] at k
      exact ⟨_, rfl, _, _, t, _, d, rfl, .own C, ht, hd, k⟩
/-- whether a thing is a number, by its type -/
def NumB (K : PySem.W.Frag) (C : Addr) (H : Hp) (v : V) (r : Bool) : Prop := ∃ (t : Value) (b c d : Bool), TyX K H v t ∧ PySem.W.kitOne K t (.type "int") = some b ∧ PySem.W.kitOne K t (.type "bool") = some c ∧ PySem.W.kitOne K t (.ref C) = some d ∧ r = ((b && !c) || d)
theorem NumB.sp {H : Hp} {v : V} {r : Bool} {Q : VK} {E : XK} (h : NumB K C H v r) (q : Q (.bl r) H) : spNum K C [v] H Q E := by
  obtain ⟨t, b, c, d, h1, h2, h3, h4, rfl⟩ := h
  exact ⟨v, t, b, c, d, rfl, h1, h2, h3, h4, q⟩
theorem IsN.numB {H : Hp} {v : V} {o u : Int} (T : XC K mg C) (h : IsN C H v o u) : NumB K C H v true := by
  rcases h with ⟨rfl, _⟩ | ⟨x, dx, rfl, h⟩
  · exact ⟨_, true, false, false, .base (.int o), kII K, kIB K, T.kIX, rfl⟩
  · exact ⟨_, false, false, true, tyX T h, T.kXI, T.kXB, kXX K C, rfl⟩
theorem IsN.notF {H : Hp} {v : V} {o u : Int} (T : XC K mg C) (h : IsN C H v o u) : NotF K C H v := by
  rcases h with ⟨rfl, _⟩ | ⟨x, dx, rfl, h⟩
  · refine ⟨_, .base (.int o), ?_⟩
    unfold PySem.W.notFirst
    rw [T.own.subI]
    rfl
  · refine ⟨_, tyX T h, ?_⟩
    unfold PySem.W.notFirst
    simp
/-! order -/
def spCmp (C : Addr) (r : Int → Int → Int → Int → Bool) : Sp := fun vs H Q _ => ∃ (x y : V) (o u p q : Int), vs = [x, y] ∧ IsX C H x o u ∧ IsN C H y p q ∧ Sm o ∧ Sm u ∧ Sm p ∧ Sm q ∧ ∀ H', Same H H' → Q (.bl (r o u p q)) H'
abbrev spLt (C : Addr) : Sp := spCmp C fun o u p q => decide (o * q < p * u)
abbrev spLe (C : Addr) : Sp := spCmp C fun o u p q => decide (o * q ≤ p * u)
abbrev spGt (C : Addr) : Sp := spCmp C fun o u p q => decide (p * u < o * q)
abbrev spGe (C : Addr) : Sp := spCmp C fun o u p q => decide (p * u ≤ o * q)
abbrev s_Exact___lt__ : Stmt := inClass (top 10) 10
abbrev N_Exact___lt__ : List Str := ["self", "other", "b"]
theorem sc_Exact___lt__ : FnScope N_Exact___lt__ ["self", "other"] (defScope s_Exact___lt__) := ⟨rfl, rfl, rfl, by decide +kernel, rfl, by decide +kernel, by decide +kernel⟩
-- slots: 0 self, 1 other, 2 b
theorem ok_Exact___lt__ {f : Addr} {fd : FuncData} (F : FunD K "__lt__" "Exact.__lt__" (defArgs s_Exact___lt__) (defBody s_Exact___lt__) (defScope s_Exact___lt__) [] [] f fd) (T : XC K mg C) (c_part_of : C8.Cal P w K mg base 4 "part_of" (spPart C) []) : FnOk P w K mg base CX0 5 f fd ["self", "other"] (spLt C) := by
  refine F.ok sc_Exact___lt__ (fun vs H Q E h => ?_) (fun cdv A outer s H vs Q E hr h => ?_)
  · obtain ⟨x, y, o, u, p, q, rfl, hx, hy, so, su, sp, sq, k⟩ := h
    rfl
  · obtain ⟨x, y, o, u, p, q, rfl, hx, hy, so, su, sp, sq, k⟩ := h
    refine ⟨_, PSs.nox (pss_cons (ps_set (i := 2) sc_Exact___lt__.nd rfl (Or.inl rfl) (C8.pe_c c_part_of hr (by decide) rfl (pa_cons (pv 1) pa_nil)))
      (pss_one (ps_ret (pe_cmpR op_lt (pe_op op_mulG (pe_fld (pv 0) rfl) (pe_fld (pv 2) rfl)) (pe_op op_mulG (pe_fld (pv 2) rfl) (pe_fld (pv 0) rfl)) (nomark _))))), ?_⟩
    refine ⟨_, rfl, y, p, q, rfl, hy, fun b H1 e1 hb => ?_⟩
    obtain ⟨xa, xd, rfl, hx1⟩ := hx.same e1
    obtain ⟨ba, bd, rfl, hb⟩ := hb
    exact ⟨_, rfl, xa, C, xd, _, _, rfl, hx1, T.cl, T.nO, rfl, _, rfl, ba, C, bd, _, _, rfl, hb, T.cl, T.nU, rfl, _, _, rfl, rfl, smul so sq, _, rfl, ba, C, bd, _, _, rfl, hb, T.cl, T.nO, rfl, _, rfl, xa, C, xd, _, _, rfl, hx1, T.cl, T.nU, rfl, _, _, rfl, rfl, smul sp su, _, _, rfl, rfl, k _ e1⟩
abbrev s_Exact___le__ : Stmt := inClass (top 10) 11
abbrev N_Exact___le__ : List Str := ["self", "other", "b"]
theorem sc_Exact___le__ : FnScope N_Exact___le__ ["self", "other"] (defScope s_Exact___le__) := ⟨rfl, rfl, rfl, by decide +kernel, rfl, by decide +kernel, by decide +kernel⟩
-- slots: 0 self, 1 other, 2 b
theorem ok_Exact___le__ {f : Addr} {fd : FuncData} (F : FunD K "__le__" "Exact.__le__" (defArgs s_Exact___le__) (defBody s_Exact___le__) (defScope s_Exact___le__) [] [] f fd) (T : XC K mg C) (c_part_of : C8.Cal P w K mg base 4 "part_of" (spPart C) []) : FnOk P w K mg base CX0 5 f fd ["self", "other"] (spLe C) := by
  refine F.ok sc_Exact___le__ (fun vs H Q E h => ?_) (fun cdv A outer s H vs Q E hr h => ?_)
  · obtain ⟨x, y, o, u, p, q, rfl, hx, hy, so, su, sp, sq, k⟩ := h
    rfl
  · obtain ⟨x, y, o, u, p, q, rfl, hx, hy, so, su, sp, sq, k⟩ := h
    refine ⟨_, PSs.nox (pss_cons (ps_set (i := 2) sc_Exact___le__.nd rfl (Or.inl rfl) (C8.pe_c c_part_of hr (by decide) rfl (pa_cons (pv 1) pa_nil)))
      (pss_one (ps_ret (pe_cmpR op_le (pe_op op_mulG (pe_fld (pv 0) rfl) (pe_fld (pv 2) rfl)) (pe_op op_mulG (pe_fld (pv 2) rfl) (pe_fld (pv 0) rfl)) (nomark _))))), ?_⟩
    refine ⟨_, rfl, y, p, q, rfl, hy, fun b H1 e1 hb => ?_⟩
    obtain ⟨xa, xd, rfl, hx1⟩ := hx.same e1
    obtain ⟨ba, bd, rfl, hb⟩ := hb
    exact ⟨_, rfl, xa, C, xd, _, _, rfl, hx1, T.cl, T.nO, rfl, _, rfl, ba, C, bd, _, _, rfl, hb, T.cl, T.nU, rfl, _, _, rfl, rfl, smul so sq, _, rfl, ba, C, bd, _, _, rfl, hb, T.cl, T.nO, rfl, _, rfl, xa, C, xd, _, _, rfl, hx1, T.cl, T.nU, rfl, _, _, rfl, rfl, smul sp su, _, _, rfl, rfl, k _ e1⟩
abbrev s_Exact___gt__ : Stmt := inClass (top 10) 12
abbrev N_Exact___gt__ : List Str := ["self", "other", "b"]
theorem sc_Exact___gt__ : FnScope N_Exact___gt__ ["self", "other"] (defScope s_Exact___gt__) := ⟨rfl, rfl, rfl, by decide +kernel, rfl, by decide +kernel, by decide +kernel⟩
-- slots: 0 self, 1 other, 2 b
theorem ok_Exact___gt__ {f : Addr} {fd : FuncData} (F : FunD K "__gt__" "Exact.__gt__" (defArgs s_Exact___gt__) (defBody s_Exact___gt__) (defScope s_Exact___gt__) [] [] f fd) (T : XC K mg C) (c_part_of : C8.Cal P w K mg base 4 "part_of" (spPart C) []) : FnOk P w K mg base CX0 5 f fd ["self", "other"] (spGt C) := by
  refine F.ok sc_Exact___gt__ (fun vs H Q E h => ?_) (fun cdv A outer s H vs Q E hr h => ?_)
  · obtain ⟨x, y, o, u, p, q, rfl, hx, hy, so, su, sp, sq, k⟩ := h
    rfl
  · obtain ⟨x, y, o, u, p, q, rfl, hx, hy, so, su, sp, sq, k⟩ := h
    refine ⟨_, PSs.nox (pss_cons (ps_set (i := 2) sc_Exact___gt__.nd rfl (Or.inl rfl) (C8.pe_c c_part_of hr (by decide) rfl (pa_cons (pv 1) pa_nil)))
      (pss_one (ps_ret (pe_cmpR op_gt (pe_op op_mulG (pe_fld (pv 0) rfl) (pe_fld (pv 2) rfl)) (pe_op op_mulG (pe_fld (pv 2) rfl) (pe_fld (pv 0) rfl)) (nomark _))))), ?_⟩
    refine ⟨_, rfl, y, p, q, rfl, hy, fun b H1 e1 hb => ?_⟩
    obtain ⟨xa, xd, rfl, hx1⟩ := hx.same e1
    obtain ⟨ba, bd, rfl, hb⟩ := hb
    exact ⟨_, rfl, xa, C, xd, _, _, rfl, hx1, T.cl, T.nO, rfl, _, rfl, ba, C, bd, _, _, rfl, hb, T.cl, T.nU, rfl, _, _, rfl, rfl, smul so sq, _, rfl, ba, C, bd, _, _, rfl, hb, T.cl, T.nO, rfl, _, rfl, xa, C, xd, _, _, rfl, hx1, T.cl, T.nU, rfl, _, _, rfl, rfl, smul sp su, _, _, rfl, rfl, k _ e1⟩
abbrev s_Exact___ge__ : Stmt := inClass (top 10) 13
abbrev N_Exact___ge__ : List Str := ["self", "other", "b"]
theorem sc_Exact___ge__ : FnScope N_Exact___ge__ ["self", "other"] (defScope s_Exact___ge__) := ⟨rfl, rfl, rfl, by decide +kernel, rfl, by decide +kernel, by decide +kernel⟩
-- slots: 0 self, 1 other, 2 b
theorem ok_Exact___ge__ {f : Addr} {fd : FuncData} (F : FunD K "__ge__" "Exact.__ge__" (defArgs s_Exact___ge__) (defBody s_Exact___ge__) (defScope s_Exact___ge__) [] [] f fd) (T : XC K mg C) (c_part_of : C8.Cal P w K mg base 4 "part_of" (spPart C) []) : FnOk P w K mg base CX0 5 f fd ["self", "other"] (spGe C) := by
  refine F.ok sc_Exact___ge__ (fun vs H Q E h => ?_) (fun cdv A outer s H vs Q E hr h => ?_)
  · obtain ⟨x, y, o, u, p, q, rfl, hx, hy, so, su, sp, sq, k⟩ := h
    rfl
  · obtain ⟨x, y, o, u, p, q, rfl, hx, hy, so, su, sp, sq, k⟩ := h
    refine ⟨_, PSs.nox (pss_cons (ps_set (i := 2) sc_Exact___ge__.nd rfl (Or.inl rfl) (C8.pe_c c_part_of hr (by decide) rfl (pa_cons (pv 1) pa_nil)))
      (pss_one (ps_ret (pe_cmpR op_ge (pe_op op_mulG (pe_fld (pv 0) rfl) (pe_fld (pv 2) rfl)) (pe_op op_mulG (pe_fld (pv 2) rfl) (pe_fld (pv 0) rfl)) (nomark _))))), ?_⟩
    refine ⟨_, rfl, y, p, q, rfl, hy, fun b H1 e1 hb => ?_⟩
    obtain ⟨xa, xd, rfl, hx1⟩ := hx.same e1
    obtain ⟨ba, bd, rfl, hb⟩ := hb
    exact ⟨_, rfl, xa, C, xd, _, _, rfl, hx1, T.cl, T.nO, rfl, _, rfl, ba, C, bd, _, _, rfl, hb, T.cl, T.nU, rfl, _, _, rfl, rfl, smul so sq, _, rfl, ba, C, bd, _, _, rfl, hb, T.cl, T.nO, rfl, _, rfl, xa, C, xd, _, _, rfl, hx1, T.cl, T.nU, rfl, _, _, rfl, rfl, smul sp su, _, _, rfl, rfl, k _ e1⟩
/-! equality: with a number by value, else False -/
def spEqX (K : PySem.W.Frag) (C : Addr) : Sp := fun vs H Q _ => ∃ (x y : V) (o u : Int), vs = [x, y] ∧ IsX C H x o u ∧
  ((∃ p q, IsN C H y p q ∧ ∀ H', Same H H' → Q (.bl (decide (o = p) && decide (u = q))) H') ∨ (NumB K C H y false ∧ ∀ H', Same H H' → Q (.bl false) H'))
abbrev s_Exact___eq__ : Stmt := inClass (top 10) 9
abbrev N_Exact___eq__ : List Str := ["self", "other", "b"]
theorem sc_Exact___eq__ : FnScope N_Exact___eq__ ["self", "other"] (defScope s_Exact___eq__) := ⟨rfl, rfl, rfl, by decide +kernel, rfl, by decide +kernel, by decide +kernel⟩
-- slots: 0 self, 1 other, 2 b
theorem ok_Exact___eq__ {f : Addr} {fd : FuncData} (F : FunD K "__eq__" "Exact.__eq__" (defArgs s_Exact___eq__) (defBody s_Exact___eq__) (defScope s_Exact___eq__) [] [] f fd) (T : XC K mg C) (c_part_of : C8.Cal P w K mg base 4 "part_of" (spPart C) []) (c_is_number : C8.Cal P w K mg base 2 "is_number" (spNum K C) []) : FnOk P w K mg base CX0 5 f fd ["self", "other"] (spEqX K C) := by
  refine F.ok sc_Exact___eq__ (fun vs H Q E h => ?_) (fun cdv A outer s H vs Q E hr h => ?_)
  · obtain ⟨x, y, o, u, rfl, hx, hy⟩ := h
    rfl
  · obtain ⟨x, y, o, u, rfl, hx, hy⟩ := h
    refine ⟨_, PSs.nox (pss_cons (ps_if (pt_not (pt_val (C8.pe_c c_is_number hr (by decide) rfl (pa_cons (pv 1) pa_nil)))) (pss_one (ps_ret pe_bl)) pss_nil)
      (pss_cons (ps_set (i := 2) sc_Exact___eq__.nd rfl (Or.inl rfl) (C8.pe_c c_part_of hr (by decide) rfl (pa_cons (pv 1) pa_nil)))
      (pss_one (ps_ret (pe_and (pe_cmpR op_eq (pe_fld (pv 0) rfl) (pe_fld (pv 2) rfl) (nomark _)) (pe_one (pe_cmpR op_eq (pe_fld (pv 0) rfl) (pe_fld (pv 2) rfl) (nomark _)))))))), ?_⟩
    rcases hy with ⟨p, q, hy, k⟩ | ⟨hy, k⟩
    · obtain ⟨t, b, c, d, h1, h2, h3, h4, h5⟩ := hy.numB T
      refine ⟨_, rfl, _, t, b, c, d, rfl, h1, h2, h3, h4, _, rfl, ?_⟩
      rw [← h5]
      refine iteF ⟨_, rfl, y, p, q, rfl, hy, fun b H1 e1 hb => ?_⟩
      obtain ⟨xa, xd, rfl, hx1⟩ := hx.same e1
      obtain ⟨ba, bd, rfl, hb⟩ := hb
      refine ⟨_, rfl, xa, C, xd, _, _, rfl, hx1, T.cl, T.nO, rfl, _, rfl, ba, C, bd, _, _, rfl, hb, T.cl, T.nO, rfl, rfl, _, rfl, ?_⟩
      by_cases ho : o = p
      · have z : decide (V.int o = V.int p) = true := by simp [ho]
        rw [z]
        refine iteT ⟨_, rfl, xa, C, xd, _, _, rfl, hx1, T.cl, T.nU, rfl, _, rfl, ba, C, bd, _, _, rfl, hb, T.cl, T.nU, rfl, rfl, ?_⟩
        have z2 : decide (V.int u = V.int q) = (decide (o = p) && decide (u = q)) := by simp [ho]
        rw [z2]
        exact k _ e1
      · have z : decide (V.int o = V.int p) = false := by simp [ho]
        rw [z]
        refine iteF ?_
        have z2 : false = (decide (o = p) && decide (u = q)) := by simp [ho]
        rw [z2]
        exact k _ e1
    · obtain ⟨t, b, c, d, h1, h2, h3, h4, h5⟩ := hy
      refine ⟨_, rfl, _, t, b, c, d, rfl, h1, h2, h3, h4, _, rfl, ?_⟩
      rw [← h5]
      exact iteT (k _ (Same.refl H))
end
end LW
set_option Elab.async false
set_option linter.all false
set_option maxRecDepth 100000
set_option maxHeartbeats 4000000
namespace LW
open PySem PySem.Spec PyProof.Rows L2 LV LM
/-- the law's own fractions: tuples -/
def IsF (H : Hp) (v : V) (o u : Int) : Prop := ∃ p, v = .ref p ∧ H p = some (.tup [.int o, .int u])
theorem IsF.same {H H1 : Hp} {v : V} {o u : Int} (e : Same H H1) (h : IsF H v o u) : IsF H1 v o u := by
  obtain ⟨x, rfl, h⟩ := h
  exact ⟨x, rfl, e _ _ h⟩
theorem IsF.but {K : PySem.W.Frag} {a : Addr} {H H1 : Hp} {v : V} {o u : Int} (e : Bus a H H1) (s : Stt K H a) (h : IsF H v o u) : IsF H1 v o u := by
  obtain ⟨x, rfl, h⟩ := h
  exact ⟨x, rfl, e.get s h rfl⟩
theorem IsN.but {K : PySem.W.Frag} {a C : Addr} {H H1 : Hp} {v : V} {o u : Int} (e : Bus a H H1) (s : Stt K H a) (h : IsN C H v o u) : IsN C H1 v o u := h.imp id (IsX.but e s)
section
variable {P : Program} {w : World} {K : PySem.W.Frag} {mg : Str → Option Value} {base : Heap} {C : Addr}
abbrev s__law_gcd : Stmt := top 28
abbrev N__law_gcd : List Str := ["_law_a", "_law_b"]
theorem sc__law_gcd : FnScope N__law_gcd ["_law_a", "_law_b"] (defScope s__law_gcd) := ⟨rfl, rfl, rfl, by decide +kernel, rfl, by decide +kernel, by decide +kernel⟩
-- slots: 0 _law_a, 1 _law_b
theorem ok__law_gcd {f : Addr} {fd : FuncData} (F : FunD K "_law_gcd" "_law_gcd" (defArgs s__law_gcd) (defBody s__law_gcd) (defScope s__law_gcd) [] [] f fd) (T : Bt mg) : FnOk P w K mg base CX0 1 f fd ["_law_a", "_law_b"] spGcd := by
  refine F.ok sc__law_gcd (fun vs H Q E h => ?_) (fun cdv A outer s H vs Q E hr h => ?_)
  · obtain ⟨a, b, rfl, k⟩ := h
    rfl
  · obtain ⟨a, b, rfl, k⟩ := h
    refine ⟨_, PSs.nox (pss_cons (ps_while PassesOwn.never (pt_cmpR op_ne (pv 1) pe_int (nomark _)) (pss_one (ps_par (i := 0) (j := 1) rfl sc__law_gcd.nd rfl rfl (by decide) rfl rfl (pa_cons (pv 1) (pa_cons (pe_op op_modN (pv 0) (pv 1)) pa_nil)) rfl)))
      (pss_one (ps_ret (pe_ifExp (pt_cmpR op_gt (pv 0) pe_int (nomark _)) (pv 0) (pe_un un_neg (pv 0)))))), ?_⟩
    refine ⟨fun m σ H' => ∃ x y : Int, σ = [some (.int x), some (.int y)] ∧ H' = H ∧ m = y.natAbs ∧ x.gcd y = a.gcd b, ⟨_, a, b, rfl, rfl, rfl, rfl⟩, ?_⟩
    rintro m σ H' ⟨x, y, rfl, rfl, rfl, hg⟩
    refine ⟨_, rfl, rfl, _, rfl, ?_⟩
    by_cases hy : y = 0
    · subst hy
      refine iteF ?_
      rw [Int.gcd_zero_right] at hg
      refine ⟨_, rfl, _, _, rfl, rfl, _, rfl, ?_⟩
      refine ite2 (fun hc => ?_) (fun hc => ?_)
      · have h0 : 0 < x := of_decide_eq_true hc
        refine ⟨_, rfl, ?_⟩
        have e : x = (a.gcd b : Int) := by omega
        rw [e]
        exact k
      · have h0 : ¬ 0 < x := fun z => hc (decide_eq_true z)
        refine ⟨_, rfl, _, rfl, ?_⟩
        have e : -x = (a.gcd b : Int) := by omega
        show Q (.int (-x)) _
        rw [e]
        exact k
    · have e : (!decide (V.int y = V.int 0)) = true := by simp [hy]
      rw [e]
      refine iteT ⟨fun σ' H'' => σ' = [some (.int y), some (.int (x.fmod y))] ∧ H'' = H', fun σ' H'' ⟨h1, h2⟩ => ⟨_, fmod_lt x y hy, y, _, h1, h2, rfl, (gcd_step x y).trans hg⟩, ?_⟩
      exact ⟨_, rfl, _, rfl, _, rfl, _, _, rfl, rfl, hy, _, _, rfl, rfl, rfl⟩
def spFrac : Sp := fun vs H Q _ => ∃ o u : Int, vs = [.int o, .int u] ∧ u ≠ 0 ∧ Big u ∧ ∀ v H', Same H H' → IsF H' v (rO o u) (rD o u) → Q v H'
abbrev s__law_frac : Stmt := top 29
abbrev N__law_frac : List Str := ["_law_over", "_law_under", "_law_whole"]
theorem sc__law_frac : FnScope N__law_frac ["_law_over", "_law_under"] (defScope s__law_frac) := ⟨rfl, rfl, rfl, by decide +kernel, rfl, by decide +kernel, by decide +kernel⟩
-- slots: 0 _law_over, 1 _law_under, 2 _law_whole
theorem ok__law_frac {f : Addr} {fd : FuncData} (F : FunD K "_law_frac" "_law_frac" (defArgs s__law_frac) (defBody s__law_frac) (defScope s__law_frac) [] [] f fd) (T : Bt mg) (c__law_gcd : C8.Cal P w K mg base 1 "_law_gcd" spGcd []) : FnOk P w K mg base CX0 2 f fd ["_law_over", "_law_under"] spFrac := by
  refine F.ok sc__law_frac (fun vs H Q E h => ?_) (fun cdv A outer s H vs Q E hr h => ?_)
  · obtain ⟨o, u, rfl, hu, hub, k⟩ := h
    rfl
  · obtain ⟨o, u, rfl, hu, hub, k⟩ := h
    refine ⟨_, PSs.nox (pss_cons (ps_set (i := 2) sc__law_frac.nd rfl (Or.inl rfl) (C8.pe_c c__law_gcd hr (by decide) rfl (pa_cons (pv 0) (pa_cons (pv 1) pa_nil))))
      (pss_cons (ps_set (i := 2) sc__law_frac.nd rfl (Or.inl rfl) (pe_ifExp (pt_cmpR op_lt (pv 1) pe_int (nomark _)) (pe_un un_neg (pv 2)) (pv 2)))
      (pss_one (ps_ret (pe_tup (pa_cons (pe_op op_fdivG (pv 0) (pv 2)) (pa_cons (pe_op op_fdivG (pv 1) (pv 2)) pa_nil))))))), ?_⟩
    refine ⟨_, rfl, _, rfl, o, u, rfl, ?_⟩
    have hw : rwh o u ≠ 0 ∧ (rwh o u).natAbs.log2 < 9000 := ⟨rwh_ne hu, big_ne (Nat.lt_of_le_of_lt (abs_rwh hu) hub)⟩
    have fin : ∀ z : Int, z = rwh o u → tRet (tTup (tCons (tOp (rI (fun _ j => j ≠ 0 ∧ j.natAbs.log2 < 9000) fun i j => .int (i.fdiv j)) (tVar 0) (tVar 2)) (tCons (tOp (rI (fun _ j => j ≠ 0 ∧ j.natAbs.log2 < 9000) fun i j => .int (i.fdiv j)) (tVar 1) (tVar 2)) tNil))) { nx := fun _ H' => Q .non H', rt := Q } [some (.int o), some (.int u), some (.int z)] H := by
      rintro z rfl
      refine ⟨_, rfl, _, rfl, _, _, rfl, rfl, hw, _, rfl, _, rfl, _, _, rfl, rfl, hw, by show 2 ≤ sizeLine; decide, fun p n1 => ?_⟩
      generalize q1 : upd H p _ = H1
      exact k _ _ (nSm q1 n1) ⟨p, rfl, nAt q1⟩
    refine ⟨_, rfl, _, _, rfl, rfl, _, rfl, ?_⟩
    refine ite2 (fun hc => ?_) (fun hc => ?_)
    · have h0 : u < 0 := of_decide_eq_true hc
      refine ⟨_, rfl, _, rfl, fin _ ?_⟩
      unfold rwh
      rw [if_pos h0]
    · have h0 : ¬ u < 0 := fun z => hc (decide_eq_true z)
      refine ⟨_, rfl, fin _ ?_⟩
      unfold rwh
      rw [if_neg h0]
def spFBin (f g : Int → Int → Int → Int → Int) : Sp := fun vs H Q _ => ∃ (x y : V) (o u p q : Int), vs = [x, y] ∧ IsF H x o u ∧ IsF H y p q ∧ Sm o ∧ Sm u ∧ Sm p ∧ Sm q ∧ g o u p q ≠ 0 ∧
  ∀ v H', Same H H' → IsF H' v (rO (f o u p q) (g o u p q)) (rD (f o u p q) (g o u p q)) → Q v H'
abbrev spFAdd : Sp := spFBin (fun o u p q => o * q + p * u) (fun _ u _ q => u * q)
abbrev spFMul : Sp := spFBin (fun o _ p _ => o * p) (fun _ u _ q => u * q)
abbrev s__law_add : Stmt := top 30
abbrev N__law_add : List Str := ["_law_a", "_law_b"]
theorem sc__law_add : FnScope N__law_add ["_law_a", "_law_b"] (defScope s__law_add) := ⟨rfl, rfl, rfl, by decide +kernel, rfl, by decide +kernel, by decide +kernel⟩
-- slots: 0 _law_a, 1 _law_b
theorem ok__law_add {f : Addr} {fd : FuncData} (F : FunD K "_law_add" "_law_add" (defArgs s__law_add) (defBody s__law_add) (defScope s__law_add) [] [] f fd) (T : Bt mg) (c__law_frac : C8.Cal P w K mg base 2 "_law_frac" spFrac []) : FnOk P w K mg base CX0 3 f fd ["_law_a", "_law_b"] spFAdd := by
  refine F.ok sc__law_add (fun vs H Q E h => ?_) (fun cdv A outer s H vs Q E hr h => ?_)
  · obtain ⟨x, y, o, u, p, q, rfl, ⟨xa, rfl, hx⟩, ⟨ya, rfl, hy⟩, so, su, sp, sq, hg, k⟩ := h
    rfl
  · obtain ⟨x, y, o, u, p, q, rfl, ⟨xa, rfl, hx⟩, ⟨ya, rfl, hy⟩, so, su, sp, sq, hg, k⟩ := h
    refine ⟨_, PSs.nox (pss_one (ps_ret (C8.pe_c c__law_frac hr (by decide) rfl (pa_cons (pe_op op_add (pe_op op_mulG (pe_ix ix_tup (pv 0) pe_int (fun _ _ => rfl)) (pe_ix ix_tup (pv 1) pe_int (fun _ _ => rfl))) (pe_op op_mulG (pe_ix ix_tup (pv 1) pe_int (fun _ _ => rfl)) (pe_ix ix_tup (pv 0) pe_int (fun _ _ => rfl)))) (pa_cons (pe_op op_mulG (pe_ix ix_tup (pv 0) pe_int (fun _ _ => rfl)) (pe_ix ix_tup (pv 1) pe_int (fun _ _ => rfl))) pa_nil))))), ?_⟩
    exact ⟨_, rfl, xa, _, _, _, rfl, rfl, SqT.of hx, rfl, _, rfl, ya, _, _, _, rfl, rfl, SqT.of hy, rfl, _, _, rfl, rfl, smul so sq, _, rfl, ya, _, _, _, rfl, rfl, SqT.of hy, rfl, _, rfl, xa, _, _, _, rfl, rfl, SqT.of hx, rfl, _, _, rfl, rfl, smul sp su, _, _, rfl, rfl, _, rfl, xa, _, _, _, rfl, rfl, SqT.of hx, rfl, _, rfl, ya, _, _, _, rfl, rfl, SqT.of hy, rfl, _, _, rfl, rfl, smul su sq, _, _, rfl, hg, big_mul su sq, k⟩
abbrev s__law_mul : Stmt := top 31
abbrev N__law_mul : List Str := ["_law_a", "_law_b"]
theorem sc__law_mul : FnScope N__law_mul ["_law_a", "_law_b"] (defScope s__law_mul) := ⟨rfl, rfl, rfl, by decide +kernel, rfl, by decide +kernel, by decide +kernel⟩
-- slots: 0 _law_a, 1 _law_b
theorem ok__law_mul {f : Addr} {fd : FuncData} (F : FunD K "_law_mul" "_law_mul" (defArgs s__law_mul) (defBody s__law_mul) (defScope s__law_mul) [] [] f fd) (T : Bt mg) (c__law_frac : C8.Cal P w K mg base 2 "_law_frac" spFrac []) : FnOk P w K mg base CX0 3 f fd ["_law_a", "_law_b"] spFMul := by
  refine F.ok sc__law_mul (fun vs H Q E h => ?_) (fun cdv A outer s H vs Q E hr h => ?_)
  · obtain ⟨x, y, o, u, p, q, rfl, ⟨xa, rfl, hx⟩, ⟨ya, rfl, hy⟩, so, su, sp, sq, hg, k⟩ := h
    rfl
  · obtain ⟨x, y, o, u, p, q, rfl, ⟨xa, rfl, hx⟩, ⟨ya, rfl, hy⟩, so, su, sp, sq, hg, k⟩ := h
    refine ⟨_, PSs.nox (pss_one (ps_ret (C8.pe_c c__law_frac hr (by decide) rfl (pa_cons (pe_op op_mulG (pe_ix ix_tup (pv 0) pe_int (fun _ _ => rfl)) (pe_ix ix_tup (pv 1) pe_int (fun _ _ => rfl))) (pa_cons (pe_op op_mulG (pe_ix ix_tup (pv 0) pe_int (fun _ _ => rfl)) (pe_ix ix_tup (pv 1) pe_int (fun _ _ => rfl))) pa_nil))))), ?_⟩
    exact ⟨_, rfl, xa, _, _, _, rfl, rfl, SqT.of hx, rfl, _, rfl, ya, _, _, _, rfl, rfl, SqT.of hy, rfl, _, _, rfl, rfl, smul so sp, _, rfl, xa, _, _, _, rfl, rfl, SqT.of hx, rfl, _, rfl, ya, _, _, _, rfl, rfl, SqT.of hy, rfl, _, _, rfl, rfl, smul su sq, _, _, rfl, hg, big_mul su sq, k⟩
/-- a fraction as it is passed -/
def spAsNum (K : PySem.W.Frag) (C : Addr) : Sp := fun vs H Q _ => ∃ (a : Addr) (x : V) (o u : Int), vs = [.ref a, x] ∧ Stt K H a ∧ IsF H x o u ∧ Red o u ∧ Sm u ∧ ∀ v H', Bus a H H' → Stt K H' a → IsN C H' v o u → Q v H'
abbrev s__law_as_number : Stmt := top 33
abbrev N__law_as_number : List Str := ["_law_state", "_law_a", "_law_far"]
theorem sc__law_as_number : FnScope N__law_as_number ["_law_state", "_law_a"] (defScope s__law_as_number) := ⟨rfl, rfl, rfl, by decide +kernel, rfl, by decide +kernel, by decide +kernel⟩
-- slots: 0 _law_state, 1 _law_a, 2 _law_far
theorem ok__law_as_number {f : Addr} {fd : FuncData} (F : FunD K "_law_as_number" "_law_as_number" (defArgs s__law_as_number) (defBody s__law_as_number) (defScope s__law_as_number) [] [] f fd) (T : XC K mg C) (c__law_take : C8.Cal P w K mg base 2 "_law_take" (spTake K) []) (c_Exact : C8.Mak P w K mg base 2 "Exact" C (spInit C) []) : FnOk P w K mg base CX0 4 f fd ["_law_state", "_law_a"] (spAsNum K C) := by
  refine F.ok sc__law_as_number (fun vs H Q E h => ?_) (fun cdv A outer s H vs Q E hr h => ?_)
  · obtain ⟨a, x, o, u, rfl, hs, ⟨xa, rfl, hx⟩, hr', su, k⟩ := h
    rfl
  · obtain ⟨a, x, o, u, rfl, hs, ⟨xa, rfl, hx⟩, hr', su, k⟩ := h
    refine ⟨_, PSs.nox (pss_cons (ps_if (PW.pt (pw_and (pt_cmpR op_eq (pe_ix ix_tup (pv 1) pe_int (fun _ _ => rfl)) pe_int (nomark _)) (pw_and1 (pt_cmpR op_gt (C8.pe_c c__law_take hr (by decide) rfl (pa_cons (pv 0) (pa_cons pe_int pa_nil))) pe_int (nomark _))))) (pss_one (ps_ret (pe_ix ix_tup (pv 1) pe_int (fun _ _ => rfl)))) pss_nil)
      (pss_cons (ps_set (i := 2) sc__law_as_number.nd rfl (Or.inl rfl) (pe_op op_add pe_int (C8.pe_c c__law_take hr (by decide) rfl (pa_cons (pv 0) (pa_cons pe_int pa_nil)))))
      (pss_one (ps_ret (C8.pe_mk c_Exact hr (by decide) rfl (pa_cons (pe_op op_mulG (pe_ix ix_tup (pv 1) pe_int (fun _ _ => rfl)) (pv 2)) (pa_cons (pe_op op_mulG (pe_ix ix_tup (pv 1) pe_int (fun _ _ => rfl)) (pv 2)) pa_nil))))))), ?_⟩
    have last : ∀ H1, Bus a H H1 → Stt K H1 a → _ := fun H1 e1 hs1 => (show tSeq (tAsg (tOp (rI0 fun i j => .int (i + j)) (tC (.int 1)) (tCall (spTake K) [] C8.E0 (tCons (tVar 0) (tCons (tC (.int 3)) tNil)))) (gName 2)) (tRet (tMake C (spInit C) [] C8.E0 (tCons (tOp (rI IntMulOk fun i j => .int (i * j)) (tOp (rIxT K) (tVar 1) (tC (.int 0))) (tVar 2)) (tCons (tOp (rI IntMulOk fun i j => .int (i * j)) (tOp (rIxT K) (tVar 1) (tC (.int 1))) (tVar 2)) tNil)))) { nx := fun _ H' => Q .non H', rt := Q } [some (.ref a), some (.ref xa), none] H1 by
      refine ⟨_, rfl, a, 3, rfl, hs1, by decide, by decide, fun H2 d e2 hs2 hd0 hd1 => ?_⟩
      have hx2 := e2.get hs1 (e1.get hs hx rfl) rfl
      refine ⟨_, _, rfl, rfl, ?_⟩
      refine ⟨_, rfl, xa, _, _, _, rfl, rfl, SqT.of hx2, rfl, _, rfl, _, _, rfl, rfl, mulS (by omega), _, rfl, xa, _, _, _, rfl, rfl, SqT.of hx2, rfl, _, rfl, _, _, rfl, rfl, mulS (by omega), ?_⟩
      have hu := hr'.1
      have hd : (1 + d : Int) ≠ 0 := by omega
      have hsd : Sm (1 + d) := Nat.lt_of_lt_of_le (show (1 + d).natAbs < 2 ^ 2 by omega) (Nat.pow_le_pow_right (by decide) (by decide))
      refine fun n dn nx nd ne => mkX (Int.mul_ne_zero (by omega) hd) (big_mul su hsd) (fun v H' e hv => k v H' ((e1.trans e2).trans (Same.bus e)) (hs2.same e) (.inr ?_)) n dn nx nd ne
      obtain ⟨q1, q2⟩ := red_scale hr' hd
      rw [q1, q2] at hv
      exact hv)
    refine ⟨_, rfl, xa, _, _, _, rfl, rfl, SqT.of hx, rfl, rfl, _, rfl, ?_⟩
    refine ite2 (fun hc => ?_) (fun hc => ?_)
    · have hu1 : u = 1 := by simpa using hc
      refine ⟨_, rfl, a, 3, rfl, hs, by decide, by decide, fun H1 d e1 hs1 hd0 hd1 => ?_⟩
      refine ⟨_, _, rfl, rfl, _, rfl, ?_⟩
      refine ite2 (fun _ => ?_) (fun _ => last H1 e1 hs1)
      exact ⟨_, rfl, xa, _, _, _, rfl, rfl, SqT.of (e1.get hs hx rfl), rfl, k _ _ e1 hs1 (.inl ⟨rfl, hu1⟩)⟩
    · exact last H (Bus.refl a H) hs
/-- a fraction as it is told -/
def spLPlain (C : Addr) : Sp := fun vs H Q _ => ∃ (x : V) (o u : Int), vs = [x] ∧ IsF H x o u ∧ Red o u ∧ Big u ∧ ∀ v H', Same H H' → TN C H' v o u → Q v H'
abbrev s__law_plain : Stmt := top 34
abbrev N__law_plain : List Str := ["_law_a"]
theorem sc__law_plain : FnScope N__law_plain ["_law_a"] (defScope s__law_plain) := ⟨rfl, rfl, rfl, by decide +kernel, rfl, by decide +kernel, by decide +kernel⟩
-- slots: 0 _law_a
theorem ok__law_plain {f : Addr} {fd : FuncData} (F : FunD K "_law_plain" "_law_plain" (defArgs s__law_plain) (defBody s__law_plain) (defScope s__law_plain) [] [] f fd) (T : XC K mg C) (c_Exact : C8.Mak P w K mg base 2 "Exact" C (spInit C) []) : FnOk P w K mg base CX0 4 f fd ["_law_a"] (spLPlain C) := by
  refine F.ok sc__law_plain (fun vs H Q E h => ?_) (fun cdv A outer s H vs Q E hr h => ?_)
  · obtain ⟨x, o, u, rfl, ⟨xa, rfl, hx⟩, hr', su, k⟩ := h
    rfl
  · obtain ⟨x, o, u, rfl, ⟨xa, rfl, hx⟩, hr', su, k⟩ := h
    refine ⟨_, PSs.nox (pss_one (ps_ret (pe_ifExp (pt_cmpR op_eq (pe_ix ix_tup (pv 0) pe_int (fun _ _ => rfl)) pe_int (nomark _)) (pe_ix ix_tup (pv 0) pe_int (fun _ _ => rfl)) (C8.pe_mk c_Exact hr (by decide) rfl (pa_cons (pe_ix ix_tup (pv 0) pe_int (fun _ _ => rfl)) (pa_cons (pe_ix ix_tup (pv 0) pe_int (fun _ _ => rfl)) pa_nil)))))), ?_⟩
    refine ⟨_, rfl, xa, _, _, _, rfl, rfl, SqT.of hx, rfl, rfl, _, rfl, ?_⟩
    refine ite2 (fun hc => ?_) (fun hc => ?_)
    · have hu1 : u = 1 := by simpa using hc
      exact ⟨_, rfl, xa, _, _, _, rfl, rfl, SqT.of hx, rfl, k _ _ (Same.refl H) (.inl ⟨hu1, rfl⟩)⟩
    · have hu1 : u ≠ 1 := by simpa using hc
      have hu := hr'.1
      refine ⟨_, rfl, xa, _, _, _, rfl, rfl, SqT.of hx, rfl, _, rfl, xa, _, _, _, rfl, rfl, SqT.of hx, rfl, fun n dn nx nd ne => mkX (by omega) su (fun v H' e hv => k v H' e (.inr ⟨hu1, ?_⟩)) n dn nx nd ne⟩
      obtain ⟨q1, q2⟩ := red_self hr'
      rw [q1, q2] at hv
      exact hv
end
end LW
set_option Elab.async false
set_option linter.all false
set_option maxRecDepth 100000
set_option maxHeartbeats 4000000
namespace LW
open PySem PySem.Spec PyProof.Rows L2 LV LM
theorem kA1 (K : PySem.W.Frag) : PySem.W.kitAny K (.type "int") [.type "list", .type "tuple"] = some false := by kernel_rfl
theorem kA2 (K : PySem.W.Frag) : PySem.W.kitAny K (.type "list") [.type "list", .type "tuple"] = some true := by rfl
theorem kLL (K : PySem.W.Frag) : PySem.W.kitOne K (.type "list") (.type "list") = some true := rfl
theorem kLT (K : PySem.W.Frag) : PySem.W.kitOne K (.type "list") (.type "tuple") = some false := by kernel_rfl
theorem kTL (K : PySem.W.Frag) : PySem.W.kitOne K (.type "tuple") (.type "list") = some false := by kernel_rfl
theorem kTT (K : PySem.W.Frag) : PySem.W.kitOne K (.type "tuple") (.type "tuple") = some true := rfl
section
variable {P : Program} {w : World} {K : PySem.W.Frag} {mg : Str → Option Value} {base : Heap} {C : Addr}
theorem kA3 (T : XC K mg C) : PySem.W.kitAny K (.ref C) [.type "list", .type "tuple"] = some false :=
  kitAny_cons T.kXL (fun _ => kitAny_cons T.kXT (fun _ => rfl) (fun z => nomatch z)) (fun z => nomatch z)
theorem clsLT : Paired ClsV [V.ty "list", V.ty "tuple"] [.type "list", .type "tuple"] := .cons (.ty _) (.cons (.ty _) .nil)
theorem kBI (K : PySem.W.Frag) : PySem.W.kitOne K (.type "bool") (.type "int") = some true := by kernel_rfl
theorem kBB (K : PySem.W.Frag) : PySem.W.kitOne K (.type "bool") (.type "bool") = some true := rfl
theorem kA4 (K : PySem.W.Frag) : PySem.W.kitAny K (.type "bool") [.type "list", .type "tuple"] = some false := by kernel_rfl
def IB (v : V) : Prop := (∃ i : Int, v = .int i) ∨ ∃ b : Bool, v = .bl b
def spSameI : Sp := fun vs H Q _ => ∃ v : V, vs = [v, v] ∧ IB v ∧ ∀ H', Same H H' → Q (.bl true) H'
abbrev s__law_same : Stmt := top 26
abbrev N__law_same : List Str := ["_law_found", "_law_due", "_law_a", "_law_b"]
theorem sc__law_same : FnScope N__law_same ["_law_found", "_law_due"] (defScope s__law_same) := ⟨rfl, rfl, rfl, by decide +kernel, rfl, by decide +kernel, by decide +kernel⟩
-- slots: 0 _law_found, 1 _law_due, 2 _law_a, 3 _law_b
theorem ok__law_same {f : Addr} {fd : FuncData} (F : FunD K "_law_same" "_law_same" (defArgs s__law_same) (defBody s__law_same) (defScope s__law_same) [] [] f fd) (T : Bt mg) : FnOk P w K mg base CX0 1 f fd ["_law_found", "_law_due"] spSameI := by
  refine F.ok sc__law_same (fun vs H Q E h => ?_) (fun cdv A outer s H vs Q E hr h => ?_)
  · obtain ⟨v, rfl, hv, k⟩ := h
    rfl
  · obtain ⟨v, rfl, hv, k⟩ := h
    refine ⟨_, PSs.nox (pss_cons (ps_if (pt_val (pe_callB call_isiT rfl T.isinstance (by decide +kernel) (pa_cons (pv 1) (pa_cons (pe_tup (pa_cons (pe_bltn (v := .ty "list") rfl T.list (by decide +kernel) rfl) (pa_cons (pe_bltn (v := .ty "tuple") rfl T.tuple (by decide +kernel) rfl) pa_nil))) pa_nil)))) (pss_cons ps_never
      (pss_one ps_never)) pss_nil)
      (pss_cons (ps_if (pt_val (pe_callB call_isi rfl T.isinstance (by decide +kernel) (pa_cons (pv 1) (pa_cons (pe_bltn (v := .ty "int") rfl T.int (by decide +kernel) rfl) pa_nil)))) (pss_one (ps_ret (pe_and (pe_callB call_isi rfl T.isinstance (by decide +kernel) (pa_cons (pv 0) (pa_cons (pe_bltn (v := .ty "int") rfl T.int (by decide +kernel) rfl) pa_nil))) (pe_and (pe_cmpR op_eq (pe_callB call_isi rfl T.isinstance (by decide +kernel) (pa_cons (pv 0) (pa_cons (pe_bltn (v := .ty "bool") rfl T.bool (by decide +kernel) rfl) pa_nil))) (pe_callB call_isi rfl T.isinstance (by decide +kernel) (pa_cons (pv 1) (pa_cons (pe_bltn (v := .ty "bool") rfl T.bool (by decide +kernel) rfl) pa_nil))) (nomark _)) (pe_one (pe_cmpR op_eq (pv 0) (pv 1) (nomark _))))))) pss_nil)
      (pss_one ps_never))), ?_⟩
    refine ⟨_, rfl, by show 2 ≤ sizeLine; decide, fun tp n1 => ?_⟩
    generalize q1 : upd H tp _ = H1
    have e1 := nSm q1 n1
    rcases hv with ⟨i, rfl⟩ | ⟨i, rfl⟩
    · refine ⟨_, tp, _, _, _, _, rfl, nAt q1, clsLT, .base (.int i), kA1 K, _, rfl, iteF ?_⟩
      refine ⟨_, rfl, _, _, _, _, _, rfl, .ty "int", .base (.int i), kII K, _, rfl, iteT ?_⟩
      refine ⟨_, rfl, _, _, _, _, _, rfl, .ty "int", .base (.int i), kII K, _, rfl, iteT ?_⟩
      refine ⟨_, rfl, _, _, _, _, _, rfl, .ty "bool", .base (.int i), kIB K, _, rfl, _, _, _, _, _, rfl, .ty "bool", .base (.int i), kIB K, rfl, _, rfl, iteT ?_⟩
      refine ⟨_, rfl, _, rfl, rfl, ?_⟩
      rw [decide_eq_true rfl]
      exact k _ e1
    · refine ⟨_, tp, _, _, _, _, rfl, nAt q1, clsLT, .base (.bl i), kA4 K, _, rfl, iteF ?_⟩
      refine ⟨_, rfl, _, _, _, _, _, rfl, .ty "int", .base (.bl i), kBI K, _, rfl, iteT ?_⟩
      refine ⟨_, rfl, _, _, _, _, _, rfl, .ty "int", .base (.bl i), kBI K, _, rfl, iteT ?_⟩
      refine ⟨_, rfl, _, _, _, _, _, rfl, .ty "bool", .base (.bl i), kBB K, _, rfl, _, _, _, _, _, rfl, .ty "bool", .base (.bl i), kBB K, rfl, _, rfl, iteT ?_⟩
      refine ⟨_, rfl, _, rfl, rfl, ?_⟩
      rw [decide_eq_true rfl]
      exact k _ e1
/-- two lists of the same ints and bools -/
def spSameL : Sp := fun vs H Q _ => ∃ (la lb : Addr) (xs : List V), vs = [.ref la, .ref lb] ∧ H la = some (.lst xs) ∧ H lb = some (.lst xs) ∧ xs.length ≤ 100 ∧ (∀ x ∈ xs, IB x) ∧ ∀ H', Same H H' → Q (.bl true) H'
-- slots: 0 _law_found, 1 _law_due, 2 _law_a, 3 _law_b
theorem ok__law_same_L {f : Addr} {fd : FuncData} (F : FunD K "_law_same" "_law_same" (defArgs s__law_same) (defBody s__law_same) (defScope s__law_same) [] [] f fd) (T : Bt mg) (c__law_same : C8.Cal P w K mg base 1 "_law_same" spSameI []) : FnOk P w K mg base CX0 2 f fd ["_law_found", "_law_due"] spSameL := by
  refine F.ok sc__law_same (fun vs H Q E h => ?_) (fun cdv A outer s H vs Q E hr h => ?_)
  · obtain ⟨la, lb, xs, rfl, hx, hy, hl, hs, k⟩ := h
    rfl
  · obtain ⟨la, lb, xs, rfl, hx, hy, hl, hs, k⟩ := h
    refine ⟨_, PSs.nox (pss_cons (ps_if (pt_val (pe_callB call_isiT rfl T.isinstance (by decide +kernel) (pa_cons (pv 1) (pa_cons (pe_tup (pa_cons (pe_bltn (v := .ty "list") rfl T.list (by decide +kernel) rfl) (pa_cons (pe_bltn (v := .ty "tuple") rfl T.tuple (by decide +kernel) rfl) pa_nil))) pa_nil)))) (pss_cons (ps_if (PW.pt (pw_or (pt_cmpR op_ne (pe_callB call_isi rfl T.isinstance (by decide +kernel) (pa_cons (pv 0) (pa_cons (pe_bltn (v := .ty "list") rfl T.list (by decide +kernel) rfl) pa_nil))) (pe_callB call_isi rfl T.isinstance (by decide +kernel) (pa_cons (pv 1) (pa_cons (pe_bltn (v := .ty "list") rfl T.list (by decide +kernel) rfl) pa_nil))) (nomark _)) (pw_or1 (pt_cmpR op_ne (pe_callB call_isi rfl T.isinstance (by decide +kernel) (pa_cons (pv 0) (pa_cons (pe_bltn (v := .ty "tuple") rfl T.tuple (by decide +kernel) rfl) pa_nil))) (pe_callB call_isi rfl T.isinstance (by decide +kernel) (pa_cons (pv 1) (pa_cons (pe_bltn (v := .ty "tuple") rfl T.tuple (by decide +kernel) rfl) pa_nil))) (nomark _))))) (pss_one (ps_ret pe_bl)) pss_nil)
      (pss_one (ps_ret (pe_and (pe_cmpR op_eq (pe_callB call_len_seq rfl T.len (by decide +kernel) (pa_cons (pv 0) pa_nil)) (pe_callB call_len_seq rfl T.len (by decide +kernel) (pa_cons (pv 1) pa_nil)) (nomark _)) (pe_one (pe_callB (cr_all rfl) rfl T.all (by decide +kernel) (pa_cons (pe_lc (own := [("_law_a", 2), ("_law_b", 3)]) (g := (gTup K 2 (gCons (gName 2) (gCons (gName 3) gNil)))) (tt := tYes) rfl sc__law_same.nd (pi_zip rfl T.zip (pa_cons (pv 0) (pa_cons (pv 1) pa_nil))) (blkOk_by (N := N__law_same) (sc := defScope s__law_same) (by decide +kernel)) (fun _ _ _ _ _ => by exact (pg_tup rfl (pgs_cons (pg_name (i := 2) sc__law_same.nd rfl (Or.inl rfl)) (pgs_cons (pg_name (i := 3) sc__law_same.nd rfl (Or.inl rfl)) pgs_nil)))) (fun _ _ _ _ _ => pts_nil) (fun _ _ _ _ _ => by exact (C8.pe_c c__law_same hr (by decide) rfl (pa_cons (pv 2) (pa_cons (pv 3) pa_nil))))) pa_nil))))))) pss_nil)
      (pss_cons ps_never
      (pss_one ps_never))), ?_⟩
    refine ⟨_, rfl, by show 2 ≤ sizeLine; decide, fun tp n1 => ?_⟩
    generalize q1 : upd H tp _ = H1
    have e1 := nSm q1 n1
    have hx1 := e1 _ _ hx
    have hy1 := e1 _ _ hy
    refine ⟨_, tp, _, _, _, _, rfl, nAt q1, clsLT, .base (.lst hy1), kA2 K, _, rfl, iteT ?_⟩
    refine ⟨_, rfl, _, _, _, _, _, rfl, .ty "list", .base (.lst hx1), kLL K, _, rfl, _, _, _, _, _, rfl, .ty "list", .base (.lst hy1), kLL K, rfl, _, rfl, iteF ?_⟩
    refine ⟨_, rfl, _, _, _, _, _, rfl, .ty "tuple", .base (.lst hx1), kLT K, _, rfl, _, _, _, _, _, rfl, .ty "tuple", .base (.lst hy1), kLT K, rfl, _, rfl, iteF ?_⟩
    refine ⟨_, rfl, la, _, rfl, .inl (SqL.of hx1), _, rfl, lb, _, rfl, .inl (SqL.of hy1), rfl, _, rfl, ?_⟩
    have el : decide (V.int (xs.length : Nat) = V.int (xs.length : Nat)) = true := decide_eq_true rfl
    rw [el]
    refine iteT ?_
    refine ⟨_, rfl, _, rfl, la, lb, xs, xs, rfl, SqL.of hx1, SqL.of hy1, fun D nD => ?_⟩
    refine lc_it (walk_zip (n := xs.length) (by omega)) (fun i H2 => Same H1 H2 ∧ H2 D = some (.lst (List.replicate i (.bl true)))) ⟨Same.new nD, upd_same⟩ (fun i H2 _ ⟨e2, _⟩ => ⟨SqL.of (e2 _ _ hx1), SqL.of (e2 _ _ hy1)⟩) ?_ ?_
    · rintro i x H2 H3 hi ⟨e2, h2⟩ ⟨T5, a, b, rfl, nT, rfl, ha, hb⟩
      have eab : a = b := Option.some.inj (ha.symm.trans hb)
      subst eab
      have hib := hs a (List.mem_of_getElem? ha)
      have e3 : Same H1 (upd H2 T5 (.tup [a, a])) := e2.trans (Same.new nT)
      have h3 := (Same.new (o := .tup [a, a]) nT) _ _ h2
      have hT5 : upd H2 T5 (.tup [a, a]) T5 = some (.tup [a, a]) := upd_same
      generalize upd H2 T5 (.tup [a, a]) = H4 at e3 h3 hT5
      refine ⟨T5, _, rfl, SqT.of hT5, rfl, _, _, rfl, _, _, rfl, rfl, rfl, ?_⟩
      refine ⟨_, rfl, _, rfl, a, rfl, hib, fun H5 e5 => ⟨_, e5 _ _ h3, by rw [List.length_replicate]; exact Nat.lt_of_lt_of_le (by omega : i < 100) (by decide), ?_, ?_⟩⟩
      · intro b' o' hb'
        have nb : b' ≠ D := ne_of_none hb' nD
        rw [upd_ne nb]
        exact e5 _ _ (e3 _ _ hb')
      · rw [upd_same, List.replicate_succ']
    · rintro H2 ⟨e2, h2⟩
      have eb : List.replicate xs.length (V.bl true) = (List.replicate xs.length true).map V.bl := by rw [List.map_replicate]
      rw [eb] at h2
      refine ⟨D, _, rfl, SqL.of h2, ?_⟩
      have ea : (List.replicate xs.length true).all id = true := by simp
      rw [ea]
      exact k _ (e1.trans e2)
/-- two numbers as they are told are the same -/
def SameN (C : Addr) (H : Hp) (v d : V) : Prop := (∃ i : Int, v = .int i ∧ d = .int i) ∨ ∃ o u, IsX C H v o u ∧ IsX C H d o u
theorem SameN.same {H H1 : Hp} {v d : V} (e : Same H H1) (h : SameN C H v d) : SameN C H1 v d := by
  rcases h with h | ⟨o, u, h1, h2⟩
  · exact .inl h
  · exact .inr ⟨o, u, h1.same e, h2.same e⟩
def spToldI (C : Addr) : Sp := fun vs H Q _ => ∃ v d : V, vs = [v, d] ∧ SameN C H v d ∧ ∀ H', Same H H' → Q (.bl true) H'
abbrev s__law_is_told : Stmt := top 35
abbrev N__law_is_told : List Str := ["_law_x", "_law_due", "_law_a", "_law_b"]
theorem sc__law_is_told : FnScope N__law_is_told ["_law_x", "_law_due"] (defScope s__law_is_told) := ⟨rfl, rfl, rfl, by decide +kernel, rfl, by decide +kernel, by decide +kernel⟩
-- slots: 0 _law_x, 1 _law_due, 2 _law_a, 3 _law_b
theorem ok__law_is_told {f : Addr} {fd : FuncData} (F : FunD K "_law_is_told" "_law_is_told" (defArgs s__law_is_told) (defBody s__law_is_told) (defScope s__law_is_told) [] [] f fd) (T : XC K mg C) (c__law_same : C8.Cal P w K mg base 1 "_law_same" spSameI []) : FnOk P w K mg base CX0 2 f fd ["_law_x", "_law_due"] (spToldI C) := by
  refine F.ok sc__law_is_told (fun vs H Q E h => ?_) (fun cdv A outer s H vs Q E hr h => ?_)
  · obtain ⟨v, d, rfl, hd, k⟩ := h
    rfl
  · obtain ⟨v, d, rfl, hd, k⟩ := h
    refine ⟨_, PSs.nox (pss_cons (ps_if (pt_val (pe_callB call_isiT rfl T.isinstance (by decide +kernel) (pa_cons (pv 1) (pa_cons (pe_tup (pa_cons (pe_bltn (v := .ty "list") rfl T.list (by decide +kernel) rfl) (pa_cons (pe_bltn (v := .ty "tuple") rfl T.tuple (by decide +kernel) rfl) pa_nil))) pa_nil)))) (pss_cons ps_never
      (pss_one ps_never)) pss_nil)
      (pss_cons (ps_if (pt_val (pe_callB call_isi rfl T.isinstance (by decide +kernel) (pa_cons (pv 1) (pa_cons (pe_glob (v := .ref C) rfl T.mgC rfl) pa_nil)))) (pss_one (ps_ret (pe_and (pe_callB call_isi rfl T.isinstance (by decide +kernel) (pa_cons (pv 0) (pa_cons (pe_glob (v := .ref C) rfl T.mgC rfl) pa_nil))) (pe_and (pe_cmpR op_eq (pe_fld (pv 0) rfl) (pe_fld (pv 1) rfl) (nomark _)) (pe_one (pe_cmpR op_eq (pe_fld (pv 0) rfl) (pe_fld (pv 1) rfl) (nomark _))))))) pss_nil)
      (pss_one (ps_ret (C8.pe_c c__law_same hr (by decide) rfl (pa_cons (pv 0) (pa_cons (pv 1) pa_nil))))))), ?_⟩
    refine ⟨_, rfl, by show 2 ≤ sizeLine; decide, fun tp n1 => ?_⟩
    generalize q1 : upd H tp _ = H1
    have e1 := nSm q1 n1
    have hd1 := hd.same e1
    rcases hd1 with ⟨i, rfl, rfl⟩ | ⟨o, u, ⟨x, dx, rfl, hx⟩, ⟨y, dy, rfl, hy⟩⟩
    · refine ⟨_, tp, _, _, _, _, rfl, nAt q1, clsLT, .base (.int i), kA1 K, _, rfl, iteF ?_⟩
      refine ⟨_, rfl, _, _, _, _, _, rfl, .own C, .base (.int i), T.kIX, _, rfl, iteF ?_⟩
      exact ⟨_, rfl, _, rfl, .int i, rfl, .inl ⟨i, rfl⟩, fun H2 e2 => k _ (e1.trans e2)⟩
    · refine ⟨_, tp, _, _, _, _, rfl, nAt q1, clsLT, tyX T hy, kA3 T, _, rfl, iteF ?_⟩
      refine ⟨_, rfl, _, _, _, _, _, rfl, .own C, tyX T hy, kXX K C, _, rfl, iteT ?_⟩
      refine ⟨_, rfl, _, _, _, _, _, rfl, .own C, tyX T hx, kXX K C, _, rfl, iteT ?_⟩
      refine ⟨_, rfl, x, C, dx, _, _, rfl, hx, T.cl, T.nO, rfl, _, rfl, y, C, dy, _, _, rfl, hy, T.cl, T.nO, rfl, rfl, ?_⟩
      rw [decide_eq_true rfl]
      refine ⟨_, rfl, iteT ?_⟩
      refine ⟨_, rfl, x, C, dx, _, _, rfl, hx, T.cl, T.nU, rfl, _, rfl, y, C, dy, _, _, rfl, hy, T.cl, T.nU, rfl, rfl, ?_⟩
      rw [decide_eq_true rfl]
      exact k _ e1
def spToldL (C : Addr) : Sp := fun vs H Q _ => ∃ (la lb : Addr) (xs ys : List V), vs = [.ref la, .ref lb] ∧ H la = some (.lst xs) ∧ H lb = some (.lst ys) ∧ xs.length = ys.length ∧ xs.length ≤ 100 ∧ (∀ (i : Nat) x y, xs[i]? = some x → ys[i]? = some y → SameN C H x y) ∧ ∀ H', Same H H' → Q (.bl true) H'
-- slots: 0 _law_x, 1 _law_due, 2 _law_a, 3 _law_b
theorem ok__law_is_told_L {f : Addr} {fd : FuncData} (F : FunD K "_law_is_told" "_law_is_told" (defArgs s__law_is_told) (defBody s__law_is_told) (defScope s__law_is_told) [] [] f fd) (T : XC K mg C) (c__law_is_told : C8.Cal P w K mg base 2 "_law_is_told" (spToldI C) []) : FnOk P w K mg base CX0 3 f fd ["_law_x", "_law_due"] (spToldL C) := by
  refine F.ok sc__law_is_told (fun vs H Q E h => ?_) (fun cdv A outer s H vs Q E hr h => ?_)
  · obtain ⟨la, lb, xs, ys, rfl, hx, hy, hlen, hl, hs, k⟩ := h
    rfl
  · obtain ⟨la, lb, xs, ys, rfl, hx, hy, hlen, hl, hs, k⟩ := h
    refine ⟨_, PSs.nox (pss_cons (ps_if (pt_val (pe_callB call_isiT rfl T.isinstance (by decide +kernel) (pa_cons (pv 1) (pa_cons (pe_tup (pa_cons (pe_bltn (v := .ty "list") rfl T.list (by decide +kernel) rfl) (pa_cons (pe_bltn (v := .ty "tuple") rfl T.tuple (by decide +kernel) rfl) pa_nil))) pa_nil)))) (pss_cons (ps_if (PW.pt (pw_or (pt_cmpR op_ne (pe_callB call_isi rfl T.isinstance (by decide +kernel) (pa_cons (pv 0) (pa_cons (pe_bltn (v := .ty "list") rfl T.list (by decide +kernel) rfl) pa_nil))) (pe_callB call_isi rfl T.isinstance (by decide +kernel) (pa_cons (pv 1) (pa_cons (pe_bltn (v := .ty "list") rfl T.list (by decide +kernel) rfl) pa_nil))) (nomark _)) (pw_or1 (pt_cmpR op_ne (pe_callB call_isi rfl T.isinstance (by decide +kernel) (pa_cons (pv 0) (pa_cons (pe_bltn (v := .ty "tuple") rfl T.tuple (by decide +kernel) rfl) pa_nil))) (pe_callB call_isi rfl T.isinstance (by decide +kernel) (pa_cons (pv 1) (pa_cons (pe_bltn (v := .ty "tuple") rfl T.tuple (by decide +kernel) rfl) pa_nil))) (nomark _))))) (pss_one (ps_ret pe_bl)) pss_nil)
      (pss_one (ps_ret (pe_and (pe_cmpR op_eq (pe_callB call_len_seq rfl T.len (by decide +kernel) (pa_cons (pv 0) pa_nil)) (pe_callB call_len_seq rfl T.len (by decide +kernel) (pa_cons (pv 1) pa_nil)) (nomark _)) (pe_one (pe_callB (cr_all rfl) rfl T.all (by decide +kernel) (pa_cons (pe_lc (own := [("_law_a", 2), ("_law_b", 3)]) (g := (gTup K 2 (gCons (gName 2) (gCons (gName 3) gNil)))) (tt := tYes) rfl sc__law_is_told.nd (pi_zip rfl T.zip (pa_cons (pv 0) (pa_cons (pv 1) pa_nil))) (blkOk_by (N := N__law_is_told) (sc := defScope s__law_is_told) (by decide +kernel)) (fun _ _ _ _ _ => by exact (pg_tup rfl (pgs_cons (pg_name (i := 2) sc__law_is_told.nd rfl (Or.inl rfl)) (pgs_cons (pg_name (i := 3) sc__law_is_told.nd rfl (Or.inl rfl)) pgs_nil)))) (fun _ _ _ _ _ => pts_nil) (fun _ _ _ _ _ => by exact (C8.pe_c c__law_is_told hr (by decide) rfl (pa_cons (pv 2) (pa_cons (pv 3) pa_nil))))) pa_nil))))))) pss_nil)
      (pss_cons ps_never
      (pss_one ps_never))), ?_⟩
    refine ⟨_, rfl, by show 2 ≤ sizeLine; decide, fun tp n1 => ?_⟩
    generalize q1 : upd H tp _ = H1
    have e1 := nSm q1 n1
    have hx1 := e1 _ _ hx
    have hy1 := e1 _ _ hy
    refine ⟨_, tp, _, _, _, _, rfl, nAt q1, clsLT, .base (.lst hy1), kA2 K, _, rfl, iteT ?_⟩
    refine ⟨_, rfl, _, _, _, _, _, rfl, .ty "list", .base (.lst hx1), kLL K, _, rfl, _, _, _, _, _, rfl, .ty "list", .base (.lst hy1), kLL K, rfl, _, rfl, iteF ?_⟩
    refine ⟨_, rfl, _, _, _, _, _, rfl, .ty "tuple", .base (.lst hx1), kLT K, _, rfl, _, _, _, _, _, rfl, .ty "tuple", .base (.lst hy1), kLT K, rfl, _, rfl, iteF ?_⟩
    refine ⟨_, rfl, la, _, rfl, .inl (SqL.of hx1), _, rfl, lb, _, rfl, .inl (SqL.of hy1), rfl, _, rfl, ?_⟩
    have el : decide (V.int (xs.length : Nat) = V.int (ys.length : Nat)) = true := decide_eq_true (by rw [hlen])
    rw [el]
    refine iteT ?_
    refine ⟨_, rfl, _, rfl, la, lb, xs, ys, rfl, SqL.of hx1, SqL.of hy1, fun D nD => ?_⟩
    refine lc_it (walk_zip (n := xs.length) (by omega)) (fun i H2 => Same H1 H2 ∧ H2 D = some (.lst (List.replicate i (.bl true)))) ⟨Same.new nD, upd_same⟩ (fun i H2 _ ⟨e2, _⟩ => ⟨SqL.of (e2 _ _ hx1), SqL.of (e2 _ _ hy1)⟩) ?_ ?_
    · rintro i x H2 H3 hi ⟨e2, h2⟩ ⟨T5, a, b, rfl, nT, rfl, ha, hb⟩
      have hs1 := ((hs i a b ha hb).same e1).same (e2.trans (Same.new (o := .tup [a, b]) nT))
      have e3 : Same H1 (upd H2 T5 (.tup [a, b])) := e2.trans (Same.new nT)
      have h3 := (Same.new (o := .tup [a, b]) nT) _ _ h2
      have hT5 : upd H2 T5 (.tup [a, b]) T5 = some (.tup [a, b]) := upd_same
      generalize upd H2 T5 (.tup [a, b]) = H4 at hs1 e3 h3 hT5
      refine ⟨T5, _, rfl, SqT.of hT5, rfl, _, _, rfl, _, _, rfl, rfl, rfl, ?_⟩
      refine ⟨_, rfl, _, rfl, a, b, rfl, hs1, fun H5 e5 => ⟨_, e5 _ _ h3, by rw [List.length_replicate]; exact Nat.lt_of_lt_of_le (by omega : i < 100) (by decide), ?_, ?_⟩⟩
      · intro b' o' hb'
        have nb : b' ≠ D := ne_of_none hb' nD
        rw [upd_ne nb]
        exact e5 _ _ (e3 _ _ hb')
      · rw [upd_same, List.replicate_succ']
    · rintro H2 ⟨e2, h2⟩
      have eb : List.replicate xs.length (V.bl true) = (List.replicate xs.length true).map V.bl := by rw [List.map_replicate]
      rw [eb] at h2
      refine ⟨D, _, rfl, SqL.of h2, ?_⟩
      have ea : (List.replicate xs.length true).all id = true := by simp
      rw [ea]
      exact k _ (e1.trans e2)
/-- a drawn fraction -/
def spSomeF (K : PySem.W.Frag) : Sp := fun vs H Q _ => ∃ a : Addr, vs = [.ref a] ∧ Stt K H a ∧ ∀ v H' o u, Bus a H H' → Stt K H' a → IsF H' v o u → Red o u → o.natAbs ≤ 10 ^ 38 → u.natAbs ≤ 10 ^ 12 → Q v H'
/-- a told number as a pair -/
def spAsX (C : Addr) : Sp := fun vs H Q _ => ∃ (x : V) (o u : Int), vs = [x] ∧ IsX C H x o u ∧ Red o u ∧ ∀ v H', Same H H' → IsF H' v o u → Q v H'
end
end LW
set_option Elab.async false
set_option linter.all false
set_option maxRecDepth 100000
set_option maxHeartbeats 4000000
namespace LW
open PySem PySem.Spec PyProof.Rows L2 LV LM
theorem ord_eq {o u p q : Int} (h1 : Red o u) (h2 : Red p q) : (o = p ∧ u = q) ↔ o * q = p * u := by
  constructor
  · rintro ⟨rfl, rfl⟩
    rfl
  · intro h
    have a := red_scale h1 (s := q) (by have := h2.1; omega)
    have b := red_scale h2 (s := u) (by have := h1.1; omega)
    rw [h, Int.mul_comm u q] at a
    exact ⟨a.1.symm.trans b.1, a.2.symm.trans b.2⟩
theorem Sm.le {i : Int} (h : i.natAbs ≤ 10 ^ 38) : Sm i := Nat.lt_of_le_of_lt h (Nat.lt_of_lt_of_le (show 10 ^ 38 < 2 ^ 127 by decide) (Nat.pow_le_pow_right (by decide) (by decide)))
section
variable {P : Program} {w : World} {K : PySem.W.Frag} {mg : Str → Option Value} {base : Heap} {C : Addr}
def spLess : Sp := fun vs H Q _ => ∃ (x y : V) (o u p q : Int), vs = [x, y] ∧ IsF H x o u ∧ IsF H y p q ∧ Sm o ∧ Sm u ∧ Sm p ∧ Sm q ∧ ∀ L, L = decide (o * q < p * u) → Q (.bl L) H
abbrev s__law_less : Stmt := top 32
abbrev N__law_less : List Str := ["_law_a", "_law_b"]
theorem sc__law_less : FnScope N__law_less ["_law_a", "_law_b"] (defScope s__law_less) := ⟨rfl, rfl, rfl, by decide +kernel, rfl, by decide +kernel, by decide +kernel⟩
-- slots: 0 _law_a, 1 _law_b
theorem ok__law_less {f : Addr} {fd : FuncData} (F : FunD K "_law_less" "_law_less" (defArgs s__law_less) (defBody s__law_less) (defScope s__law_less) [] [] f fd) (T : Bt mg) : FnOk P w K mg base CX0 1 f fd ["_law_a", "_law_b"] spLess := by
  refine F.ok sc__law_less (fun vs H Q E h => ?_) (fun cdv A outer s H vs Q E hr h => ?_)
  · obtain ⟨x, y, o, u, p, q, rfl, ⟨xa, rfl, hx⟩, ⟨ya, rfl, hy⟩, so, su, sp, sq, k⟩ := h
    rfl
  · obtain ⟨x, y, o, u, p, q, rfl, ⟨xa, rfl, hx⟩, ⟨ya, rfl, hy⟩, so, su, sp, sq, k⟩ := h
    refine ⟨_, PSs.nox (pss_one (ps_ret (pe_cmpR op_lt (pe_op op_mulG (pe_ix ix_tup (pv 0) pe_int (fun _ _ => rfl)) (pe_ix ix_tup (pv 1) pe_int (fun _ _ => rfl))) (pe_op op_mulG (pe_ix ix_tup (pv 1) pe_int (fun _ _ => rfl)) (pe_ix ix_tup (pv 0) pe_int (fun _ _ => rfl))) (nomark _)))), ?_⟩
    exact ⟨_, rfl, xa, _, _, _, rfl, rfl, SqT.of hx, rfl, _, rfl, ya, _, _, _, rfl, rfl, SqT.of hy, rfl, _, _, rfl, rfl, smul so sq, _, rfl, ya, _, _, _, rfl, rfl, SqT.of hy, rfl, _, rfl, xa, _, _, _, rfl, rfl, SqT.of hx, rfl, _, _, rfl, rfl, smul sp su, _, _, rfl, rfl, k _ rfl⟩
/-! readings of comparisons -/
section
variable {H : Hp} {vx vy : V} {o u p q : Int} {Q : VK} {r r' : Int → Int → Int → Int → Bool}
theorem cmpB (T : XC K mg C) (hx : IsX C H vx o u) (hy : IsN C H vy p q) (so : Sm o) (su : Sm u) (sp : Sm p) (sq : Sm q) (k : ∀ H', Same H H' → Q (.bl (r o u p q)) H') : rCmpL K C (spCmp C r) vx vy H Q := by
  obtain ⟨xa, xd, rfl, hx'⟩ := id hx
  exact ⟨xa, xd, _, rfl, hx', hy.notF T, _, _, o, u, p, q, rfl, hx, hy, so, su, sp, sq, k⟩
theorem cmpR (T : XC K mg C) (hr : ∀ o u p q, r p q o u = r' o u p q) (hx : IsX C H vx o u) (hy : IsN C H vy p q) (so : Sm o) (su : Sm u) (sp : Sm p) (sq : Sm q) (k : ∀ H', Same H H' → Q (.bl (r' o u p q)) H') :
    rCmpL K C (spCmp C r) vy vx H Q ∨ rCmpRI C (spCmp C r') vy vx H Q := by
  rcases id hy with ⟨rfl, rfl⟩ | hy'
  · obtain ⟨xa, xd, rfl, hx'⟩ := id hx
    exact .inr ⟨_, xa, xd, _, rfl, rfl, hx', _, _, o, u, p, 1, rfl, hx, hy, so, su, sp, sq, k⟩
  · exact .inl (cmpB T hy' (.inr hx) sp sq so su fun H' e => by rw [hr]; exact k H' e)
theorem eqB (T : XC K mg C) (hx : IsX C H vx o u) (hy : IsN C H vy p q) (k : ∀ H', Same H H' → Q (.bl (decide (o = p) && decide (u = q))) H') : rCmpL K C (spEqX K C) vx vy H Q := by
  obtain ⟨xa, xd, rfl, hx'⟩ := id hx
  exact ⟨xa, xd, _, rfl, hx', hy.notF T, _, _, o, u, rfl, hx, .inl ⟨p, q, hy, k⟩⟩
theorem eqR (T : XE K mg C) (hx : IsX C H vx o u) (hy : IsN C H vy p q) (k : ∀ H', Same H H' → Q (.bl (decide (o = p) && decide (u = q))) H') : rCmpL K C (spEqX K C) vy vx H Q ∨ rCmpR K C (spEqX K C) vy vx H Q := by
  rcases id hy with ⟨rfl, rfl⟩ | hy'
  · obtain ⟨xa, xd, rfl, hx'⟩ := id hx
    exact .inr ⟨xa, xd, _, "int", rfl, hx', .int p, T.own.subC, _, _, o, u, rfl, hx, .inl ⟨p, 1, hy, k⟩⟩
  · refine .inl (eqB T.toXC hy' (.inr hx) fun H' e => ?_)
    have z : (decide (p = o) && decide (q = u)) = (decide (o = p) && decide (u = q)) := by
      rw [show decide (p = o) = decide (o = p) from decide_eq_decide.mpr eq_comm, show decide (q = u) = decide (u = q) from decide_eq_decide.mpr eq_comm]
    rw [z]
    exact k H' e
theorem neB (T : XC K mg C) (hx : IsX C H vx o u) (hy : IsN C H vy p q) (k : ∀ H', Same H H' → Q (.bl (!(decide (o = p) && decide (u = q)))) H') : rNeL K C (spEqX K C) vx vy H Q := by
  obtain ⟨xa, xd, rfl, hx'⟩ := id hx
  exact ⟨xa, xd, _, rfl, hx', hy.notF T, _, _, o, u, rfl, hx, .inl ⟨p, q, hy, fun H' e => ⟨_, rfl, k H' e⟩⟩⟩
/-- an object that is no number -/
structure OthK (K : PySem.W.Frag) (C : Addr) (H : Hp) (v : V) : Prop where
  nb : NumB K C H v false
  nf : NotF K C H v
  lf : ∃ T, Lft K H v T ∧ PySem.W.subIn K (.ref C) (.type T) = some false
theorem eqO (hx : IsX C H vx o u) (hy : OthK K C H vy) (k : ∀ H', Same H H' → Q (.bl false) H') : rCmpL K C (spEqX K C) vx vy H Q := by
  obtain ⟨xa, xd, rfl, hx'⟩ := id hx
  exact ⟨xa, xd, _, rfl, hx', hy.nf, _, _, o, u, rfl, hx, .inr ⟨hy.nb, k⟩⟩
theorem neO (hx : IsX C H vx o u) (hy : OthK K C H vy) (k : ∀ H', Same H H' → Q (.bl true) H') : rNeL K C (spEqX K C) vx vy H Q := by
  obtain ⟨xa, xd, rfl, hx'⟩ := id hx
  exact ⟨xa, xd, _, rfl, hx', hy.nf, _, _, o, u, rfl, hx, .inr ⟨hy.nb, fun H' e => ⟨_, rfl, k H' e⟩⟩⟩
theorem eqOR (hx : IsX C H vx o u) (hy : OthK K C H vy) (k : ∀ H', Same H H' → Q (.bl false) H') : rCmpR K C (spEqX K C) vy vx H Q := by
  obtain ⟨xa, xd, rfl, hx'⟩ := id hx
  obtain ⟨t, h1, h2⟩ := hy.lf
  exact ⟨xa, xd, _, t, rfl, hx', h1, h2, _, _, o, u, rfl, hx, .inr ⟨hy.nb, k⟩⟩
theorem oth_of {v : V} {t : String} {b c : Bool} (T : XE K mg C) (ht : t ∈ typs) (h1 : TyX K H v (.type t)) (h2 : Lft K H v t) (h3 : PySem.W.kitOne K (.type t) (.type "int") = some b) (h4 : PySem.W.kitOne K (.type t) (.type "bool") = some c) (h5 : (b && !c) = false) : OthK K C H v := by
  obtain ⟨k1, k2, k3⟩ := T.kT t ht
  refine ⟨⟨_, b, c, false, h1, h3, h4, k1, by rw [h5]; rfl⟩, ⟨_, h1, ?_⟩, t, h2, k3⟩
  unfold PySem.W.notFirst
  rw [k2]
  simp
theorem oth_non (T : XE K mg C) : OthK K C H .non := oth_of T (b := false) (c := false) (by simp [typs]) (.base .non) .non (by kernel_rfl) (by kernel_rfl) rfl
theorem oth_bl (T : XE K mg C) (z : Bool) : OthK K C H (.bl z) := oth_of T (b := true) (c := true) (by simp [typs]) (.base (.bl z)) (.bl z) (by kernel_rfl) (by kernel_rfl) rfl
theorem oth_str (T : XE K mg C) (z : Str) : OthK K C H (.str z) := oth_of T (b := false) (c := false) (by simp [typs]) (.base (.str z)) (.str z) (by kernel_rfl) (by kernel_rfl) rfl
theorem oth_lst (T : XE K mg C) {a : Addr} {xs : List V} (h : H a = some (.lst xs)) : OthK K C H (.ref a) := oth_of T (b := false) (c := false) (by simp [typs]) (.base (.lst h)) (.lst h) (by kernel_rfl) (by kernel_rfl) rfl
theorem oth_tup (T : XE K mg C) {a : Addr} {xs : List V} (h : H a = some (.tup xs)) : OthK K C H (.ref a) := oth_of T (b := false) (c := false) (by simp [typs]) (.base (.tup h)) (.tup h) (by kernel_rfl) (by kernel_rfl) rfl
theorem oth_dK (T : XE K mg C) {a : Addr} {kvs : List (Key × V)} (h : H a = some (.dK kvs)) : OthK K C H (.ref a) := oth_of T (b := false) (c := false) (by simp [typs]) (.base (.dK h)) (.dK h) (by kernel_rfl) (by kernel_rfl) rfl
end
abbrev pd (p : Int × Int) : PyData := .tuple [.int p.1, .int p.2]
theorem dpF {H : Hp} {v : V} {o u : Int} (h : IsF H v o u) : Dp K H v (pd (o, u)) := by
  obtain ⟨p, rfl, h⟩ := h
  exact .tup (SqT.of h) (.cons (.int _) (.cons (.int _) .nil))
theorem eqFF (o u p q : Int) : PyData.eqv (pd (o, u)) (pd (p, q)) = (decide (o = p) && decide (u = q)) := by
  have e : ∀ a b : Int, (a == b) = decide (a = b) := fun a b => by
    by_cases h : a = b
    · rw [h]; simp
    · rw [decide_eq_false h]; simpa using h
  simp [PyData.eqv, PyData.eqvAll, e]
theorem shF (o u : Int) : SeqAt.shaped (pd (o, u)) = true := rfl
theorem mkY {H : Hp} {x dx : Addr} {o u : Int} {Q : VK} {E : XK} (hu : u ≠ 0) (hub : Big u) (nx : H x = none) (nd : H dx = none) (ne : dx ≠ x) (k : ∀ H', Same H H' → IsX C H' (.ref x) (rO o u) (rD o u) → Q .non H') :
    spInit C [.ref x, .int o, .int u] (upd (upd H dx (.own x)) x (.ins C dx [])) Q E := by
  refine ⟨x, dx, o, u, rfl, upd_same, hu, hub, fun H' e h => k _ (fun b ob hb => ?_) ⟨x, dx, rfl, h⟩⟩
  have n1 := ne_of_none hb nx
  refine e b ob n1 ?_
  rw [upd_ne n1, upd_ne (ne_of_none hb nd)]
  exact hb
structure Wd (K : PySem.W.Frag) (C st : Addr) (va vb vx vy : V) (oa ua ob ub : Int) (H : Hp) : Prop where
  s : Stt K H st
  a : IsF H va oa ua
  b : IsF H vb ob ub
  x : IsX C H vx oa ua
  y : IsN C H vy ob ub
theorem Wd.same {st : Addr} {va vb vx vy : V} {oa ua ob ub : Int} {H H' : Hp} (e : Same H H') (h : Wd K C st va vb vx vy oa ua ob ub H) : Wd K C st va vb vx vy oa ua ob ub H' := ⟨h.s.same e, h.a.same e, h.b.same e, h.x.same e, h.y.same e⟩
section
variable {ta tb : TE} {σ : L2.St} {H : Hp} {a b : Bool}
theorem vOr (h1 : Val ta σ H (.bl a)) (h2 : Val tb σ H (.bl b)) : Val (tOrV ta tb) σ H (.bl (a || b)) := fun Q q => h1 _ ⟨a, rfl, by
  cases a
  · exact iteF (h2 _ q)
  · exact iteT q⟩
theorem vAnd (h1 : Val ta σ H (.bl a)) (h2 : Val tb σ H (.bl b)) : Val (tAndV ta tb) σ H (.bl (a && b)) := fun Q q => h1 _ ⟨a, rfl, by
  cases a
  · exact iteF q
  · exact iteT (h2 _ q)⟩
theorem vNot (h1 : Val ta σ H (.bl a)) : Val (tNotV ta) σ H (.bl (!a)) := fun Q q => h1 _ ⟨a, rfl, q⟩
end
def spLaw (K : PySem.W.Frag) : Sp := fun vs H Q _ => ∃ (a : Addr) (ns : List Int), vs = [.ref a] ∧ SqL K H a (ns.map V.int) ∧ ns.length ≤ 63 ∧ ∀ H', Q (.bl true) H'
end
end LW
set_option Elab.async false
set_option linter.all false
set_option maxRecDepth 100000
set_option maxHeartbeats 4000000
namespace LW
open PySem PySem.Spec PyProof.Rows L2 LV LM
/-! numbers by their value -/
abbrev IsQ (C : Addr) (H : Hp) (v : V) (q : Rat) : Prop := IsX C H v q.num q.den
abbrev NumQ (C : Addr) (H : Hp) (v : V) (q : Rat) : Prop := IsN C H v q.num q.den
abbrev FQ (H : Hp) (v : V) (q : Rat) : Prop := IsF H v q.num q.den
abbrev TQ (C : Addr) (H : Hp) (v : V) (q : Rat) : Prop := TN C H v q.num q.den
theorem smN {q : Rat} (h : Ht 1000 q) : Sm q.num := h.1
theorem smD {q : Rat} (h : Ht 1000 q) : Sm (q.den : Int) := by
  show ((q.den : Int)).natAbs < _
  rw [Int.natAbs_natCast]
  exact h.2
theorem TN.num {C : Addr} {H : Hp} {v : V} {o u : Int} (h : TN C H v o u) : IsN C H v o u := by
  rcases h with ⟨e, rfl⟩ | ⟨_, h⟩
  · exact .inl ⟨rfl, e⟩
  · exact .inr h
section
variable {P : Program} {w : World} {K : PySem.W.Frag} {mg : Str → Option Value} {base : Heap} {C : Addr} {H : Hp} {x y : V} {a b : Rat} {Q : VK} {E : XK}
theorem toQ {v : V} {o u : Int} {q : Rat} (hu : u ≠ 0) (e : Rat.divInt o u = q) (h : IsX C H v (rO o u) (rD o u)) : IsQ C H v q := by
  obtain ⟨e1, e2⟩ := rat_of (o := o) hu
  rw [e1, e2, e] at h
  exact h
theorem toFQ {v : V} {o u : Int} {q : Rat} (hu : u ≠ 0) (e : Rat.divInt o u = q) (h : IsF H v (rO o u) (rD o u)) : FQ H v q := by
  obtain ⟨e1, e2⟩ := rat_of (o := o) hu
  rw [e1, e2, e] at h
  exact h
theorem addQ (hx : IsQ C H x a) (hy : NumQ C H y b) (ha : Ht 1000 a) (hb : Ht 1000 b) (k : ∀ v H', Same H H' → IsQ C H' v (a + b) → Q v H') : rOwnL C (spAdd C) x y H Q := by
  obtain ⟨xa, xd, rfl, hx'⟩ := id hx
  exact ⟨xa, xd, _, rfl, hx', hy.num, _, _, _, _, _, _, rfl, hx, hy, smN ha, smD ha, smN hb, smD hb, den0 a, den0 b, fun v H' e h => k v H' e (toQ (Int.mul_ne_zero (den0 a) (den0 b)) (q_add a b) h)⟩
theorem subQ (hx : IsQ C H x a) (hy : NumQ C H y b) (ha : Ht 1000 a) (hb : Ht 1000 b) (k : ∀ v H', Same H H' → IsQ C H' v (a - b) → Q v H') : rOwnL C (spSub C) x y H Q := by
  obtain ⟨xa, xd, rfl, hx'⟩ := id hx
  exact ⟨xa, xd, _, rfl, hx', hy.num, _, _, _, _, _, _, rfl, hx, hy, smN ha, smD ha, smN hb, smD hb, den0 a, den0 b, fun v H' e h => k v H' e (toQ (Int.mul_ne_zero (den0 a) (den0 b)) (q_sub a b) h)⟩
theorem mulQ (hx : IsQ C H x a) (hy : NumQ C H y b) (ha : Ht 1000 a) (hb : Ht 1000 b) (k : ∀ v H', Same H H' → IsQ C H' v (a * b) → Q v H') : rOwnL C (spMul C) x y H Q := by
  obtain ⟨xa, xd, rfl, hx'⟩ := id hx
  exact ⟨xa, xd, _, rfl, hx', hy.num, _, _, _, _, _, _, rfl, hx, hy, smN ha, smD ha, smN hb, smD hb, den0 a, den0 b, fun v H' e h => k v H' e (toQ (Int.mul_ne_zero (den0 a) (den0 b)) (q_mul a b) h)⟩
theorem byQ (hx : IsQ C H x a) (hy : NumQ C H y b) (ha : Ht 1000 a) (hb : Ht 1000 b) (h0 : b ≠ 0) (k : ∀ v H', Same H H' → IsQ C H' v (a / b) → Q v H') : spBy C [x, y] H Q E :=
  ⟨_, _, _, _, _, _, rfl, hx, hy, smN ha, smD ha, smN hb, smD hb, den0 a, num0 h0, fun v H' e h => k v H' e (toQ (Int.mul_ne_zero (den0 a) (num0 h0)) (q_div a b) h)⟩
theorem negQ (hx : IsQ C H x a) (ha : Ht 1000 a) (k : ∀ v H', Same H H' → IsQ C H' v (-a) → Q v H') : spNeg C [x] H Q E :=
  ⟨_, _, _, rfl, hx, smD ha, den0 a, fun v H' e h => k v H' e (toQ (den0 a) (q_neg a) h)⟩
theorem partQ (hy : NumQ C H y b) (k : ∀ v H', Same H H' → IsQ C H' v b → Q v H') : spPart C [y] H Q E := ⟨y, _, _, rfl, hy, k⟩
theorem plainQ (hy : NumQ C H y b) (k : ∀ v H', Same H H' → TQ C H' v b → Q v H') : spPlain C [y] H Q E := ⟨y, _, _, rfl, hy, k⟩
theorem dLt (a b : Rat) : decide (a.num * b.den < b.num * a.den) = decide (a < b) := decide_eq_decide.mpr (Rat.lt_iff a b).symm
theorem dLe (a b : Rat) : decide (a.num * b.den ≤ b.num * a.den) = decide (a ≤ b) := decide_eq_decide.mpr (Rat.le_iff a b).symm
theorem dEq (a b : Rat) : (decide (a.num = b.num) && decide ((a.den : Int) = b.den)) = decide (a = b) := by
  rw [← Bool.decide_and]
  refine decide_eq_decide.mpr ⟨fun h => Rat.ext h.1 (Int.ofNat.inj h.2), fun h => by rw [h]; exact ⟨rfl, rfl⟩⟩
theorem ltQ (T : XC K mg C) (hx : IsQ C H x a) (hy : NumQ C H y b) (ha : Ht 1000 a) (hb : Ht 1000 b) (k : ∀ H', Same H H' → Q (.bl (decide (a < b))) H') : rCmpL K C (spLt C) x y H Q :=
  cmpB T hx hy (smN ha) (smD ha) (smN hb) (smD hb) fun H' e => by
    rw [dLt]
    exact k H' e
theorem leQ (T : XC K mg C) (hx : IsQ C H x a) (hy : NumQ C H y b) (ha : Ht 1000 a) (hb : Ht 1000 b) (k : ∀ H', Same H H' → Q (.bl (decide (a ≤ b))) H') : rCmpL K C (spLe C) x y H Q :=
  cmpB T hx hy (smN ha) (smD ha) (smN hb) (smD hb) fun H' e => by
    rw [dLe]
    exact k H' e
theorem gtQ (T : XC K mg C) (hx : IsQ C H x a) (hy : NumQ C H y b) (ha : Ht 1000 a) (hb : Ht 1000 b) (k : ∀ H', Same H H' → Q (.bl (decide (b < a))) H') : rCmpL K C (spGt C) x y H Q :=
  cmpB T hx hy (smN ha) (smD ha) (smN hb) (smD hb) fun H' e => by
    rw [dLt]
    exact k H' e
theorem geQ (T : XC K mg C) (hx : IsQ C H x a) (hy : NumQ C H y b) (ha : Ht 1000 a) (hb : Ht 1000 b) (k : ∀ H', Same H H' → Q (.bl (decide (b ≤ a))) H') : rCmpL K C (spGe C) x y H Q :=
  cmpB T hx hy (smN ha) (smD ha) (smN hb) (smD hb) fun H' e => by
    rw [dLe]
    exact k H' e
theorem eqQ (T : XC K mg C) (hx : IsQ C H x a) (hy : NumQ C H y b) (k : ∀ H', Same H H' → Q (.bl (decide (a = b))) H') : rCmpL K C (spEqX K C) x y H Q :=
  eqB T hx hy fun H' e => by
    rw [dEq]
    exact k H' e
/-! frames: what is no list stays -/
def NL (H H' : Hp) : Prop := ∀ b o, H b = some o → (∀ xs, o ≠ .lst xs) → H' b = some o
theorem NL.refl (H : Hp) : NL H H := fun _ _ h _ => h
theorem NL.trans {H H1 H2 : Hp} (a : NL H H1) (b : NL H1 H2) : NL H H2 := fun c o h n => b c o (a c o h n) n
theorem Same.nl {H H' : Hp} (e : Same H H') : NL H H' := fun b o h _ => e b o h
theorem But.nl {H H' : Hp} {p : Addr} {xs : List V} (h : H p = some (.lst xs)) (e : But p H H') : NL H H' := fun b o hb n => e b o (fun z => by
  subst z
  rw [h] at hb
  exact n xs (Option.some.inj hb).symm) hb
theorem IsX.nl {v : V} {o u : Int} {H H1 : Hp} (e : NL H H1) (h : IsX C H v o u) : IsX C H1 v o u := by
  obtain ⟨x, dx, rfl, h⟩ := h
  exact ⟨x, dx, rfl, e _ _ h (by intro _ z; cases z)⟩
theorem IsN.nl {v : V} {o u : Int} {H H1 : Hp} (e : NL H H1) (h : IsN C H v o u) : IsN C H1 v o u := h.imp id (IsX.nl e)
theorem TN.nl {v : V} {o u : Int} {H H1 : Hp} (e : NL H H1) (h : TN C H v o u) : TN C H1 v o u := h.imp id fun ⟨n, x⟩ => ⟨n, x.nl e⟩
theorem IsF.nl {v : V} {o u : Int} {H H1 : Hp} (e : NL H H1) (h : IsF H v o u) : IsF H1 v o u := by
  obtain ⟨x, rfl, h⟩ := h
  exact ⟨x, rfl, e _ _ h (by intro _ z; cases z)⟩
/-- a point: a tuple of two -/
def PtR (R : Hp → V → Rat → Prop) (H : Hp) (v : V) (p : Pt) : Prop := ∃ t x y, v = .ref t ∧ H t = some (.tup [x, y]) ∧ R H x p.1 ∧ R H y p.2
theorem PtR.nl {R : Hp → V → Rat → Prop} (hR : ∀ {H H1 : Hp} {v : V} {q : Rat}, NL H H1 → R H v q → R H1 v q) {H H1 : Hp} {v : V} {p : Pt} (e : NL H H1) (h : PtR R H v p) : PtR R H1 v p := by
  obtain ⟨t, x, y, rfl, h1, h2, h3⟩ := h
  exact ⟨t, x, y, rfl, e _ _ h1 (by intro _ z; cases z), hR e h2, hR e h3⟩
abbrev PtQ (C : Addr) : Hp → V → Pt → Prop := PtR (IsQ C)
abbrev PtF : Hp → V → Pt → Prop := PtR FQ
abbrev PtT (C : Addr) : Hp → V → Pt → Prop := PtR (TQ C)
theorem PtQ.nl {H H1 : Hp} {v : V} {p : Pt} (e : NL H H1) (h : PtQ C H v p) : PtQ C H1 v p := PtR.nl (R := IsQ C) IsX.nl e h
theorem PtF.nl {H H1 : Hp} {v : V} {p : Pt} (e : NL H H1) (h : PtF H v p) : PtF H1 v p := PtR.nl (R := FQ) IsF.nl e h
theorem PtT.nl {H H1 : Hp} {v : V} {p : Pt} (e : NL H H1) (h : PtT C H v p) : PtT C H1 v p := PtR.nl (R := TQ C) TN.nl e h
/-- a list of points -/
def RowsR (R : Hp → V → Pt → Prop) (H : Hp) (r : Addr) (ps : List Pt) : Prop := ∃ vs, H r = some (.lst vs) ∧ All2 (R H) vs ps
abbrev Rows (C : Addr) : Hp → Addr → List Pt → Prop := RowsR (PtQ C)
abbrev Crs : Hp → Addr → List Pt → Prop := RowsR PtF
abbrev Tld (C : Addr) : Hp → Addr → List Pt → Prop := RowsR (PtT C)
theorem RowsR.nl {R : Hp → V → Pt → Prop} (hR : ∀ {H H1 : Hp} {v : V} {p : Pt}, NL H H1 → R H v p → R H1 v p) {H H1 : Hp} {r : Addr} {ps : List Pt} (e : NL H H1) (er : ∀ xs, H r = some (.lst xs) → H1 r = some (.lst xs)) (h : RowsR R H r ps) : RowsR R H1 r ps := by
  obtain ⟨vs, h1, h2⟩ := h
  exact ⟨vs, er vs h1, h2.imp fun _ _ x => hR e x⟩
end
end LW
set_option Elab.async false
set_option linter.all false
set_option maxRecDepth 100000
set_option maxHeartbeats 4000000
namespace LW
open PySem PySem.Spec PyProof.Rows L2 LV LM
section
variable {P : Program} {w : World} {K : PySem.W.Frag} {mg : Str → Option Value} {base : Heap} {C : Addr}
/-! is_list -/
def spIsL (K : PySem.W.Frag) : Sp := fun vs H Q _ => ∃ (v : V) (t : Value) (b : Bool), vs = [v] ∧ (∀ H', Same H H' → TyX K H' v t) ∧ PySem.W.kitAny K t [.type "list", .type "tuple"] = some b ∧ ∀ H', Same H H' → Q (.bl b) H'
abbrev s_is_list : Stmt := top 14
abbrev N_is_list : List Str := ["thing"]
theorem sc_is_list : FnScope N_is_list ["thing"] (defScope s_is_list) := ⟨rfl, rfl, rfl, by decide +kernel, rfl, by decide +kernel, by decide +kernel⟩
-- slots: 0 thing
theorem ok_is_list {f : Addr} {fd : FuncData} (F : FunD K "is_list" "is_list" (defArgs s_is_list) (defBody s_is_list) (defScope s_is_list) [] [] f fd) (T : Bt mg) : FnOk P w K mg base CX0 1 f fd ["thing"] (spIsL K) := by
  refine F.ok sc_is_list (fun vs H Q E h => ?_) (fun cdv A outer s H vs Q E hr h => ?_)
  · obtain ⟨v, t, b, rfl, ht, hb, k⟩ := h
    rfl
  · obtain ⟨v, t, b, rfl, ht, hb, k⟩ := h
    refine ⟨_, PSs.nox (pss_one (ps_ret (pe_callB call_isiT rfl T.isinstance (by decide +kernel) (pa_cons (pv 0) (pa_cons (pe_tup (pa_cons (pe_bltn (v := .ty "list") rfl T.list (by decide +kernel) rfl) (pa_cons (pe_bltn (v := .ty "tuple") rfl T.tuple (by decide +kernel) rfl) pa_nil))) pa_nil))))), ?_⟩
    refine ⟨_, rfl, by show 2 ≤ sizeLine; decide, fun tp n1 => ?_⟩
    generalize q1 : upd H tp _ = H1
    have e1 := nSm q1 n1
    exact ⟨_, tp, _, _, _, _, rfl, nAt q1, clsLT, ht _ e1, hb, k _ e1⟩
theorem kA5 (K : PySem.W.Frag) : PySem.W.kitAny K (.type "tuple") [.type "list", .type "tuple"] = some true := by kernel_rfl
/-! slope -/
def HtP (p : Pt) : Prop := Ht 160 p.1 ∧ Ht 160 p.2
def spSlope (C : Addr) : Sp := fun vs H Q _ => ∃ (x y : V) (p q : Pt), vs = [x, y] ∧ PtQ C H x p ∧ PtQ C H y q ∧ HtP p ∧ HtP q ∧ p.1 ≠ q.1 ∧ ∀ v H', Same H H' → IsQ C H' v (slp p q) → Q v H'
theorem sub_ne {a b : Rat} (h : a ≠ b) : b - a ≠ 0 := by grind
abbrev s_slope : Stmt := top 17
abbrev N_slope : List Str := ["one", "other"]
theorem sc_slope : FnScope N_slope ["one", "other"] (defScope s_slope) := ⟨rfl, rfl, rfl, by decide +kernel, rfl, by decide +kernel, by decide +kernel⟩
-- slots: 0 one, 1 other
theorem ok_slope {f : Addr} {fd : FuncData} (F : FunD K "slope" "slope" (defArgs s_slope) (defBody s_slope) (defScope s_slope) [] [] f fd) (T : XC K mg C) (m__sub__ : ∀ X : Cx, X.prog = P → X.w = w → X.K = K → X.mg = mg → X.base = base → OwnM X 5 C "__sub__" (spSub C)) (m_by : C8.Met P w K mg base 5 C "by" (spBy C) []) : FnOk P w K mg base CX0 6 f fd ["one", "other"] (spSlope C) := by
  refine F.ok sc_slope (fun vs H Q E h => ?_) (fun cdv A outer s H vs Q E hr h => ?_)
  · obtain ⟨x, y, p, q, rfl, hx, hy, bp, bq, ne, k⟩ := h
    rfl
  · obtain ⟨x, y, p, q, rfl, hx, hy, bp, bq, ne, k⟩ := h
    refine ⟨_, PSs.nox (pss_one (ps_ret (C8.pe_mt m_by hr (by decide) (pe_op (op_subL (m__sub__ _ rfl rfl rfl rfl rfl) T.f_rsub.choose_spec T.own (hr.mono (by decide))) (pe_ix ix_tup (pv 1) pe_int (fun _ _ => rfl)) (pe_ix ix_tup (pv 0) pe_int (fun _ _ => rfl))) (pa_cons (pe_op (op_subL (m__sub__ _ rfl rfl rfl rfl rfl) T.f_rsub.choose_spec T.own (hr.mono (by decide))) (pe_ix ix_tup (pv 1) pe_int (fun _ _ => rfl)) (pe_ix ix_tup (pv 0) pe_int (fun _ _ => rfl))) pa_nil)))), ?_⟩
    obtain ⟨tx, x1, x2, rfl, hx, x1q, x2q⟩ := hx
    obtain ⟨ty, y1, y2, rfl, hy, y1q, y2q⟩ := hy
    have h1 := bp.1.mono (show 160 ≤ 1000 by decide)
    have h2 := bp.2.mono (show 160 ≤ 1000 by decide)
    have h3 := bq.1.mono (show 160 ≤ 1000 by decide)
    have h4 := bq.2.mono (show 160 ≤ 1000 by decide)
    refine ⟨_, rfl, ty, _, _, _, rfl, rfl, SqT.of hy, rfl, _, rfl, tx, _, _, _, rfl, rfl, SqT.of hx, rfl, subQ y2q (.inr x2q) h4 h2 fun v1 H1 e1 q1 => ?_⟩
    obtain ⟨va, vd, rfl, hv⟩ := id q1
    refine ⟨va, vd, _, rfl, hv, rfl, _, rfl, ty, _, _, _, rfl, rfl, SqT.of (e1 _ _ hy), rfl, _, rfl, tx, _, _, _, rfl, rfl, SqT.of (e1 _ _ hx), rfl, subQ (y1q.same e1) (.inr (x1q.same e1)) h3 h1 fun v2 H2 e2 q2 => ?_⟩
    exact byQ (E := C8.E0) (q1.same e2) (.inr q2) ((bq.2.sub bp.2).mono (by decide)) ((bq.1.sub bp.1).mono (by decide)) (sub_ne ne) fun v H' e' q' => k v H' ((e1.trans e2).trans e') q'
/-! sequences: a list or a tuple -/
def SeqA (H : Hp) (a : Addr) (xs : List V) : Prop := H a = some (.lst xs) ∨ H a = some (.tup xs)
theorem SeqA.same {H H1 : Hp} {a : Addr} {xs : List V} (e : Same H H1) (h : SeqA H a xs) : SeqA H1 a xs := h.imp (e _ _) (e _ _)
theorem SeqA.sq {H : Hp} {a : Addr} {xs : List V} (h : SeqA H a xs) : SqL K H a xs ∨ SqT K H a xs := h.imp SqL.of SqT.of
theorem ixS {H : Hp} {a : Addr} {xs : List V} {i : Int} {y : V} {Q : VK} (h : SeqA H a xs) (hy : atI xs i = some y) (q : Q y H) : rIxL K (.ref a) (.int i) H Q ∨ rIxT K (.ref a) (.int i) H Q :=
  h.imp (fun h => ⟨a, xs, i, y, rfl, rfl, SqL.of h, hy, q⟩) (fun h => ⟨a, xs, i, y, rfl, rfl, SqT.of h, hy, q⟩)
theorem seq_it {tl : TE} {σ : L2.St} {H H0 : Hp} {R : It → Hp → Prop} {a : Addr} {xs : List V} (hv : Val tl σ H (.ref a)) (h : SeqA H0 a xs) (e0 : Same H0 H)
    (k : ∀ (J : It) (G : Hp → Prop), Walk J xs.length G (YAt xs) → (∀ H', Same H0 H' → G H') → R J H) : iOr (iList K tl) (iTup K tl) σ H R := by
  rcases h with h | h
  · exact .inl (hv _ ⟨a, rfl, ⟨xs, SqL.of (e0 _ _ h)⟩, k _ _ walk_list fun H' e => SqL.of (e _ _ h)⟩)
  · exact .inr (hv _ ⟨a, rfl, ⟨xs, SqT.of (e0 _ _ h)⟩, k _ _ walk_tup fun H' e => SqT.of (e _ _ h)⟩)
theorem enum_it {ta : TA} {σ : L2.St} {H H0 : Hp} {R : It → Hp → Prop} {a : Addr} {xs : List V} (hv : ∀ Q : List V → Hp → Prop, Q [.ref a] H → ta σ H Q) (h : SeqA H0 a xs) (e0 : Same H0 H)
    (k : ∀ (J : It) (G : Hp → Prop), Walk J xs.length G (YPair (fun i => some (.int (i : Nat))) (fun i => xs[i]?)) → (∀ H', Same H0 H' → G H') → R J H) : iOr (iEnum K ta) (iEnumT K ta) σ H R := by
  rcases h with h | h
  · exact .inl (hv _ ⟨a, xs, rfl, SqL.of (e0 _ _ h), k _ _ walk_enum fun H' e => SqL.of (e _ _ h)⟩)
  · exact .inr (hv _ ⟨a, xs, rfl, SqT.of (e0 _ _ h), k _ _ walk_enumT fun H' e => SqT.of (e _ _ h)⟩)
theorem pi_enumS {X : Cx} {e : Expr} {ta : TA} {p pos tpos : Pos} {elts : List Expr} {kk : Nat} (hg : Gl X "enumerate") (hm : X.mg "enumerate" = none) (ha : PA X [e] ta) (hs : starEach [e] X.env = [(false, eval e X.env)] := by rfl) :
    PI X (.Tuple elts kk tpos) (.Call (.Name "enumerate" p) [e] [] pos) (iOr (iEnum X.K ta) (iEnumT X.K ta)) := pi_or (pi_enum hg hm ha hs) (pi_enumT hg hm ha hs)
theorem tySeq {H : Hp} {a : Addr} {xs : List V} (h : SeqA H a xs) : ∃ t, (∀ H', Same H H' → TyX K H' (.ref a) t) ∧ PySem.W.kitAny K t [.type "list", .type "tuple"] = some true := by
  rcases h with h | h
  · exact ⟨.type "list", fun H' e => .base (.lst (e _ _ h)), kA2 K⟩
  · exact ⟨.type "tuple", fun H' e => .base (.tup (e _ _ h)), kA5 K⟩
theorem tyL {H : Hp} {a : Addr} {xs : List V} (h : H a = some (.lst xs)) : tyV K "list" (.ref a) H := .inl ⟨rfl, xs, SqL.of h⟩
/-- a handed point, handed points -/
def GPt (C : Addr) (H : Hp) (v : V) (p : Pt) : Prop := ∃ a x y, v = .ref a ∧ SeqA H a [x, y] ∧ NumQ C H x p.1 ∧ NumQ C H y p.2
theorem GPt.same {H H1 : Hp} {v : V} {p : Pt} (e : Same H H1) (h : GPt C H v p) : GPt C H1 v p := by
  obtain ⟨a, x, y, rfl, h1, h2, h3⟩ := h
  exact ⟨a, x, y, rfl, h1.same e, h2.same e, h3.same e⟩
def Giv (C : Addr) (H : Hp) (v : V) (ps : List Pt) : Prop := ∃ a vs, v = .ref a ∧ SeqA H a vs ∧ All2 (GPt C H) vs ps
def HtL (ps : List Pt) : Prop := ∀ p ∈ ps, HtP p
def spChk (C : Addr) : Sp := fun vs H Q _ => ∃ (v : V) (ps : List Pt), vs = [v] ∧ Giv C H v ps ∧ Inc ps ∧ 2 ≤ ps.length ∧ ps.length ≤ 1000 ∧ HtL ps ∧ ∀ r H', Same H H' → H r = none → Rows C H' r ps → Q (.ref r) H'
abbrev s_checked_points : Stmt := top 16
abbrev N_checked_points : List Str := ["points", "found", "index", "thing", "part"]
theorem sc_checked_points : FnScope N_checked_points ["points"] (defScope s_checked_points) := ⟨rfl, rfl, rfl, by decide +kernel, rfl, by decide +kernel, by decide +kernel⟩
-- slots: 0 points, 1 found, 2 index, 3 thing, 4 part
theorem ok_checked_points {f : Addr} {fd : FuncData} (F : FunD K "checked_points" "checked_points" (defArgs s_checked_points) (defBody s_checked_points) (defScope s_checked_points) [] [] f fd) (T : XC K mg C) (c_is_list : C8.Cal P w K mg base 1 "is_list" (spIsL K) []) (c_is_number : C8.Cal P w K mg base 2 "is_number" (spNum K C) []) (c_part_of : C8.Cal P w K mg base 4 "part_of" (spPart C) []) (m__lt__ : ∀ X : Cx, X.prog = P → X.w = w → X.K = K → X.mg = mg → X.base = base → OwnM X 5 C "__lt__" (spLt C)) : FnOk P w K mg base CX0 6 f fd ["points"] (spChk C) := by
  refine F.ok sc_checked_points (fun vs H Q E h => ?_) (fun cdv A outer s H vs Q E hr h => ?_)
  · obtain ⟨v, ps, rfl, ⟨pa, vs, rfl, hpa, hall⟩, inc, l2, l3, ht, k⟩ := h
    rfl
  · obtain ⟨v, ps, rfl, ⟨pa, vs, rfl, hpa, hall⟩, inc, l2, l3, ht, k⟩ := h
    refine ⟨_, PSs.nox (pss_cons (ps_if (PW.pt (pw_or (pt_not (pt_val (C8.pe_c c_is_list hr (by decide) rfl (pa_cons (pv 0) pa_nil)))) (pw_or1 (pt_cmpR op_eq (pe_callB call_len_seq rfl T.len (by decide +kernel) (pa_cons (pv 0) pa_nil)) pe_int (nomark _))))) (pss_one ps_never) pss_nil)
      (pss_cons (ps_set (i := 1) sc_checked_points.nd rfl (Or.inl rfl) (pe_lst pa_nil))
      (pss_cons (ps_for PassesOwn.never rfl (pi_enumS rfl T.enumerate (pa_cons (pv 0) pa_nil)) (pg_tup rfl (pgs_cons (pg_name (i := 2) sc_checked_points.nd rfl (Or.inl rfl)) (pgs_cons (pg_name (i := 3) sc_checked_points.nd rfl (Or.inl rfl)) pgs_nil))) (Evl.pss_cut (ps_if (PW.pt (pw_or (pt_not (pt_val (C8.pe_c c_is_list hr (by decide) rfl (pa_cons (pv 3) pa_nil)))) (pw_or (pt_cmpR op_ne (pe_callB call_len_seq rfl T.len (by decide +kernel) (pa_cons (pv 3) pa_nil)) pe_int (nomark _)) (pw_or1 (pt_not (pt_val (pe_callB (cr_all rfl) rfl T.all (by decide +kernel) (pa_cons (pe_lc (own := [("part", 4)]) (g := (gName 4)) (tt := tYes) rfl sc_checked_points.nd (pi_seq (pv 3)) (blkOk_by (N := N_checked_points) (sc := defScope s_checked_points) (by decide +kernel)) (fun _ _ _ _ _ => by exact (pg_name (i := 4) sc_checked_points.nd rfl (Or.inl rfl))) (fun _ _ _ _ _ => pts_nil) (fun _ _ _ _ _ => by exact (C8.pe_c c_is_number hr (by decide) rfl (pa_cons (pv 4) pa_nil)))) pa_nil)))))))) (pss_one ps_never) pss_nil)
      (Evl.pss_cut (ps_if (PW.pt (pw_and (pt_cmpR (op_neNil hr.units0) (pv 1) (pe_lst pa_nil) (nomark _)) (pw_and1 (pt_not (pt_cmpR (op_ltL (m__lt__ _ rfl rfl rfl rfl rfl) (hr.mono (by decide))) (pe_ix ix_tup (pe_ix ix_list (pv 1) (pe_un un_neg pe_int) (fun _ _ => rfl)) pe_int (fun _ _ => rfl)) (pe_ix (ix_list.or ix_tup) (pv 3) pe_int (fun _ _ => rfl)) (nomark _)))))) (pss_one ps_never) pss_nil)
      (pss_one (ps_expr (pe_bm PySem.F.plainAttrs_list PySem.F.slot_list_append PySem.F.type_list_append mt_append (pv 1) (pa_cons (pe_tup (pa_cons (C8.pe_c c_part_of hr (by decide) rfl (pa_cons (pe_ix (ix_list.or ix_tup) (pv 3) pe_int (fun _ _ => rfl)) pa_nil)) (pa_cons (C8.pe_c c_part_of hr (by decide) rfl (pa_cons (pe_ix (ix_list.or ix_tup) (pv 3) pe_int (fun _ _ => rfl)) pa_nil)) pa_nil))) pa_nil)))))))
      (pss_cons (ps_if (pt_cmpR op_eq (pe_callB call_len_seq rfl T.len (by decide +kernel) (pa_cons (pv 1) pa_nil)) pe_int (nomark _)) (pss_one ps_never) pss_nil)
      (pss_one (ps_ret (pv 1))))))), ?_⟩
    obtain ⟨t, ty, ka⟩ := tySeq (K := K) hpa
    refine ⟨_, rfl, _, t, true, rfl, ty, ka, fun H1 e1 => ⟨_, rfl, iteF ?_⟩⟩
    have hlen : vs.length = ps.length := hall.len
    have z0 : decide (V.int (vs.length : Nat) = V.int 0) = false := decide_eq_false fun z => by
      have := V.int.inj z
      omega
    refine ⟨_, rfl, pa, _, rfl, (hpa.same e1).sq, rfl, _, rfl, ?_⟩
    rw [z0]
    refine iteF ?_
    refine ⟨Nat.zero_le _, fun fl nf => ?_⟩
    generalize q2 : upd H1 fl _ = H2
    have h2 := nAt q2
    have e2 := nSm q2 nf
    refine enum_it (a := pa) (xs := vs) (fun Q q => ⟨_, rfl, q⟩) hpa (e1.trans e2) ?_
    intro J G wk hG
    refine for_it wk (fun i σ H' => ∃ (x2 x3 x4 : Option V) (ts : List V), σ = [some (.ref pa), some (.ref fl), x2, x3, x4] ∧ Same H1 H' ∧ H' fl = some (.lst ts) ∧ All2 (PtQ C H') ts (ps.take i)) ?_ ?_ ?_ ?_
    · exact ⟨_, _, _, [], rfl, e2, h2, trivial⟩
    · rintro i σ H' _ ⟨_, _, _, _, _, eI, _⟩
      exact hG _ (e1.trans eI)
    · rintro i x σ H3 H4 hi ⟨x2, x3, x4, ts, rfl, eI, hfl, hts⟩ ⟨T5, y1, y2, rfl, nT, rfl, hy1, hy2⟩
      cases hy1
      have e3 : Same H3 (upd H3 T5 (.tup [.int (i : Nat), y2])) := Same.new nT
      have hT5 : upd H3 T5 (.tup [.int (i : Nat), y2]) T5 = some (.tup [.int (i : Nat), y2]) := upd_same
      generalize upd H3 T5 (.tup [.int (i : Nat), y2]) = H4 at e3 hT5
      obtain ⟨p, hp, hg⟩ := hall.get hy2
      have eA : Same H H4 := (e1.trans eI).trans e3
      obtain ⟨ta, u1, u2, rfl, hsq, n1, n2⟩ := hg.same eA
      replace hts := hts.imp fun _ _ z => PtQ.nl (Same.nl e3) z
      replace hfl := e3 _ _ hfl
      refine ⟨T5, _, rfl, SqT.of hT5, rfl, _, _, rfl, _, _, rfl, rfl, ?_⟩
      -- is_list(thing), len(thing), all numbers
      refine ⟨fun σ' H' => σ' = [some (.ref pa), some (.ref fl), some (.int (i : Nat)), some (.ref ta), x4] ∧ Same H4 H', ?_, ?_⟩
      · obtain ⟨tt, tty, tka⟩ := tySeq (K := K) hsq
        refine ⟨_, rfl, _, tt, true, rfl, tty, tka, fun H5 e5 => ⟨_, rfl, iteF ?_⟩⟩
        refine ⟨_, rfl, ta, _, rfl, (hsq.same e5).sq, rfl, _, rfl, iteF ?_⟩
        refine seq_it (a := ta) (xs := [u1, u2]) (fun Q q => ⟨_, rfl, q⟩) hsq e5 ?_
        intro J2 G2 wk2 hG2 D nD
        refine lc_it wk2 (fun i H' => Same H5 H' ∧ H' D = some (.lst (List.replicate i (.bl true)))) ⟨Same.new nD, upd_same⟩ (fun i H2 _ ⟨e2, _⟩ => hG2 _ (e5.trans e2)) ?_ ?_
        · rintro i x H6 H7 hi ⟨e6, h6⟩ ⟨rfl, hx⟩
          have hn : ∃ q : Rat, NumQ C H7 x q := by
            rcases i with _ | _ | i
            · cases hx; exact ⟨_, (n1.same e5).same e6⟩
            · cases hx; exact ⟨_, (n2.same e5).same e6⟩
            · cases hx
          obtain ⟨q, hn⟩ := hn
          obtain ⟨t', b, c, d, g1, g2, g3, g4, g5⟩ := hn.numB T
          refine ⟨rfl, _, rfl, _, t', b, c, d, rfl, g1, g2, g3, g4, ?_⟩
          rw [← g5]
          refine ⟨_, h6, ?_, ?_, ?_⟩
          · rw [List.length_replicate]
            exact Nat.lt_of_lt_of_le hi (show 2 ≤ sizeLine by decide)
          · intro b' o' hb'
            rw [upd_ne (ne_of_none hb' nD)]
            exact e6 _ _ hb'
          · rw [upd_same, List.replicate_succ']
        · rintro H6 ⟨e6, h6⟩
          have eb : List.replicate [u1, u2].length (V.bl true) = (List.replicate 2 true).map V.bl := rfl
          rw [eb] at h6
          refine ⟨D, _, rfl, SqL.of h6, ?_⟩
          exact ⟨_, rfl, iteF ⟨rfl, e5.trans e6⟩⟩
      rintro _ H5 ⟨rfl, e5⟩
      replace hts := hts.imp fun _ _ z => PtQ.nl (Same.nl e5) z
      replace hfl := e5 _ _ hfl
      replace hsq := hsq.same e5
      replace n1 := n1.same e5
      replace n2 := n2.same e5
      have hmem : p ∈ ps := List.mem_of_getElem? hp
      refine ⟨fun σ' H' => σ' = [some (.ref pa), some (.ref fl), some (.int (i : Nat)), some (.ref ta), x4] ∧ Same H5 H', ?_, ?_⟩
      · refine ⟨_, rfl, Nat.zero_le _, fun el nel => ?_⟩
        generalize q6 : upd H5 el _ = H6
        have h6 := nAt q6
        have e6 := nSm q6 nel
        refine ⟨fl, el, ts, rfl, rfl, e6 _ _ hfl, h6, _, rfl, ?_⟩
        rcases List.eq_nil_or_concat ts with rfl | ⟨ts', v, rfl⟩
        · exact iteF (iteF ⟨rfl, e6⟩)
        · have zz : (!decide (ts' ++ [v] = [])) = true := by simp
          rw [List.concat_eq_append] at hfl hts ⊢
          rw [zz]
          obtain ⟨b, hb, hbq⟩ := hts.get (i := ts'.length) (a := v) (by simp)
          have hln := hts.len
          rw [List.length_append, List.length_take, ← hlen, Nat.min_eq_left (Nat.le_of_lt hi)] at hln
          have hln' : ts'.length + 1 = i := hln
          rw [List.getElem?_take_of_lt (by omega)] at hb
          have hlt := inc_get inc hb hp (by omega)
          obtain ⟨tb, w1, w2, rfl, hw, w1q, w2q⟩ := PtQ.nl (Same.nl e6) hbq
          have hbm : b ∈ ps := List.mem_of_getElem? hb
          refine iteT ⟨_, rfl, _, rfl, fl, _, _, _, rfl, rfl, SqL.of (e6 _ _ hfl), atI_last ts' _, tb, _, _, _, rfl, rfl, SqT.of hw, rfl, _, rfl, ixS (hsq.same e6) rfl ?_⟩
          refine ltQ T w1q (n1.same e6) ((ht b hbm).1.mono (by decide)) ((ht p hmem).1.mono (by decide)) fun H7 e7 => ?_
          rw [decide_eq_true hlt]
          exact ⟨_, rfl, iteF ⟨rfl, e6.trans e7⟩⟩
      rintro _ H6 ⟨rfl, e6⟩
      refine ⟨_, rfl, tyL (e6 _ _ hfl), _, rfl, ixS (hsq.same e6) rfl ?_⟩
      refine ⟨_, _, _, rfl, n1.same e6, fun v1 H7 e7 k1 => ?_⟩
      refine ⟨_, rfl, ixS ((hsq.same e6).same e7) rfl ?_⟩
      refine ⟨_, _, _, rfl, (n2.same e6).same e7, fun v2 H8 e8 k2 => ?_⟩
      refine ⟨by show 2 ≤ sizeLine; decide, fun tp ntp => ?_⟩
      generalize q9 : upd H8 tp _ = H9
      have h9 := nAt q9
      have e9 := nSm q9 ntp
      have e59 : Same H5 H9 := (e6.trans e7).trans (e8.trans e9)
      replace hfl := e59 _ _ hfl
      refine ⟨fl, ts, _, rfl, rfl, hfl, ?_, ?_⟩
      · rw [hts.len, List.length_take]
        exact Nat.lt_of_le_of_lt (Nat.le_trans (Nat.min_le_right _ _) l3) (show 1000 < sizeLine by decide)
      · generalize q10 : upd H9 fl _ = H10
        have h10 := nAt q10
        have b10 : NL H9 H10 := But.nl hfl (by rw [← q10]; exact (But.refl fl H9).upd)
        refine ⟨_, _, _, ts ++ [.ref tp], rfl, fun b o hb => ?_, h10, ?_⟩
        · rw [← q10, upd_ne (ne_of_none hb nf)]
          exact e59 _ _ (e5 _ _ (e3 _ _ (eI _ _ hb)))
        · have et : ps.take (i + 1) = ps.take i ++ [p] := by rw [List.take_succ, hp]; rfl
          rw [et]
          refine All2.snoc (hts.imp fun _ _ z => PtQ.nl ((Same.nl e59).trans b10) z) ?_
          exact PtQ.nl b10 ⟨tp, v1, v2, rfl, h9, k1.same (e8.trans e9), k2.same e9⟩
    · rintro σ H' ⟨x2, x3, x4, ts, rfl, eI, hfl, hts⟩
      rw [hlen, List.take_length] at hts
      have zl : decide (V.int (ts.length : Nat) = V.int 1) = false := decide_eq_false fun z => by
        have := V.int.inj z
        have := hts.len
        omega
      refine ⟨_, rfl, fl, _, rfl, .inl (SqL.of hfl), rfl, _, rfl, ?_⟩
      rw [zl]
      refine iteF ⟨_, rfl, k fl H' (e1.trans eI) ?_ ⟨ts, hfl, hts⟩⟩
      cases hz : H fl with
      | none => rfl
      | some o => rw [e1 _ _ hz] at nf; cases nf
end
end LW
set_option Elab.async false
set_option linter.all false
set_option maxRecDepth 100000
set_option maxHeartbeats 4000000
namespace LW
open PySem PySem.Spec PyProof.Rows L2 LV LM
theorem atI_last2 {α : Type} (xs : List α) (u v : α) : atI (xs ++ [u, v]) (-2) = some u := by
  unfold atI ixN
  rw [if_neg (by decide)]
  simp only [List.length_append, List.length_cons, List.length_nil]
  rw [if_pos (by omega)]
  have e : (-2 + ((xs.length + (0 + 1 + 1) : Nat) : Int)).toNat = xs.length := by omega
  simp only [Option.bind_some, e]
  simp
section
variable {P : Program} {w : World} {K : PySem.W.Frag} {mg : Str → Option Value} {base : Heap} {C : Addr}
def spBent (C : Addr) : Sp := fun vs H Q _ => ∃ (a : Addr) (ps : List Pt), vs = [.ref a] ∧ Rows C H a ps ∧ Inc ps ∧ 2 ≤ ps.length ∧ ps.length ≤ 1000 ∧ HtL ps ∧ ∀ r H', Same H H' → H r = none → Rows C H' r (bends ps) → Q (.ref r) H'
abbrev s_bent : Stmt := top 18
abbrev N_bent : List Str := ["points", "found", "point"]
theorem sc_bent : FnScope N_bent ["points"] (defScope s_bent) := ⟨rfl, rfl, rfl, by decide +kernel, rfl, by decide +kernel, by decide +kernel⟩
-- slots: 0 points, 1 found, 2 point
theorem ok_bent {f : Addr} {fd : FuncData} (F : FunD K "bent" "bent" (defArgs s_bent) (defBody s_bent) (defScope s_bent) [] [] f fd) (T : XE K mg C) (c_slope : C8.Cal P w K mg base 6 "slope" (spSlope C) []) (m__eq__ : ∀ X : Cx, X.prog = P → X.w = w → X.K = K → X.mg = mg → X.base = base → OwnM X 5 C "__eq__" (spEqX K C)) : FnOk P w K mg base CX0 7 f fd ["points"] (spBent C) := by
  refine F.ok sc_bent (fun vs H Q E h => ?_) (fun cdv A outer s H vs Q E hr h => ?_)
  · obtain ⟨pa, ps, rfl, ⟨vs, hpa, hall⟩, inc, l2, l3, ht, k⟩ := h
    rfl
  · obtain ⟨pa, ps, rfl, ⟨vs, hpa, hall⟩, inc, l2, l3, ht, k⟩ := h
    refine ⟨_, PSs.nox (pss_cons (ps_set (i := 1) sc_bent.nd rfl (Or.inl rfl) (pe_lst pa_nil))
      (pss_cons (ps_for PassesOwn.never rfl (pi_list (pv 0)) (pg_name (i := 2) sc_bent.nd rfl (Or.inl rfl)) (Evl.pss_cut (ps_while PassesOwn.never (PW.pt (pw_and (pt_cmpR op_gt (pe_callB call_len_seq rfl T.len (by decide +kernel) (pa_cons (pv 1) pa_nil)) pe_int (nomark _)) (pw_and1 (pt_cmpR (op_eqL (m__eq__ _ rfl rfl rfl rfl rfl) (hr.mono (by decide))) (C8.pe_c c_slope hr (by decide) rfl (pa_cons (pe_ix ix_list (pv 1) (pe_un un_neg pe_int) (fun _ _ => rfl)) (pa_cons (pe_ix ix_list (pv 1) (pe_un un_neg pe_int) (fun _ _ => rfl)) pa_nil))) (C8.pe_c c_slope hr (by decide) rfl (pa_cons (pe_ix ix_list (pv 1) (pe_un un_neg pe_int) (fun _ _ => rfl)) (pa_cons (pv 2) pa_nil))) (nomark _))))) (pss_one (ps_expr (pe_bm0 PySem.F.plainAttrs_list PySem.F.slot_list_pop PySem.F.type_list_pop mt_pop (pv 1)))))
      (pss_one (ps_expr (pe_bm PySem.F.plainAttrs_list PySem.F.slot_list_append PySem.F.type_list_append mt_append (pv 1) (pa_cons (pv 2) pa_nil))))))
      (pss_one (ps_ret (pv 1))))), ?_⟩
    have hlen : vs.length = ps.length := hall.len
    refine ⟨Nat.zero_le _, fun fl nf => ?_⟩
    generalize q1 : upd H fl _ = H1
    have h1 := nAt q1
    have e1 := nSm q1 nf
    refine ⟨_, rfl, pa, rfl, ⟨_, SqL.of (e1 _ _ hpa)⟩, ?_⟩
    refine for_it (walk_list (xs := vs)) (fun i σ H' => ∃ (x2 : Option V) (ts : List V) (st : List Pt), σ = [some (.ref pa), some (.ref fl), x2] ∧ Same H H' ∧ H' fl = some (.lst ts) ∧ All2 (PtQ C H') ts st ∧ StkOk ps i st ∧ ts.length ≤ i) ?_ ?_ ?_ ?_
    · exact ⟨_, [], [], rfl, e1, h1, trivial, .inl ⟨rfl, rfl⟩, Nat.le_refl 0⟩
    · rintro i σ H' _ ⟨_, _, _, _, eI, _⟩
      exact SqL.of (eI _ _ hpa)
    · rintro i x σ H3 H3' hi ⟨x2, ts, st, rfl, eI, hfl, hts, hst, hle⟩ ⟨rfl, hx⟩
      obtain ⟨q, hq, hxq⟩ := hall.get hx
      have hqm : q ∈ ps := List.mem_of_getElem? hq
      refine ⟨fun σ' H' => ∃ (ts : List V) (st : List Pt), σ' = [some (.ref pa), some (.ref fl), some x] ∧ Same H H' ∧ H' fl = some (.lst ts) ∧ All2 (PtQ C H') ts st ∧ StkOk ps (i + 1) (st ++ [q]) ∧ ts.length ≤ i, ?_, ?_⟩
      · refine ⟨fun m σ' H' => ∃ (ts : List V) (st : List Pt), σ' = [some (.ref pa), some (.ref fl), some x] ∧ Same H H' ∧ H' fl = some (.lst ts) ∧ All2 (PtQ C H') ts st ∧ ts.length ≤ i ∧
          ((m = 1 ∧ StkOk ps i st) ∨ (m = 0 ∧ ∃ G f p, st = G ++ [f] ∧ StkG ps i G f p ∧ slp f p = slp p q)), ⟨1, ts, st, rfl, eI, hfl, hts, hle, .inl ⟨rfl, hst⟩⟩, ?_⟩
        rintro m _ H4 ⟨ts, st, rfl, e4, hfl, hts, hle, hm⟩
        -- the slopes of the last two and of the new row
        have go : ∀ (G : List Pt) (f p : Pt), st = G ++ [f, p] → HtP f → HtP p → f.1 < p.1 → p.1 < q.1 → ∀ (R : Bool → Hp → Prop),
            (∀ H', Same H4 H' → R (decide (slp f p = slp p q)) H') → tAnd (tTest (tOp (rI0 fun i j => V.bl (decide (j < i))) (tCB (Evl.rLenS K) (tCons (tVar 1) tNil)) (tC (V.int 1))))
              (tTest (tOp (rCmpL K C (spEqX K C)) (tCall (spSlope C) [] C8.E0 (tCons (tOp (rIxL K) (tVar 1) (tUn (rU fun i => V.int (-i)) (tC (V.int 2)))) (tCons (tOp (rIxL K) (tVar 1) (tUn (rU fun i => V.int (-i)) (tC (V.int 1)))) tNil)))
                (tCall (spSlope C) [] C8.E0 (tCons (tOp (rIxL K) (tVar 1) (tUn (rU fun i => V.int (-i)) (tC (V.int 1)))) (tCons (tVar 2) tNil))))) [some (.ref pa), some (.ref fl), some x] H4 R := by
          intro G f p est bf bp lf lp R kR
          subst est
          obtain ⟨t1, t2, rfl, _, h2⟩ := hts.split
          obtain ⟨tf, tp, rfl, hf, hp⟩ := h2.two
          have zl : decide ((1 : Int) < ((t1 ++ [tf, tp]).length : Nat)) = true := decide_eq_true (by simp; omega)
          refine ⟨_, rfl, fl, _, rfl, .inl (SqL.of hfl), _, _, rfl, rfl, _, rfl, ?_⟩
          rw [zl]
          have hL : atI (t1 ++ [tf, tp]) (-1) = some tp := by
            rw [show t1 ++ [tf, tp] = (t1 ++ [tf]) ++ [tp] by simp]
            exact atI_last _ tp
          refine iteT ⟨_, rfl, _, rfl, fl, _, _, _, rfl, rfl, SqL.of hfl, atI_last2 t1 tf tp, _, rfl, _, rfl, fl, _, _, _, rfl, rfl, SqL.of hfl, hL, ?_⟩
          refine ⟨_, _, f, p, rfl, hf, hp, bf, bp, by grind, fun v1 H5 e5 q5 => ?_⟩
          refine ⟨_, rfl, _, rfl, fl, _, _, _, rfl, rfl, SqL.of (e5 _ _ hfl), hL, _, rfl, ?_⟩
          refine ⟨_, _, p, q, rfl, PtQ.nl (Same.nl e5) hp, PtQ.nl (Same.nl (e4.trans e5)) hxq, bp, ht q hqm, by grind, fun v2 H6 e6 q6 => ?_⟩
          exact eqQ T.toXC (q5.same e6) (.inr q6) fun H7 e7 => ⟨_, rfl, kR _ ((e5.trans e6).trans e7)⟩
        have stop : st.length ≤ 1 → ∀ (R : Bool → Hp → Prop), R false H4 → tAnd (tTest (tOp (rI0 fun i j => V.bl (decide (j < i))) (tCB (Evl.rLenS K) (tCons (tVar 1) tNil)) (tC (V.int 1))))
              (tTest (tOp (rCmpL K C (spEqX K C)) (tCall (spSlope C) [] C8.E0 (tCons (tOp (rIxL K) (tVar 1) (tUn (rU fun i => V.int (-i)) (tC (V.int 2)))) (tCons (tOp (rIxL K) (tVar 1) (tUn (rU fun i => V.int (-i)) (tC (V.int 1)))) tNil)))
                (tCall (spSlope C) [] C8.E0 (tCons (tOp (rIxL K) (tVar 1) (tUn (rU fun i => V.int (-i)) (tC (V.int 1)))) (tCons (tVar 2) tNil))))) [some (.ref pa), some (.ref fl), some x] H4 R := by
          intro hl R kR
          have := hts.len
          have zl : decide ((1 : Int) < (ts.length : Nat)) = false := decide_eq_false (by omega)
          refine ⟨_, rfl, fl, _, rfl, .inl (SqL.of hfl), _, _, rfl, rfl, _, rfl, ?_⟩
          rw [zl]
          exact iteF kR
        rcases hm with ⟨rfl, hst⟩ | ⟨rfl, G, f, p, rfl, hG, hc⟩
        · rcases hst with ⟨rfl, rfl⟩ | ⟨rfl, p, r, ep, rfl⟩ | ⟨G, f, p, rfl, hG⟩
          · exact stop (by simp) _ (iteF ⟨ts, [], rfl, e4, hfl, hts, stk0 hq, hle⟩)
          · exact stop (by simp) _ (iteF ⟨ts, [p], rfl, e4, hfl, hts, stk1 inc ep hq, hle⟩)
          · obtain ⟨_, mf, mp⟩ := stkG_mem hG
            have lp := stkG_inc inc hG hq
            refine go G f p rfl (ht f mf) (ht p mp) hG.choose_spec.2.2.2.1 lp _ fun H5 e5 => ?_
            have hfl5 := e5 _ _ hfl
            by_cases hc : slp f p = slp p q
            · rw [decide_eq_true hc]
              obtain ⟨t1, t2, rfl, g1, h2⟩ := hts.split
              obtain ⟨tf, tp, rfl, hf, hp⟩ := h2.two
              refine iteT ⟨fun σ' H' => ∃ (ts : List V) (st : List Pt), σ' = [some (.ref pa), some (.ref fl), some x] ∧ Same H H' ∧ H' fl = some (.lst ts) ∧ All2 (PtQ C H') ts st ∧ ts.length ≤ i ∧ ∃ G f p, st = G ++ [f] ∧ StkG ps i G f p ∧ slp f p = slp p q,
                fun σ' H' ⟨ts, st, a1, a2, a3, a4, a5, a6⟩ => ⟨0, by decide, ts, st, a1, a2, a3, a4, a5, .inr ⟨rfl, a6⟩⟩, ?_⟩
              refine ⟨_, rfl, tyL hfl5, fl, _, tp, rfl, rfl, hfl5, by simp, ?_⟩
              generalize q6 : upd H5 fl _ = H6
              have h6 := nAt q6
              have b6 : NL H5 H6 := But.nl hfl5 (by rw [← q6]; exact (But.refl fl H5).upd)
              have ed : (t1 ++ [tf, tp]).dropLast = t1 ++ [tf] := by
                rw [show t1 ++ [tf, tp] = (t1 ++ [tf]) ++ [tp] by simp, List.dropLast_concat]
              rw [ed] at h6
              refine ⟨t1 ++ [tf], G ++ [f], rfl, fun b o hb => ?_, h6, ?_, by simp at hle ⊢; omega, G, f, p, rfl, hG, hc⟩
              · rw [← q6, upd_ne (ne_of_none hb nf)]
                exact e5 _ _ (e4 _ _ hb)
              · exact (g1.snoc hf).imp fun _ _ z => PtQ.nl ((Same.nl e5).trans b6) z
            · rw [decide_eq_false hc]
              exact iteF ⟨ts, _, rfl, e4.trans e5, hfl5, hts.imp fun _ _ z => PtQ.nl (Same.nl e5) z, stk_push inc hG hq hc, hle⟩
        · have fin : StkOk ps (i + 1) (G ++ [f] ++ [q]) := by
            have := stk_pop inc hG hq hc
            simpa using this
          rcases List.eq_nil_or_concat G with rfl | ⟨G', e, eG⟩
          · exact stop (by simp) _ (iteF ⟨ts, _, rfl, e4, hfl, hts, fin, hle⟩)
          · rw [List.concat_eq_append] at eG
            subst eG
            obtain ⟨mG, mf, mp⟩ := stkG_mem hG
            obtain ⟨s1, s2, s3⟩ := stk_stop inc hG hq hc
            refine go G' e f (by simp) (ht e (mG e (by simp))) (ht f mf) s2 s3 _ fun H5 e5 => ?_
            rw [decide_eq_false s1]
            exact iteF ⟨ts, _, rfl, e4.trans e5, e5 _ _ hfl, hts.imp fun _ _ z => PtQ.nl (Same.nl e5) z, fin, hle⟩
      · rintro _ H4 ⟨ts, st, rfl, e4, hfl, hts, hst, hle⟩
        refine ⟨_, rfl, tyL hfl, _, rfl, fl, ts, _, rfl, rfl, hfl, ?_, ?_⟩
        · exact Nat.lt_of_le_of_lt (Nat.le_trans hle (by omega : i ≤ 1000)) (show 1000 < sizeLine by decide)
        · generalize q6 : upd H4 fl _ = H6
          have h6 := nAt q6
          have b6 : NL H4 H6 := But.nl hfl (by rw [← q6]; exact (But.refl fl H4).upd)
          refine ⟨_, ts ++ [x], st ++ [q], rfl, fun b o hb => ?_, h6, ?_, hst, by simp; omega⟩
          · rw [← q6, upd_ne (ne_of_none hb nf)]
            exact e4 _ _ hb
          · exact (hts.snoc (PtQ.nl (Same.nl e4) hxq)).imp fun _ _ z => PtQ.nl b6 z
    · rintro σ H' ⟨x2, ts, st, rfl, eI, hfl, hts, hst, hle⟩
      rw [hlen] at hst
      rw [stk_end l2 hst] at hts
      exact ⟨_, rfl, k fl H' eI nf ⟨ts, hfl, hts⟩⟩
end
end LW
set_option Elab.async false
set_option linter.all false
set_option maxRecDepth 100000
set_option maxHeartbeats 4000000
namespace LW
open PySem PySem.Spec PyProof.Rows L2 LV LM
/-- the class Line -/
structure LnC (K : PySem.W.Frag) (mg : Str → Option Value) (L : Addr) : Prop where
  cl : Cls K L
  nR : NoAttr K L "rows"
  mgL : mg "Line" = some (.ref L)
  ha : PySem.W.findIn K (.ref L) "__class__" = some (some (.builtin "object.__class__"))
  hm : PySem.W.mroIn K L (.type "object") = some true
  kT : ∀ t ∈ typs, PySem.W.kitOne K (.type t) (.ref L) = some false ∧ PySem.W.subIn K (.type t) (.ref L) = some false
  ne : PySem.W.findIn K (.ref L) "__ne__" = some (some (.builtin "object.__ne__"))
section
variable {P : Program} {w : World} {K : PySem.W.Frag} {mg : Str → Option Value} {base : Heap} {C L : Addr}
def IsL (C L : Addr) (H : Hp) (v : V) (ps : List Pt) : Prop := ∃ a dx r, v = .ref a ∧ H a = some (.ins L dx [("rows", .ref r)]) ∧ Rows C H r ps
theorem Rows.same {H H1 : Hp} {r : Addr} {ps : List Pt} (e : Same H H1) (h : Rows C H r ps) : Rows C H1 r ps := RowsR.nl (R := PtQ C) PtQ.nl (Same.nl e) (fun xs h => e _ _ h) h
theorem IsL.same {H H1 : Hp} {v : V} {ps : List Pt} (e : Same H H1) (h : IsL C L H v ps) : IsL C L H1 v ps := by
  obtain ⟨a, dx, r, rfl, h1, h2⟩ := h
  exact ⟨a, dx, r, rfl, e _ _ h1, h2.same e⟩
theorem tyLn {H : Hp} {x dx : Addr} {fs : List (Str × V)} (T : XC K mg C) (TL : LnC K mg L) (h : H x = some (.ins L dx fs)) : TyX K H (.ref x) (.ref L) := .base (.ins h TL.cl TL.ha T.hn T.htk TL.hm)
theorem PtQ.ins {H H1 : Hp} {p dx : Addr} {v : V} {q : Pt} (hp : H p = some (.ins L dx [])) (e : But p H H1) (h : PtQ C H v q) : PtQ C H1 v q := by
  have ex : ∀ {v : V} {o u : Int}, IsX C H v o u → IsX C H1 v o u := by
    rintro v o u ⟨x1, x2, rfl, g⟩
    refine ⟨x1, x2, rfl, e _ _ (fun z => ?_) g⟩
    subst z
    rw [hp] at g
    simp [exF] at g
  obtain ⟨t, x, y, rfl, g1, g2, g3⟩ := h
  refine ⟨t, x, y, rfl, e _ _ (fun z => ?_) g1, ex g2, ex g3⟩
  subst z
  rw [hp] at g1
  cases g1
/-! making -/
def spLInit (C L : Addr) : Sp := fun vs H Q _ => ∃ (p dx : Addr) (v : V) (ps : List Pt), vs = [.ref p, v] ∧ H p = some (.ins L dx []) ∧ Giv C H v ps ∧ Inc ps ∧ 2 ≤ ps.length ∧ ps.length ≤ 1000 ∧ HtL ps ∧
  ∀ r H', But p H H' → H r = none → H' p = some (.ins L dx [("rows", .ref r)]) → Rows C H' r (bends ps) → Q .non H'
abbrev s_Line___init__ : Stmt := inClass (top 19) 0
abbrev N_Line___init__ : List Str := ["self", "points"]
theorem sc_Line___init__ : FnScope N_Line___init__ ["self", "points"] (defScope s_Line___init__) := ⟨rfl, rfl, rfl, by decide +kernel, rfl, by decide +kernel, by decide +kernel⟩
-- slots: 0 self, 1 points
theorem ok_Line___init__ {f : Addr} {fd : FuncData} (F : FunD K "__init__" "Line.__init__" (defArgs s_Line___init__) (defBody s_Line___init__) (defScope s_Line___init__) [] [] f fd) (T : XC K mg C) (TL : LnC K mg L) (c_checked_points : C8.Cal P w K mg base 6 "checked_points" (spChk C) []) (c_bent : C8.Cal P w K mg base 7 "bent" (spBent C) []) : FnOk P w K mg base CX0 8 f fd ["self", "points"] (spLInit C L) := by
  refine F.ok sc_Line___init__ (fun vs H Q E h => ?_) (fun cdv A outer s H vs Q E hr h => ?_)
  · obtain ⟨p, dx, v, ps, rfl, hp, hv, inc, l2, l3, ht, k⟩ := h
    rfl
  · obtain ⟨p, dx, v, ps, rfl, hp, hv, inc, l2, l3, ht, k⟩ := h
    refine ⟨_, PSs.nox (pss_one (ps_fld (pv 0) (C8.pe_c c_bent hr (by decide) rfl (pa_cons (C8.pe_c c_checked_points hr (by decide) rfl (pa_cons (pv 1) pa_nil)) pa_nil)) rfl)), ?_⟩
    refine ⟨_, rfl, _, ps, rfl, hv, inc, l2, l3, ht, fun r1 H1 e1 n1 h1 => ?_⟩
    refine ⟨_, ps, rfl, h1, inc, l2, l3, ht, fun r2 H2 e2 n2 h2 => ?_⟩
    have hp2 := e2 _ _ (e1 _ _ hp)
    refine ⟨_, rfl, p, L, dx, _, rfl, hp2, TL.cl, TL.nR, (by show 0 < 1000; decide), ?_⟩
    have nr : H r2 = none := by
      cases hz : H r2 with
      | none => rfl
      | some o => rw [e1 _ _ hz] at n2; cases n2
    refine k r2 _ ((Same.but (e1.trans e2)).trans (But.refl p _).upd) nr ?_ ?_
    · rw [upd_same]
      rfl
    · obtain ⟨ts, hr, ha⟩ := h2
      refine ⟨ts, ?_, ?_⟩
      · rw [upd_ne (fun z => by rw [z, hp2] at hr; cases hr)]
        exact hr
      · refine ha.imp fun v q z => ?_
        exact PtQ.ins hp2 ((But.refl p _).upd) z
/-- Line(v) in the middle of an expression -/
theorem mkL {H : Hp} {x dx : Addr} {v : V} {ps : List Pt} {Q : VK} {E : XK} (hv : Giv C H v ps) (inc : Inc ps) (l2 : 2 ≤ ps.length) (l3 : ps.length ≤ 1000) (ht : HtL ps) (nx : H x = none) (nd : H dx = none) (ne : dx ≠ x)
    (k : ∀ r H', Same H H' → H r = none → H' x = some (.ins L dx [("rows", .ref r)]) → Rows C H' r (bends ps) → Q .non H') :
    spLInit C L [.ref x, v] (upd (upd H dx (.own x)) x (.ins L dx [])) Q E := by
  have e0 : Same H (upd (upd H dx (.own x)) x (.ins L dx [])) := fun b o hb => by
    rw [upd_ne (ne_of_none hb nx), upd_ne (ne_of_none hb nd)]
    exact hb
  refine ⟨x, dx, v, ps, rfl, upd_same, ?_, inc, l2, l3, ht, fun r H' e nr h1 h2 => k r H' (fun b o hb => ?_) ?_ h1 h2⟩
  · obtain ⟨a, vs, rfl, g1, g2⟩ := hv
    exact ⟨a, vs, rfl, g1.same e0, g2.imp fun _ _ z => z.same e0⟩
  · exact e b o (ne_of_none hb nx) (e0 _ _ hb)
  · cases hz : H r with
    | none => rfl
    | some o => rw [e0 _ _ hz] at nr; cases nr
/-! points -/
def spPts (C L : Addr) : Sp := fun vs H Q _ => ∃ (x : V) (ps : List Pt), vs = [x] ∧ IsL C L H x ps ∧ ps.length ≤ 1000 ∧ ∀ r H', Same H H' → H r = none → Tld C H' r ps → Q (.ref r) H'
abbrev s_Line_points : Stmt := inClass (top 19) 6
abbrev N_Line_points : List Str := ["self", "moment", "height"]
theorem sc_Line_points : FnScope N_Line_points ["self"] (defScope s_Line_points) := ⟨rfl, rfl, rfl, by decide +kernel, rfl, by decide +kernel, by decide +kernel⟩
-- slots: 0 self, 1 moment, 2 height
theorem ok_Line_points {f : Addr} {fd : FuncData} (F : FunD K "points" "Line.points" (defArgs s_Line_points) (defBody s_Line_points) (defScope s_Line_points) [] [] f fd) (T : XC K mg C) (TL : LnC K mg L) (c_plain : C8.Cal P w K mg base 5 "plain" (spPlain C) []) : FnOk P w K mg base CX0 6 f fd ["self"] (spPts C L) := by
  refine F.ok sc_Line_points (fun vs H Q E h => ?_) (fun cdv A outer s H vs Q E hr h => ?_)
  · obtain ⟨x, ps, rfl, ⟨a, dx, r, rfl, ha, ts, hr', hts⟩, l3, k⟩ := h
    rfl
  · obtain ⟨x, ps, rfl, ⟨a, dx, r, rfl, ha, ts, hr', hts⟩, l3, k⟩ := h
    refine ⟨_, PSs.nox (pss_one (ps_ret (pe_lc (own := [("moment", 1), ("height", 2)]) (g := (gTup K 2 (gCons (gName 1) (gCons (gName 2) gNil)))) (tt := tYes) rfl sc_Line_points.nd (pi_list (pe_fld (pv 0) rfl)) (blkOk_by (N := N_Line_points) (sc := defScope s_Line_points) (by decide +kernel)) (fun _ _ _ _ _ => by exact (pg_tup rfl (pgs_cons (pg_name (i := 1) sc_Line_points.nd rfl (Or.inl rfl)) (pgs_cons (pg_name (i := 2) sc_Line_points.nd rfl (Or.inl rfl)) pgs_nil)))) (fun _ _ _ _ _ => pts_nil) (fun _ _ _ _ _ => by exact (pe_tup (pa_cons (C8.pe_c c_plain hr (by decide) rfl (pa_cons (pv 1) pa_nil)) (pa_cons (C8.pe_c c_plain hr (by decide) rfl (pa_cons (pv 2) pa_nil)) pa_nil))))))), ?_⟩
    refine ⟨_, rfl, a, L, dx, _, _, rfl, ha, TL.cl, TL.nR, rfl, r, rfl, ⟨_, SqL.of hr'⟩, fun D nD => ?_⟩
    refine lc_it (walk_list (xs := ts)) (fun i H' => Same H H' ∧ ∃ us, H' D = some (.lst us) ∧ All2 (PtT C H') us (ps.take i)) ⟨Same.new nD, [], upd_same, trivial⟩ (fun i H2 _ ⟨e2, _⟩ => SqL.of (e2 _ _ hr')) ?_ ?_
    · rintro i x H2 H3 hi ⟨e2, us, hD, hus⟩ ⟨rfl, hx⟩
      obtain ⟨p, hp, hq⟩ := hts.get hx
      obtain ⟨t, x1, x2, rfl, ht, q1, q2⟩ := PtQ.nl (Same.nl e2) hq
      refine ⟨t, _, rfl, SqT.of ht, rfl, _, _, rfl, _, _, rfl, rfl, rfl, ?_⟩
      refine ⟨_, rfl, _, _, _, rfl, .inr q1, fun v1 H4 e4 k1 => ?_⟩
      refine ⟨_, rfl, _, _, _, rfl, .inr (q2.same e4), fun v2 H5 e5 k2 => ?_⟩
      refine ⟨by show 2 ≤ sizeLine; decide, fun tp ntp => ?_⟩
      generalize q9 : upd H5 tp _ = H9
      have h9 := nAt q9
      have e9 := nSm q9 ntp
      have e29 : Same H3 H9 := (e4.trans e5).trans e9
      have hD9 := e29 _ _ hD
      refine ⟨us, hD9, ?_, ?_⟩
      · rw [hus.len, List.length_take]
        exact Nat.lt_of_le_of_lt (Nat.le_trans (Nat.min_le_right _ _) l3) (show 1000 < sizeLine by decide)
      · generalize q10 : upd H9 D _ = H10
        have h10 := nAt q10
        have b10 : NL H9 H10 := But.nl hD9 (by rw [← q10]; exact (But.refl D H9).upd)
        refine ⟨fun b o hb => ?_, _, h10, ?_⟩
        · rw [← q10, upd_ne (ne_of_none hb nD)]
          exact e29 _ _ (e2 _ _ hb)
        · have et : ps.take (i + 1) = ps.take i ++ [p] := by rw [List.take_succ, hp]; rfl
          rw [et]
          refine All2.snoc (hus.imp fun _ _ z => PtT.nl ((Same.nl e29).trans b10) z) ?_
          exact PtT.nl b10 ⟨tp, v1, v2, rfl, h9, k1.same (e5.trans e9), k2.same e9⟩
    · rintro H2 ⟨e2, us, hD, hus⟩
      rw [hts.len, List.take_length] at hus
      exact k D H2 e2 nD ⟨us, hD, hus⟩
/-! heights -/
def spHgt (C : Addr) : Sp := fun vs H Q _ => ∃ (r : Addr) (m : V) (ps : List Pt) (t : Rat) (p0 pn : Pt), vs = [.ref r, m] ∧ Rows C H r ps ∧ IsQ C H m t ∧ Inc ps ∧ HtL ps ∧ Ht 160 t ∧ 2 ≤ ps.length ∧ ps.length ≤ 1000 ∧ ps[0]? = some p0 ∧ ps[ps.length - 1]? = some pn ∧ p0.1 ≤ t ∧ t ≤ pn.1 ∧
  ∀ v H' y, Same H H' → OnL ps t y → IsQ C H' v y → Q v H'
abbrev s_height_at : Stmt := top 20
abbrev N_height_at : List Str := ["rows", "moment", "at", "one", "other"]
theorem sc_height_at : FnScope N_height_at ["rows", "moment"] (defScope s_height_at) := ⟨rfl, rfl, rfl, by decide +kernel, rfl, by decide +kernel, by decide +kernel⟩
-- slots: 0 rows, 1 moment, 2 at, 3 one, 4 other
theorem ok_height_at {f : Addr} {fd : FuncData} (F : FunD K "height_at" "height_at" (defArgs s_height_at) (defBody s_height_at) (defScope s_height_at) [] [] f fd) (T : XC K mg C) (c_slope : C8.Cal P w K mg base 6 "slope" (spSlope C) []) (m__lt__ : ∀ X : Cx, X.prog = P → X.w = w → X.K = K → X.mg = mg → X.base = base → OwnM X 5 C "__lt__" (spLt C)) (m__add__ : ∀ X : Cx, X.prog = P → X.w = w → X.K = K → X.mg = mg → X.base = base → OwnM X 5 C "__add__" (spAdd C)) (m__sub__ : ∀ X : Cx, X.prog = P → X.w = w → X.K = K → X.mg = mg → X.base = base → OwnM X 5 C "__sub__" (spSub C)) (m__mul__ : ∀ X : Cx, X.prog = P → X.w = w → X.K = K → X.mg = mg → X.base = base → OwnM X 5 C "__mul__" (spMul C)) : FnOk P w K mg base CX0 7 f fd ["rows", "moment"] (spHgt C) := by
  refine F.ok sc_height_at (fun vs H Q E h => ?_) (fun cdv A outer s H vs Q E hr h => ?_)
  · obtain ⟨r, m, ps, t, p0, pn, rfl, ⟨ts, hr', hts⟩, hm, inc, ht, htt, l2, l3, h0, hn, b0, bn, k⟩ := h
    rfl
  · obtain ⟨r, m, ps, t, p0, pn, rfl, ⟨ts, hr', hts⟩, hm, inc, ht, htt, l2, l3, h0, hn, b0, bn, k⟩ := h
    refine ⟨_, PSs.nox (pss_cons (ps_set (i := 2) sc_height_at.nd rfl (Or.inl rfl) pe_int)
      (pss_cons (ps_while PassesOwn.never (pt_cmpR (op_ltL (m__lt__ _ rfl rfl rfl rfl rfl) (hr.mono (by decide))) (pe_ix ix_tup (pe_ix ix_list (pv 0) (pv 2) (fun _ _ => rfl)) pe_int (fun _ _ => rfl)) (pv 1) (nomark _)) (pss_one (ps_aug (i := 2) sc_height_at.nd rfl (Or.inl rfl) pe_int ip_add)))
      (pss_cons (ps_par (i := 3) (j := 4) rfl sc_height_at.nd rfl rfl (by decide) rfl rfl (pa_cons (pe_ix ix_list (pv 0) (pe_op op_sub (pv 2) pe_int) (fun _ _ => rfl)) (pa_cons (pe_ix ix_list (pv 0) (pv 2) (fun _ _ => rfl)) pa_nil)) rfl)
      (pss_one (ps_ret (pe_op (op_addL (m__add__ _ rfl rfl rfl rfl rfl) T.f_radd.choose_spec T.own (hr.mono (by decide))) (pe_ix ix_tup (pv 3) pe_int (fun _ _ => rfl)) (pe_op (op_mulL (m__mul__ _ rfl rfl rfl rfl rfl) T.f_rmul.choose_spec T.own (hr.mono (by decide))) (C8.pe_c c_slope hr (by decide) rfl (pa_cons (pv 3) (pa_cons (pv 4) pa_nil))) (pe_op (op_subL (m__sub__ _ rfl rfl rfl rfl rfl) T.f_rsub.choose_spec T.own (hr.mono (by decide))) (pv 1) (pe_ix ix_tup (pv 3) pe_int (fun _ _ => rfl)))))))))), ?_⟩
    have hlen := hts.len
    refine ⟨fun mm σ H' => ∃ (j : Nat) (p : Pt) (x3 x4 : Option V), σ = [some (.ref r), some m, some (.int ((j + 1 : Nat) : Int)), x3, x4] ∧ Same H H' ∧ mm = ps.length - j ∧ j + 1 < ps.length ∧ ps[j]? = some p ∧ p.1 ≤ t, ⟨_, 0, p0, _, _, rfl, Same.refl H, rfl, by omega, h0, b0⟩, ?_⟩
    rintro mm _ H1 ⟨j, p, x3, x4, rfl, e1, rfl, hj, hp, hpt⟩
    have hq : ps[j + 1]? = some ps[j + 1] := List.getElem?_eq_getElem hj
    generalize ps[j + 1] = q at hq
    obtain ⟨tq, htq, hqq⟩ := hts.at hq
    obtain ⟨tp, htp, hpq⟩ := hts.at hp
    have mq := ht q (List.mem_of_getElem? hq)
    have mp := ht p (List.mem_of_getElem? hp)
    obtain ⟨aq, q1, q2, rfl, hq', q1q, q2q⟩ := PtQ.nl (Same.nl e1) hqq
    refine ⟨_, rfl, _, rfl, r, _, _, _, rfl, rfl, SqL.of (e1 _ _ hr'), atI_nat htq, aq, _, _, _, rfl, rfl, SqT.of hq', rfl, _, rfl, ?_⟩
    refine ltQ T q1q (.inr (hm.same e1)) (mq.1.mono (by decide)) (htt.mono (by decide)) fun H2 e2 => ⟨_, rfl, ?_⟩
    by_cases hlt : q.1 < t
    · rw [decide_eq_true hlt]
      have hj2 : j + 2 < ps.length := by
        refine Nat.lt_of_not_le fun hle => ?_
        have : j + 1 = ps.length - 1 := by omega
        rw [← this, hq] at hn
        cases hn
        grind
      refine iteT ⟨fun σ' H' => σ' = [some (.ref r), some m, some (.int ((j + 1 + 1 : Nat) : Int)), x3, x4] ∧ Same H1 H', fun σ' H' ⟨a1, a2⟩ => ⟨ps.length - (j + 1), by omega, j + 1, q, x3, x4, a1, e1.trans a2, rfl, by omega, hq, by grind⟩, ?_⟩
      exact ⟨_, rfl, _, _, rfl, rfl, rfl, e2⟩
    · rw [decide_eq_false hlt]
      refine iteF ?_
      have e12 := e1.trans e2
      have jm : (((j + 1 : Nat) : Int) - 1) = ((j : Nat) : Int) := by omega
      have hat : atI ts (((j + 1 : Nat) : Int) - 1) = some tp := by
        rw [jm]
        exact atI_nat htp
      refine ⟨_, rfl, _, rfl, _, _, rfl, rfl, r, _, _, _, rfl, rfl, SqL.of (e12 _ _ hr'), hat, ?_⟩
      refine ⟨_, rfl, _, rfl, r, _, _, _, rfl, rfl, SqL.of (e12 _ _ hr'), atI_nat htq, ?_⟩
      refine ⟨_, _, rfl, ?_⟩
      obtain ⟨ap, p1, p2, rfl, hp', p1q, p2q⟩ := PtQ.nl (Same.nl e12) hpq
      refine ⟨_, rfl, ap, _, _, _, rfl, rfl, SqT.of hp', rfl, ?_⟩
      have hpq1 : p.1 < q.1 := inc_get inc hp hq (by omega)
      refine ⟨_, rfl, _, rfl, _, _, p, q, rfl, PtQ.nl (Same.nl e12) hpq, PtQ.nl (Same.nl e12) hqq, mp, mq, by grind, fun v1 H3 e3 k1 => ?_⟩
      refine ⟨_, rfl, _, rfl, ap, _, _, _, rfl, rfl, SqT.of (e3 _ _ hp'), rfl, ?_⟩
      refine subQ (hm.same (e12.trans e3)) (.inr (p1q.same e3)) (htt.mono (by decide)) (mp.1.mono (by decide)) fun v2 H4 e4 k2 => ?_
      have hd : Ht 321 (t - p.1) := htt.sub mp.1
      have hs : Ht 642 (slp p q) := (mq.2.sub mp.2).div (mq.1.sub mp.1) (by grind)
      refine mulQ (k1.same e4) (.inr k2) (hs.mono (by decide)) (hd.mono (by decide)) fun v3 H5 e5 k3 => ?_
      refine addQ (p2q.same ((e3.trans e4).trans e5)) (.inr k3) (mp.2.mono (by decide)) ((hs.mul hd).mono (by decide)) fun v4 H6 e6 k4 => ?_
      exact k v4 H6 _ ((e12.trans e3).trans ((e4.trans e5).trans e6)) (on_get hp hq hpt (by grind)) k4
/-! a call with a moment -/
def spCallL (C L : Addr) : Sp := fun vs H Q _ => ∃ (x m : V) (ps : List Pt) (t : Rat) (p0 pn : Pt), vs = [x, m] ∧ IsL C L H x ps ∧ NumQ C H m t ∧ Inc ps ∧ HtL ps ∧ Ht 160 t ∧ 2 ≤ ps.length ∧ ps.length ≤ 1000 ∧ ps[0]? = some p0 ∧ ps[ps.length - 1]? = some pn ∧ p0.1 ≤ t ∧ t ≤ pn.1 ∧
  ∀ v H' y, Same H H' → OnL ps t y → TQ C H' v y → Q v H'
abbrev s_Line___call__ : Stmt := inClass (top 19) 2
abbrev N_Line___call__ : List Str := ["self", "moment"]
theorem sc_Line___call__ : FnScope N_Line___call__ ["self", "moment"] (defScope s_Line___call__) := ⟨rfl, rfl, rfl, by decide +kernel, rfl, by decide +kernel, by decide +kernel⟩
-- slots: 0 self, 1 moment
theorem ok_Line___call__ {f : Addr} {fd : FuncData} (F : FunD K "__call__" "Line.__call__" (defArgs s_Line___call__) (defBody s_Line___call__) (defScope s_Line___call__) [] [] f fd) (T : XC K mg C) (TL : LnC K mg L) (c_is_number : C8.Cal P w K mg base 2 "is_number" (spNum K C) []) (c_part_of : C8.Cal P w K mg base 4 "part_of" (spPart C) []) (c_plain : C8.Cal P w K mg base 5 "plain" (spPlain C) []) (c_height_at : C8.Cal P w K mg base 7 "height_at" (spHgt C) []) (m__le__ : ∀ X : Cx, X.prog = P → X.w = w → X.K = K → X.mg = mg → X.base = base → OwnM X 5 C "__le__" (spLe C)) (m__ge__ : ∀ X : Cx, X.prog = P → X.w = w → X.K = K → X.mg = mg → X.base = base → OwnM X 5 C "__ge__" (spGe C)) : FnOk P w K mg base CX0 8 f fd ["self", "moment"] (spCallL C L) := by
  refine F.ok sc_Line___call__ (fun vs H Q E h => ?_) (fun cdv A outer s H vs Q E hr h => ?_)
  · obtain ⟨x, m, ps, t, p0, pn, rfl, ⟨a, dx, r, rfl, ha, ts, hr', hts⟩, hm, inc, ht, htt, l2, l3, h0, hn, b0, bn, k⟩ := h
    rfl
  · obtain ⟨x, m, ps, t, p0, pn, rfl, ⟨a, dx, r, rfl, ha, ts, hr', hts⟩, hm, inc, ht, htt, l2, l3, h0, hn, b0, bn, k⟩ := h
    refine ⟨_, PSs.nox (pss_cons (ps_if (PW.pt (pw_or (pt_not (pt_val (C8.pe_c c_is_number hr (by decide) rfl (pa_cons (pv 1) pa_nil)))) (pw_or (pt_not (pt_cmpR (op_leL (m__le__ _ rfl rfl rfl rfl rfl) (hr.mono (by decide))) (pe_ix ix_tup (pe_ix ix_list (pe_fld (pv 0) rfl) pe_int (fun _ _ => rfl)) pe_int (fun _ _ => rfl)) (pv 1) (nomark _))) (pw_or1 (pt_not (pt_cmpR (op_geL (m__ge__ _ rfl rfl rfl rfl rfl) (hr.mono (by decide))) (pe_ix ix_tup (pe_ix ix_list (pe_fld (pv 0) rfl) (pe_un un_neg pe_int) (fun _ _ => rfl)) pe_int (fun _ _ => rfl)) (pv 1) (nomark _))))))) (pss_one ps_never) pss_nil)
      (pss_one (ps_ret (C8.pe_c c_plain hr (by decide) rfl (pa_cons (C8.pe_c c_height_at hr (by decide) rfl (pa_cons (pe_fld (pv 0) rfl) (pa_cons (C8.pe_c c_part_of hr (by decide) rfl (pa_cons (pv 1) pa_nil)) pa_nil))) pa_nil))))), ?_⟩
    obtain ⟨t', b, c, d, g1, g2, g3, g4, g5⟩ := hm.numB T
    refine ⟨_, rfl, _, t', b, c, d, rfl, g1, g2, g3, g4, _, rfl, ?_⟩
    rw [← g5]
    refine iteF ?_
    have hlen := hts.len
    obtain ⟨v0, hv0, hq0⟩ := hts.at h0
    obtain ⟨vn, hvn, hqn⟩ := hts.at hn
    obtain ⟨t0, x0, y0, rfl, ht0, q0, _⟩ := id hq0
    refine ⟨_, rfl, a, L, dx, _, _, rfl, ha, TL.cl, TL.nR, rfl, r, _, _, _, rfl, rfl, SqL.of hr', atI_nat (j := 0) hv0, t0, _, _, _, rfl, rfl, SqT.of ht0, rfl, _, rfl, ?_⟩
    refine leQ T q0 hm ((ht p0 (List.mem_of_getElem? h0)).1.mono (by decide)) (htt.mono (by decide)) fun H1 e1 => ⟨_, rfl, ?_⟩
    rw [decide_eq_true b0]
    refine iteF ?_
    obtain ⟨tn, xn, yn, rfl, htn, qn, _⟩ := PtQ.nl (Same.nl e1) hqn
    have hat : atI ts (-1) = some (.ref tn) := by
      rcases List.eq_nil_or_concat ts with rfl | ⟨ts', v, e⟩
      · simp at hvn
      · rw [List.concat_eq_append] at e
        subst e
        rw [← hlen] at hvn
        simp at hvn
        rw [← hvn]
        exact atI_last ts' v
    refine ⟨_, rfl, a, L, dx, _, _, rfl, e1 _ _ ha, TL.cl, TL.nR, rfl, _, rfl, r, _, _, _, rfl, rfl, SqL.of (e1 _ _ hr'), hat, tn, _, _, _, rfl, rfl, SqT.of htn, rfl, _, rfl, ?_⟩
    refine geQ T qn (hm.same e1) ((ht pn (List.mem_of_getElem? hn)).1.mono (by decide)) (htt.mono (by decide)) fun H2 e2 => ⟨_, rfl, ?_⟩
    rw [decide_eq_true bn]
    refine iteF ?_
    have e12 := e1.trans e2
    refine ⟨_, rfl, a, L, dx, _, _, rfl, e12 _ _ ha, TL.cl, TL.nR, rfl, _, rfl, _, _, _, rfl, hm.same e12, fun v1 H3 e3 k1 => ?_⟩
    refine ⟨r, v1, ps, t, p0, pn, rfl, ?_, k1, inc, ht, htt, l2, l3, h0, hn, b0, bn, fun v2 H4 y e4 ho k2 => ?_⟩
    · exact Rows.same (e12.trans e3) ⟨ts, hr', hts⟩
    · exact ⟨_, _, _, rfl, .inr k2, fun v3 H5 e5 k3 => k v3 H5 y ((e12.trans e3).trans (e4.trans e5)) ho k3⟩
/-! equality -/
theorem insE {H : Hp} {x y : V} {a b : Rat} (hx : IsQ C H x a) (hy : IsQ C H y b) : DInsB C (spEqX K C) x y (decide (a = b)) H := by
  refine ⟨?_, fun H' e => ?_, fun z => ?_⟩
  · obtain ⟨x1, x2, rfl, h1⟩ := hx
    obtain ⟨y1, y2, rfl, h2⟩ := hy
    exact ⟨x1, y1, x2, y2, _, _, rfl, rfl, h1, h2⟩
  · refine ⟨x, y, _, _, rfl, hx.same e, .inl ⟨_, _, .inr (hy.same e), fun H'' e' => ⟨?_, e'⟩⟩⟩
    rw [dEq]
  · subst z
    obtain ⟨x1, x2, rfl, h1⟩ := hx
    obtain ⟨y1, y2, z, h2⟩ := hy
    cases z
    rw [h1] at h2
    simp [exF] at h2
    exact decide_eq_true (Rat.ext h2.2.1 (Int.ofNat.inj h2.2.2))
theorem tupE {H : Hp} {v u : V} {p q : Pt} (hv : PtQ C H v p) (hu : PtQ C H u q) : DTupB (DInsB C (spEqX K C)) v u (decide (p = q)) H := by
  obtain ⟨t, x1, x2, rfl, h1, h2, h3⟩ := hv
  obtain ⟨t', y1, y2, rfl, g1, g2, g3⟩ := hu
  refine ⟨t, t', _, _, rfl, rfl, h1, g1, fun i => if i = 0 then decide (p.1 = q.1) else decide (p.2 = q.2), ⟨rfl, fun i x y hx hy => ?_⟩, ?_⟩
  · rcases i with _ | _ | i
    · cases hx; cases hy
      exact insE h2 g2
    · cases hx; cases hy
      exact insE h3 g3
    · cases hx
  · show decide (p = q) = (List.range 2).all _
    have : (p = q) = (p.1 = q.1 ∧ p.2 = q.2) := propext Prod.ext_iff
    simp [List.range, List.range.loop, this, Bool.decide_and]
theorem rowsE {H : Hp} {r r' : Addr} {ps qs : List Pt} (h : Rows C H r ps) (h' : Rows C H r' qs) : DRows C (spEqX K C) (.ref r) (.ref r') (decide (ps = qs)) H := by
  obtain ⟨ts, h1, h2⟩ := h
  obtain ⟨us, g1, g2⟩ := h'
  refine ⟨r, r', ts, us, rfl, rfl, h1, g1, ?_⟩
  by_cases hl : ts.length = us.length
  · refine .inr ⟨fun i => decide (ps[i]? = qs[i]?), ⟨hl, fun i x y hx hy => ?_⟩, ?_⟩
    · obtain ⟨p, hp, kp⟩ := h2.get hx
      obtain ⟨q, hq, kq⟩ := g2.get hy
      have e : decide (ps[i]? = qs[i]?) = decide (p = q) := by
        rw [hp, hq]
        exact decide_eq_decide.mpr ⟨fun z => Option.some.inj z, fun z => by rw [z]⟩
      show DTupB _ x y (decide (ps[i]? = qs[i]?)) H
      rw [e]
      exact tupE kp kq
    · have e1 := h2.len
      have e2 := g2.len
      by_cases hps : ps = qs
      · subst hps
        rw [decide_eq_true rfl, all_f fun j _ => decide_eq_true rfl]
      · rw [decide_eq_false hps]
        have : ∃ j, j < ts.length ∧ ¬ ps[j]? = qs[j]? := by
          refine Classical.byContradiction fun hn => hps (List.ext_getElem? fun j => Classical.byContradiction fun hj => hn ⟨j, ?_, hj⟩)
          refine Nat.lt_of_not_le fun hle => hj ?_
          rw [List.getElem?_eq_none (by omega), List.getElem?_eq_none (by omega)]
        obtain ⟨j, hj, hne⟩ := this
        rw [not_f hj (decide_eq_false hne)]
  · refine .inl ⟨hl, decide_eq_false fun z => hl ?_⟩
    rw [h2.len, g2.len, z]
def spEqL (K : PySem.W.Frag) (C L : Addr) : Sp := fun vs H Q _ => ∃ (x y : V) (ps : List Pt), vs = [x, y] ∧ IsL C L H x ps ∧
  ((∃ qs, IsL C L H y qs ∧ ∀ H', Same H H' → Q (.bl (decide (ps = qs))) H') ∨ ∃ t, TyX K H y t ∧ PySem.W.kitOne K t (.ref L) = some false ∧ ∀ H', Same H H' → Q (.bl false) H')
abbrev s_Line___eq__ : Stmt := inClass (top 19) 1
abbrev N_Line___eq__ : List Str := ["self", "other"]
theorem sc_Line___eq__ : FnScope N_Line___eq__ ["self", "other"] (defScope s_Line___eq__) := ⟨rfl, rfl, rfl, by decide +kernel, rfl, by decide +kernel, by decide +kernel⟩
-- slots: 0 self, 1 other
theorem ok_Line___eq__ {f : Addr} {fd : FuncData} (F : FunD K "__eq__" "Line.__eq__" (defArgs s_Line___eq__) (defBody s_Line___eq__) (defScope s_Line___eq__) [] [] f fd) (T : XE K mg C) (TL : LnC K mg L) (m__eq__ : ∀ X : Cx, X.prog = P → X.w = w → X.K = K → X.mg = mg → X.base = base → OwnM X 5 C "__eq__" (spEqX K C)) : FnOk P w K mg base CX0 8 f fd ["self", "other"] (spEqL K C L) := by
  refine F.ok sc_Line___eq__ (fun vs H Q E h => ?_) (fun cdv A outer s H vs Q E hr h => ?_)
  · obtain ⟨x, y, ps, rfl, ⟨a, dx, r, rfl, ha, hR⟩, hy⟩ := h
    rfl
  · obtain ⟨x, y, ps, rfl, ⟨a, dx, r, rfl, ha, hR⟩, hy⟩ := h
    refine ⟨_, PSs.nox (pss_one (ps_ret (pe_and (pe_callB call_isi rfl T.isinstance (by decide +kernel) (pa_cons (pv 1) (pa_cons (pe_glob (v := .ref L) rfl TL.mgL rfl) pa_nil))) (pe_one (pe_cmpR (op_eqRows (m__eq__ _ rfl rfl rfl rfl rfl) (hr.mono (by decide))) (pe_fld (pv 0) rfl) (pe_fld (pv 1) rfl) (nomark _)))))), ?_⟩
    rcases hy with ⟨qs, ⟨b, dy, r', rfl, hb, hR'⟩, k⟩ | ⟨t, ty, kt, k⟩
    · refine ⟨_, rfl, _, _, _, _, _, rfl, .own L, tyLn T.toXC TL hb, kXX K L, _, rfl, iteT ?_⟩
      refine ⟨_, rfl, a, L, dx, _, _, rfl, ha, TL.cl, TL.nR, rfl, _, rfl, b, L, dy, _, _, rfl, hb, TL.cl, TL.nR, rfl, ?_⟩
      exact ⟨_, rowsE hR hR', fun H' e => k H' e⟩
    · refine ⟨_, rfl, _, _, _, _, _, rfl, .own L, ty, kt, _, rfl, iteF ?_⟩
      exact k _ (Same.refl H)
end
end LW
set_option Elab.async false
set_option linter.all false
set_option maxRecDepth 100000
set_option maxHeartbeats 4000000
namespace LW
open PySem PySem.Spec PyProof.Rows L2 LV LM
section
variable {P : Program} {w : World} {K : PySem.W.Frag} {mg : Str → Option Value} {base : Heap} {C L : Addr}
/-! handed: a list or a tuple -/
def spHanded (K : PySem.W.Frag) : Sp := fun vs H Q _ => ∃ (a b : Addr) (xs : List V), vs = [.ref a, .ref b] ∧ Stt K H a ∧ H b = some (.lst xs) ∧ notSt (.lst xs) = true ∧ ∀ q H', Bus a H H' → Stt K H' a → H q = none → SeqA H' q xs → Q (.ref q) H'
abbrev s__law_handed : Stmt := top 25
abbrev N__law_handed : List Str := ["_law_state", "_law_things"]
theorem sc__law_handed : FnScope N__law_handed ["_law_state", "_law_things"] (defScope s__law_handed) := ⟨rfl, rfl, rfl, by decide +kernel, rfl, by decide +kernel, by decide +kernel⟩
-- slots: 0 _law_state, 1 _law_things
theorem ok__law_handed {f : Addr} {fd : FuncData} (F : FunD K "_law_handed" "_law_handed" (defArgs s__law_handed) (defBody s__law_handed) (defScope s__law_handed) [] [] f fd) (T : Bt mg) (c__law_take : C8.Cal P w K mg base 2 "_law_take" (spTake K) []) : FnOk P w K mg base CX0 3 f fd ["_law_state", "_law_things"] (spHanded K) := by
  refine F.ok sc__law_handed (fun vs H Q E h => ?_) (fun cdv A outer s H vs Q E hr h => ?_)
  · obtain ⟨a, b, xs, rfl, hs, hb, hn, k⟩ := h
    rfl
  · obtain ⟨a, b, xs, rfl, hs, hb, hn, k⟩ := h
    refine ⟨_, PSs.nox (pss_one (ps_ret (pe_ifExp (pt_cmpR op_eq (C8.pe_c c__law_take hr (by decide) rfl (pa_cons (pv 0) (pa_cons pe_int pa_nil))) pe_int (nomark _)) (pe_callTy call_list_of rfl T.list (by decide +kernel) (pa_cons (pv 1) pa_nil)) (pe_callTy call_tuple_of rfl T.tuple (by decide +kernel) (pa_cons (pv 1) pa_nil))))), ?_⟩
    refine ⟨_, rfl, a, 2, rfl, hs, by decide, by decide, fun H1 d e1 hs1 d0 d1 => ?_⟩
    have hb1 := e1.get hs hb hn
    have nn : ∀ q, H1 q = none → H q = none := fun q hq => by
      cases hz : H q with
      | none => rfl
      | some o =>
        by_cases hqa : q = a
        · subst hqa
          obtain ⟨_, _, _, _, _, z, _⟩ := hs1
          rw [z] at hq; cases hq
        · rw [e1.1 _ _ hqa hz] at hq; cases hq
    refine ⟨rfl, _, rfl, ?_⟩
    refine ite2 (fun _ => ?_) (fun _ => ?_)
    · refine ⟨_, rfl, b, xs, rfl, .inl (SqL.of hb1), fun q nq => ?_⟩
      exact k q _ (e1.trans (Same.bus (Same.new nq))) (hs1.same (Same.new nq)) (nn q nq) (.inl upd_same)
    · refine ⟨_, rfl, b, xs, rfl, .inl ⟨SqL.of hb1, fun q nq => ?_⟩⟩
      exact k q _ (e1.trans (Same.bus (Same.new nq))) (hs1.same (Same.new nq)) (nn q nq) (.inr upd_same)
theorem seq_it' {tl : TE} {σ : L2.St} {H H0 : Hp} {R : It → Hp → Prop} {a : Addr} {xs : List V} (hv : Val tl σ H (.ref a)) (h : SeqA H0 a xs) (e0 : Same H0 H)
    (k : ∀ (J : It) (G : Hp → Prop), Walk J xs.length G (YAt xs) → (∀ H', (∀ o, H0 a = some o → H' a = some o) → G H') → R J H) : iOr (iList K tl) (iTup K tl) σ H R := by
  rcases h with h | h
  · exact .inl (hv _ ⟨a, rfl, ⟨xs, SqL.of (e0 _ _ h)⟩, k _ _ walk_list fun H' e => SqL.of (e _ h)⟩)
  · exact .inr (hv _ ⟨a, rfl, ⟨xs, SqT.of (e0 _ _ h)⟩, k _ _ walk_tup fun H' e => SqT.of (e _ h)⟩)
/-! spoil: appends to lists -/
/-- what may be in a told or handed point -/
def Atm (C : Addr) (H : Hp) (v : V) : Prop := (∃ o u, IsN C H v o u) ∨ ∃ z, v = .str z
theorem Atm.nl {H H1 : Hp} {v : V} (e : NL H H1) (h : Atm C H v) : Atm C H1 v := h.imp (fun ⟨o, u, z⟩ => ⟨o, u, z.nl e⟩) id
theorem kIL (K : PySem.W.Frag) : PySem.W.kitOne K (.type "int") (.type "list") = some false := by kernel_rfl
theorem kSL (K : PySem.W.Frag) : PySem.W.kitOne K (.type "str") (.type "list") = some false := by kernel_rfl
theorem kSA (K : PySem.W.Frag) : PySem.W.kitAny K (.type "str") [.type "list", .type "tuple"] = some false := by kernel_rfl
theorem Atm.ty {H : Hp} {v : V} (T : XC K mg C) (h : Atm C H v) : ∃ t, TyX K H v t ∧ PySem.W.kitOne K t (.type "list") = some false ∧ PySem.W.kitAny K t [.type "list", .type "tuple"] = some false := by
  rcases h with ⟨o, u, ⟨rfl, _⟩ | ⟨x, dx, rfl, h⟩⟩ | ⟨z, rfl⟩
  · exact ⟨_, .base (.int o), kIL K, kA1 K⟩
  · exact ⟨_, tyX T h, T.kXL, kA3 T⟩
  · exact ⟨_, .base (.str z), kSL K, kSA K⟩
def spSpA (C : Addr) : Sp := fun vs H Q _ => ∃ v : V, vs = [v] ∧ Atm C H v ∧ ∀ H', Same H H' → Q .non H'
abbrev s__law_spoil : Stmt := top 27
abbrev N__law_spoil : List Str := ["_law_x", "_law_y"]
theorem sc__law_spoil : FnScope N__law_spoil ["_law_x"] (defScope s__law_spoil) := ⟨rfl, rfl, rfl, by decide +kernel, rfl, by decide +kernel, by decide +kernel⟩
-- slots: 0 _law_x, 1 _law_y
theorem ok__law_spoil {f : Addr} {fd : FuncData} (F : FunD K "_law_spoil" "_law_spoil" (defArgs s__law_spoil) (defBody s__law_spoil) (defScope s__law_spoil) [] [] f fd) (T : XC K mg C) : FnOk P w K mg base CX0 1 f fd ["_law_x"] (spSpA C) := by
  refine F.ok sc__law_spoil (fun vs H Q E h => ?_) (fun cdv A outer s H vs Q E hr h => ?_)
  · obtain ⟨v, rfl, hv, k⟩ := h
    rfl
  · obtain ⟨v, rfl, hv, k⟩ := h
    refine ⟨_, PSs.nox (pss_cons (ps_if (pt_val (pe_callB call_isiT rfl T.isinstance (by decide +kernel) (pa_cons (pv 0) (pa_cons (pe_tup (pa_cons (pe_bltn (v := .ty "list") rfl T.list (by decide +kernel) rfl) (pa_cons (pe_bltn (v := .ty "tuple") rfl T.tuple (by decide +kernel) rfl) pa_nil))) pa_nil)))) (pss_one ps_never) pss_nil)
      (pss_one (ps_if (pt_val (pe_callB call_isi rfl T.isinstance (by decide +kernel) (pa_cons (pv 0) (pa_cons (pe_bltn (v := .ty "list") rfl T.list (by decide +kernel) rfl) pa_nil)))) (pss_one ps_never) pss_nil))), ?_⟩
    refine ⟨_, rfl, by show 2 ≤ sizeLine; decide, fun tp n1 => ?_⟩
    generalize q1 : upd H tp _ = H1
    have e1 := nSm q1 n1
    obtain ⟨t, ty, k1, k2⟩ := (hv.nl (Same.nl e1)).ty T
    refine ⟨_, tp, _, _, _, _, rfl, nAt q1, clsLT, ty, k2, _, rfl, iteF ?_⟩
    exact ⟨_, rfl, _, _, _, _, _, rfl, .ty "list", ty, k1, _, rfl, iteF (k _ e1)⟩
/-- all but the lists of A stay -/
def Unl (A : Addr → Prop) (H H' : Hp) : Prop := ∀ b o, H b = some o → (A b → ∀ xs, o ≠ .lst xs) → H' b = some o
theorem Unl.nl {A : Addr → Prop} {H H' : Hp} (h : Unl A H H') : NL H H' := fun b o hb n => h b o hb fun _ => n
theorem Unl.trans {A : Addr → Prop} {H H1 H2 : Hp} (h1 : Unl A H H1) (h2 : Unl A H1 H2) : Unl A H H2 := fun b o hb n => h2 b o (h1 b o hb n) n
theorem Same.unl {A : Addr → Prop} {H H1 : Hp} (e : Same H H1) : Unl A H H1 := fun b o hb _ => e b o hb
theorem Unl.imp {A B : Addr → Prop} {H H1 : Hp} (h : ∀ a, A a → B a) (x : Unl A H H1) : Unl B H H1 := fun b o hb n => x b o hb fun z => n (h b z)
abbrev more : V := .str "more"
def spSpB (C : Addr) : Sp := fun vs H Q _ => ∃ (a : Addr) (xs : List V), vs = [.ref a] ∧ SeqA H a xs ∧ (∀ x ∈ xs, Atm C H x) ∧ xs.length ≤ 2000 ∧ ∀ H', Unl (· = a) H H' → (SeqA H' a xs ∨ H' a = some (.lst (xs ++ [more]))) → Q .non H'
-- slots: 0 _law_x, 1 _law_y
theorem ok__law_spoil_B {f : Addr} {fd : FuncData} (F : FunD K "_law_spoil" "_law_spoil" (defArgs s__law_spoil) (defBody s__law_spoil) (defScope s__law_spoil) [] [] f fd) (T : XC K mg C) (c__law_spoil : C8.Cal P w K mg base 1 "_law_spoil" (spSpA C) []) : FnOk P w K mg base CX0 2 f fd ["_law_x"] (spSpB C) := by
  refine F.ok sc__law_spoil (fun vs H Q E h => ?_) (fun cdv A outer s H vs Q E hr h => ?_)
  · obtain ⟨a, xs, rfl, ha, hx, hl, k⟩ := h
    rfl
  · obtain ⟨a, xs, rfl, ha, hx, hl, k⟩ := h
    refine ⟨_, PSs.nox (Evl.pss_cut (ps_if (pt_val (pe_callB call_isiT rfl T.isinstance (by decide +kernel) (pa_cons (pv 0) (pa_cons (pe_tup (pa_cons (pe_bltn (v := .ty "list") rfl T.list (by decide +kernel) rfl) (pa_cons (pe_bltn (v := .ty "tuple") rfl T.tuple (by decide +kernel) rfl) pa_nil))) pa_nil)))) (pss_one (ps_for PassesOwn.never rfl (pi_seq (pv 0)) (pg_name (i := 1) sc__law_spoil.nd rfl (Or.inl rfl)) (pss_one (ps_expr (C8.pe_c c__law_spoil hr (by decide) rfl (pa_cons (pv 1) pa_nil)))))) pss_nil)
      (pss_one (ps_if (pt_val (pe_callB call_isi rfl T.isinstance (by decide +kernel) (pa_cons (pv 0) (pa_cons (pe_bltn (v := .ty "list") rfl T.list (by decide +kernel) rfl) pa_nil)))) (pss_one (ps_expr (pe_bm PySem.F.plainAttrs_list PySem.F.slot_list_append PySem.F.type_list_append mt_append (pv 0) (pa_cons pe_str pa_nil)))) pss_nil))), ?_⟩
    refine ⟨fun σ' H' => ∃ y, σ' = [some (.ref a), y] ∧ Same H H', ?_, ?_⟩
    · refine ⟨_, rfl, by show 2 ≤ sizeLine; decide, fun tp n1 => ?_⟩
      generalize q1 : upd H tp _ = H1
      have e1 := nSm q1 n1
      obtain ⟨t, ty, ka⟩ := tySeq (K := K) (ha.same e1)
      refine ⟨_, tp, _, _, _, _, rfl, nAt q1, clsLT, ty _ (Same.refl _), ka, _, rfl, iteT ?_⟩
      refine seq_it (a := a) (xs := xs) (fun Q q => ⟨_, rfl, q⟩) ha e1 ?_
      intro J G wk hG
      refine for_it wk (fun i σ H' => ∃ y, σ = [some (.ref a), y] ∧ Same H H') ⟨_, rfl, e1⟩ (fun i σ H' _ ⟨_, _, z⟩ => hG _ z) ?_ (fun σ H' z => z)
      rintro i x σ H2 H2' hi ⟨y, rfl, e2⟩ ⟨rfl, hx'⟩
      exact ⟨_, rfl, x, rfl, (hx x (List.mem_of_getElem? hx')).nl (Same.nl e2), fun H3 e3 => ⟨_, rfl, e2.trans e3⟩⟩
    rintro _ H1 ⟨y, rfl, e1⟩
    rcases ha.same e1 with h1 | h1
    · refine ⟨_, rfl, _, _, _, _, _, rfl, .ty "list", .base (.lst h1), kLL K, _, rfl, iteT ?_⟩
      refine ⟨_, rfl, tyL h1, a, _, _, rfl, rfl, h1, Nat.lt_of_le_of_lt hl (by decide), ?_⟩
      refine k _ (fun b o hb n => ?_) (.inr upd_same)
      by_cases hba : b = a
      · subst hba
        rw [e1 _ _ hb] at h1
        cases h1
        exact absurd rfl (n rfl xs)
      · rw [upd_ne hba]
        exact e1 _ _ hb
    · refine ⟨_, rfl, _, _, _, _, _, rfl, .ty "list", .base (.tup h1), kTL K, _, rfl, iteF ?_⟩
      exact k _ (Same.unl e1) (.inl (.inr h1))
/-- a sequence of such sequences -/
def Two (C : Addr) (H : Hp) (n : Nat) (v : V) : Prop := ∃ b xs, v = .ref b ∧ SeqA H b xs ∧ (∀ x ∈ xs, Atm C H x) ∧ xs.length ≤ n
def spSpC (C : Addr) : Sp := fun vs H Q _ => ∃ (a : Addr) (us : List V), vs = [.ref a] ∧ SeqA H a us ∧ (∀ v ∈ us, Two C H 2 v) ∧ us.length ≤ 1000 ∧ ∀ H', Unl (fun b => b = a ∨ V.ref b ∈ us) H H' → Q .non H'
theorem Two.ne {H : Hp} {a : Addr} {us : List V} {n : Nat} (ha : SeqA H a us) {v : V} (hv : v ∈ us) (h : Two C H n v) : v ≠ .ref a := by
  obtain ⟨b, xs, rfl, hb, hx, _⟩ := h
  intro z
  cases z
  have e : us = xs := by
    rcases ha with h1 | h1 <;> rcases hb with h2 | h2 <;> rw [h1] at h2 <;> cases h2 <;> rfl
  subst e
  have := hx _ hv
  rcases this with ⟨o, u, ⟨z, _⟩ | ⟨x, dx, z, h⟩⟩ | ⟨_, z⟩
  · cases z
  · cases z
    rcases ha with h1 | h1 <;> rw [h1] at h <;> cases h
  · cases z
-- slots: 0 _law_x, 1 _law_y
theorem ok__law_spoil_C {f : Addr} {fd : FuncData} (F : FunD K "_law_spoil" "_law_spoil" (defArgs s__law_spoil) (defBody s__law_spoil) (defScope s__law_spoil) [] [] f fd) (T : XC K mg C) (c__law_spoil : C8.Cal P w K mg base 2 "_law_spoil" (spSpB C) []) : FnOk P w K mg base CX0 3 f fd ["_law_x"] (spSpC C) := by
  refine F.ok sc__law_spoil (fun vs H Q E h => ?_) (fun cdv A outer s H vs Q E hr h => ?_)
  · obtain ⟨a, us, rfl, ha, hx, hl, k⟩ := h
    rfl
  · obtain ⟨a, us, rfl, ha, hx, hl, k⟩ := h
    refine ⟨_, PSs.nox (Evl.pss_cut (ps_if (pt_val (pe_callB call_isiT rfl T.isinstance (by decide +kernel) (pa_cons (pv 0) (pa_cons (pe_tup (pa_cons (pe_bltn (v := .ty "list") rfl T.list (by decide +kernel) rfl) (pa_cons (pe_bltn (v := .ty "tuple") rfl T.tuple (by decide +kernel) rfl) pa_nil))) pa_nil)))) (pss_one (ps_for PassesOwn.never rfl (pi_seq (pv 0)) (pg_name (i := 1) sc__law_spoil.nd rfl (Or.inl rfl)) (pss_one (ps_expr (C8.pe_c c__law_spoil hr (by decide) rfl (pa_cons (pv 1) pa_nil)))))) pss_nil)
      (pss_one (ps_if (pt_val (pe_callB call_isi rfl T.isinstance (by decide +kernel) (pa_cons (pv 0) (pa_cons (pe_bltn (v := .ty "list") rfl T.list (by decide +kernel) rfl) pa_nil)))) (pss_one (ps_expr (pe_bm PySem.F.plainAttrs_list PySem.F.slot_list_append PySem.F.type_list_append mt_append (pv 0) (pa_cons pe_str pa_nil)))) pss_nil))), ?_⟩
    have hne : ∀ v ∈ us, v ≠ .ref a := fun v hv => Two.ne ha hv (hx v hv)
    refine ⟨fun σ' H' => ∃ y, σ' = [some (.ref a), y] ∧ Unl (fun b => V.ref b ∈ us) H H', ?_, ?_⟩
    · refine ⟨_, rfl, by show 2 ≤ sizeLine; decide, fun tp n1 => ?_⟩
      generalize q1 : upd H tp _ = H1
      have e1 := nSm q1 n1
      obtain ⟨t, ty, ka⟩ := tySeq (K := K) (ha.same e1)
      refine ⟨_, tp, _, _, _, _, rfl, nAt q1, clsLT, ty _ (Same.refl _), ka, _, rfl, iteT ?_⟩
      refine seq_it' (a := a) (xs := us) (fun Q q => ⟨_, rfl, q⟩) ha e1 ?_
      intro J G wk hG
      refine for_it wk (fun i σ H' => ∃ y, σ = [some (.ref a), y] ∧ Unl (fun b => V.ref b ∈ us) H H' ∧ ∀ v ∈ us, Two C H' (2 + i) v) ⟨_, rfl, Same.unl e1, fun v hv => ?_⟩ (fun i σ H' _ ⟨_, _, z, _⟩ => hG _ fun o ho => z a o ho fun z => absurd rfl (hne _ z)) ?_ (fun σ H' ⟨y, z1, z2, _⟩ => ⟨y, z1, z2⟩)
      · obtain ⟨b, xs, rfl, g1, g2, g3⟩ := hx v hv
        exact ⟨b, xs, rfl, g1.same e1, fun x hx => (g2 x hx).nl (Same.nl e1), g3⟩
      · rintro i x σ H2 H2' hi ⟨y, rfl, e2, hT⟩ ⟨rfl, hx'⟩
        have hm := List.mem_of_getElem? hx'
        obtain ⟨b, xs, rfl, g1, g2, g3⟩ := hT x hm
        refine ⟨_, rfl, b, xs, rfl, g1, g2, by omega, fun H3 e3 h3 => ⟨_, rfl, e2.trans (e3.imp fun c z => by rw [z]; exact hm), fun v hv => ?_⟩⟩
        obtain ⟨c, zs, rfl, f1, f2, f3⟩ := hT v hv
        by_cases hc : c = b
        · subst hc
          have e : zs = xs := by
            rcases f1 with h1 | h1 <;> rcases g1 with h2 | h2 <;> rw [h1] at h2 <;> cases h2 <;> rfl
          subst e
          rcases h3 with h3 | h3
          · exact ⟨c, zs, rfl, h3, fun x hx => (f2 x hx).nl e3.nl, by omega⟩
          · refine ⟨c, zs ++ [more], rfl, .inl h3, fun x hx => ?_, by simp; omega⟩
            rcases List.mem_append.mp hx with h | h
            · exact (f2 x h).nl e3.nl
            · have : x = more := by simpa using h
              subst this
              exact .inr ⟨_, rfl⟩
        · exact ⟨c, zs, rfl, f1.imp (fun h => e3 _ _ h fun z => absurd z hc) (fun h => e3 _ _ h fun z => absurd z hc), fun x hx => (f2 x hx).nl e3.nl, by omega⟩
    rintro _ H1 ⟨y, rfl, e1⟩
    have ha1 : SeqA H1 a us := ha.imp (fun h => e1 _ _ h fun z => absurd rfl (hne _ z)) (fun h => e1 _ _ h fun z => absurd rfl (hne _ z))
    rcases ha1 with h1 | h1
    · refine ⟨_, rfl, _, _, _, _, _, rfl, .ty "list", .base (.lst h1), kLL K, _, rfl, iteT ?_⟩
      refine ⟨_, rfl, tyL h1, a, _, _, rfl, rfl, h1, Nat.lt_of_le_of_lt hl (by decide), ?_⟩
      refine k _ (fun b o hb n => ?_)
      have hb1 := e1 b o hb fun z => n (.inr z)
      by_cases hba : b = a
      · subst hba
        rw [hb1] at h1
        cases h1
        exact absurd rfl (n (.inl rfl) us)
      · rw [upd_ne hba]
        exact hb1
    · refine ⟨_, rfl, _, _, _, _, _, rfl, .ty "list", .base (.tup h1), kTL K, _, rfl, iteF ?_⟩
      exact k _ (e1.imp fun _ z => .inr z)
end
end LW
set_option Elab.async false
set_option linter.all false
set_option maxRecDepth 100000
set_option maxHeartbeats 4000000
namespace LW
open PySem PySem.Spec PyProof.Rows L2 LV LM
theorem cutMid (xs : List V) (h : 2 ≤ xs.length) : cutV xs (some 1) (some (-1)) = (xs.drop 1).dropLast := by
  have e1 : HT.sIx xs.length 0 (some 1) = 1 := by
    have := HT.sIx_nat xs.length 0 1
    rw [show ((1 : Nat) : Int) = 1 from rfl] at this
    omega
  have e2 : HT.sIx xs.length xs.length (some (-1)) = xs.length - 1 := by
    have : HT.sIx xs.length xs.length (some (-1)) = ((-1 : Int) + (xs.length : Int)).toNat := rfl
    omega
  unfold cutV
  rw [e1, e2, List.dropLast_eq_take, List.length_drop]
section
variable {P : Program} {w : World} {K : PySem.W.Frag} {mg : Str → Option Value} {base : Heap} {C L : Addr}
theorem Crs.same {H H1 : Hp} {r : Addr} {ps : List Pt} (e : Same H H1) (h : Crs H r ps) : Crs H1 r ps := RowsR.nl (R := PtF) PtF.nl (Same.nl e) (fun xs h => e _ _ h) h
theorem ix_tupK {X : Cx} {K : PySem.W.Frag} (h : X.K = K) : IxR X (rIxT K) := by
  subst h
  exact ix_tup
theorem ix_listK {X : Cx} {K : PySem.W.Frag} (h : X.K = K) : IxR X (rIxL K) := by
  subst h
  exact ix_list
/-! sums of the law's fractions -/
section
variable {H : Hp} {x y : V} {a b : Rat} {Q : VK} {E : XK}
theorem faddQ (hx : FQ H x a) (hy : FQ H y b) (ha : Ht 1000 a) (hb : Ht 1000 b) (k : ∀ v H', Same H H' → FQ H' v (a + b) → Q v H') : spFAdd [x, y] H Q E :=
  ⟨_, _, _, _, _, _, rfl, hx, hy, smN ha, smD ha, smN hb, smD hb, Int.mul_ne_zero (den0 a) (den0 b), fun v H' e h => k v H' e (toFQ (Int.mul_ne_zero (den0 a) (den0 b)) (q_add a b) h)⟩
theorem fmulQ (hx : FQ H x a) (hy : FQ H y b) (ha : Ht 1000 a) (hb : Ht 1000 b) (k : ∀ v H', Same H H' → FQ H' v (a * b) → Q v H') : spFMul [x, y] H Q E :=
  ⟨_, _, _, _, _, _, rfl, hx, hy, smN ha, smD ha, smN hb, smD hb, Int.mul_ne_zero (den0 a) (den0 b), fun v H' e h => k v H' e (toFQ (Int.mul_ne_zero (den0 a) (den0 b)) (q_mul a b) h)⟩
theorem flessQ (hx : FQ H x a) (hy : FQ H y b) (ha : Ht 1000 a) (hb : Ht 1000 b) (k : Q (.bl (decide (a < b))) H) : spLess [x, y] H Q E :=
  ⟨_, _, _, _, _, _, rfl, hx, hy, smN ha, smD ha, smN hb, smD hb, fun L hL => by
    rw [hL, dLt]
    exact k⟩
theorem fneg {H1 : Hp} {p : Addr} (h : H1 p = some (.tup [.int (-a.num), .int a.den])) : FQ H1 (.ref p) (-a) := ⟨p, rfl, by rw [Rat.neg_num, Rat.neg_den]; exact h⟩
end
def spOn : Sp := fun vs H Q _ => ∃ (c : Addr) (tv : V) (ps : List Pt) (t : Rat) (p0 pn : Pt), vs = [.ref c, tv] ∧ Crs H c ps ∧ FQ H tv t ∧ Inc ps ∧ HtL ps ∧ Ht 160 t ∧ 2 ≤ ps.length ∧ ps.length ≤ 1000 ∧ ps[0]? = some p0 ∧ ps[ps.length - 1]? = some pn ∧ p0.1 ≤ t ∧ t ≤ pn.1 ∧
  ∀ v H' y, Same H H' → OnL ps t y → FQ H' v y → Q v H'
abbrev s__law_on : Stmt := top 36
abbrev N__law_on : List Str := ["_law_course", "_law_t", "_law_k", "_law_a", "_law_x", "_law_b", "_law_y", "_law_one", "_law_whole", "_law_share"]
theorem sc__law_on : FnScope N__law_on ["_law_course", "_law_t"] (defScope s__law_on) := ⟨rfl, rfl, rfl, by decide +kernel, rfl, by decide +kernel, by decide +kernel⟩
-- slots: 0 _law_course, 1 _law_t, 2 _law_k, 3 _law_a, 4 _law_x, 5 _law_b, 6 _law_y, 7 _law_one, 8 _law_whole, 9 _law_share
theorem ok__law_on {f : Addr} {fd : FuncData} (F : FunD K "_law_on" "_law_on" (defArgs s__law_on) (defBody s__law_on) (defScope s__law_on) [] [] f fd) (T : Bt mg) (c__law_less : C8.Cal P w K mg base 1 "_law_less" spLess []) (c__law_add : C8.Cal P w K mg base 3 "_law_add" spFAdd []) (c__law_mul : C8.Cal P w K mg base 3 "_law_mul" spFMul []) (c__law_frac : C8.Cal P w K mg base 2 "_law_frac" spFrac []) : FnOk P w K mg base CX0 4 f fd ["_law_course", "_law_t"] spOn := by
  refine F.ok sc__law_on (fun vs H Q E h => ?_) (fun cdv A outer s H vs Q E hr h => ?_)
  · obtain ⟨c, tv, ps, t, p0, pn, rfl, ⟨vs, hc, hvs⟩, htv, inc, ht, htt, l2, l3, h0, hn, b0, bn, k⟩ := h
    rfl
  · obtain ⟨c, tv, ps, t, p0, pn, rfl, ⟨vs, hc, hvs⟩, htv, inc, ht, htt, l2, l3, h0, hn, b0, bn, k⟩ := h
    refine ⟨_, PSs.nox (pss_cons (ps_set (i := 2) sc__law_on.nd rfl (Or.inl rfl) (pe_callB call_len_seq rfl T.len (by decide +kernel) (pa_cons (pe_lc (own := [("_law_x", 4)]) (g := (gName 4)) (tt := _) rfl sc__law_on.nd (pi_list (pe_slice sl_list (pv 0) (po_some pe_int) (po_some (pe_un un_neg pe_int)))) (blkOk_by (N := N__law_on) (sc := defScope s__law_on) (by decide +kernel)) (fun _ _ _ _ _ => by exact (pg_name (i := 4) sc__law_on.nd rfl (Or.inl rfl))) (fun _ _ _ _ _ => (pts_one (pt_not (pt_val (C8.pe_c c__law_less hr (by decide) rfl (pa_cons (pv 1) (pa_cons (pe_ix (ix_tupK (K := K) rfl) (pv 4) pe_int (fun _ _ => rfl)) pa_nil))))))) (fun _ _ _ _ _ => by exact (pv 4))) pa_nil)))
      (pss_cons (ps_asg (pe_tup (pa_cons (pe_ix ix_list (pv 0) (pv 2) (fun _ _ => rfl)) (pa_cons (pe_ix ix_list (pv 0) (pe_op op_add (pv 2) pe_int) (fun _ _ => rfl)) pa_nil))) (pg_tup rfl (pgs_cons (pg_tup rfl (pgs_cons (pg_name (i := 3) sc__law_on.nd rfl (Or.inl rfl)) (pgs_cons (pg_name (i := 4) sc__law_on.nd rfl (Or.inl rfl)) pgs_nil))) (pgs_cons (pg_tup rfl (pgs_cons (pg_name (i := 5) sc__law_on.nd rfl (Or.inl rfl)) (pgs_cons (pg_name (i := 6) sc__law_on.nd rfl (Or.inl rfl)) pgs_nil))) pgs_nil))))
      (pss_cons (ps_par (i := 7) (j := 8) rfl sc__law_on.nd rfl rfl (by decide) rfl rfl (pa_cons (C8.pe_c c__law_add hr (by decide) rfl (pa_cons (pv 1) (pa_cons (pe_tup (pa_cons (pe_un un_neg (pe_ix ix_tup (pv 3) pe_int (fun _ _ => rfl))) (pa_cons (pe_ix ix_tup (pv 3) pe_int (fun _ _ => rfl)) pa_nil))) pa_nil))) (pa_cons (C8.pe_c c__law_add hr (by decide) rfl (pa_cons (pv 5) (pa_cons (pe_tup (pa_cons (pe_un un_neg (pe_ix ix_tup (pv 3) pe_int (fun _ _ => rfl))) (pa_cons (pe_ix ix_tup (pv 3) pe_int (fun _ _ => rfl)) pa_nil))) pa_nil))) pa_nil)) rfl)
      (pss_cons (ps_set (i := 9) sc__law_on.nd rfl (Or.inl rfl) (C8.pe_c c__law_frac hr (by decide) rfl (pa_cons (pe_op op_mulG (pe_ix ix_tup (pv 7) pe_int (fun _ _ => rfl)) (pe_ix ix_tup (pv 8) pe_int (fun _ _ => rfl))) (pa_cons (pe_op op_mulG (pe_ix ix_tup (pv 7) pe_int (fun _ _ => rfl)) (pe_ix ix_tup (pv 8) pe_int (fun _ _ => rfl))) pa_nil))))
      (pss_one (ps_ret (C8.pe_c c__law_add hr (by decide) rfl (pa_cons (pv 4) (pa_cons (C8.pe_c c__law_mul hr (by decide) rfl (pa_cons (pv 9) (pa_cons (C8.pe_c c__law_add hr (by decide) rfl (pa_cons (pv 6) (pa_cons (pe_tup (pa_cons (pe_un un_neg (pe_ix (ix_tupK (K := K) rfl) (pv 4) pe_int (fun _ _ => rfl))) (pa_cons (pe_ix (ix_tupK (K := K) rfl) (pv 4) pe_int (fun _ _ => rfl)) pa_nil))) pa_nil))) pa_nil))) pa_nil))))))))), ?_⟩
    have hlen := hvs.len
    have hms : All2 (PtF H) (cutV vs (some 1) (some (-1))) ((ps.drop 1).dropLast) := by
      rw [cutMid vs (by omega)]
      exact (hvs.drop 1).dropLast
    generalize hcut : cutV vs (some 1) (some (-1)) = ms at hms
    obtain ⟨pk, qk, hpk, hqk, hk1, hk2⟩ := cnt_seg inc l2 h0 hn b0 bn
    generalize hmid : (ps.drop 1).dropLast = mid at hms hpk hqk
    have hmem : ∀ p ∈ mid, p ∈ ps := fun p hp => by
      rw [← hmid] at hp
      exact List.mem_of_mem_drop (List.dropLast_subset _ hp)
    refine ⟨_, rfl, _, rfl, _, rfl, _, rfl, c, vs, rfl, SqL.of hc, fun lm nm => ?_⟩
    rw [hcut]
    generalize q1 : upd H lm _ = H1
    have h1 := nAt q1
    have e1 := nSm q1 nm
    refine ⟨lm, rfl, ⟨_, SqL.of h1⟩, fun D nD => ?_⟩
    refine lc_it (walk_list (xs := ms)) (fun i H' => Same H1 H' ∧ ∃ us, H' D = some (.lst us) ∧ us.length = ((mid.take i).filter fun p => decide (p.1 ≤ t)).length) ⟨Same.new nD, [], upd_same, rfl⟩ (fun i H2 _ ⟨e2, _⟩ => SqL.of (e2 _ _ h1)) ?_ ?_
    · rintro i x H2 H3 hi ⟨e2, us, hD, hus⟩ ⟨rfl, hx⟩
      obtain ⟨p, hp, hq⟩ := hms.get hx
      obtain ⟨tp, y1, y2, rfl, htp, f1, f2⟩ := PtF.nl (Same.nl (e1.trans e2)) hq
      refine ⟨rfl, ?_⟩
      have hpm := hmem p (List.mem_of_getElem? hp)
      refine ⟨_, rfl, _, rfl, tp, _, _, _, rfl, rfl, SqT.of htp, rfl, ?_⟩
      refine ⟨_, _, _, _, _, _, rfl, htv.same (e1.trans e2), f1, smN (htt.mono (by decide)), smD (htt.mono (by decide)), smN ((ht p hpm).1.mono (by decide)), smD ((ht p hpm).1.mono (by decide)), fun L hL => ⟨_, rfl, ?_⟩⟩
      rw [dLt] at hL
      subst hL
      have et : mid.take (i + 1) = mid.take i ++ [p] := by rw [List.take_succ, hp]; rfl
      rw [et, List.filter_append]
      by_cases hlt : t < p.1
      · rw [decide_eq_true hlt]
        refine iteF ⟨e2, us, hD, ?_⟩
        rw [List.filter_cons_of_neg (by simp only [decide_eq_true_eq]; grind), List.filter_nil, List.append_nil]
        exact hus
      · rw [decide_eq_false hlt]
        refine iteT ⟨_, rfl, us, hD, ?_, ?_, us ++ [.ref tp], upd_same, ?_⟩
        · rw [hus]
          refine Nat.lt_of_le_of_lt (List.length_filter_le _ _) (Nat.lt_of_le_of_lt (List.length_take_le _ _) ?_)
          have := hms.len
          have hml : mid.length ≤ ps.length := by
            rw [← hmid, List.length_dropLast, List.length_drop]
            omega
          exact Nat.lt_of_lt_of_le (by omega : i < 1000 + 1) (by decide)
        · intro b o hb
          rw [upd_ne (ne_of_none hb nD)]
          exact e2 _ _ hb
        · rw [List.filter_cons_of_pos (by simp only [decide_eq_true_eq]; grind), List.filter_nil]
          simp [hus]
    · rintro H2 ⟨e2, us, hD, hus⟩
      rw [hms.len, List.take_length] at hus
      rw [← hus] at hpk hqk
      refine ⟨D, us, rfl, .inl (SqL.of hD), ?_⟩
      obtain ⟨vp, hvp, fp⟩ := hvs.at hpk
      obtain ⟨vq, hvq, fq⟩ := hvs.at hqk
      have hc2 := e2 _ _ (e1 _ _ hc)
      replace fp := PtF.nl (Same.nl (e1.trans e2)) fp
      replace fq := PtF.nl (Same.nl (e1.trans e2)) fq
      obtain ⟨ap, a1, x1, rfl, hap, ka, kx⟩ := id fp
      obtain ⟨aq, b1, y1, rfl, haq, kb, ky⟩ := id fq
      have hat : atI vs ((us.length : Int) + 1) = some (.ref aq) := atI_nat (j := us.length + 1) hvq
      refine ⟨_, rfl, _, rfl, c, vs, _, _, rfl, rfl, SqL.of hc2, atI_nat hvp, _, rfl, _, rfl, _, _, rfl, rfl, c, vs, _, _, rfl, rfl, SqL.of hc2, hat, by show 2 ≤ sizeLine; decide, fun tp ntp => ?_⟩
      generalize q3 : upd H2 tp _ = H3
      have h3 := nAt q3
      have e3 := nSm q3 ntp
      obtain ⟨aa, rfl, haa⟩ := id ka
      obtain ⟨xx, rfl, hxx⟩ := id kx
      have haa3 := e3 _ _ haa
      have hxx3 := e3 _ _ hxx
      have mp := ht pk (List.mem_of_getElem? hpk)
      have mq := ht qk (List.mem_of_getElem? hqk)
      have u1 : Ht 1000 pk.1 := mp.1.mono (by decide)
      have u2 : Ht 1000 pk.2 := mp.2.mono (by decide)
      have u3 : Ht 1000 qk.1 := mq.1.mono (by decide)
      have u4 : Ht 1000 qk.2 := mq.2.mono (by decide)
      have ut : Ht 1000 t := htt.mono (by decide)
      have lpq : pk.1 < qk.1 := inc_get inc hpk hqk (by omega)
      refine ⟨tp, _, rfl, SqT.of h3, rfl, _, _, rfl, ap, _, rfl, SqT.of (e3 _ _ hap), rfl, _, _, rfl, _, _, rfl, rfl, _, _, rfl, aq, _, rfl, SqT.of (e3 _ _ haq), rfl, _, _, rfl, _, _, rfl, rfl, rfl, ?_⟩
      -- one, whole
      refine ⟨_, rfl, _, rfl, aa, _, _, _, rfl, rfl, SqT.of haa3, rfl, _, rfl, _, rfl, aa, _, _, _, rfl, rfl, SqT.of haa3, rfl, by show 2 ≤ sizeLine; decide, fun n4 m4 => ?_⟩
      generalize q4 : upd H3 n4 _ = H4
      have f4 : FQ H4 (.ref n4) (-pk.1) := fneg (nAt q4)
      have e4 := nSm q4 m4
      refine ⟨_, _, _, _, _, _, rfl, htv.same ((e1.trans e2).trans (e3.trans e4)), f4, smN ut, smD ut, smN u1.neg, smD u1.neg, Int.mul_ne_zero (den0 _) (den0 _), fun v5 H5 e5 k5 => ?_⟩
      replace k5 := toFQ (Int.mul_ne_zero (den0 _) (den0 _)) (q_add (t) (-pk.1)) k5
      have e35 := e4.trans e5
      refine ⟨_, rfl, _, rfl, aa, _, _, _, rfl, rfl, SqT.of (e35 _ _ haa3), rfl, _, rfl, _, rfl, aa, _, _, _, rfl, rfl, SqT.of (e35 _ _ haa3), rfl, by show 2 ≤ sizeLine; decide, fun n6 m6 => ?_⟩
      generalize q6 : upd H5 n6 _ = H6
      have f6 : FQ H6 (.ref n6) (-pk.1) := fneg (nAt q6)
      have e6 := nSm q6 m6
      refine ⟨_, _, _, _, _, _, rfl, kb.same ((e3.trans e35).trans e6), f6, smN u3, smD u3, smN u1.neg, smD u1.neg, Int.mul_ne_zero (den0 _) (den0 _), fun v7 H7 e7 k7 => ?_⟩
      replace k7 := toFQ (Int.mul_ne_zero (den0 _) (den0 _)) (q_add (qk.1) (-pk.1)) k7
      refine ⟨_, _, rfl, ?_⟩
      replace k5 := k5.same (e6.trans e7)
      obtain ⟨a5, rfl, h5⟩ := id k5
      obtain ⟨a7, rfl, h7⟩ := id k7
      have d5 : Ht 321 (t + -pk.1) := htt.add mp.1.neg
      have d7 : Ht 321 (qk.1 + -pk.1) := mq.1.add mp.1.neg
      have n7 : qk.1 + -pk.1 ≠ 0 := by grind
      -- share
      refine ⟨_, rfl, a5, _, _, _, rfl, rfl, SqT.of h5, rfl, _, rfl, a7, _, _, _, rfl, rfl, SqT.of h7, rfl, _, _, rfl, rfl, smul (smN (d5.mono (by decide))) (smD (d7.mono (by decide))), ?_⟩
      refine ⟨_, rfl, a5, _, _, _, rfl, rfl, SqT.of h5, rfl, _, rfl, a7, _, _, _, rfl, rfl, SqT.of h7, rfl, _, _, rfl, rfl, smul (smD (d5.mono (by decide))) (smN (d7.mono (by decide))), ?_⟩
      refine ⟨_, _, rfl, Int.mul_ne_zero (den0 _) (num0 n7), big_mul (smD (d5.mono (by decide))) (smN (d7.mono (by decide))), fun v8 H8 e8 k8 => ?_⟩
      replace k8 := toFQ (Int.mul_ne_zero (den0 _) (num0 n7)) (q_div (t + -pk.1) (qk.1 + -pk.1)) k8
      have e38 : Same H3 H8 := (e35.trans (e6.trans e7)).trans e8
      -- add(x, mul(share, add(y, (-x[0], x[1]))))
      refine ⟨_, rfl, _, rfl, _, rfl, _, rfl, xx, _, _, _, rfl, rfl, SqT.of (e38 _ _ hxx3), rfl, _, rfl, _, rfl, xx, _, _, _, rfl, rfl, SqT.of (e38 _ _ hxx3), rfl, by show 2 ≤ sizeLine; decide, fun n9 m9 => ?_⟩
      generalize q9 : upd H8 n9 _ = H9
      have f9 : FQ H9 (.ref n9) (-pk.2) := fneg (nAt q9)
      have e9 := nSm q9 m9
      refine ⟨_, _, _, _, _, _, rfl, ky.same ((e3.trans e38).trans e9), f9, smN u4, smD u4, smN u2.neg, smD u2.neg, Int.mul_ne_zero (den0 _) (den0 _), fun v10 H10 e10 k10 => ?_⟩
      replace k10 := toFQ (Int.mul_ne_zero (den0 _) (den0 _)) (q_add (qk.2) (-pk.2)) k10
      have d8 : Ht 642 ((t + -pk.1) / (qk.1 + -pk.1)) := d5.div d7 n7
      have d10 : Ht 321 (qk.2 + -pk.2) := mq.2.add mp.2.neg
      refine ⟨_, _, _, _, _, _, rfl, k8.same (e9.trans e10), k10, smN (d8.mono (by decide)), smD (d8.mono (by decide)), smN (d10.mono (by decide)), smD (d10.mono (by decide)), Int.mul_ne_zero (den0 _) (den0 _), fun v11 H11 e11 k11 => ?_⟩
      replace k11 := toFQ (Int.mul_ne_zero (den0 _) (den0 _)) (q_mul ((t + -pk.1) / (qk.1 + -pk.1)) (qk.2 + -pk.2)) k11
      refine ⟨_, _, _, _, _, _, rfl, kx.same ((e3.trans e38).trans ((e9.trans e10).trans e11)), k11, smN u2, smD u2, smN ((d8.mul d10).mono (by decide)), smD ((d8.mul d10).mono (by decide)), Int.mul_ne_zero (den0 _) (den0 _), fun v12 H12 e12 k12 => ?_⟩
      replace k12 := toFQ (Int.mul_ne_zero (den0 _) (den0 _)) (q_add (pk.2) ((t + -pk.1) / (qk.1 + -pk.1) * (qk.2 + -pk.2))) k12
      have ey : pk.2 + (t + -pk.1) / (qk.1 + -pk.1) * (qk.2 + -pk.2) = lin pk qk t := by
        unfold lin slp
        grind
      rw [ey] at k12
      exact k v12 H12 _ (((e1.trans e2).trans (e3.trans e38)).trans ((e9.trans e10).trans (e11.trans e12))) (on_get hpk hqk hk1 hk2) k12
end
end LW
set_option Elab.async false
set_option linter.all false
set_option maxRecDepth 100000
set_option maxHeartbeats 4000000
namespace LW
open PySem PySem.Spec PyProof.Rows L2 LV LM
section
variable {P : Program} {w : World} {K : PySem.W.Frag} {mg : Str → Option Value} {base : Heap} {C L : Addr}
def spBends : Sp := fun vs H Q _ => ∃ (c : Addr) (ps : List Pt), vs = [.ref c] ∧ Crs H c ps ∧ Inc ps ∧ HtL ps ∧ 2 ≤ ps.length ∧ ps.length ≤ 1000 ∧ ∀ r H', Same H H' → H r = none → Crs H' r (bends ps) → Q (.ref r) H'
abbrev s__law_bends : Stmt := top 38
abbrev N__law_bends : List Str := ["_law_course", "_law_found", "_law_k", "_law_far"]
theorem sc__law_bends : FnScope N__law_bends ["_law_course"] (defScope s__law_bends) := ⟨rfl, rfl, rfl, by decide +kernel, rfl, by decide +kernel, by decide +kernel⟩
-- slots: 0 _law_course, 1 _law_found, 2 _law_k, 3 _law_far
theorem ok__law_bends {f : Addr} {fd : FuncData} (F : FunD K "_law_bends" "_law_bends" (defArgs s__law_bends) (defBody s__law_bends) (defScope s__law_bends) [] [] f fd) (T : Bt mg) (c__law_on : C8.Cal P w K mg base 4 "_law_on" spOn []) : FnOk P w K mg base CX0 5 f fd ["_law_course"] spBends := by
  refine F.ok sc__law_bends (fun vs H Q E h => ?_) (fun cdv A outer s H vs Q E hr h => ?_)
  · obtain ⟨c, ps, rfl, ⟨vs, hc, hvs⟩, inc, ht, l2, l3, k⟩ := h
    rfl
  · obtain ⟨c, ps, rfl, ⟨vs, hc, hvs⟩, inc, ht, l2, l3, k⟩ := h
    refine ⟨_, PSs.nox (pss_cons (ps_set (i := 1) sc__law_bends.nd rfl (Or.inl rfl) (pe_lst (pa_cons (pe_ix ix_list (pv 0) pe_int (fun _ _ => rfl)) pa_nil)))
      (pss_cons (ps_for PassesOwn.never rfl (pi_range2 rfl T.range (pa_cons pe_int (pa_cons (pe_callB call_len_seq rfl T.len (by decide +kernel) (pa_cons (pv 0) pa_nil)) pa_nil))) (pg_name (i := 2) sc__law_bends.nd rfl (Or.inl rfl)) (pss_cons (ps_set (i := 3) sc__law_bends.nd rfl (Or.inl rfl) (pe_ifExp (pt_cmpR op_lt (pe_op op_add (pv 2) pe_int) (pe_callB call_len_seq rfl T.len (by decide +kernel) (pa_cons (pv 0) pa_nil)) (nomark _)) (pe_ix ix_list (pv 0) (pe_op op_add (pv 2) pe_int) (fun _ _ => rfl)) pe_non))
      (pss_one (ps_if (PW.pt (pw_or (pt_cmp (pc_isN (pv 3))) (pw_or1 (pt_cmpR (op_neD hr.units) (C8.pe_c c__law_on hr (by decide) rfl (pa_cons (pe_lst (pa_cons (pe_ix ix_list (pv 1) (pe_un un_neg pe_int) (fun _ _ => rfl)) (pa_cons (pv 3) pa_nil))) (pa_cons (pe_ix ix_tup (pe_ix ix_list (pv 0) (pv 2) (fun _ _ => rfl)) pe_int (fun _ _ => rfl)) pa_nil))) (pe_ix ix_tup (pe_ix ix_list (pv 0) (pv 2) (fun _ _ => rfl)) pe_int (fun _ _ => rfl)) (nomark _))))) (pss_one (ps_expr (pe_bm PySem.F.plainAttrs_list PySem.F.slot_list_append PySem.F.type_list_append mt_append (pv 1) (pa_cons (pe_ix ix_list (pv 0) (pv 2) (fun _ _ => rfl)) pa_nil)))) pss_nil))))
      (pss_one (ps_ret (pv 1))))), ?_⟩
    have hlen := hvs.len
    obtain ⟨p0, r0, rfl⟩ : ∃ p0 r0, ps = p0 :: r0 := by
      cases ps with
      | nil => simp at l2
      | cons p r => exact ⟨p, r, rfl⟩
    obtain ⟨v0, hv0, f0⟩ := hvs.at (i := 0) (b := p0) rfl
    refine ⟨_, rfl, c, vs, _, _, rfl, rfl, SqL.of hc, atI_nat (j := 0) hv0, by show 1 ≤ sizeLine; decide, fun fl nf => ?_⟩
    generalize q1 : upd H fl _ = H1
    have h1 := nAt q1
    have e1 := nSm q1 nf
    refine ⟨_, rfl, c, vs, rfl, .inl (SqL.of (e1 _ _ hc)), _, _, rfl, ⟨by decide, by decide, by omega, by rw [hlen]; omega⟩, ?_⟩
    refine for_it (walk_range) (fun i σ H' => ∃ (x2 x3 : Option V) (us : List V) (G : List Pt) (f : Pt), σ = [some (.ref c), some (.ref fl), x2, x3] ∧ Same H H' ∧ H' fl = some (.lst us) ∧ All2 (PtF H') us (G ++ [f]) ∧ bends (p0 :: r0) = G ++ f :: bnd f ((p0 :: r0).drop (i + 1)) ∧ us.length ≤ i + 1 ∧ f ∈ p0 :: r0 ∧ ∀ q ∈ (p0 :: r0).drop (i + 1), f.1 < q.1)
      ⟨_, _, [v0], [], p0, rfl, e1, h1, ⟨PtF.nl (Same.nl e1) f0, trivial⟩, rfl, Nat.le_refl 1, by simp, fun q hq => (List.pairwise_cons.mp inc).1 q (by simpa using hq)⟩ (fun _ _ _ _ _ => trivial) ?_ ?_
    · rintro i x σ H2' H2 hi ⟨x2, x3, us, G, f, rfl, e2, hfl, hus, hb, hle, hf, hlt⟩ ⟨rfl, rfl⟩
      have hi' : i + 1 < (p0 :: r0).length := by
        rw [hlen] at hi
        omega
      have hp : (p0 :: r0)[i + 1]? = some (p0 :: r0)[i + 1] := List.getElem?_eq_getElem hi'
      generalize (p0 :: r0)[i + 1] = p at hp
      obtain ⟨vp, hvp, fp⟩ := hvs.at hp
      replace fp := PtF.nl (Same.nl e2) fp
      have hc2 := e2 _ _ hc
      have ek : (1 + ((i : Nat) : Int)) = ((i + 1 : Nat) : Int) := by omega
      have hatp : atI vs (1 + ((i : Nat) : Int)) = some vp := by
        rw [ek]
        exact atI_nat hvp
      have hd1 : (p0 :: r0).drop (i + 1) = p :: (p0 :: r0).drop (i + 1 + 1) := by
        rw [List.drop_eq_getElem_cons hi']
        rw [List.getElem?_eq_getElem hi'] at hp
        rw [Option.some.inj hp]
      have hfp := hlt p (by rw [hd1]; simp)
      obtain ⟨tG, t2, rfl, gG, g2⟩ := hus.split
      obtain ⟨tf, rfl, gf⟩ := g2.one
      -- what appending gives
      have app : ∀ (D : Ends) (H3 : Hp) (fv : V), Same H2 H3 → bends (p0 :: r0) = (G ++ [f]) ++ p :: bnd p ((p0 :: r0).drop (i + 1 + 1)) →
          (∀ σ' H', (∃ (x2 x3 : Option V) (us : List V) (G : List Pt) (f : Pt), σ' = [some (.ref c), some (.ref fl), x2, x3] ∧ Same H H' ∧ H' fl = some (.lst us) ∧ All2 (PtF H') us (G ++ [f]) ∧ bends (p0 :: r0) = G ++ f :: bnd f ((p0 :: r0).drop (i + 1 + 1)) ∧ us.length ≤ i + 1 + 1 ∧ f ∈ p0 :: r0 ∧ ∀ q ∈ (p0 :: r0).drop (i + 1 + 1), f.1 < q.1) → D.nx σ' H') →
          tDrop (tBM K "list" rAppend (tVar 1) (tCons (tOp (rIxL K) (tVar 0) (tVar 2)) tNil)) D [some (.ref c), some (.ref fl), some (.int (1 + ((i : Nat) : Int))), some fv] H3 := by
        intro D H3 fv e3 hb3 kD
        have hfl3 := e3 _ _ hfl
        refine ⟨_, rfl, tyL hfl3, _, rfl, _, rfl, c, vs, _, _, rfl, rfl, SqL.of (e3 _ _ hc2), hatp, fl, _, _, rfl, rfl, hfl3, ?_, ?_⟩
        · exact Nat.lt_of_le_of_lt hle (Nat.lt_of_lt_of_le (by omega : i + 1 < 1000 + 1) (by decide))
        · generalize q4 : upd H3 fl _ = H4
          have h4 := nAt q4
          have b4 : NL H3 H4 := But.nl hfl3 (by rw [← q4]; exact (But.refl fl H3).upd)
          refine kD _ _ ⟨_, _, tG ++ [tf] ++ [vp], G ++ [f], p, rfl, fun b o hb => ?_, h4, ?_, hb3, by simp at hle ⊢; omega, List.mem_of_getElem? hp, fun q hq => ?_⟩
          · rw [← q4, upd_ne (ne_of_none hb nf)]
            exact e3 _ _ (e2 _ _ hb)
          · exact ((gG.snoc gf).snoc fp).imp fun _ _ z => PtF.nl ((Same.nl e3).trans b4) z
          · have := List.Pairwise.sublist (List.drop_sublist (i + 1) (p0 :: r0)) inc
            rw [hd1] at this
            exact (List.pairwise_cons.mp this).1 q hq
      by_cases hlast : i + 2 < (p0 :: r0).length
      · have hq : (p0 :: r0)[i + 2]? = some (p0 :: r0)[i + 2] := List.getElem?_eq_getElem hlast
        generalize (p0 :: r0)[i + 2] = q at hq
        obtain ⟨vq, hvq, fq⟩ := hvs.at hq
        replace fq := PtF.nl (Same.nl e2) fq
        have ek2 : (1 + ((i : Nat) : Int) + 1) = ((i + 2 : Nat) : Int) := by omega
        have hatq : atI vs (1 + ((i : Nat) : Int) + 1) = some vq := by
          rw [ek2]
          exact atI_nat hvq
        have zl : decide ((1 + ((i : Nat) : Int) + 1) < ((vs.length : Nat) : Int)) = true := decide_eq_true (by rw [hlen]; omega)
        have hpq := inc_get inc hp hq (by omega)
        have hd2 : (p0 :: r0).drop (i + 1 + 1) = q :: (p0 :: r0).drop (i + 1 + 1 + 1) := by
          rw [List.drop_eq_getElem_cons hlast]
          rw [List.getElem?_eq_getElem hlast] at hq
          rw [Option.some.inj hq]
        refine ⟨_, rfl, _, _, rfl, rfl, _, rfl, c, vs, rfl, .inl (SqL.of hc2), _, _, rfl, rfl, _, rfl, ?_⟩
        rw [zl]
        refine iteT ⟨_, rfl, _, rfl, _, _, rfl, rfl, c, vs, _, _, rfl, rfl, SqL.of hc2, hatq, ?_⟩
        obtain ⟨aq, b1, y1, rfl, haq, kb, ky⟩ := id fq
        obtain ⟨ap, a1, x1, rfl, hap, ka, kx⟩ := id fp
        have zn : decide (V.ref aq = V.non) = false := decide_eq_false (by intro z; cases z)
        refine ⟨_, rfl, _, rfl, ?_⟩
        rw [zn]
        refine iteF ⟨_, rfl, _, rfl, fl, _, _, _, rfl, rfl, SqL.of hfl, atI_last tG tf, _, rfl, by show 2 ≤ sizeLine; decide, fun l2 nl2 => ?_⟩
        generalize q3 : upd H2 l2 _ = H3
        have h3 := nAt q3
        have e3 := nSm q3 nl2
        have mp := ht p (List.mem_of_getElem? hp)
        have mq := ht q (List.mem_of_getElem? hq)
        refine ⟨_, rfl, _, rfl, c, vs, _, _, rfl, rfl, SqL.of (e3 _ _ hc2), hatp, ap, _, _, _, rfl, rfl, SqT.of (e3 _ _ hap), rfl, ?_⟩
        refine ⟨l2, _, [f, q], p.1, f, q, rfl, ⟨[tf, .ref aq], h3, PtF.nl (Same.nl e3) gf, PtF.nl (Same.nl e3) fq, trivial⟩, ka.same e3, ?_, ?_, mp.1, Nat.le_refl 2, (by show 2 ≤ 1000; decide), rfl, rfl, by grind, by grind, fun v H4 y e4 ho k4 => ?_⟩
        · exact List.pairwise_cons.mpr ⟨fun z hz => by
            have : z = q := by simpa using hz
            rw [this]
            grind, by simp⟩
        · intro z hz
          simp only [List.mem_cons, List.not_mem_nil, or_false] at hz
          rcases hz with rfl | rfl
          · exact ht _ hf
          · exact mq
        · have ey : y = lin f q p.1 := by
            rcases ho with ⟨_, _, e⟩ | z
            · exact e
            · exact z.elim
          have e34 := e3.trans e4
          refine ⟨_, rfl, _, rfl, c, vs, _, _, rfl, rfl, SqL.of (e34 _ _ hc2), hatp, ap, _, _, _, rfl, rfl, SqT.of (e34 _ _ hap), rfl, ?_⟩
          refine ⟨_, _, dpF k4, dpF (kx.same e34), shF _ _, shF _ _, _, rfl, ?_⟩
          rw [eqFF, dEq]
          have hcol := col_iff hfp hpq
          rw [← ey] at hcol
          by_cases hc : slp f p = slp p q
          · rw [decide_eq_true (hcol.mp hc)]
            refine iteF ⟨_, _, tG ++ [tf], G, f, rfl, e2.trans e34, e34 _ _ hfl, (gG.snoc gf).imp fun _ _ z => PtF.nl (Same.nl e34) z, ?_, by omega, hf, fun z hz => hlt z (by rw [hd1]; exact List.mem_cons_of_mem _ hz)⟩
            rw [hb, hd1, hd2, bnd, if_pos hc]
          · rw [decide_eq_false (fun z => hc (hcol.mpr z))]
            refine iteT (app _ H4 _ e34 ?_ (fun _ _ z => z))
            rw [hb, hd1, hd2, bnd, if_neg hc]
            simp
      · have hd2 : (p0 :: r0).drop (i + 1 + 1) = [] := List.drop_of_length_le (by omega)
        have zl : decide ((1 + ((i : Nat) : Int) + 1) < ((vs.length : Nat) : Int)) = false := decide_eq_false (by rw [hlen]; omega)
        refine ⟨_, rfl, _, _, rfl, rfl, _, rfl, c, vs, rfl, .inl (SqL.of hc2), _, _, rfl, rfl, _, rfl, ?_⟩
        rw [zl]
        refine iteF ⟨_, rfl, _, rfl, iteT (iteT (app _ H2 _ (Same.refl _) ?_ (fun _ _ z => z)))⟩
        rw [hb, hd1, hd2, bnd]
        simp [bnd]
    · rintro σ H' ⟨x2, x3, us, G, f, rfl, e2, hfl, hus, hb, hle, hf, hlt⟩
      refine ⟨_, rfl, k fl H' e2 nf ⟨us, hfl, ?_⟩⟩
      rw [hb]
      have hd : (p0 :: r0).drop ((((vs.length : Nat) : Int) - 1).toNat + 1) = [] := List.drop_of_length_le (by rw [hlen]; omega)
      rw [hd]
      exact hus
/-! a drawn course -/
theorem Stt.nl {H H' : Hp} {a : Addr} (s : Stt K H a) (e : Bus a H H') : NL H H' := by
  obtain ⟨_, _, _, _, _, h, _⟩ := s
  exact But.nl h e.1
theorem half_lt {t s : Int} (d : Int) (hd : 0 < d) (h : t < s) : Rat.divInt t d < Rat.divInt s d := by
  rw [Rat.divInt_eq_div, Rat.divInt_eq_div]
  have h1 := Rat.intCast_lt_intCast.mpr h
  have h2 : ((0 : Int) : Rat) < ((d : Int) : Rat) := Rat.intCast_lt_intCast.mpr hd
  generalize ((t : Int) : Rat) = a at *
  generalize ((s : Int) : Rat) = b at *
  generalize ((d : Int) : Rat) = c at *
  have h3 : (0 : Rat) < c := by simpa using h2
  have : b / c - a / c = (b - a) / c := by grind
  have h4 : 0 < (b - a) / c := by
    rw [Rat.div_def]
    exact Rat.mul_pos (by grind) (Rat.inv_pos.mpr h3)
  grind
def Ht20 (p : Pt) : Prop := Ht 20 p.1 ∧ Ht 20 p.2
def spCrs (K : PySem.W.Frag) : Sp := fun vs H Q _ => ∃ a : Addr, vs = [.ref a] ∧ Stt K H a ∧ ∀ c H' ps, Bus a H H' → Stt K H' a → Apt H' a c → H c = none → Crs H' c ps → Inc ps → 2 ≤ ps.length → ps.length ≤ 8 → (∀ p ∈ ps, Ht20 p) → Q (.ref c) H'
abbrev s__law_course_of : Stmt := top 37
abbrev N__law_course_of : List Str := ["_law_state", "_law_t", "_law_x", "_law_found", "_law_tilt", "_law_k", "_law_span"]
theorem sc__law_course_of : FnScope N__law_course_of ["_law_state"] (defScope s__law_course_of) := ⟨rfl, rfl, rfl, by decide +kernel, rfl, by decide +kernel, by decide +kernel⟩
-- slots: 0 _law_state, 1 _law_t, 2 _law_x, 3 _law_found, 4 _law_tilt, 5 _law_k, 6 _law_span
theorem ok__law_course_of {f : Addr} {fd : FuncData} (F : FunD K "_law_course_of" "_law_course_of" (defArgs s__law_course_of) (defBody s__law_course_of) (defScope s__law_course_of) [] [] f fd) (T : Bt mg) (c__law_take : C8.Cal P w K mg base 2 "_law_take" (spTake K) []) (c__law_frac : C8.Cal P w K mg base 2 "_law_frac" spFrac []) : FnOk P w K mg base CX0 3 f fd ["_law_state"] (spCrs K) := by
  refine F.ok sc__law_course_of (fun vs H Q E h => ?_) (fun cdv A outer s H vs Q E hr h => ?_)
  · obtain ⟨a, rfl, hs, k⟩ := h
    rfl
  · obtain ⟨a, rfl, hs, k⟩ := h
    refine ⟨_, PSs.nox (pss_cons (ps_par3 (i := 1) (j := 2) (l := 3) rfl sc__law_course_of.nd rfl rfl rfl (by decide) (by decide) (by decide) rfl rfl rfl (pa_cons (pe_op op_sub (C8.pe_c c__law_take hr (by decide) rfl (pa_cons (pv 0) (pa_cons pe_int pa_nil))) pe_int) (pa_cons (pe_op op_sub (C8.pe_c c__law_take hr (by decide) rfl (pa_cons (pv 0) (pa_cons pe_int pa_nil))) pe_int) (pa_cons (pe_lst pa_nil) pa_nil))) rfl)
      (pss_cons (ps_set (i := 4) sc__law_course_of.nd rfl (Or.inl rfl) pe_int)
      (pss_cons (ps_for PassesOwn.never rfl (pi_range1 rfl T.range (pa_cons (pe_op op_add pe_int (C8.pe_c c__law_take hr (by decide) rfl (pa_cons (pv 0) (pa_cons pe_int pa_nil)))) pa_nil)) (pg_name (i := 5) sc__law_course_of.nd rfl (Or.inl rfl)) (pss_cons (ps_expr (pe_bm PySem.F.plainAttrs_list PySem.F.slot_list_append PySem.F.type_list_append mt_append (pv 3) (pa_cons (pe_tup (pa_cons (C8.pe_c c__law_frac hr (by decide) rfl (pa_cons (pv 1) (pa_cons pe_int pa_nil))) (pa_cons (C8.pe_c c__law_frac hr (by decide) rfl (pa_cons (pv 2) (pa_cons pe_int pa_nil))) pa_nil))) pa_nil)))
      (pss_cons (ps_set (i := 6) sc__law_course_of.nd rfl (Or.inl rfl) (pe_op op_add pe_int (C8.pe_c c__law_take hr (by decide) rfl (pa_cons (pv 0) (pa_cons pe_int pa_nil)))))
      (Evl.pss_cut (ps_set (i := 4) sc__law_course_of.nd rfl (Or.inl rfl) (pe_ifExp (pt_cmpR op_eq (C8.pe_c c__law_take hr (by decide) rfl (pa_cons (pv 0) (pa_cons pe_int pa_nil))) pe_int (nomark _)) (pv 4) (pe_op op_sub (C8.pe_c c__law_take hr (by decide) rfl (pa_cons (pv 0) (pa_cons pe_int pa_nil))) pe_int)))
      (pss_one (ps_par (i := 1) (j := 2) rfl sc__law_course_of.nd rfl rfl (by decide) rfl rfl (pa_cons (pe_op op_add (pv 1) (pv 6)) (pa_cons (pe_op op_add (pv 2) (pe_op op_mulG (pv 4) (pv 6))) pa_nil)) rfl))))))
      (pss_one (ps_ret (pv 3)))))), ?_⟩
    refine ⟨_, rfl, a, 9, rfl, hs, by decide, by decide, fun H1 d1 e1 hs1 d10 d11 => ?_⟩
    refine ⟨_, _, rfl, rfl, _, rfl, a, 30, rfl, hs1, by decide, by decide, fun H2 d2 e2 hs2 d20 d21 => ?_⟩
    refine ⟨_, _, rfl, rfl, Nat.zero_le _, fun fl nf => ?_⟩
    generalize q3 : upd H2 fl _ = H3
    have h3 := nAt q3
    have e3 := nSm q3 nf
    have hs3 := hs2.same e3
    have ap3 : Apt H3 a fl := (Apt.new hs2 nf).same hs2 e3
    have nfa := ap3.1
    have nfH : H fl = none := by
      cases hz : H fl with
      | none => rfl
      | some o => rw [e2.1 _ _ nfa (e1.1 _ _ nfa hz)] at nf; cases nf
    refine ⟨_, _, _, rfl, ?_⟩
    refine ⟨_, rfl, a, 6, rfl, hs3, by decide, by decide, fun H4 d4 e4 hs4 d40 d41 => ?_⟩
    refine ⟨_, _, rfl, rfl, _, rfl, by omega, by omega, ?_⟩
    have e04 : Bus a H H4 := ((e1.trans e2).trans (Same.bus e3)).trans e4
    refine for_it (walk_range) (fun i σ H' => ∃ (t x tl : Int) (us : List V) (ps : List Pt) (x5 x6 : Option V), σ = [some (.ref a), some (.int t), some (.int x), some (.ref fl), some (.int tl), x5, x6] ∧ Bus a H H' ∧ Stt K H' a ∧ Apt H' a fl ∧ H' fl = some (.lst us) ∧ All2 (PtF H') us ps ∧ ps.length = i ∧ Inc ps ∧ (∀ p ∈ ps, Ht20 p ∧ p.1 < Rat.divInt t 2) ∧ t.natAbs ≤ 8 + 4 * i ∧ x.natAbs ≤ 40 + 12 * i ∧ tl.natAbs ≤ 3) ?_ (fun _ _ _ _ _ => trivial) ?_ ?_
    · exact ⟨_, _, 0, [], [], _, _, rfl, e04, hs4, ap3.bus hs3 e4, e4.1 _ _ nfa h3, trivial, rfl, List.Pairwise.nil, fun p hp => by simp at hp, by omega, by omega, by decide⟩
    · rintro i z σ H5' H5 hi ⟨t, x, tl, us, ps, x5, x6, rfl, e5, hs5, ap5, hfl, hus, hlen, inc, hps, bt, bx, btl⟩ ⟨rfl, rfl⟩
      have hi8 : i < 8 := by
        have : i < (2 + d4).toNat := hi
        omega
      refine ⟨_, rfl, tyL hfl, _, rfl, _, _, rfl, by decide, by decide, fun v1 H6 e6 k1 => ?_⟩
      replace k1 := toFQ (by decide) rfl k1
      refine ⟨_, rfl, _, _, rfl, by decide, by decide, fun v2 H7 e7 k2 => ?_⟩
      replace k2 := toFQ (by decide) rfl k2
      refine ⟨by show 2 ≤ sizeLine; decide, fun tp ntp => ?_⟩
      generalize q8 : upd H7 tp _ = H8
      have h8 := nAt q8
      have e8 := nSm q8 ntp
      have e58 : Same H5 H8 := (e6.trans e7).trans e8
      have hfl8 := e58 _ _ hfl
      refine ⟨fl, us, _, rfl, rfl, hfl8, ?_, ?_⟩
      · rw [hus.len, hlen]
        exact Nat.lt_of_lt_of_le hi8 (by decide)
      generalize q9 : upd H8 fl _ = H9
      have h9 := nAt q9
      have b9 : But fl H8 H9 := by rw [← q9]; exact (But.refl fl H8).upd
      have n9 : NL H8 H9 := But.nl hfl8 b9
      have hs8 := hs5.same e58
      have ap8 := ap5.same hs5 e58
      have hs9 : Stt K H9 a := hs8.but ap8 b9
      have cell : ∀ {c n l m}, H8 a = some (stL c n l m) → H9 a = some (stL c n l m) := fun h => b9 _ _ ap8.1.symm h
      have ap9 : Apt H9 a fl := by
        obtain ⟨c, ns, n, l, m, g1, _⟩ := hs8
        refine ⟨ap8.1, fun c2 n2 l2 m2 g2 => ?_⟩
        rw [cell g1] at g2
        cases g2
        exact ap8.2 _ _ _ _ g1
      have e09 : Bus a H H9 := ⟨fun b o hb ho => by
          by_cases hbf : b = fl
          · subst hbf
            rw [ho] at nfH
            cases nfH
          · exact b9 _ _ hbf (e58 _ _ (e5.1 _ _ hb ho)), fun c n l m h => by
          obtain ⟨n', l', m', h'⟩ := e5.2 c n l m h
          exact ⟨n', l', m', cell (e58 _ _ h')⟩⟩
      have hus9 : All2 (PtF H9) (us ++ [.ref tp]) (ps ++ [(Rat.divInt t 2, Rat.divInt x 3)]) :=
        (hus.imp fun _ _ z => PtF.nl ((Same.nl e58).trans n9) z).snoc (PtF.nl n9 ⟨tp, v1, v2, rfl, h8, k1.same (e7.trans e8), k2.same e8⟩)
      have hnew : Ht20 (Rat.divInt t 2, Rat.divInt x 3) := ⟨ht_div (by decide) (by show t.natAbs < 2 ^ 20; omega) (by decide), ht_div (by decide) (by show x.natAbs < 2 ^ 20; omega) (by decide)⟩
      have inc9 : Inc (ps ++ [(Rat.divInt t 2, Rat.divInt x 3)]) := by
        refine List.pairwise_append.mpr ⟨inc, by simp, fun p hp q hq => ?_⟩
        have : q = (Rat.divInt t 2, Rat.divInt x 3) := by simpa using hq
        rw [this]
        exact (hps p hp).2
      clear q8 q9 k1 k2 h8
      -- span
      refine ⟨_, rfl, a, 4, rfl, hs9, by decide, by decide, fun H10 d10 e10 hs10 d100 d101 => ?_⟩
      refine ⟨_, _, rfl, rfl, ?_⟩
      -- tilt
      refine ⟨fun σ' H' => ∃ tl' : Int, σ' = [some (.ref a), some (.int t), some (.int x), some (.ref fl), some (.int tl'), some (.int (0 + (i : Nat))), some (.int (1 + d10))] ∧ Bus a H10 H' ∧ Stt K H' a ∧ tl'.natAbs ≤ 3, ?_, ?_⟩
      · refine ⟨_, rfl, a, 2, rfl, hs10, by decide, by decide, fun H11 d11 e11 hs11 d110 d111 => ?_⟩
        refine ⟨rfl, _, rfl, ?_⟩
        refine ite2 (fun _ => ⟨_, rfl, tl, rfl, e11, hs11, btl⟩) (fun _ => ?_)
        refine ⟨_, rfl, a, 7, rfl, hs11, by decide, by decide, fun H12 d12 e12 hs12 d120 d121 => ?_⟩
        exact ⟨_, _, rfl, rfl, _, rfl, e11.trans e12, hs12, by omega⟩
      rintro _ H11 ⟨tl', rfl, e11, hs11, btl'⟩
      have e911 := e10.trans e11
      refine ⟨_, rfl, _, rfl, _, _, rfl, rfl, _, rfl, _, rfl, _, rfl, _, _, rfl, rfl, ?_, _, _, rfl, rfl, _, _, rfl, ?_⟩
      · exact mulS (by omega)
      refine ⟨t + (1 + d10), x + tl' * (1 + d10), tl', us ++ [.ref tp], ps ++ [(Rat.divInt t 2, Rat.divInt x 3)], _, _, rfl, e09.trans e911, hs11, ap9.bus hs9 e911, e911.1 _ _ nfa h9, hus9.imp fun _ _ z => PtF.nl (Stt.nl hs9 e911) z, by simp [hlen], inc9, fun p hp => ?_, by omega, ?_, btl'⟩
      · have hl : Rat.divInt t 2 < Rat.divInt (t + (1 + d10)) 2 := half_lt 2 (by decide) (by omega)
        rcases List.mem_append.mp hp with h | h
        · exact ⟨(hps p h).1, by have := (hps p h).2; grind⟩
        · have : p = (Rat.divInt t 2, Rat.divInt x 3) := by simpa using h
          subst this
          exact ⟨hnew, hl⟩
      · have h1 : (tl' * (1 + d10)).natAbs = tl'.natAbs * (1 + d10).natAbs := Int.natAbs_mul _ _
        have h2 : tl'.natAbs * (1 + d10).natAbs ≤ 3 * 4 := Nat.mul_le_mul btl' (by omega)
        omega
    · rintro σ H' ⟨t, x, tl, us, ps, x5, x6, rfl, e5, hs5, ap5, hfl, hus, hlen, inc, hps, _⟩
      have hl : ps.length = (2 + d4).toNat := hlen
      exact ⟨_, rfl, k fl H' ps e5 hs5 ap5 nfH ⟨us, hfl, hus⟩ inc (by omega) (by omega) fun p hp => (hps p hp).1⟩
end
end LW
set_option Elab.async false
set_option linter.all false
set_option maxRecDepth 100000
set_option maxHeartbeats 4000000
namespace LW
open PySem PySem.Spec PyProof.Rows L2 LV LM
theorem walk_zipT {K : PySem.W.Frag} {a b : Addr} {xs ys : List V} {n : Nat} (hn : n = min xs.length ys.length) : Walk (RZ.ItzT K a b) n (fun H => SqT K H a xs ∧ SqT K H b ys) (YPair (fun i => xs[i]?) (fun i => ys[i]?)) := by
  subst hn
  refine ⟨fun i _ hi q => ?_, fun _ q => ⟨xs, ys, q.1, q.2, by omega⟩, fun i H v H' _ q y => ?_⟩
  · have h1 : i < xs.length := by omega
    have h2 : i < ys.length := by omega
    exact ⟨xs, ys, xs[i], ys[i], q.1, q.2, by simp [h1], by simp [h2]⟩
  · obtain ⟨T, x, z, h1, h2, h3, h4, h5⟩ := y
    exact ⟨T, x, z, h1, h2, h3, h4 xs q.1, h5 ys q.2⟩
section
variable {P : Program} {w : World} {K : PySem.W.Frag} {mg : Str → Option Value} {base : Heap} {C L : Addr}
theorem TN.sameN {H : Hp} {v d : V} {o u : Int} (h1 : TN C H v o u) (h2 : TN C H d o u) : SameN C H v d := by
  rcases h1 with ⟨_, rfl⟩ | ⟨n, x⟩
  · rcases h2 with ⟨_, rfl⟩ | ⟨n, _⟩
    · exact .inl ⟨_, rfl, rfl⟩
    · exact absurd (by assumption) n
  · rcases h2 with ⟨e, _⟩ | ⟨_, y⟩
    · exact absurd e n
    · exact .inr ⟨_, _, x, y⟩
def spToldT (C : Addr) : Sp := fun vs H Q _ => ∃ (v d : V) (p : Pt), vs = [v, d] ∧ PtT C H v p ∧ PtT C H d p ∧ ∀ H', Same H H' → Q (.bl true) H'
-- slots: 0 _law_x, 1 _law_due, 2 _law_a, 3 _law_b
theorem ok__law_is_told_T {f : Addr} {fd : FuncData} (F : FunD K "_law_is_told" "_law_is_told" (defArgs s__law_is_told) (defBody s__law_is_told) (defScope s__law_is_told) [] [] f fd) (T : XC K mg C) (c__law_is_told : C8.Cal P w K mg base 2 "_law_is_told" (spToldI C) []) : FnOk P w K mg base CX0 3 f fd ["_law_x", "_law_due"] (spToldT C) := by
  refine F.ok sc__law_is_told (fun vs H Q E h => ?_) (fun cdv A outer s H vs Q E hr h => ?_)
  · obtain ⟨v, d, p, rfl, ⟨la, x1, x2, rfl, hx, q1, q2⟩, ⟨lb, y1, y2, rfl, hy, r1, r2⟩, k⟩ := h
    rfl
  · obtain ⟨v, d, p, rfl, ⟨la, x1, x2, rfl, hx, q1, q2⟩, ⟨lb, y1, y2, rfl, hy, r1, r2⟩, k⟩ := h
    refine ⟨_, PSs.nox (pss_cons (ps_if (pt_val (pe_callB call_isiT rfl T.isinstance (by decide +kernel) (pa_cons (pv 1) (pa_cons (pe_tup (pa_cons (pe_bltn (v := .ty "list") rfl T.list (by decide +kernel) rfl) (pa_cons (pe_bltn (v := .ty "tuple") rfl T.tuple (by decide +kernel) rfl) pa_nil))) pa_nil)))) (pss_cons (ps_if (PW.pt (pw_or (pt_cmpR op_ne (pe_callB call_isi rfl T.isinstance (by decide +kernel) (pa_cons (pv 0) (pa_cons (pe_bltn (v := .ty "list") rfl T.list (by decide +kernel) rfl) pa_nil))) (pe_callB call_isi rfl T.isinstance (by decide +kernel) (pa_cons (pv 1) (pa_cons (pe_bltn (v := .ty "list") rfl T.list (by decide +kernel) rfl) pa_nil))) (nomark _)) (pw_or1 (pt_cmpR op_ne (pe_callB call_isi rfl T.isinstance (by decide +kernel) (pa_cons (pv 0) (pa_cons (pe_bltn (v := .ty "tuple") rfl T.tuple (by decide +kernel) rfl) pa_nil))) (pe_callB call_isi rfl T.isinstance (by decide +kernel) (pa_cons (pv 1) (pa_cons (pe_bltn (v := .ty "tuple") rfl T.tuple (by decide +kernel) rfl) pa_nil))) (nomark _))))) (pss_one (ps_ret pe_bl)) pss_nil)
      (pss_one (ps_ret (pe_and (pe_cmpR op_eq (pe_callB call_len_seq rfl T.len (by decide +kernel) (pa_cons (pv 0) pa_nil)) (pe_callB call_len_seq rfl T.len (by decide +kernel) (pa_cons (pv 1) pa_nil)) (nomark _)) (pe_one (pe_callB (cr_all rfl) rfl T.all (by decide +kernel) (pa_cons (pe_lc (own := [("_law_a", 2), ("_law_b", 3)]) (g := (gTup K 2 (gCons (gName 2) (gCons (gName 3) gNil)))) (tt := tYes) rfl sc__law_is_told.nd (RZ.pi_zipA rfl T.zip (pa_cons (pv 0) (pa_cons (pv 1) pa_nil))) (blkOk_by (N := N__law_is_told) (sc := defScope s__law_is_told) (by decide +kernel)) (fun _ _ _ _ _ => by exact (pg_tup rfl (pgs_cons (pg_name (i := 2) sc__law_is_told.nd rfl (Or.inl rfl)) (pgs_cons (pg_name (i := 3) sc__law_is_told.nd rfl (Or.inl rfl)) pgs_nil)))) (fun _ _ _ _ _ => pts_nil) (fun _ _ _ _ _ => by exact (C8.pe_c c__law_is_told hr (by decide) rfl (pa_cons (pv 2) (pa_cons (pv 3) pa_nil))))) pa_nil))))))) pss_nil)
      (pss_cons ps_never
      (pss_one ps_never))), ?_⟩
    refine ⟨_, rfl, by show 2 ≤ sizeLine; decide, fun tp n1 => ?_⟩
    generalize g1 : upd H tp _ = H1
    have e1 := nSm g1 n1
    have hx1 := e1 _ _ hx
    have hy1 := e1 _ _ hy
    refine ⟨_, tp, _, _, _, _, rfl, nAt g1, clsLT, .base (.tup hy1), kA5 K, _, rfl, iteT ?_⟩
    refine ⟨_, rfl, _, _, _, _, _, rfl, .ty "list", .base (.tup hx1), kTL K, _, rfl, _, _, _, _, _, rfl, .ty "list", .base (.tup hy1), kTL K, rfl, _, rfl, iteF ?_⟩
    refine ⟨_, rfl, _, _, _, _, _, rfl, .ty "tuple", .base (.tup hx1), kTT K, _, rfl, _, _, _, _, _, rfl, .ty "tuple", .base (.tup hy1), kTT K, rfl, _, rfl, iteF ?_⟩
    refine ⟨_, rfl, la, _, rfl, .inr (SqT.of hx1), _, rfl, lb, _, rfl, .inr (SqT.of hy1), rfl, _, rfl, iteT ?_⟩
    refine ⟨_, rfl, _, rfl, la, lb, _, _, rfl, .inr ⟨SqT.of hx1, SqT.of hy1, fun D nD => ?_⟩⟩
    refine lc_it (walk_zipT (xs := [x1, x2]) (ys := [y1, y2]) (n := 2) rfl) (fun i H2 => Same H1 H2 ∧ H2 D = some (.lst (List.replicate i (.bl true)))) ⟨Same.new nD, upd_same⟩ (fun i H2 _ ⟨e2, _⟩ => ⟨SqT.of (e2 _ _ hx1), SqT.of (e2 _ _ hy1)⟩) ?_ ?_
    · rintro i x H2 H3 hi ⟨e2, h2⟩ ⟨T5, a, b, rfl, nT, rfl, ha, hb⟩
      have hs0 : SameN C H a b := by
        rcases i with _ | _ | i
        · cases ha; cases hb; exact TN.sameN q1 r1
        · cases ha; cases hb; exact TN.sameN q2 r2
        · cases ha
      have hs1 := (hs0.same e1).same (e2.trans (Same.new (o := .tup [a, b]) nT))
      have e3 : Same H1 (upd H2 T5 (.tup [a, b])) := e2.trans (Same.new nT)
      have h3 := (Same.new (o := .tup [a, b]) nT) _ _ h2
      have hT5 : upd H2 T5 (.tup [a, b]) T5 = some (.tup [a, b]) := upd_same
      generalize upd H2 T5 (.tup [a, b]) = H4 at hs1 e3 h3 hT5
      refine ⟨T5, _, rfl, SqT.of hT5, rfl, _, _, rfl, _, _, rfl, rfl, rfl, ?_⟩
      refine ⟨_, rfl, _, rfl, a, b, rfl, hs1, fun H5 e5 => ⟨_, e5 _ _ h3, by rw [List.length_replicate]; exact Nat.lt_of_lt_of_le hi (by decide), ?_, ?_⟩⟩
      · intro b' o' hb'
        have nb : b' ≠ D := ne_of_none hb' nD
        rw [upd_ne nb]
        exact e5 _ _ (e3 _ _ hb')
      · rw [upd_same, List.replicate_succ']
    · rintro H2 ⟨e2, h2⟩
      have eb : List.replicate 2 (V.bl true) = (List.replicate 2 true).map V.bl := rfl
      rw [eb] at h2
      refine ⟨D, _, rfl, SqL.of h2, ?_⟩
      exact k _ (e1.trans e2)
theorem Tld.same {H H1 : Hp} {r : Addr} {ps : List Pt} (e : Same H H1) (h : Tld C H r ps) : Tld C H1 r ps := RowsR.nl (R := PtT C) PtT.nl (Same.nl e) (fun xs h => e _ _ h) h
def spToldP (C : Addr) : Sp := fun vs H Q _ => ∃ (la lb : Addr) (ps : List Pt), vs = [.ref la, .ref lb] ∧ Tld C H la ps ∧ Tld C H lb ps ∧ ps.length ≤ 1000 ∧ ∀ H', Same H H' → Q (.bl true) H'
-- slots: 0 _law_x, 1 _law_due, 2 _law_a, 3 _law_b
theorem ok__law_is_told_P {f : Addr} {fd : FuncData} (F : FunD K "_law_is_told" "_law_is_told" (defArgs s__law_is_told) (defBody s__law_is_told) (defScope s__law_is_told) [] [] f fd) (T : XC K mg C) (c__law_is_told : C8.Cal P w K mg base 3 "_law_is_told" (spToldT C) []) : FnOk P w K mg base CX0 4 f fd ["_law_x", "_law_due"] (spToldP C) := by
  refine F.ok sc__law_is_told (fun vs H Q E h => ?_) (fun cdv A outer s H vs Q E hr h => ?_)
  · obtain ⟨la, lb, ps, rfl, ⟨xs, hx, hxs⟩, ⟨ys, hy, hys⟩, hl, k⟩ := h
    rfl
  · obtain ⟨la, lb, ps, rfl, ⟨xs, hx, hxs⟩, ⟨ys, hy, hys⟩, hl, k⟩ := h
    refine ⟨_, PSs.nox (pss_cons (ps_if (pt_val (pe_callB call_isiT rfl T.isinstance (by decide +kernel) (pa_cons (pv 1) (pa_cons (pe_tup (pa_cons (pe_bltn (v := .ty "list") rfl T.list (by decide +kernel) rfl) (pa_cons (pe_bltn (v := .ty "tuple") rfl T.tuple (by decide +kernel) rfl) pa_nil))) pa_nil)))) (pss_cons (ps_if (PW.pt (pw_or (pt_cmpR op_ne (pe_callB call_isi rfl T.isinstance (by decide +kernel) (pa_cons (pv 0) (pa_cons (pe_bltn (v := .ty "list") rfl T.list (by decide +kernel) rfl) pa_nil))) (pe_callB call_isi rfl T.isinstance (by decide +kernel) (pa_cons (pv 1) (pa_cons (pe_bltn (v := .ty "list") rfl T.list (by decide +kernel) rfl) pa_nil))) (nomark _)) (pw_or1 (pt_cmpR op_ne (pe_callB call_isi rfl T.isinstance (by decide +kernel) (pa_cons (pv 0) (pa_cons (pe_bltn (v := .ty "tuple") rfl T.tuple (by decide +kernel) rfl) pa_nil))) (pe_callB call_isi rfl T.isinstance (by decide +kernel) (pa_cons (pv 1) (pa_cons (pe_bltn (v := .ty "tuple") rfl T.tuple (by decide +kernel) rfl) pa_nil))) (nomark _))))) (pss_one (ps_ret pe_bl)) pss_nil)
      (pss_one (ps_ret (pe_and (pe_cmpR op_eq (pe_callB call_len_seq rfl T.len (by decide +kernel) (pa_cons (pv 0) pa_nil)) (pe_callB call_len_seq rfl T.len (by decide +kernel) (pa_cons (pv 1) pa_nil)) (nomark _)) (pe_one (pe_callB (cr_all rfl) rfl T.all (by decide +kernel) (pa_cons (pe_lc (own := [("_law_a", 2), ("_law_b", 3)]) (g := (gTup K 2 (gCons (gName 2) (gCons (gName 3) gNil)))) (tt := tYes) rfl sc__law_is_told.nd (RZ.pi_zipA rfl T.zip (pa_cons (pv 0) (pa_cons (pv 1) pa_nil))) (blkOk_by (N := N__law_is_told) (sc := defScope s__law_is_told) (by decide +kernel)) (fun _ _ _ _ _ => by exact (pg_tup rfl (pgs_cons (pg_name (i := 2) sc__law_is_told.nd rfl (Or.inl rfl)) (pgs_cons (pg_name (i := 3) sc__law_is_told.nd rfl (Or.inl rfl)) pgs_nil)))) (fun _ _ _ _ _ => pts_nil) (fun _ _ _ _ _ => by exact (C8.pe_c c__law_is_told hr (by decide) rfl (pa_cons (pv 2) (pa_cons (pv 3) pa_nil))))) pa_nil))))))) pss_nil)
      (pss_cons ps_never
      (pss_one ps_never))), ?_⟩
    have hlen : xs.length = ys.length := by rw [hxs.len, hys.len]
    refine ⟨_, rfl, by show 2 ≤ sizeLine; decide, fun tp n1 => ?_⟩
    generalize q1 : upd H tp _ = H1
    have e1 := nSm q1 n1
    have hx1 := e1 _ _ hx
    have hy1 := e1 _ _ hy
    refine ⟨_, tp, _, _, _, _, rfl, nAt q1, clsLT, .base (.lst hy1), kA2 K, _, rfl, iteT ?_⟩
    refine ⟨_, rfl, _, _, _, _, _, rfl, .ty "list", .base (.lst hx1), kLL K, _, rfl, _, _, _, _, _, rfl, .ty "list", .base (.lst hy1), kLL K, rfl, _, rfl, iteF ?_⟩
    refine ⟨_, rfl, _, _, _, _, _, rfl, .ty "tuple", .base (.lst hx1), kLT K, _, rfl, _, _, _, _, _, rfl, .ty "tuple", .base (.lst hy1), kLT K, rfl, _, rfl, iteF ?_⟩
    refine ⟨_, rfl, la, _, rfl, .inl (SqL.of hx1), _, rfl, lb, _, rfl, .inl (SqL.of hy1), rfl, _, rfl, ?_⟩
    have el : decide (V.int (xs.length : Nat) = V.int (ys.length : Nat)) = true := decide_eq_true (by rw [hlen])
    rw [el]
    refine iteT ?_
    refine ⟨_, rfl, _, rfl, la, lb, xs, ys, rfl, .inl ⟨SqL.of hx1, SqL.of hy1, fun D nD => ?_⟩⟩
    refine lc_it (walk_zip (n := xs.length) (by omega)) (fun i H2 => Same H1 H2 ∧ H2 D = some (.lst (List.replicate i (.bl true)))) ⟨Same.new nD, upd_same⟩ (fun i H2 _ ⟨e2, _⟩ => ⟨SqL.of (e2 _ _ hx1), SqL.of (e2 _ _ hy1)⟩) ?_ ?_
    · rintro i x H2 H3 hi ⟨e2, h2⟩ ⟨T5, a, b, rfl, nT, rfl, ha, hb⟩
      obtain ⟨p, hp, ka⟩ := hxs.get ha
      obtain ⟨p', hp', kb⟩ := hys.get hb
      rw [hp] at hp'
      cases hp'
      have e3 : Same H1 (upd H2 T5 (.tup [a, b])) := e2.trans (Same.new nT)
      have h3 := (Same.new (o := .tup [a, b]) nT) _ _ h2
      have hT5 : upd H2 T5 (.tup [a, b]) T5 = some (.tup [a, b]) := upd_same
      generalize upd H2 T5 (.tup [a, b]) = H4 at e3 h3 hT5
      refine ⟨T5, _, rfl, SqT.of hT5, rfl, _, _, rfl, _, _, rfl, rfl, rfl, ?_⟩
      refine ⟨_, rfl, _, rfl, a, b, p, rfl, PtT.nl (Same.nl (e1.trans e3)) ka, PtT.nl (Same.nl (e1.trans e3)) kb, fun H5 e5 => ⟨_, e5 _ _ h3, ?_, ?_, ?_⟩⟩
      · rw [List.length_replicate]
        have := hxs.len
        exact Nat.lt_of_lt_of_le (by omega : i < 1000) (by decide)
      · intro b' o' hb'
        have nb : b' ≠ D := ne_of_none hb' nD
        rw [upd_ne nb]
        exact e5 _ _ (e3 _ _ hb')
      · rw [upd_same, List.replicate_succ']
    · rintro H2 ⟨e2, h2⟩
      have eb : List.replicate xs.length (V.bl true) = (List.replicate xs.length true).map V.bl := by rw [List.map_replicate]
      rw [eb] at h2
      refine ⟨D, _, rfl, SqL.of h2, ?_⟩
      have ea : (List.replicate xs.length true).all id = true := by simp
      rw [ea]
      exact k _ (e1.trans e2)
end
end LW
set_option Elab.async false
set_option linter.all false
set_option maxRecDepth 100000
set_option maxHeartbeats 4000000
namespace LW
open PySem PySem.Spec PyProof.Rows L2 LV LM
structure T11 (K : PySem.W.Frag) (mg : Str → Option Value) (C : Addr) : Prop extends XE K mg C where
  any : mg "any" = none
/-- an instance of the class at L may be called -/
structure CalO (P : Program) (w : World) (K : PySem.W.Frag) (mg : Str → Option Value) (base : Heap) (k : Nat) (L : Addr) (sp : Sp) : Prop where
  ex : ∃ g, StX.CallO K L g ∧ FnR P w K mg base CX0 k g sp
theorem pe_co {X : Cx} {k j : Nat} {L : Addr} {sp : Sp} {fe e : Expr} {es : List Expr} {tf : TE} {t : TA} {pos : Pos} (c : CalO X.prog X.w X.K X.mg X.base k L sp) (hr : Room j X.A) (hk : k ≤ j) (hf : PE X fe tf) (ha : PA X (e :: es) t)
    (ht : eval (.Call fe (e :: es) [] pos) X.env = (do callWith pos (← eval fe X.env) [] (backTo pos (starEach (e :: es) X.env)) (backToKw pos (keywordEach [] X.env))) := by rfl)
    (he : starEach (e :: es) X.env = (false, eval e X.env) :: starEach es X.env := by rfl) (hpl : (backTo pos (starEach es X.env)).any (·.1) = false := by rfl) : PE X (.Call fe (e :: es) [] pos) (StX.tCallO X L sp C8.E0 tf t) := by
  obtain ⟨g, h1, h2⟩ := c.ex
  exact StX.pe_callO hf h1 h2 (hr.mono hk) C8.pass0 ha ht he hpl
theorem pi_tupK {X : Cx} {K : PySem.W.Frag} {tg l : Expr} {tl : TE} (h : X.K = K) (hl : PE X l tl) : PI X tg l (iTup K tl) := by
  subst h
  exact pi_tup hl
theorem op_eqLK {X : Cx} {K : PySem.W.Frag} {k : Nat} {C : Addr} {sp : Sp} (h : X.K = K) (M : OwnM X k C "__eq__" sp) (hr : Room k X.A) : OpR X (compareOp .Eq) (rCmpL K C sp) := by
  subst h
  exact op_eqL M hr
section
variable {P : Program} {w : World} {K : PySem.W.Frag} {mg : Str → Option Value} {base : Heap} {C L : Addr}
theorem notSt2 (x y : V) : notSt (.lst [x, y]) = true := by cases x <;> cases y <;> rfl
theorem notStR {xs : List V} (h : ∀ x ∈ xs, ∃ a, x = V.ref a) : notSt (.lst xs) = true := by
  match xs, h with
  | [], _ => rfl
  | [x], h => cases x <;> rfl
  | [x, y], h => exact notSt2 x y
  | [x, y, z], h => cases x <;> cases y <;> cases z <;> rfl
  | x :: y :: r, h =>
    obtain ⟨a, rfl⟩ := h y (by simp)
    unfold notSt
    split
    · rename_i e
      cases e
    · rfl
theorem Apt.of {H H' : Hp} {a b : Addr} {o : HO} (h1 : H a = some o) (h2 : H' a = some o) (h : Apt H a b) : Apt H' a b := ⟨h.1, fun c n l m z => by
  rw [h2] at z
  cases z
  exact h.2 c n l m h1⟩
theorem Bus.nono {H H' : Hp} {a q : Addr} (s : Stt K H' a) (e : Bus a H H') (n : H' q = none) : H q = none := by
  cases hz : H q with
  | none => rfl
  | some o =>
    by_cases hqa : q = a
    · subst hqa
      obtain ⟨_, _, _, _, _, z, _⟩ := s
      rw [z] at n
      cases n
    · rw [e.1 _ _ hqa hz] at n
      cases n
/-- a handed point, new since H2 -/
def Itm (C : Addr) (H2 : Hp) (D st : Addr) (H' : Hp) (v : V) (p : Pt) : Prop := ∃ b x y, v = .ref b ∧ SeqA H' b [x, y] ∧ NumQ C H' x p.1 ∧ NumQ C H' y p.2 ∧ H2 b = none ∧ b ≠ D ∧ Apt H' st b
theorem Itm.bus {H2 H' H'' : Hp} {D st : Addr} {v : V} {p : Pt} (s : Stt K H' st) (e : Bus st H' H'') (h : Itm C H2 D st H' v p) : Itm C H2 D st H'' v p := by
  obtain ⟨b, x, y, rfl, h1, h2, h3, h4, h5, h6⟩ := h
  exact ⟨b, x, y, rfl, h1.imp (e.1 _ _ h6.1) (e.1 _ _ h6.1), h2.nl (Stt.nl s e), h3.nl (Stt.nl s e), h4, h5, h6.bus s e⟩
theorem Itm.but {H2 H' H'' : Hp} {D st : Addr} {v : V} {p : Pt} {xs : List V} (s : Stt K H' st) (hD : H' D = some (.lst xs)) (n : D ≠ st) (e : But D H' H'') (h : Itm C H2 D st H' v p) : Itm C H2 D st H'' v p := by
  obtain ⟨b, x, y, rfl, h1, h2, h3, h4, h5, h6⟩ := h
  obtain ⟨_, _, _, _, _, hst, _⟩ := s
  exact ⟨b, x, y, rfl, h1.imp (e _ _ h5) (e _ _ h5), h2.nl (But.nl hD e), h3.nl (But.nl hD e), h4, h5, Apt.of hst (e _ _ n.symm hst) h6⟩
theorem Itm.gpt {H2 H' : Hp} {D st : Addr} {v : V} {p : Pt} (h : Itm C H2 D st H' v p) : GPt C H' v p := by
  obtain ⟨b, x, y, rfl, h1, h2, h3, _⟩ := h
  exact ⟨b, x, y, rfl, h1, h2, h3⟩
theorem Bus.app {H H' H'' : Hp} {a D : Addr} (n : H D = none) (nd : D ≠ a) (e : Bus a H H') (e2 : But D H' H'') : Bus a H H'' := ⟨fun b o hb ho => e2 _ _ (ne_of_none ho n) (e.1 _ _ hb ho), fun c m l q h => by
  obtain ⟨m', l', q', h'⟩ := e.2 c m l q h
  exact ⟨m', l', q', e2 _ _ nd.symm h'⟩⟩
theorem RowsR.bus {R : Hp → V → Pt → Prop} (hR : ∀ {H H1 : Hp} {v : V} {p : Pt}, NL H H1 → R H v p → R H1 v p) (hr : ∀ {H : Hp} {v : V} {p : Pt}, R H v p → ∃ a, v = .ref a) {H H1 : Hp} {st r : Addr} {ps : List Pt} (s : Stt K H st) (e : Bus st H H1) (h : RowsR R H r ps) : RowsR R H1 r ps := by
  obtain ⟨vs, h1, h2⟩ := h
  refine ⟨vs, e.get s h1 (notStR fun x hx => ?_), h2.imp fun _ _ z => hR (Stt.nl s e) z⟩
  obtain ⟨j, hj⟩ := List.getElem?_of_mem hx
  obtain ⟨p, _, z⟩ := h2.get hj
  exact hr z
theorem PtR.ref {R : Hp → V → Rat → Prop} {H : Hp} {v : V} {p : Pt} (h : PtR R H v p) : ∃ a, v = .ref a := let ⟨t, _, _, e, _⟩ := h; ⟨t, e⟩
theorem IsL.bus {H H1 : Hp} {st : Addr} {v : V} {ps : List Pt} (s : Stt K H st) (e : Bus st H H1) (h : IsL C L H v ps) : IsL C L H1 v ps := by
  obtain ⟨a, dx, r, rfl, h1, h2⟩ := h
  exact ⟨a, dx, r, rfl, e.get s h1 rfl, RowsR.bus (R := PtQ C) PtQ.nl PtR.ref s e h2⟩
structure W11 (K : PySem.W.Frag) (C L st c dd : Addr) (lv : V) (ps : List Pt) (H : Hp) : Prop where
  s : Stt K H st
  cr : Crs H c ps
  ln : IsL C L H lv (bends ps)
  td : Tld C H dd (bends ps)
theorem W11.same {st c dd : Addr} {lv : V} {ps : List Pt} {H H1 : Hp} (e : Same H H1) (h : W11 K C L st c dd lv ps H) : W11 K C L st c dd lv ps H1 := ⟨h.s.same e, Crs.same e h.cr, h.ln.same e, Tld.same e h.td⟩
theorem W11.bus {st c dd : Addr} {lv : V} {ps : List Pt} {H H1 : Hp} (e : Bus st H H1) (s1 : Stt K H1 st) (h : W11 K C L st c dd lv ps H) : W11 K C L st c dd lv ps H1 :=
  ⟨s1, RowsR.bus (R := PtF) PtF.nl PtR.ref h.s e h.cr, h.ln.bus h.s e, RowsR.bus (R := PtT C) PtT.nl PtR.ref h.s e h.td⟩
theorem cutInit (xs : List V) : cutV xs none (some (-1)) = xs.dropLast := by
  have e2 : HT.sIx xs.length xs.length (some (-1)) = xs.length - 1 := by
    have : HT.sIx xs.length xs.length (some (-1)) = ((-1 : Int) + (xs.length : Int)).toNat := rfl
    omega
  unfold cutV
  rw [HT.sIx_none, e2, List.dropLast_eq_take, List.drop_zero]
  rfl
theorem num_one {q : Rat} (h : q.den = 1) : (q + 1).num = q.num + 1 ∧ (q + 1).den = 1 := by
  have e : q = ((q.num : Int) : Rat) := by
    refine Rat.ext ?_ ?_
    · rfl
    · exact h
  have e2 : q + 1 = ((q.num + 1 : Int) : Rat) := by
    rw [Rat.intCast_add, ← e]
    rfl
  rw [e2]
  exact ⟨rfl, rfl⟩
theorem plus1 {H : Hp} {v : V} {q : Rat} {Q : VK} (h : TQ C H v q) (hq : Ht 1000 q) (k : ∀ v' H', Same H H' → NumQ C H' v' (q + 1) → Q v' H') :
    rI0 (fun i j => V.int (i + j)) v (.int 1) H Q ∨ rOwnL C (spAdd C) v (.int 1) H Q := by
  rcases h with ⟨hd, rfl⟩ | ⟨_, h⟩
  · obtain ⟨e1, e2⟩ := num_one (q := q) (Int.ofNat.inj hd)
    refine .inl ⟨_, _, rfl, rfl, k _ _ (Same.refl H) (.inl ⟨?_, ?_⟩)⟩
    · rw [e1]
    · rw [e2]
      rfl
  · exact .inr (addQ h (.inl ⟨rfl, rfl⟩) hq ⟨by decide, by decide⟩ fun v' H' e z => k v' H' e (.inr z))
theorem eqLn {H : Hp} {x y : V} {ps qs : List Pt} {Q : VK} (T : XC K mg C) (TL : LnC K mg L) (hx : IsL C L H x ps) (hy : IsL C L H y qs) (k : ∀ H', Same H H' → Q (.bl (decide (ps = qs))) H') : rCmpL K L (spEqL K C L) x y H Q := by
  obtain ⟨a, dx, r, rfl, h1, _⟩ := id hx
  obtain ⟨b, dy, r', rfl, h2, _⟩ := id hy
  refine ⟨a, dx, _, rfl, h1, ⟨_, tyLn T TL h2, ?_⟩, _, _, ps, rfl, hx, .inl ⟨qs, hy, k⟩⟩
  unfold PySem.W.notFirst
  simp
theorem neLn {H : Hp} {x y : V} {ps qs : List Pt} {Q : VK} (T : XC K mg C) (TL : LnC K mg L) (hx : IsL C L H x ps) (hy : IsL C L H y qs) (k : ∀ H', Same H H' → Q (.bl (!decide (ps = qs))) H') : rNeL K L (spEqL K C L) x y H Q := by
  obtain ⟨a, dx, r, rfl, h1, _⟩ := id hx
  obtain ⟨b, dy, r', rfl, h2, _⟩ := id hy
  refine ⟨a, dx, _, rfl, h1, ⟨_, tyLn T TL h2, ?_⟩, _, _, ps, rfl, hx, .inl ⟨qs, hy, fun H' e => ⟨_, rfl, k H' e⟩⟩⟩
  unfold PySem.W.notFirst
  simp
theorem eqLo {H : Hp} {x y : V} {ps : List Pt} {t : String} {Q : VK} (TL : LnC K mg L) (ht : t ∈ typs) (hx : IsL C L H x ps) (hy : TyX K H y (.type t)) (k : ∀ H', Same H H' → Q (.bl false) H') : rCmpL K L (spEqL K C L) x y H Q := by
  obtain ⟨a, dx, r, rfl, h1, _⟩ := id hx
  obtain ⟨k1, k2⟩ := TL.kT t ht
  refine ⟨a, dx, _, rfl, h1, ⟨_, hy, ?_⟩, _, _, ps, rfl, hx, .inr ⟨_, hy, k1, k⟩⟩
  unfold PySem.W.notFirst
  rw [k2]
  simp
theorem den20 {p : Pt} (h : Ht20 p) : HtP p := ⟨h.1.mono (by decide), h.2.mono (by decide)⟩
abbrev s_law : Stmt := top 39
abbrev N_law : List Str := ["_law_script", "_law_state", "_law_turn", "_law_course", "_law_given", "_law_line", "_law_due", "_law_a", "_law_b", "_law_k", "_law_other", "_law_moved", "_law_share", "_law_t", "_law_x", "_law_y"]
theorem sc_law : FnScope N_law ["_law_script"] (defScope s_law) := ⟨rfl, rfl, rfl, by decide +kernel, rfl, by decide +kernel, by decide +kernel⟩
-- slots: 0 _law_script, 1 _law_state, 2 _law_turn, 3 _law_course, 4 _law_given, 5 _law_line, 6 _law_due, 7 _law_a, 8 _law_b, 9 _law_k, 10 _law_other, 11 _law_moved, 12 _law_share, 13 _law_t, 14 _law_x, 15 _law_y
theorem ok_law {f : Addr} {fd : FuncData} (F : FunD K "law" "law" (defArgs s_law) (defBody s_law) (defScope s_law) [] [] f fd) (T : T11 K mg C) (TL : LnC K mg L) (c__law_fresh : C8.Cal P w K mg base 1 "_law_fresh" (spFresh K) []) (c__law_take : C8.Cal P w K mg base 2 "_law_take" (spTake K) []) (c__law_course_of : C8.Cal P w K mg base 3 "_law_course_of" (spCrs K) []) (c__law_handed : C8.Cal P w K mg base 3 "_law_handed" (spHanded K) []) (c__law_as_number : C8.Cal P w K mg base 4 "_law_as_number" (spAsNum K C) []) (c_Line : C8.Mak P w K mg base 8 "Line" L (spLInit C L) []) (c__law_spoilC : C8.Cal P w K mg base 3 "_law_spoil" (spSpC C) []) (c__law_bends : C8.Cal P w K mg base 5 "_law_bends" spBends []) (c__law_plain : C8.Cal P w K mg base 4 "_law_plain" (spLPlain C) []) (m_points : C8.Met P w K mg base 6 L "points" (spPts C L) []) (c__law_is_toldP : C8.Cal P w K mg base 4 "_law_is_told" (spToldP C) []) (c__law_is_toldI : C8.Cal P w K mg base 2 "_law_is_told" (spToldI C) []) (c__law_frac : C8.Cal P w K mg base 2 "_law_frac" spFrac []) (c__law_add : C8.Cal P w K mg base 3 "_law_add" spFAdd []) (c__law_mul : C8.Cal P w K mg base 3 "_law_mul" spFMul []) (c__law_on : C8.Cal P w K mg base 4 "_law_on" spOn []) (co_line : CalO P w K mg base 8 L (spCallL C L)) (m__add__ : ∀ X : Cx, X.prog = P → X.w = w → X.K = K → X.mg = mg → X.base = base → OwnM X 5 C "__add__" (spAdd C)) (ml__eq__ : ∀ X : Cx, X.prog = P → X.w = w → X.K = K → X.mg = mg → X.base = base → OwnM X 8 L "__eq__" (spEqL K C L)) : FnOk P w K mg base CX0 10 f fd ["_law_script"] (spLaw K) := by
  refine F.ok sc_law (fun vs H Q E h => ?_) (fun cdv A outer s H vs Q E hr h => ?_)
  · obtain ⟨sc, ns, rfl, hS, hl, k⟩ := h
    rfl
  · obtain ⟨sc, ns, rfl, hS, hl, k⟩ := h
    refine ⟨_, PSs.nox (pss_cons (ps_set (i := 1) sc_law.nd rfl (Or.inr rfl) (C8.pe_c c__law_fresh hr (by decide) rfl (pa_cons (pv 0) pa_nil)))
      (pss_cons (ps_for PassesOwn.never rfl (pi_range1 rfl T.range (pa_cons pe_int pa_nil)) (pg_name (i := 2) sc_law.nd rfl (Or.inl rfl)) (pss_cons (ps_set (i := 3) sc_law.nd rfl (Or.inl rfl) (C8.pe_c c__law_course_of hr (by decide) rfl (pa_cons (pv 1) pa_nil)))
      (pss_cons (ps_set (i := 4) sc_law.nd rfl (Or.inl rfl) (C8.pe_c c__law_handed hr (by decide) rfl (pa_cons (pv 1) (pa_cons (pe_lc (own := [("_law_x", 14)]) (g := (gName 14)) (tt := tYes) rfl sc_law.nd (pi_list (pv 3)) (blkOk_by (N := N_law) (sc := defScope s_law) (by decide +kernel)) (fun _ _ _ _ _ => by exact (pg_name (i := 14) sc_law.nd rfl (Or.inl rfl))) (fun _ _ _ _ _ => pts_nil) (fun _ _ _ _ _ => by exact (C8.pe_c c__law_handed hr (by decide) rfl (pa_cons (pv 1) (pa_cons (pe_lc (own := [("_law_y", 15)]) (g := (gName 15)) (tt := tYes) rfl sc_law.nd (pi_tupK (K := K) rfl (pv 14)) (blkOk_by (by rfl)) (fun _ _ _ _ _ => by exact (pg_name (i := 15) sc_law.nd rfl (Or.inl rfl))) (fun _ _ _ _ _ => pts_nil) (fun _ _ _ _ _ => by exact (C8.pe_c c__law_as_number hr (by decide) rfl (pa_cons (pv 1) (pa_cons (pv 15) pa_nil))))) pa_nil))))) pa_nil))))
      (pss_cons (ps_set (i := 5) sc_law.nd rfl (Or.inr rfl) (C8.pe_mk c_Line hr (by decide) rfl (pa_cons (pv 4) pa_nil)))
      (pss_cons (ps_expr (C8.pe_c c__law_spoilC hr (by decide) rfl (pa_cons (pv 4) pa_nil)))
      (pss_cons (ps_setLc (i := 6) (own := [("_law_x", 14)]) (g := (gName 14)) (tt := tYes) rfl sc_law.nd rfl rfl (sw_true rfl rfl rfl (by decide +kernel)) (pi_list (C8.pe_c c__law_bends hr (by decide) rfl (pa_cons (pv 3) pa_nil))) (blkOk_by (N := N_law) (sc := defScope s_law) (by decide +kernel)) (fun _ _ _ _ _ => by exact (pg_name (i := 14) sc_law.nd rfl (Or.inl rfl))) (fun _ _ _ _ _ => pts_nil) (fun _ _ _ _ _ => by exact (pe_tup (pa_cons (C8.pe_c c__law_plain hr (by decide) rfl (pa_cons (pe_ix (ix_tupK (K := K) rfl) (pv 14) pe_int (fun _ _ => rfl)) pa_nil)) (pa_cons (C8.pe_c c__law_plain hr (by decide) rfl (pa_cons (pe_ix (ix_tupK (K := K) rfl) (pv 14) pe_int (fun _ _ => rfl)) pa_nil)) pa_nil)))))
      (Evl.pss_cut (ps_if (pt_not (pt_val (C8.pe_c c__law_is_toldP hr (by decide) rfl (pa_cons (C8.pe_mt0 m_points hr (by decide) (pv 5)) (pa_cons (pv 6) pa_nil))))) (pss_one (ps_ret pe_bl)) pss_nil)
      (Evl.pss_cut (ps_expr (C8.pe_c c__law_spoilC hr (by decide) rfl (pa_cons (C8.pe_mt0 m_points hr (by decide) (pv 5)) pa_nil)))
      (Evl.pss_cut (ps_if (pt_not (pt_val (C8.pe_c c__law_is_toldP hr (by decide) rfl (pa_cons (C8.pe_mt0 m_points hr (by decide) (pv 5)) (pa_cons (pv 6) pa_nil))))) (pss_one (ps_ret pe_bl)) pss_nil)
      (pss_cons (ps_par (i := 7) (j := 8) rfl sc_law.nd rfl rfl (by decide) rfl rfl (pa_cons (pe_ix ix_tup (pe_ix ix_list (pv 3) pe_int (fun _ _ => rfl)) pe_int (fun _ _ => rfl)) (pa_cons (pe_ix ix_tup (pe_ix ix_list (pv 3) (pe_un un_neg pe_int) (fun _ _ => rfl)) pe_int (fun _ _ => rfl)) pa_nil)) rfl)
      (Evl.pss_cut (ps_for PassesOwn.never rfl (pi_range1 rfl T.range (pa_cons pe_int pa_nil)) (pg_name (i := 9) sc_law.nd rfl (Or.inl rfl)) (pss_cons (ps_set (i := 12) sc_law.nd rfl (Or.inl rfl) (C8.pe_c c__law_frac hr (by decide) rfl (pa_cons (C8.pe_c c__law_take hr (by decide) rfl (pa_cons (pv 1) (pa_cons pe_int pa_nil))) (pa_cons pe_int pa_nil))))
      (pss_cons (ps_set (i := 13) sc_law.nd rfl (Or.inl rfl) (C8.pe_c c__law_add hr (by decide) rfl (pa_cons (pv 7) (pa_cons (C8.pe_c c__law_mul hr (by decide) rfl (pa_cons (pv 12) (pa_cons (C8.pe_c c__law_add hr (by decide) rfl (pa_cons (pv 8) (pa_cons (pe_tup (pa_cons (pe_un un_neg (pe_ix ix_tup (pv 7) pe_int (fun _ _ => rfl))) (pa_cons (pe_ix ix_tup (pv 7) pe_int (fun _ _ => rfl)) pa_nil))) pa_nil))) pa_nil))) pa_nil))))
      (pss_one (ps_if (pt_not (pt_val (C8.pe_c c__law_is_toldI hr (by decide) rfl (pa_cons (pe_co co_line hr (by decide) (pv 5) (pa_cons (C8.pe_c c__law_as_number hr (by decide) rfl (pa_cons (pv 1) (pa_cons (pv 13) pa_nil))) pa_nil)) (pa_cons (C8.pe_c c__law_plain hr (by decide) rfl (pa_cons (C8.pe_c c__law_on hr (by decide) rfl (pa_cons (pv 3) (pa_cons (pv 13) pa_nil))) pa_nil)) pa_nil))))) (pss_one (ps_ret pe_bl)) pss_nil)))))
      (pss_cons (ps_set (i := 10) sc_law.nd rfl (Or.inl rfl) (C8.pe_mk c_Line hr (by decide) rfl (pa_cons (pv 6) pa_nil)))
      (pss_cons (ps_set (i := 11) sc_law.nd rfl (Or.inl rfl) (pe_op op_cat (pe_lc (own := [("_law_x", 14), ("_law_y", 15)]) (g := (gTup K 2 (gCons (gName 14) (gCons (gName 15) gNil)))) (tt := tYes) rfl sc_law.nd (pi_list (pe_slice sl_list (pv 6) po_none (po_some (pe_un un_neg pe_int)))) (blkOk_by (N := N_law) (sc := defScope s_law) (by decide +kernel)) (fun _ _ _ _ _ => by exact (pg_tup rfl (pgs_cons (pg_name (i := 14) sc_law.nd rfl (Or.inl rfl)) (pgs_cons (pg_name (i := 15) sc_law.nd rfl (Or.inl rfl)) pgs_nil)))) (fun _ _ _ _ _ => pts_nil) (fun _ _ _ _ _ => by exact (pe_tup (pa_cons (pv 14) (pa_cons (pv 15) pa_nil))))) (pe_lst (pa_cons (pe_tup (pa_cons (pe_ix ix_tup (pe_ix ix_list (pv 6) (pe_un un_neg pe_int) (fun _ _ => rfl)) pe_int (fun _ _ => rfl)) (pa_cons (pe_op (OpR.or op_add (op_addL (m__add__ _ rfl rfl rfl rfl rfl) T.f_radd.choose_spec T.own (hr.mono (by decide)))) (pe_ix ix_tup (pe_ix ix_list (pv 6) (pe_un un_neg pe_int) (fun _ _ => rfl)) pe_int (fun _ _ => rfl)) pe_int) pa_nil))) pa_nil))))
      (pss_one (ps_if (PW.pt (pw_or (pt_cmpR (op_neL (ml__eq__ _ rfl rfl rfl rfl rfl) TL.ne TL.hm (hr.mono (by decide))) (pv 5) (pv 10) (nomark _)) (pw_or (pt_cmpR (op_eqL (ml__eq__ _ rfl rfl rfl rfl rfl) (hr.mono (by decide))) (pv 5) (C8.pe_mk c_Line hr (by decide) rfl (pa_cons (pv 11) pa_nil)) (nomark _)) (pw_or1 (pt_val (pe_callB (cr_any rfl) rfl T.any (by decide +kernel) (pa_cons (pe_lc (own := [("_law_x", 14)]) (g := (gName 14)) (tt := tYes) rfl sc_law.nd (pi_list (pe_lst (pa_cons pe_non (pa_cons (pv 6) (pa_cons pe_int (pa_cons pe_dnewK pa_nil)))))) (blkOk_by (N := N_law) (sc := defScope s_law) (by decide +kernel)) (fun _ _ _ _ _ => by exact (pg_name (i := 14) sc_law.nd rfl (Or.inl rfl))) (fun _ _ _ _ _ => pts_nil) (fun _ _ _ _ _ => by exact (pe_cmpR (op_eqLK (K := K) rfl (ml__eq__ _ rfl rfl rfl rfl rfl) (hr.mono (by decide))) (pv 5) (pv 14) (nomark _)))) pa_nil))))))) (pss_one (ps_ret pe_bl)) pss_nil)))))))))))))))
      (pss_one (ps_ret pe_bl)))), ?_⟩
    refine ⟨_, rfl, sc, ns, rfl, hS, hl, fun st H0 e0 hs0 => ?_⟩
    refine ⟨5, rfl, by decide, by decide, ?_⟩
    refine for_it (walk_range) (fun i σ H' => ∃ x2 x3 x4 x5 x6 x7 x8 x9 x10 x11 x12 x13 x14 x15 : Option V, σ = [some (.ref sc), some (.ref st), x2, x3, x4, x5, x6, x7, x8, x9, x10, x11, x12, x13, x14, x15] ∧ Stt K H' st)
      ⟨_, _, _, _, _, _, _, _, _, _, _, _, _, _, rfl, hs0⟩ (fun _ _ _ _ _ => trivial) ?_ ?_
    · rintro i x σ H1' H1 hi ⟨x2, x3, x4, x5, x6, x7, x8, x9, x10, x11, x12, x13, x14, x15, rfl, hs1⟩ ⟨rfl, rfl⟩
      refine ⟨_, rfl, st, rfl, hs1, fun c H2 ps e2 hs2 ac nc hc inc l2 l8 ht => ?_⟩
      obtain ⟨vs, hcl, hvs⟩ := id hc
      have hlen := hvs.len
      have hcn : notSt (.lst vs) = true := notStR fun x hx => by
        obtain ⟨j, hj⟩ := List.getElem?_of_mem hx
        obtain ⟨p, _, a, _, _, e, _⟩ := hvs.get hj
        exact ⟨a, e⟩
      -- given
      refine ⟨_, rfl, _, rfl, c, rfl, ⟨_, SqL.of hcl⟩, fun D nD => ?_⟩
      have aD2 : Apt (upd H2 D (.lst [])) st D := (Apt.new hs2 nD).same hs2 (Same.new nD)
      refine lc_it (walk_list (xs := vs)) (fun i H' => Bus st H2 H' ∧ Stt K H' st ∧ Apt H' st D ∧ ∃ us, H' D = some (.lst us) ∧ All2 (Itm C H2 D st H') us (ps.take i)) ⟨Same.bus (Same.new nD), hs2.same (Same.new nD), aD2, [], upd_same, trivial⟩ (fun i H' _ ⟨e, _⟩ => SqL.of (e.1 _ _ ac.1 hcl)) ?_ ?_
      · rintro i x H3' H3 hi ⟨e3, hs3, a3, us, hD, hus⟩ ⟨rfl, hx⟩
        obtain ⟨p, hp, hq⟩ := hvs.get hx
        obtain ⟨tp, f1, f2, rfl, htp, k1, k2⟩ := PtF.nl (Stt.nl hs2 e3) hq
        refine ⟨rfl, ?_⟩
        refine ⟨_, rfl, _, rfl, tp, rfl, ⟨_, SqT.of htp⟩, fun D2 nD2 => ?_⟩
        have aD : Apt (upd H3 D2 (.lst [])) st D2 := (Apt.new hs3 nD2).same hs3 (Same.new nD2)
        have hD2n : D2 ≠ D := fun z => by
          subst z
          rw [hD] at nD2
          cases nD2
        refine lc_it (walk_tup (xs := [f1, f2])) (fun j H' => Bus st H3 H' ∧ Stt K H' st ∧ Apt H' st D2 ∧ ∃ ws, H' D2 = some (.lst ws) ∧ All2 (fun v q => NumQ C H' v q) ws ([p.1, p.2].take j)) ⟨Same.bus (Same.new nD2), hs3.same (Same.new nD2), aD, [], upd_same, trivial⟩ (fun j H' _ ⟨e, _⟩ => SqT.of (e.get hs3 htp rfl)) ?_ ?_
        · rintro j y H4' H4 hj ⟨e4, hs4, a4, ws, hw, hws⟩ ⟨rfl, hy⟩
          have hyq : ∃ q, [p.1, p.2][j]? = some q ∧ FQ H4 y q := by
            rcases j with _ | _ | j
            · cases hy; exact ⟨_, rfl, k1.nl (Stt.nl hs3 e4)⟩
            · cases hy; exact ⟨_, rfl, k2.nl (Stt.nl hs3 e4)⟩
            · cases hy
          obtain ⟨q, hq', hyf⟩ := hyq
          have hqm : Ht 20 q := by
            have hpm := ht p (List.mem_of_getElem? hp)
            rcases j with _ | _ | j
            · cases hq'; exact hpm.1
            · cases hq'; exact hpm.2
            · cases hq'
          refine ⟨rfl, ⟨_, rfl, _, rfl, st, y, _, _, rfl, hs4, hyf, red_rat q, smD (hqm.mono (by decide)), fun v H5 e5 hs5 hv => ?_⟩⟩
          have hw5 := e5.1 _ _ a4.1 hw
          refine ⟨ws, hw5, ?_, ?_⟩
          · rw [hws.len, List.length_take]
            exact Nat.lt_of_le_of_lt (Nat.min_le_right _ _) (show 2 < sizeLine by decide)
          · generalize q6 : upd H5 D2 _ = H6
            have h6 := nAt q6
            have b6 : But D2 H5 H6 := by rw [← q6]; exact (But.refl D2 H5).upd
            have n6 : NL H5 H6 := But.nl hw5 b6
            have a5 := a4.bus hs4 e5
            obtain ⟨_, _, _, _, _, hst5, _⟩ := id hs5
            refine ⟨Bus.app nD2 aD.1 (e4.trans e5) b6, hs5.but a5 b6, Apt.of hst5 (b6 _ _ a5.1.symm hst5) a5, _, h6, ?_⟩
            have et : [p.1, p.2].take (j + 1) = [p.1, p.2].take j ++ [q] := by rw [List.take_succ, hq']; rfl
            rw [et]
            exact (hws.imp fun _ _ z => z.nl ((Stt.nl hs4 e5).trans n6)).snoc (hv.nl n6)
        · rintro H4 ⟨e4, hs4, a4, ws, hw, hws⟩
          obtain ⟨n1, n2, rfl, g1, g2⟩ := All2.two (show All2 (fun v q => NumQ C H4 v q) ws [p.1, p.2] from hws)
          refine ⟨st, D2, [n1, n2], rfl, hs4, hw, notSt2 n1 n2, fun q H5 e5 hs5 nq hq5 => ?_⟩
          have hD5 : H5 D = some (.lst us) := e5.1 _ _ a3.1 (e4.1 _ _ a3.1 hD)
          have e35 := e4.trans e5
          have hqD : q ≠ D := fun z => by
            subst z
            rw [e4.1 _ _ a3.1 hD] at nq
            cases nq
          refine ⟨us, hD5, ?_, ?_⟩
          · rw [hus.len, List.length_take]
            exact Nat.lt_of_le_of_lt (Nat.le_trans (Nat.min_le_right _ _) l8) (show 8 < sizeLine by decide)
          · generalize q6 : upd H5 D _ = H6
            have h6 := nAt q6
            have b6 : But D H5 H6 := by rw [← q6]; exact (But.refl D H5).upd
            have a5 := a3.bus hs3 e35
            obtain ⟨_, _, _, _, _, hst5, _⟩ := id hs5
            refine ⟨Bus.app nD a3.1 (e3.trans e35) b6, hs5.but a5 b6, Apt.of hst5 (b6 _ _ a5.1.symm hst5) a5, _, h6, ?_⟩
            have et : ps.take (i + 1) = ps.take i ++ [p] := by rw [List.take_succ, hp]; rfl
            rw [et]
            refine (hus.imp fun _ _ z => Itm.but hs5 hD5 a3.1 b6 (Itm.bus hs3 e35 z)).snoc (Itm.but hs5 hD5 a3.1 b6 ?_)
            have aq : Apt H5 st q := (Apt.new hs4 nq).bus hs4 e5
            exact ⟨q, n1, n2, rfl, hq5, g1.nl (Stt.nl hs4 e5), g2.nl (Stt.nl hs4 e5), Bus.nono hs4 (e3.trans e4) nq, hqD, aq⟩
      rintro H3 ⟨e3, hs3, a3, us, hD, hus⟩
      rw [hlen, List.take_length] at hus
      have hul := hus.len
      refine ⟨st, D, us, rfl, hs3, hD, notStR fun x hx => ?_, fun g H4 e4 hs4 ng hg => ?_⟩
      · obtain ⟨j, hj⟩ := List.getElem?_of_mem hx
        obtain ⟨p, _, a, _, _, e, _⟩ := hus.get hj
        exact ⟨a, e⟩
      have e24 := e3.trans e4
      have hus4 := hus.imp fun _ _ z => Itm.bus hs3 e4 z
      have ag : Apt H4 st g := (Apt.new hs3 ng).bus hs3 e4
      have hcl4 := e24.1 _ _ ac.1 hcl
      have hvs4 := hvs.imp fun _ _ z => PtF.nl (Stt.nl hs2 e24) z
      have ng2 : H2 g = none := Bus.nono hs3 e3 ng
      -- line
      refine ⟨_, rfl, fun xl dl nx nd ne => mkL ⟨g, us, rfl, hg, hus4.imp fun _ _ z => z.gpt⟩ inc l2 (by omega) (fun p hp => den20 (ht p hp)) nx nd ne fun r H5 e5 nr hL hR => ⟨rfl, ?_⟩⟩
      have hs5 := hs4.same e5
      -- spoil
      refine ⟨_, rfl, g, us, rfl, hg.same e5, fun v hv => ?_, by omega, fun H6 u6 => ?_⟩
      · obtain ⟨j, hj⟩ := List.getElem?_of_mem hv
        obtain ⟨p, _, b, x, y, e, z1, z2, z3, _⟩ := hus4.get hj
        refine ⟨b, [x, y], e, z1.same e5, fun w hw => ?_, Nat.le_refl 2⟩
        simp only [List.mem_cons, List.not_mem_nil, or_false] at hw
        rcases hw with rfl | rfl
        · exact .inl ⟨_, _, z2.same e5⟩
        · exact .inl ⟨_, _, z3.same e5⟩
      have hs6 : Stt K H6 st := by
        obtain ⟨c0, ns0, n0, l0, m0, y1, y2, y3, y4⟩ := id hs5
        have ag5 := ag.same hs4 e5
        have aus : ∀ b, V.ref b ∈ us → Apt H5 st b := fun b hb => by
          obtain ⟨j, hj⟩ := List.getElem?_of_mem hb
          obtain ⟨p, _, b', x, y, e, _, _, _, _, _, z⟩ := hus4.get hj
          cases e
          exact z.same hs4 e5
        refine ⟨c0, ns0, n0, l0, m0, u6 _ _ y1 fun z => ?_, y2, u6 _ _ y3 fun z => ?_, y4⟩
        · rcases z with z | z
          · exact absurd z.symm ag5.1
          · exact absurd rfl (aus st z).1
        · rcases z with z | z
          · exact absurd z (ag5.2 _ _ _ _ y1)
          · exact absurd rfl ((aus c0 z).2 _ _ _ _ y1)
      have hcl6 : H6 c = some (.lst vs) := by
        refine u6 _ _ (e5 _ _ hcl4) fun z => ?_
        rcases z with z | z
        · subst z
          rw [hcl] at ng2
          cases ng2
        · obtain ⟨j, hj⟩ := List.getElem?_of_mem z
          obtain ⟨p, _, b', x, y, e, _, _, _, q, _⟩ := hus4.get hj
          cases e
          rw [hcl] at q
          cases q
      have hvs6 := hvs4.imp fun _ _ z => PtF.nl ((Same.nl e5).trans u6.nl) z
      have hl6 : IsL C L H6 (.ref xl) (bends ps) := by
        refine ⟨xl, dl, r, rfl, u6.nl _ _ hL (by intro _ z; cases z), ?_⟩
        obtain ⟨ts, z1, z2⟩ := hR
        refine ⟨ts, u6 _ _ z1 fun z => ?_, z2.imp fun _ _ z => PtQ.nl u6.nl z⟩
        rcases z with z | z
        · subst z
          rcases hg with q | q <;> rw [q] at nr <;> cases nr
        · obtain ⟨j, hj⟩ := List.getElem?_of_mem z
          obtain ⟨p, _, b', x, y, e, q, _⟩ := hus4.get hj
          cases e
          rcases q with q | q <;> rw [q] at nr <;> cases nr
      have htL : HtL ps := fun p hp => den20 (ht p hp)
      have hbm : ∀ p ∈ bends ps, p ∈ ps := fun p hp => (bends_sub ps).subset hp
      have hbl : (bends ps).length ≤ 8 := Nat.le_trans (bends_sub ps).length_le l8
      clear u6 hus4 hR hL e5 hs5 hg hcl4 hvs4 hus hD nx nd ne
      -- due
      refine ⟨_, rfl, c, ps, rfl, ⟨vs, hcl6, hvs6⟩, inc, htL, l2, by omega, fun rb H7 e7 nrb hB => ?_⟩
      obtain ⟨bs, hrb, hbs⟩ := hB
      refine ⟨rb, rfl, ⟨_, SqL.of hrb⟩, fun dd ndd => ?_⟩
      refine lc_it (walk_list (xs := bs)) (fun i H' => Same H7 H' ∧ ∃ us, H' dd = some (.lst us) ∧ All2 (PtT C H') us ((bends ps).take i)) ⟨Same.new ndd, [], upd_same, trivial⟩ (fun i H' _ ⟨e, _⟩ => SqL.of (e _ _ hrb)) ?_ ?_
      · rintro i x H8' H8 hi ⟨e8, ws, hw, hws⟩ ⟨rfl, hx⟩
        obtain ⟨p, hp, hq⟩ := hbs.get hx
        obtain ⟨tp, f1, f2, rfl, htp, k1, k2⟩ := PtF.nl (Same.nl e8) hq
        have hpm := ht p (hbm p (List.mem_of_getElem? hp))
        refine ⟨rfl, ?_⟩
        refine ⟨_, rfl, tp, _, _, _, rfl, rfl, SqT.of htp, rfl, _, _, _, rfl, k1, red_rat _, (smD (hpm.1.mono (by decide))).big, fun v1 H9 e9 g1 => ?_⟩
        refine ⟨_, rfl, tp, _, _, _, rfl, rfl, SqT.of (e9 _ _ htp), rfl, _, _, _, rfl, k2.same e9, red_rat _, (smD (hpm.2.mono (by decide))).big, fun v2 H10 e10 g2 => ?_⟩
        refine ⟨by show 2 ≤ sizeLine; decide, fun t5 n5 => ?_⟩
        generalize q11 : upd H10 t5 _ = H11
        have h11 := nAt q11
        have e11 := nSm q11 n5
        have e8b : Same H8 H11 := (e9.trans e10).trans e11
        have hw11 := e8b _ _ hw
        refine ⟨ws, hw11, ?_, ?_⟩
        · rw [hws.len, List.length_take]
          exact Nat.lt_of_le_of_lt (Nat.le_trans (Nat.min_le_right _ _) hbl) (show 8 < sizeLine by decide)
        · generalize q12 : upd H11 dd _ = H12
          have h12 := nAt q12
          have b12 : But dd H11 H12 := by rw [← q12]; exact (But.refl dd H11).upd
          have n12 : NL H11 H12 := But.nl hw11 b12
          refine ⟨fun b o hb => b12 _ _ (ne_of_none hb ndd) (e8b _ _ (e8 _ _ hb)), _, h12, ?_⟩
          have et : (bends ps).take (i + 1) = (bends ps).take i ++ [p] := by rw [List.take_succ, hp]; rfl
          rw [et]
          exact (hws.imp fun _ _ z => PtT.nl ((Same.nl e8b).trans n12) z).snoc (PtT.nl n12 ⟨t5, v1, v2, rfl, h11, g1.same (e10.trans e11), g2.same e11⟩)
      rintro H8 ⟨e8, ws, hw, hws⟩
      rw [hbs.len, List.take_length] at hws
      have w8 : W11 K C L st c dd (.ref xl) ps H8 := ⟨(hs6.same e7).same e8, Crs.same (e7.trans e8) ⟨vs, hcl6, hvs6⟩, hl6.same (e7.trans e8), ws, hw, hws⟩
      clear hw hws hs6 hcl6 hvs6 hl6 e8 e7 hbs hrb ndd nrb hvs hcl e24 ng ng2 nr hcn hul aD2 a3 hs3 hs4 e3 e4 nD ag hs2 ac e2 hs1 nc hc
      -- told
      refine ⟨fun σ' H' => σ' = [some (.ref sc), some (.ref st), some (.int (0 + (i : Nat))), some (.ref c), some (.ref g), some (.ref xl), some (.ref dd), x7, x8, x9, x10, x11, x12, x13, x14, x15] ∧ W11 K C L st c dd (.ref xl) ps H', ?_, ?_⟩
      · obtain ⟨xl', dl', r', z, hL, hR⟩ := id w8.ln
        cases z
        refine ⟨_, rfl, xl, dl', _, rfl, hL, rfl, _, bends ps, rfl, w8.ln, by omega, fun l1 H9 e9 n9 h9 => ?_⟩
        refine ⟨_, rfl, l1, dd, bends ps, rfl, h9, Tld.same e9 w8.td, by omega, fun H10 e10 => ⟨_, rfl, iteF ⟨rfl, w8.same (e9.trans e10)⟩⟩⟩
      clear w8
      rintro _ H8 ⟨rfl, w8⟩
      refine ⟨fun σ' H' => σ' = [some (.ref sc), some (.ref st), some (.int (0 + (i : Nat))), some (.ref c), some (.ref g), some (.ref xl), some (.ref dd), x7, x8, x9, x10, x11, x12, x13, x14, x15] ∧ W11 K C L st c dd (.ref xl) ps H', ?_, ?_⟩
      · obtain ⟨xl', dl', r', z, hL, hR⟩ := id w8.ln
        cases z
        refine ⟨_, rfl, xl, dl', _, rfl, hL, rfl, _, bends ps, rfl, w8.ln, by omega, fun l1 H9 e9 n9 h9 => ?_⟩
        obtain ⟨us, hu, hus⟩ := id h9
        refine ⟨l1, us, rfl, .inl hu, fun v hv => ?_, by rw [hus.len]; omega, fun H10 u10 => ⟨rfl, w8.same fun b o hb => u10 b o (e9 _ _ hb) fun z xs e => ?_⟩⟩
        · obtain ⟨j, hj⟩ := List.getElem?_of_mem hv
          obtain ⟨p, _, t, x, y, e, z1, z2, z3⟩ := hus.get hj
          refine ⟨t, [x, y], e, .inr z1, fun w hw => ?_, Nat.le_refl 2⟩
          simp only [List.mem_cons, List.not_mem_nil, or_false] at hw
          rcases hw with rfl | rfl
          · exact .inl ⟨_, _, z2.num⟩
          · exact .inl ⟨_, _, z3.num⟩
        · subst e
          rcases z with z | z
          · subst z
            rw [hb] at n9
            cases n9
          · obtain ⟨j, hj⟩ := List.getElem?_of_mem z
            obtain ⟨p, _, t, x, y, e, z1, _⟩ := hus.get hj
            cases e
            rw [e9 _ _ hb] at z1
            cases z1
      clear w8
      rintro _ H8 ⟨rfl, w8⟩
      refine ⟨fun σ' H' => σ' = [some (.ref sc), some (.ref st), some (.int (0 + (i : Nat))), some (.ref c), some (.ref g), some (.ref xl), some (.ref dd), x7, x8, x9, x10, x11, x12, x13, x14, x15] ∧ W11 K C L st c dd (.ref xl) ps H', ?_, ?_⟩
      · obtain ⟨xl', dl', r', z, hL, hR⟩ := id w8.ln
        cases z
        refine ⟨_, rfl, xl, dl', _, rfl, hL, rfl, _, bends ps, rfl, w8.ln, by omega, fun l1 H9 e9 n9 h9 => ?_⟩
        refine ⟨_, rfl, l1, dd, bends ps, rfl, h9, Tld.same e9 w8.td, by omega, fun H10 e10 => ⟨_, rfl, iteF ⟨rfl, w8.same (e9.trans e10)⟩⟩⟩
      clear w8
      rintro _ H8 ⟨rfl, w8⟩
      -- the ends
      obtain ⟨p0, h0⟩ : ∃ p0, ps[0]? = some p0 := ⟨ps[0], List.getElem?_eq_getElem (by omega)⟩
      obtain ⟨pn, hn⟩ : ∃ pn, ps[ps.length - 1]? = some pn := ⟨ps[ps.length - 1], List.getElem?_eq_getElem (by omega)⟩
      have hb0 : (bends ps)[0]? = some p0 := by rw [← List.head?_eq_getElem?, bends_head, List.head?_eq_getElem?, h0]
      have hbn : (bends ps)[(bends ps).length - 1]? = some pn := by rw [← List.getLast?_eq_getElem?, bends_last, List.getLast?_eq_getElem?, hn]
      have hb2 : 2 ≤ (bends ps).length := bends_two l2
      have l0n : p0.1 < pn.1 := inc_get inc h0 hn (by omega)
      have hp0 := ht p0 (List.mem_of_getElem? h0)
      have hpn := ht pn (List.mem_of_getElem? hn)
      have htB : HtL (bends ps) := fun p hp => htL p (hbm p hp)
      obtain ⟨ts, hcl, hts⟩ := id w8.cr
      obtain ⟨v0, hv0, f0⟩ := hts.at h0
      obtain ⟨vn, hvn, fn⟩ := hts.at hn
      obtain ⟨t0, xa, ya, rfl, ht0, ka, _⟩ := id f0
      obtain ⟨tn, xb, yb, rfl, htn, kb, _⟩ := id fn
      have hatn : atI ts (-1) = some (.ref tn) := by
        have hl := hts.len
        rcases List.eq_nil_or_concat ts with rfl | ⟨ts', v, e⟩
        · simp at hvn
        · rw [List.concat_eq_append] at e
          subst e
          rw [← hl] at hvn
          simp at hvn
          rw [← hvn]
          exact atI_last ts' v
      refine ⟨_, rfl, c, ts, _, _, rfl, rfl, SqL.of hcl, atI_nat (j := 0) hv0, t0, _, _, _, rfl, rfl, SqT.of ht0, rfl, ?_⟩
      refine ⟨_, rfl, _, rfl, c, ts, _, _, rfl, rfl, SqL.of hcl, hatn, tn, _, _, _, rfl, rfl, SqT.of htn, rfl, _, _, rfl, ?_⟩
      clear hcl hts hv0 hvn f0 fn ht0 htn hatn
      refine ⟨fun σ' H' => (∃ y9 y12 y13 : Option V, σ' = [some (.ref sc), some (.ref st), some (.int (0 + (i : Nat))), some (.ref c), some (.ref g), some (.ref xl), some (.ref dd), some xa, some xb, y9, x10, x11, y12, y13, x14, x15]) ∧ W11 K C L st c dd (.ref xl) ps H', ?_, ?_⟩
      · refine ⟨5, rfl, by decide, by decide, ?_⟩
        refine for_it (walk_range) (fun j σ H' => (∃ y9 y12 y13 : Option V, σ = [some (.ref sc), some (.ref st), some (.int (0 + (i : Nat))), some (.ref c), some (.ref g), some (.ref xl), some (.ref dd), some xa, some xb, y9, x10, x11, y12, y13, x14, x15]) ∧ W11 K C L st c dd (.ref xl) ps H' ∧ FQ H' xa p0.1 ∧ FQ H' xb pn.1)
          ⟨⟨_, _, _, rfl⟩, w8, ka, kb⟩ (fun _ _ _ _ _ => trivial) ?_ (fun σ H' ⟨z1, z2, _⟩ => ⟨z1, z2⟩)
        clear w8 ka kb
        rintro j z σ H9' H9 hj ⟨⟨y9, y12, y13, rfl⟩, w9, ka, kb⟩ ⟨rfl, rfl⟩
        refine ⟨_, rfl, st, 7, rfl, w9.s, by decide, by decide, fun H10 d e10 hs10 d0 d1 => ?_⟩
        refine ⟨_, _, rfl, by decide, by decide, fun vh H11 e11 kh => ?_⟩
        replace kh := toFQ (by decide) rfl kh
        have w11 := (w9.bus e10 hs10).same e11
        have n911 : NL H9 H11 := (Stt.nl w9.s e10).trans (Same.nl e11)
        replace ka := ka.nl n911
        replace kb := kb.nl n911
        obtain ⟨hs0, hs1⟩ := share_in d0 d1
        have hsh : Ht 5 (Rat.divInt d 6) := ht_div (by decide) (by show d.natAbs < 2 ^ 5; omega) (by decide)
        generalize Rat.divInt d 6 = sh at kh hs0 hs1 hsh
        obtain ⟨b0, bn⟩ := between (Rat.le_of_lt l0n) hs0 hs1
        obtain ⟨aa, rfl, haa⟩ := id ka
        refine ⟨_, rfl, _, rfl, _, rfl, _, rfl, aa, _, _, _, rfl, rfl, SqT.of haa, rfl, _, rfl, _, rfl, aa, _, _, _, rfl, rfl, SqT.of haa, rfl, by show 2 ≤ sizeLine; decide, fun n12 m12 => ?_⟩
        generalize q12 : upd H11 n12 _ = H12
        have f12 : FQ H12 (.ref n12) (-p0.1) := fneg (nAt q12)
        have e12 := nSm q12 m12
        have d1' : Ht 41 (pn.1 + -p0.1) := hpn.1.add hp0.1.neg
        refine ⟨_, _, _, _, _, _, rfl, kb.same e12, f12, smN (hpn.1.mono (by decide)), smD (hpn.1.mono (by decide)), smN (hp0.1.neg.mono (by decide)), smD (hp0.1.neg.mono (by decide)), Int.mul_ne_zero (den0 _) (den0 _), fun v13 H13 e13 k13 => ?_⟩
        replace k13 := toFQ (Int.mul_ne_zero (den0 _) (den0 _)) (q_add (pn.1) (-p0.1)) k13
        refine ⟨_, _, _, _, _, _, rfl, kh.same (e12.trans e13), k13, smN (hsh.mono (by decide)), smD (hsh.mono (by decide)), smN (d1'.mono (by decide)), smD (d1'.mono (by decide)), Int.mul_ne_zero (den0 _) (den0 _), fun v14 H14 e14 k14 => ?_⟩
        replace k14 := toFQ (Int.mul_ne_zero (den0 _) (den0 _)) (q_mul (sh) (pn.1 + -p0.1)) k14
        refine ⟨_, _, _, _, _, _, rfl, ka.same (e12.trans (e13.trans e14)), k14, smN (hp0.1.mono (by decide)), smD (hp0.1.mono (by decide)), smN ((hsh.mul d1').mono (by decide)), smD ((hsh.mul d1').mono (by decide)), Int.mul_ne_zero (den0 _) (den0 _), fun v15 H15 e15 k15 => ?_⟩
        replace k15 := toFQ (Int.mul_ne_zero (den0 _) (den0 _)) (q_add (p0.1) (sh * (pn.1 + -p0.1))) k15
        have htt : Ht 160 (p0.1 + sh * (pn.1 + -p0.1)) := (hp0.1.add (hsh.mul d1')).mono (by decide)
        generalize p0.1 + sh * (pn.1 + -p0.1) = t at k15 htt b0 bn
        have e1115 : Same H11 H15 := (e12.trans e13).trans (e14.trans e15)
        have w15 := w11.same e1115
        obtain ⟨xl', dl', r', z, hL, hR⟩ := id w15.ln
        cases z
        refine ⟨_, rfl, xl, rfl, _, rfl, _, rfl, st, v15, _, _, rfl, w15.s, k15, red_rat t, smD (htt.mono (by decide)), fun vm H16 e16 hs16 hm => ?_⟩
        have w16 := w15.bus e16 hs16
        have k16 := k15.nl (Stt.nl w15.s e16)
        refine ⟨.inr ⟨dl', _, e16.get w15.s hL rfl⟩, _, vm, bends ps, t, p0, pn, rfl, w16.ln, hm, inc.bends, htB, htt, hb2, by omega, hb0, hbn, b0, bn, fun v17 H17 y e17 ho k17 => ?_⟩
        have w17 := w16.same e17
        refine ⟨_, rfl, _, rfl, c, v15, ps, t, p0, pn, rfl, w17.cr, k16.same e17, inc, htL, htt, l2, by omega, h0, hn, b0, bn, fun v18 H18 y2 e18 ho2 k18 => ?_⟩
        have ey : y = y2 := on_one inc (on_bends inc ho) ho2
        subst ey
        have hy := on_ht inc htL htt ho2
        refine ⟨_, _, _, rfl, k18, red_rat y, ?_, fun v19 H19 e19 k19 => ?_⟩
        · show ((y.den : Int)).natAbs < 2 ^ 4000
          rw [Int.natAbs_natCast]
          exact (hy.mono (show _ ≤ 4000 by decide)).2
        refine ⟨_, _, rfl, TN.sameN (k17.same (e18.trans e19)) k19, fun H20 e20 => ⟨_, rfl, iteF ?_⟩⟩
        have e1720 : Same H17 H20 := (e18.trans e19).trans e20
        have n20 : NL H11 H20 := (Same.nl e1115).trans ((Stt.nl w15.s e16).trans (Same.nl (e17.trans e1720)))
        exact ⟨⟨_, _, _, rfl⟩, w17.same e1720, ka.nl n20, kb.nl n20⟩
      clear w8 ka kb
      rintro _ H8 ⟨⟨y9, y12, y13, rfl⟩, w8⟩
      -- other
      obtain ⟨ws, hw, hws⟩ := id w8.td
      have tog : ∀ {H : Hp} {v : V} {p : Pt}, PtT C H v p → GPt C H v p := fun ⟨t, x, y, e, z1, z2, z3⟩ => ⟨t, x, y, e, .inr z1, z2.num, z3.num⟩
      refine ⟨_, rfl, fun xo dO nx nd ne => mkL ⟨dd, ws, rfl, .inl hw, hws.imp fun _ _ z => tog z⟩ inc.bends hb2 (by omega) htB nx nd ne fun ro H9 e9 nr hLo hRo => ⟨rfl, ?_⟩⟩
      rw [bends_idem inc] at hRo
      have lo : IsL C L H9 (.ref xo) (bends ps) := ⟨xo, dO, ro, rfl, hLo, hRo⟩
      have w9 := w8.same e9
      replace hw := e9 _ _ hw
      replace hws := hws.imp fun _ _ z => PtT.nl (Same.nl e9) z
      clear hLo hRo nx nd ne nr w8
      -- moved
      obtain ⟨bi, pl, eb⟩ : ∃ bi pl, bends ps = bi ++ [pl] := by
        rcases List.eq_nil_or_concat (bends ps) with z | ⟨bi, pl, z⟩
        · rw [z] at hb2
          simp at hb2
        · exact ⟨bi, pl, by rw [z, List.concat_eq_append]⟩
      have hbi : bi.length + 1 = (bends ps).length := by rw [eb]; simp
      rw [eb] at hws
      obtain ⟨wi, w2, rfl, gi, g2⟩ := hws.split
      obtain ⟨vl, rfl, gl⟩ := g2.one
      obtain ⟨tl, l1, l2', rfl, htl, kl1, kl2⟩ := id gl
      have hpl := ht pl (hbm pl (by rw [eb]; simp))
      refine ⟨_, rfl, _, rfl, _, rfl, dd, _, rfl, SqL.of hw, fun ls nls => ?_⟩
      rw [cutInit, List.dropLast_concat]
      generalize q10 : upd H9 ls _ = H10
      have h10 := nAt q10
      have e10 := nSm q10 nls
      refine ⟨ls, rfl, ⟨_, SqL.of h10⟩, fun D nD => ?_⟩
      refine lc_it (walk_list (xs := wi)) (fun i H' => Same H10 H' ∧ ∃ us, H' D = some (.lst us) ∧ All2 (PtT C H') us (bi.take i)) ⟨Same.new nD, [], upd_same, trivial⟩ (fun i H' _ ⟨e, _⟩ => SqL.of (e _ _ h10)) ?_ ?_
      · rintro i x H11' H11 hi ⟨e11, us, hD, hus⟩ ⟨rfl, hx⟩
        obtain ⟨p, hp, hq⟩ := gi.get hx
        obtain ⟨t, f1, f2, rfl, htt, k1, k2⟩ := PtT.nl (Same.nl (e10.trans e11)) hq
        refine ⟨t, _, rfl, SqT.of htt, rfl, _, _, rfl, _, _, rfl, rfl, rfl, ?_⟩
        refine ⟨_, rfl, _, rfl, by show 2 ≤ sizeLine; decide, fun tp ntp => ?_⟩
        generalize q12 : upd H11 tp _ = H12
        have h12 := nAt q12
        have e12 := nSm q12 ntp
        have hD12 := e12 _ _ hD
        refine ⟨us, hD12, ?_, ?_⟩
        · rw [hus.len, List.length_take]
          exact Nat.lt_of_le_of_lt (Nat.min_le_right _ _) (Nat.lt_of_le_of_lt (by omega : bi.length ≤ 8) (show 8 < sizeLine by decide))
        · generalize q13 : upd H12 D _ = H13
          have h13 := nAt q13
          have b13 : But D H12 H13 := by rw [← q13]; exact (But.refl D H12).upd
          have n13 : NL H12 H13 := But.nl hD12 b13
          refine ⟨fun b o hb => b13 _ _ (ne_of_none hb nD) (e12 _ _ (e11 _ _ hb)), _, h13, ?_⟩
          have et : bi.take (i + 1) = bi.take i ++ [p] := by rw [List.take_succ, hp]; rfl
          rw [et]
          exact (hus.imp fun _ _ z => PtT.nl ((Same.nl e12).trans n13) z).snoc (PtT.nl n13 ⟨tp, f1, f2, rfl, h12, k1.same e12, k2.same e12⟩)
      rintro H11 ⟨e11, us, hD, hus⟩
      rw [gi.len, List.take_length] at hus
      have e911 := e10.trans e11
      have hat : atI (wi ++ [V.ref tl]) (-1) = some (.ref tl) := atI_last wi _
      refine ⟨_, rfl, _, rfl, dd, _, _, _, rfl, rfl, SqL.of (e911 _ _ hw), hat, tl, _, _, _, rfl, rfl, SqT.of (e911 _ _ htl), rfl, ?_⟩
      refine ⟨_, rfl, _, rfl, dd, _, _, _, rfl, rfl, SqL.of (e911 _ _ hw), hat, tl, _, _, _, rfl, rfl, SqT.of (e911 _ _ htl), rfl, ?_⟩
      refine plus1 (kl2.same e911) (hpl.2.mono (by decide)) fun v12 H12 e12 k12 => ?_
      refine ⟨by show 2 ≤ sizeLine; decide, fun tp ntp => ?_⟩
      generalize q13 : upd H12 tp _ = H13
      have h13 := nAt q13
      have e13 := nSm q13 ntp
      refine ⟨by show 1 ≤ sizeLine; decide, fun l5 n5 => ?_⟩
      generalize q14 : upd H13 l5 _ = H14
      have h14 := nAt q14
      have e14 := nSm q14 n5
      have e1114 : Same H11 H14 := e12.trans (e13.trans e14)
      have hul := hus.len
      refine ⟨D, l5, _, _, rfl, rfl, e1114 _ _ hD, h14, ?_, fun m3 nm3 => ?_⟩
      · simp only [List.length_append, List.length_cons, List.length_nil]
        exact Nat.le_trans (by omega : us.length + (0 + 1) ≤ 9) (show 9 ≤ sizeLine by decide)
      generalize q15 : upd H14 m3 _ = H15
      have h15 := nAt q15
      have e15 := nSm q15 nm3
      have e1115 : Same H11 H15 := e1114.trans e15
      have w15 := w9.same (e911.trans e1115)
      have lo15 := lo.same (e911.trans e1115)
      have hgm : All2 (GPt C H15) (us ++ [.ref tp]) (bi ++ [(pl.1, pl.2 + 1)]) := by
        refine (hus.imp fun _ _ z => tog (PtT.nl (Same.nl e1115) z)).snoc ?_
        exact ⟨tp, l1, v12, rfl, .inr (e15 _ _ (e14 _ _ h13)), (kl1.same (e911.trans e1115)).num, k12.same (e13.trans (e14.trans e15))⟩
      have incB := inc.bends
      rw [eb] at incB
      have incq : Inc (bi ++ [(pl.1, pl.2 + 1)]) := by
        obtain ⟨i1, _, i3⟩ := List.pairwise_append.mp incB
        refine List.pairwise_append.mpr ⟨i1, by simp, fun a ha b hb => ?_⟩
        have : b = (pl.1, pl.2 + 1) := by simpa using hb
        rw [this]
        exact i3 a ha pl (by simp)
      have htq : HtL (bi ++ [(pl.1, pl.2 + 1)]) := fun p hp => by
        rcases List.mem_append.mp hp with h | h
        · exact htB p (by rw [eb]; simp [h])
        · have : p = (pl.1, pl.2 + 1) := by simpa using h
          rw [this]
          exact ⟨hpl.1.mono (by decide), (hpl.2.add (show Ht 1 1 from ⟨by decide, by decide⟩)).mono (by decide)⟩
      have neq : bends ps ≠ bends (bi ++ [(pl.1, pl.2 + 1)]) := fun z => by
        have := congrArg List.getLast? z
        rw [bends_last (bi ++ [(pl.1, pl.2 + 1)]), eb, List.getLast?_concat, List.getLast?_concat] at this
        have h2 := congrArg Prod.snd (Option.some.inj this)
        have h3 : pl.2 = pl.2 + 1 := h2
        grind
      clear hD hus h13 h14 q10 q13 q14 q15 k12 h10 kl1 kl2 htl gl gi hw
      -- line != other
      refine ⟨_, rfl, _, rfl, neLn T.toXC TL w15.ln lo15 fun H16 e16 => ⟨_, rfl, ?_⟩⟩
      rw [decide_eq_true rfl]
      refine iteF ?_
      have w16 := w15.same e16
      -- line == Line(moved)
      refine ⟨_, rfl, _, rfl, fun xm dm nx nd ne => mkL ⟨m3, _, rfl, .inl (e16 _ _ h15), hgm.imp fun _ _ z => z.same e16⟩ incq (by simp; omega) (by simp; omega) htq nx nd ne fun rm H17 e17 nr hLm hRm => ⟨rfl, ?_⟩⟩
      have w17 := w16.same e17
      refine eqLn T.toXC TL w17.ln ⟨xm, dm, rm, rfl, hLm, hRm⟩ fun H18 e18 => ⟨_, rfl, ?_⟩
      rw [decide_eq_false neq]
      refine iteF ?_
      have w18 := w17.same e18
      clear hLm hRm nx nd ne nr w15 w16 w17 lo15
      -- any
      refine ⟨_, rfl, fun dk ndk => ?_⟩
      generalize q19 : upd H18 dk _ = H19
      have h19 := nAt q19
      have e19 := nSm q19 ndk
      refine ⟨by show 4 ≤ sizeLine; decide, fun lq nlq => ?_⟩
      generalize q20 : upd H19 lq _ = H20
      have h20 := nAt q20
      have e20 := nSm q20 nlq
      have w20 := w18.same (e19.trans e20)
      replace h19 := e20 _ _ h19
      obtain ⟨wd, hwd, _⟩ := id w20.td
      refine ⟨lq, rfl, ⟨_, SqL.of h20⟩, fun D3 nD3 => ?_⟩
      refine lc_it (walk_list (xs := [V.non, .ref dd, .int 5, .ref dk])) (fun i H' => Same H20 H' ∧ H' D3 = some (.lst (List.replicate i (.bl false)))) ⟨Same.new nD3, upd_same⟩ (fun i H' _ ⟨e, _⟩ => SqL.of (e _ _ h20)) ?_ ?_
      · rintro i x H21' H21 hi ⟨e21, hD⟩ ⟨rfl, hx⟩
        have hty : ∃ t, t ∈ typs ∧ TyX K H21 x (.type t) := by
          rcases i with _ | _ | _ | _ | i
          · cases hx; exact ⟨"NoneType", by simp [typs], .base .non⟩
          · cases hx; exact ⟨"list", by simp [typs], .base (.lst (e21 _ _ hwd))⟩
          · cases hx; exact ⟨"int", by simp [typs], .base (.int 5)⟩
          · cases hx; exact ⟨"dict", by simp [typs], .base (.dK (e21 _ _ h19))⟩
          · cases hx
        obtain ⟨t, htm, hty⟩ := hty
        refine ⟨rfl, _, rfl, _, rfl, eqLo TL htm (w20.ln.same e21) hty fun H22 e22 => ⟨_, e22 _ _ hD, ?_, ?_, ?_⟩⟩
        · rw [List.length_replicate]
          exact Nat.lt_of_lt_of_le hi (show 4 ≤ sizeLine by decide)
        · intro b o hb
          rw [upd_ne (ne_of_none hb nD3)]
          exact e22 _ _ (e21 _ _ hb)
        · rw [upd_same, List.replicate_succ']
      rintro H21 ⟨e21, hD⟩
      have eD : List.replicate [V.non, V.ref dd, V.int 5, V.ref dk].length (V.bl false) = (List.replicate 4 false).map V.bl := rfl
      rw [eD] at hD
      refine ⟨D3, _, rfl, SqL.of hD, _, rfl, iteF ?_⟩
      exact ⟨_, _, _, _, _, _, _, _, _, _, _, _, _, _, rfl, (w20.same e21).s⟩
    · rintro σ H1 _
      exact k _
end
end LW
set_option Elab.async false
set_option linter.all false
set_option maxRecDepth 100000
set_option maxHeartbeats 0
namespace LW
open PySem PySem.Spec PyProof.Rows L2 LV LM
def dd_is_integer : He.DefD := ⟨("is_integer", none), "is_integer", "is_integer", defArgs s_is_integer, defBody s_is_integer, defScope s_is_integer, [], []⟩
def dd_is_number : He.DefD := ⟨("is_number", none), "is_number", "is_number", defArgs s_is_number, defBody s_is_number, defScope s_is_number, [], []⟩
def dd_common : He.DefD := ⟨("common", none), "common", "common", defArgs s_common, defBody s_common, defScope s_common, [], []⟩
def dd_Exact___init__ : He.DefD := ⟨("Exact", some "__init__"), "__init__", "Exact.__init__", defArgs s_Exact___init__, defBody s_Exact___init__, defScope s_Exact___init__, [.int 1], []⟩
def dd_part_of : He.DefD := ⟨("part_of", none), "part_of", "part_of", defArgs s_part_of, defBody s_part_of, defScope s_part_of, [], []⟩
def dd_Exact___add__ : He.DefD := ⟨("Exact", some "__add__"), "__add__", "Exact.__add__", defArgs s_Exact___add__, defBody s_Exact___add__, defScope s_Exact___add__, [], []⟩
def dd_Exact___sub__ : He.DefD := ⟨("Exact", some "__sub__"), "__sub__", "Exact.__sub__", defArgs s_Exact___sub__, defBody s_Exact___sub__, defScope s_Exact___sub__, [], []⟩
def dd_Exact___mul__ : He.DefD := ⟨("Exact", some "__mul__"), "__mul__", "Exact.__mul__", defArgs s_Exact___mul__, defBody s_Exact___mul__, defScope s_Exact___mul__, [], []⟩
def dd_Exact___radd__ : He.DefD := ⟨("Exact", some "__radd__"), "__radd__", "Exact.__radd__", defArgs s_Exact___radd__, defBody s_Exact___radd__, defScope s_Exact___radd__, [], []⟩
def dd_Exact___rsub__ : He.DefD := ⟨("Exact", some "__rsub__"), "__rsub__", "Exact.__rsub__", defArgs s_Exact___rsub__, defBody s_Exact___rsub__, defScope s_Exact___rsub__, [], []⟩
def dd_Exact___rmul__ : He.DefD := ⟨("Exact", some "__rmul__"), "__rmul__", "Exact.__rmul__", defArgs s_Exact___rmul__, defBody s_Exact___rmul__, defScope s_Exact___rmul__, [], []⟩
def dd_Exact_by : He.DefD := ⟨("Exact", some "by"), "by", "Exact.by", defArgs s_Exact_by, defBody s_Exact_by, defScope s_Exact_by, [], []⟩
def dd_Exact___eq__ : He.DefD := ⟨("Exact", some "__eq__"), "__eq__", "Exact.__eq__", defArgs s_Exact___eq__, defBody s_Exact___eq__, defScope s_Exact___eq__, [], []⟩
def dd_Exact___lt__ : He.DefD := ⟨("Exact", some "__lt__"), "__lt__", "Exact.__lt__", defArgs s_Exact___lt__, defBody s_Exact___lt__, defScope s_Exact___lt__, [], []⟩
def dd_Exact___le__ : He.DefD := ⟨("Exact", some "__le__"), "__le__", "Exact.__le__", defArgs s_Exact___le__, defBody s_Exact___le__, defScope s_Exact___le__, [], []⟩
def dd_Exact___gt__ : He.DefD := ⟨("Exact", some "__gt__"), "__gt__", "Exact.__gt__", defArgs s_Exact___gt__, defBody s_Exact___gt__, defScope s_Exact___gt__, [], []⟩
def dd_Exact___ge__ : He.DefD := ⟨("Exact", some "__ge__"), "__ge__", "Exact.__ge__", defArgs s_Exact___ge__, defBody s_Exact___ge__, defScope s_Exact___ge__, [], []⟩
def dd_plain : He.DefD := ⟨("plain", none), "plain", "plain", defArgs s_plain, defBody s_plain, defScope s_plain, [], []⟩
def dd_is_list : He.DefD := ⟨("is_list", none), "is_list", "is_list", defArgs s_is_list, defBody s_is_list, defScope s_is_list, [], []⟩
def dd_checked_points : He.DefD := ⟨("checked_points", none), "checked_points", "checked_points", defArgs s_checked_points, defBody s_checked_points, defScope s_checked_points, [], []⟩
def dd_slope : He.DefD := ⟨("slope", none), "slope", "slope", defArgs s_slope, defBody s_slope, defScope s_slope, [], []⟩
def dd_bent : He.DefD := ⟨("bent", none), "bent", "bent", defArgs s_bent, defBody s_bent, defScope s_bent, [], []⟩
def dd_Line___init__ : He.DefD := ⟨("Line", some "__init__"), "__init__", "Line.__init__", defArgs s_Line___init__, defBody s_Line___init__, defScope s_Line___init__, [], []⟩
def dd_Line___eq__ : He.DefD := ⟨("Line", some "__eq__"), "__eq__", "Line.__eq__", defArgs s_Line___eq__, defBody s_Line___eq__, defScope s_Line___eq__, [], []⟩
def dd_Line___call__ : He.DefD := ⟨("Line", some "__call__"), "__call__", "Line.__call__", defArgs s_Line___call__, defBody s_Line___call__, defScope s_Line___call__, [], []⟩
def dd_Line_points : He.DefD := ⟨("Line", some "points"), "points", "Line.points", defArgs s_Line_points, defBody s_Line_points, defScope s_Line_points, [], []⟩
def dd_height_at : He.DefD := ⟨("height_at", none), "height_at", "height_at", defArgs s_height_at, defBody s_height_at, defScope s_height_at, [], []⟩
def dd__law_fresh : He.DefD := ⟨("_law_fresh", none), "_law_fresh", "_law_fresh", defArgs s__law_fresh, defBody s__law_fresh, defScope s__law_fresh, [], []⟩
def dd__law_fill : He.DefD := ⟨("_law_fill", none), "_law_fill", "_law_fill", defArgs s__law_fill, defBody s__law_fill, defScope s__law_fill, [], []⟩
def dd__law_take : He.DefD := ⟨("_law_take", none), "_law_take", "_law_take", defArgs s__law_take, defBody s__law_take, defScope s__law_take, [], []⟩
def dd__law_handed : He.DefD := ⟨("_law_handed", none), "_law_handed", "_law_handed", defArgs s__law_handed, defBody s__law_handed, defScope s__law_handed, [], []⟩
def dd__law_same : He.DefD := ⟨("_law_same", none), "_law_same", "_law_same", defArgs s__law_same, defBody s__law_same, defScope s__law_same, [], []⟩
def dd__law_spoil : He.DefD := ⟨("_law_spoil", none), "_law_spoil", "_law_spoil", defArgs s__law_spoil, defBody s__law_spoil, defScope s__law_spoil, [], []⟩
def dd__law_gcd : He.DefD := ⟨("_law_gcd", none), "_law_gcd", "_law_gcd", defArgs s__law_gcd, defBody s__law_gcd, defScope s__law_gcd, [], []⟩
def dd__law_frac : He.DefD := ⟨("_law_frac", none), "_law_frac", "_law_frac", defArgs s__law_frac, defBody s__law_frac, defScope s__law_frac, [], []⟩
def dd__law_add : He.DefD := ⟨("_law_add", none), "_law_add", "_law_add", defArgs s__law_add, defBody s__law_add, defScope s__law_add, [], []⟩
def dd__law_mul : He.DefD := ⟨("_law_mul", none), "_law_mul", "_law_mul", defArgs s__law_mul, defBody s__law_mul, defScope s__law_mul, [], []⟩
def dd__law_less : He.DefD := ⟨("_law_less", none), "_law_less", "_law_less", defArgs s__law_less, defBody s__law_less, defScope s__law_less, [], []⟩
def dd__law_as_number : He.DefD := ⟨("_law_as_number", none), "_law_as_number", "_law_as_number", defArgs s__law_as_number, defBody s__law_as_number, defScope s__law_as_number, [], []⟩
def dd__law_plain : He.DefD := ⟨("_law_plain", none), "_law_plain", "_law_plain", defArgs s__law_plain, defBody s__law_plain, defScope s__law_plain, [], []⟩
def dd__law_is_told : He.DefD := ⟨("_law_is_told", none), "_law_is_told", "_law_is_told", defArgs s__law_is_told, defBody s__law_is_told, defScope s__law_is_told, [], []⟩
def dd__law_on : He.DefD := ⟨("_law_on", none), "_law_on", "_law_on", defArgs s__law_on, defBody s__law_on, defScope s__law_on, [], []⟩
def dd__law_course_of : He.DefD := ⟨("_law_course_of", none), "_law_course_of", "_law_course_of", defArgs s__law_course_of, defBody s__law_course_of, defScope s__law_course_of, [], []⟩
def dd__law_bends : He.DefD := ⟨("_law_bends", none), "_law_bends", "_law_bends", defArgs s__law_bends, defBody s__law_bends, defScope s__law_bends, [], []⟩
def dd_law : He.DefD := ⟨("law", none), "law", "law", defArgs s_law, defBody s_law, defScope s_law, [], []⟩
def fnL : List He.DefD := [dd_is_integer, dd_is_number, dd_common, dd_Exact___init__, dd_part_of, dd_Exact___add__, dd_Exact___sub__, dd_Exact___mul__, dd_Exact___radd__, dd_Exact___rsub__, dd_Exact___rmul__, dd_Exact_by, dd_Exact___eq__, dd_Exact___lt__, dd_Exact___le__, dd_Exact___gt__, dd_Exact___ge__, dd_plain, dd_is_list, dd_checked_points, dd_slope, dd_bent, dd_Line___init__, dd_Line___eq__, dd_Line___call__, dd_Line_points, dd_height_at, dd__law_fresh, dd__law_fill, dd__law_take, dd__law_handed, dd__law_same, dd__law_spoil, dd__law_gcd, dd__law_frac, dd__law_add, dd__law_mul, dd__law_less, dd__law_as_number, dd__law_plain, dd__law_is_told, dd__law_on, dd__law_course_of, dd__law_bends, dd_law]
def faL : List He.Fa := [.free "len", .free "int", .free "enumerate", .free "isinstance", .free "zip", .free "all", .free "range", .free "list", .free "tuple", .free "bool", .free "any", .glo "Exact", .cls "Exact", .noat "Exact" "over", .noat "Exact" "under", .mkr "Exact", .glo "Line", .cls "Line", .noat "Line" "rows", .mkr "Line", .glo "is_integer", .glo "is_number", .glo "common", .glo "part_of", .meth "Exact" "__add__", .meth "Exact" "__sub__", .meth "Exact" "__mul__", .meth "Exact" "__radd__", .meth "Exact" "__rsub__", .meth "Exact" "__rmul__", .meth "Exact" "by", .meth "Exact" "__eq__", .meth "Exact" "__lt__", .meth "Exact" "__le__", .meth "Exact" "__gt__", .meth "Exact" "__ge__", .glo "plain", .glo "is_list", .glo "checked_points", .glo "slope", .glo "bent", .meth "Line" "__eq__", .meth "Line" "__call__", .meth "Line" "points", .glo "height_at", .glo "_law_fresh", .glo "_law_fill", .glo "_law_take", .glo "_law_handed", .glo "_law_same", .glo "_law_spoil", .glo "_law_gcd", .glo "_law_frac", .glo "_law_add", .glo "_law_mul", .glo "_law_less", .glo "_law_as_number", .glo "_law_plain", .glo "_law_is_told", .glo "_law_on", .glo "_law_course_of", .glo "_law_bends", .glo "law"]
def loose0 : List PySem.Str := ["_wall", "LevelError", "BadPart", "BadPoint", "BadMoment", "is_integer", "is_number", "common", "Exact", "part_of", "plain", "is_list", "checked_points", "slope", "bent", "Line", "height_at", "_law_fresh", "_law_fill", "_law_take", "_law_handed", "_law_same", "_law_spoil", "_law_gcd", "_law_frac", "_law_add", "_law_mul", "_law_less", "_law_as_number", "_law_plain"]
def loose1 : List PySem.Str := ["_law_is_told", "_law_on", "_law_course_of", "_law_bends"]
abbrev looseL : List PySem.Str := loose0 ++ loose1
abbrev lawI : Nat := 39
/-- what else is looked at -/
def exB (K : PySem.W.Frag) : Bool :=
  (decide (PySem.W.findIn K (.ref (He.ga K "Line")) "__class__" = some (some (.builtin "object.__class__"))) && decide (PySem.W.mroIn K (He.ga K "Line") (.type "object") = some true) && decide (PySem.W.findIn K (.ref (He.ga K "Line")) "__ne__" = some (some (.builtin "object.__ne__")))) &&
  (typs.all fun t => decide (PySem.W.kitOne K (.type t) (.ref (He.ga K "Line")) = some false) && decide (PySem.W.subIn K (.type t) (.ref (He.ga K "Line")) = some false)) &&
  (match PySem.W.findIn K (.ref (He.ga K "Line")) "__call__" with | some (some (.ref g)) => PySem.W.fnIn K g | _ => false) &&
  (  (typs.all fun t => decide (PySem.W.kitOne K (.type t) (.ref (He.ga K "Exact")) = some false) && decide (PySem.W.subIn K (.type t) (.ref (He.ga K "Exact")) = some false) && decide (PySem.W.subIn K (.ref (He.ga K "Exact")) (.type t) = some false)) &&
  decide (PySem.W.findIn K (.ref (He.ga K "Exact")) "__ne__" = some (some (.builtin "object.__ne__"))) &&
  (  (PySem.W.selfFirst K (He.ga K "Exact") && decide (PySem.W.subIn K (.type "int") (.ref (He.ga K "Exact")) = some false) && decide (PySem.W.subIn K (.ref (He.ga K "Exact")) (.type "int") = some false)) &&
  (decide (PySem.W.findIn K (.ref (He.ga K "Exact")) "__class__" = some (some (.builtin "object.__class__"))) && decide (PySem.W.specialIn K (.builtin "object.__class__") "__get__" = some (some (.builtin "getset_descriptor.__get__"))) && decide (PySem.W.takesIn K (.builtin "object.__class__") = some true) && decide (PySem.W.mroIn K (He.ga K "Exact") (.type "object") = some true)) &&
  (decide (PySem.W.kitOne K (.ref (He.ga K "Exact")) (.type "int") = some false) && decide (PySem.W.kitOne K (.ref (He.ga K "Exact")) (.type "bool") = some false) && decide (PySem.W.kitOne K (.ref (He.ga K "Exact")) (.type "list") = some false) && decide (PySem.W.kitOne K (.ref (He.ga K "Exact")) (.type "tuple") = some false)) &&
  (decide (PySem.W.kitOne K (.type "int") (.ref (He.ga K "Exact")) = some false) && decide (PySem.W.kitOne K (.type "list") (.ref (He.ga K "Exact")) = some false) && decide (PySem.W.kitOne K (.type "tuple") (.ref (He.ga K "Exact")) = some false))))
abbrev R : PySem.W.OpenRow := PySem.W.OpenLaw.row PySem.Challenge.rw_surelevels_k11_lines_told
abbrev hk : PySem.W.Hook := He.hookX 5 faL fnL [] [] exB
def ob (s : PySem.W.SharedT) : He.AlX := He.obsX 5 faL fnL [] [] exB (HandSHeadRun.getT s)
theorem ob_eq (s : PySem.W.SharedT) : ob s = hk.obs s.abs := He.obsX_eq (HandSHeadRun.getT_eq s)
theorem run (w : World) : HandSHeadRun.RunEq R (PySem.W.view R.prog [lawI]) hk ob 20000 looseL w := by
  intro os
  kernel_rfl
theorem facts {P : Program} {w : World} {K : PySem.W.Frag} {h : Heap} {mg : Str → Option Value} {fl : Addr} (XK : K.In h) (G : h.Ns mainGlobals mg) (hfa : mg ("law" : Str) = some (.ref fl)) (c : He.SaysX faL fnL [] [] exB w h K) :
    ∃ fd : FuncData, (∀ (s : Shared) (v : Value), BindsTo s fd ⟨[v], []⟩ [("_law_script", v)]) ∧ ∀ base : Heap, K.In base → base.Ns mainGlobals mg → FnOk P w K mg base CX0 10 fl fd ["_law_script"] (spLaw K) := by
  have dS := c.t.d
  have hex := c.more
  obtain ⟨fd_is_integer, F_is_integer⟩ := dS.def_ 0 (d := dd_is_integer) rfl
  have b_is_integer := FunD.bindsN (ps := ["thing"]) F_is_integer fun _ _ _ _ _ _ us hl => match us, hl with | [_], _ => rfl
  have g_is_integer := He.glo_ok XK G (dS.fact 20 (f := .glo "is_integer") rfl)
  obtain ⟨fd_is_number, F_is_number⟩ := dS.def_ 1 (d := dd_is_number) rfl
  have b_is_number := FunD.bindsN (ps := ["thing"]) F_is_number fun _ _ _ _ _ _ us hl => match us, hl with | [_], _ => rfl
  have g_is_number := He.glo_ok XK G (dS.fact 21 (f := .glo "is_number") rfl)
  obtain ⟨fd_common, F_common⟩ := dS.def_ 2 (d := dd_common) rfl
  have b_common := FunD.bindsN (ps := ["a", "b"]) F_common fun _ _ _ _ _ _ us hl => match us, hl with | [_, _], _ => rfl
  have g_common := He.glo_ok XK G (dS.fact 22 (f := .glo "common") rfl)
  obtain ⟨fd_Exact___init__, F_Exact___init__⟩ := dS.def_ 3 (d := dd_Exact___init__) rfl
  obtain ⟨fd_part_of, F_part_of⟩ := dS.def_ 4 (d := dd_part_of) rfl
  have b_part_of := FunD.bindsN (ps := ["other"]) F_part_of fun _ _ _ _ _ _ us hl => match us, hl with | [_], _ => rfl
  have g_part_of := He.glo_ok XK G (dS.fact 23 (f := .glo "part_of") rfl)
  obtain ⟨fd_Exact___add__, F_Exact___add__⟩ := dS.def_ 5 (d := dd_Exact___add__) rfl
  have b_Exact___add__ := FunD.bindsN (ps := ["self", "other"]) F_Exact___add__ fun _ _ _ _ _ _ us hl => match us, hl with | [_, _], _ => rfl
  have me_Exact___add__ := He.meth_ok (dS.fact 24 (f := .meth "Exact" "__add__") rfl)
  obtain ⟨fd_Exact___sub__, F_Exact___sub__⟩ := dS.def_ 6 (d := dd_Exact___sub__) rfl
  have b_Exact___sub__ := FunD.bindsN (ps := ["self", "other"]) F_Exact___sub__ fun _ _ _ _ _ _ us hl => match us, hl with | [_, _], _ => rfl
  have me_Exact___sub__ := He.meth_ok (dS.fact 25 (f := .meth "Exact" "__sub__") rfl)
  obtain ⟨fd_Exact___mul__, F_Exact___mul__⟩ := dS.def_ 7 (d := dd_Exact___mul__) rfl
  have b_Exact___mul__ := FunD.bindsN (ps := ["self", "other"]) F_Exact___mul__ fun _ _ _ _ _ _ us hl => match us, hl with | [_, _], _ => rfl
  have me_Exact___mul__ := He.meth_ok (dS.fact 26 (f := .meth "Exact" "__mul__") rfl)
  obtain ⟨fd_Exact___radd__, F_Exact___radd__⟩ := dS.def_ 8 (d := dd_Exact___radd__) rfl
  have b_Exact___radd__ := FunD.bindsN (ps := ["self", "other"]) F_Exact___radd__ fun _ _ _ _ _ _ us hl => match us, hl with | [_, _], _ => rfl
  have me_Exact___radd__ := He.meth_ok (dS.fact 27 (f := .meth "Exact" "__radd__") rfl)
  obtain ⟨fd_Exact___rsub__, F_Exact___rsub__⟩ := dS.def_ 9 (d := dd_Exact___rsub__) rfl
  have b_Exact___rsub__ := FunD.bindsN (ps := ["self", "other"]) F_Exact___rsub__ fun _ _ _ _ _ _ us hl => match us, hl with | [_, _], _ => rfl
  have me_Exact___rsub__ := He.meth_ok (dS.fact 28 (f := .meth "Exact" "__rsub__") rfl)
  obtain ⟨fd_Exact___rmul__, F_Exact___rmul__⟩ := dS.def_ 10 (d := dd_Exact___rmul__) rfl
  have b_Exact___rmul__ := FunD.bindsN (ps := ["self", "other"]) F_Exact___rmul__ fun _ _ _ _ _ _ us hl => match us, hl with | [_, _], _ => rfl
  have me_Exact___rmul__ := He.meth_ok (dS.fact 29 (f := .meth "Exact" "__rmul__") rfl)
  obtain ⟨fd_Exact_by, F_Exact_by⟩ := dS.def_ 11 (d := dd_Exact_by) rfl
  have b_Exact_by := FunD.bindsN (ps := ["self", "other"]) F_Exact_by fun _ _ _ _ _ _ us hl => match us, hl with | [_, _], _ => rfl
  have me_Exact_by := He.meth_ok (dS.fact 30 (f := .meth "Exact" "by") rfl)
  obtain ⟨fd_Exact___eq__, F_Exact___eq__⟩ := dS.def_ 12 (d := dd_Exact___eq__) rfl
  have b_Exact___eq__ := FunD.bindsN (ps := ["self", "other"]) F_Exact___eq__ fun _ _ _ _ _ _ us hl => match us, hl with | [_, _], _ => rfl
  have me_Exact___eq__ := He.meth_ok (dS.fact 31 (f := .meth "Exact" "__eq__") rfl)
  obtain ⟨fd_Exact___lt__, F_Exact___lt__⟩ := dS.def_ 13 (d := dd_Exact___lt__) rfl
  have b_Exact___lt__ := FunD.bindsN (ps := ["self", "other"]) F_Exact___lt__ fun _ _ _ _ _ _ us hl => match us, hl with | [_, _], _ => rfl
  have me_Exact___lt__ := He.meth_ok (dS.fact 32 (f := .meth "Exact" "__lt__") rfl)
  obtain ⟨fd_Exact___le__, F_Exact___le__⟩ := dS.def_ 14 (d := dd_Exact___le__) rfl
  have b_Exact___le__ := FunD.bindsN (ps := ["self", "other"]) F_Exact___le__ fun _ _ _ _ _ _ us hl => match us, hl with | [_, _], _ => rfl
  have me_Exact___le__ := He.meth_ok (dS.fact 33 (f := .meth "Exact" "__le__") rfl)
  obtain ⟨fd_Exact___gt__, F_Exact___gt__⟩ := dS.def_ 15 (d := dd_Exact___gt__) rfl
  have b_Exact___gt__ := FunD.bindsN (ps := ["self", "other"]) F_Exact___gt__ fun _ _ _ _ _ _ us hl => match us, hl with | [_, _], _ => rfl
  have me_Exact___gt__ := He.meth_ok (dS.fact 34 (f := .meth "Exact" "__gt__") rfl)
  obtain ⟨fd_Exact___ge__, F_Exact___ge__⟩ := dS.def_ 16 (d := dd_Exact___ge__) rfl
  have b_Exact___ge__ := FunD.bindsN (ps := ["self", "other"]) F_Exact___ge__ fun _ _ _ _ _ _ us hl => match us, hl with | [_, _], _ => rfl
  have me_Exact___ge__ := He.meth_ok (dS.fact 35 (f := .meth "Exact" "__ge__") rfl)
  obtain ⟨fd_plain, F_plain⟩ := dS.def_ 17 (d := dd_plain) rfl
  have b_plain := FunD.bindsN (ps := ["number"]) F_plain fun _ _ _ _ _ _ us hl => match us, hl with | [_], _ => rfl
  have g_plain := He.glo_ok XK G (dS.fact 36 (f := .glo "plain") rfl)
  obtain ⟨fd_is_list, F_is_list⟩ := dS.def_ 18 (d := dd_is_list) rfl
  have b_is_list := FunD.bindsN (ps := ["thing"]) F_is_list fun _ _ _ _ _ _ us hl => match us, hl with | [_], _ => rfl
  have g_is_list := He.glo_ok XK G (dS.fact 37 (f := .glo "is_list") rfl)
  obtain ⟨fd_checked_points, F_checked_points⟩ := dS.def_ 19 (d := dd_checked_points) rfl
  have b_checked_points := FunD.bindsN (ps := ["points"]) F_checked_points fun _ _ _ _ _ _ us hl => match us, hl with | [_], _ => rfl
  have g_checked_points := He.glo_ok XK G (dS.fact 38 (f := .glo "checked_points") rfl)
  obtain ⟨fd_slope, F_slope⟩ := dS.def_ 20 (d := dd_slope) rfl
  have b_slope := FunD.bindsN (ps := ["one", "other"]) F_slope fun _ _ _ _ _ _ us hl => match us, hl with | [_, _], _ => rfl
  have g_slope := He.glo_ok XK G (dS.fact 39 (f := .glo "slope") rfl)
  obtain ⟨fd_bent, F_bent⟩ := dS.def_ 21 (d := dd_bent) rfl
  have b_bent := FunD.bindsN (ps := ["points"]) F_bent fun _ _ _ _ _ _ us hl => match us, hl with | [_], _ => rfl
  have g_bent := He.glo_ok XK G (dS.fact 40 (f := .glo "bent") rfl)
  obtain ⟨fd_Line___init__, F_Line___init__⟩ := dS.def_ 22 (d := dd_Line___init__) rfl
  have b_Line___init__ := FunD.bindsN (ps := ["self", "points"]) F_Line___init__ fun _ _ _ _ _ _ us hl => match us, hl with | [_, _], _ => rfl
  obtain ⟨fd_Line___eq__, F_Line___eq__⟩ := dS.def_ 23 (d := dd_Line___eq__) rfl
  have b_Line___eq__ := FunD.bindsN (ps := ["self", "other"]) F_Line___eq__ fun _ _ _ _ _ _ us hl => match us, hl with | [_, _], _ => rfl
  have me_Line___eq__ := He.meth_ok (dS.fact 41 (f := .meth "Line" "__eq__") rfl)
  obtain ⟨fd_Line___call__, F_Line___call__⟩ := dS.def_ 24 (d := dd_Line___call__) rfl
  have b_Line___call__ := FunD.bindsN (ps := ["self", "moment"]) F_Line___call__ fun _ _ _ _ _ _ us hl => match us, hl with | [_, _], _ => rfl
  have me_Line___call__ := He.meth_ok (dS.fact 42 (f := .meth "Line" "__call__") rfl)
  obtain ⟨fd_Line_points, F_Line_points⟩ := dS.def_ 25 (d := dd_Line_points) rfl
  have b_Line_points := FunD.bindsN (ps := ["self"]) F_Line_points fun _ _ _ _ _ _ us hl => match us, hl with | [_], _ => rfl
  have me_Line_points := He.meth_ok (dS.fact 43 (f := .meth "Line" "points") rfl)
  obtain ⟨fd_height_at, F_height_at⟩ := dS.def_ 26 (d := dd_height_at) rfl
  have b_height_at := FunD.bindsN (ps := ["rows", "moment"]) F_height_at fun _ _ _ _ _ _ us hl => match us, hl with | [_, _], _ => rfl
  have g_height_at := He.glo_ok XK G (dS.fact 44 (f := .glo "height_at") rfl)
  obtain ⟨fd__law_fresh, F__law_fresh⟩ := dS.def_ 27 (d := dd__law_fresh) rfl
  have b__law_fresh := FunD.bindsN (ps := ["_law_script"]) F__law_fresh fun _ _ _ _ _ _ us hl => match us, hl with | [_], _ => rfl
  have g__law_fresh := He.glo_ok XK G (dS.fact 45 (f := .glo "_law_fresh") rfl)
  obtain ⟨fd__law_fill, F__law_fill⟩ := dS.def_ 28 (d := dd__law_fill) rfl
  have b__law_fill := FunD.bindsN (ps := ["_law_state"]) F__law_fill fun _ _ _ _ _ _ us hl => match us, hl with | [_], _ => rfl
  have g__law_fill := He.glo_ok XK G (dS.fact 46 (f := .glo "_law_fill") rfl)
  obtain ⟨fd__law_take, F__law_take⟩ := dS.def_ 29 (d := dd__law_take) rfl
  have b__law_take := FunD.bindsN (ps := ["_law_state", "_law_many"]) F__law_take fun _ _ _ _ _ _ us hl => match us, hl with | [_, _], _ => rfl
  have g__law_take := He.glo_ok XK G (dS.fact 47 (f := .glo "_law_take") rfl)
  obtain ⟨fd__law_handed, F__law_handed⟩ := dS.def_ 30 (d := dd__law_handed) rfl
  have b__law_handed := FunD.bindsN (ps := ["_law_state", "_law_things"]) F__law_handed fun _ _ _ _ _ _ us hl => match us, hl with | [_, _], _ => rfl
  have g__law_handed := He.glo_ok XK G (dS.fact 48 (f := .glo "_law_handed") rfl)
  obtain ⟨fd__law_same, F__law_same⟩ := dS.def_ 31 (d := dd__law_same) rfl
  have b__law_same := FunD.bindsN (ps := ["_law_found", "_law_due"]) F__law_same fun _ _ _ _ _ _ us hl => match us, hl with | [_, _], _ => rfl
  have g__law_same := He.glo_ok XK G (dS.fact 49 (f := .glo "_law_same") rfl)
  obtain ⟨fd__law_spoil, F__law_spoil⟩ := dS.def_ 32 (d := dd__law_spoil) rfl
  have b__law_spoil := FunD.bindsN (ps := ["_law_x"]) F__law_spoil fun _ _ _ _ _ _ us hl => match us, hl with | [_], _ => rfl
  have g__law_spoil := He.glo_ok XK G (dS.fact 50 (f := .glo "_law_spoil") rfl)
  obtain ⟨fd__law_gcd, F__law_gcd⟩ := dS.def_ 33 (d := dd__law_gcd) rfl
  have b__law_gcd := FunD.bindsN (ps := ["_law_a", "_law_b"]) F__law_gcd fun _ _ _ _ _ _ us hl => match us, hl with | [_, _], _ => rfl
  have g__law_gcd := He.glo_ok XK G (dS.fact 51 (f := .glo "_law_gcd") rfl)
  obtain ⟨fd__law_frac, F__law_frac⟩ := dS.def_ 34 (d := dd__law_frac) rfl
  have b__law_frac := FunD.bindsN (ps := ["_law_over", "_law_under"]) F__law_frac fun _ _ _ _ _ _ us hl => match us, hl with | [_, _], _ => rfl
  have g__law_frac := He.glo_ok XK G (dS.fact 52 (f := .glo "_law_frac") rfl)
  obtain ⟨fd__law_add, F__law_add⟩ := dS.def_ 35 (d := dd__law_add) rfl
  have b__law_add := FunD.bindsN (ps := ["_law_a", "_law_b"]) F__law_add fun _ _ _ _ _ _ us hl => match us, hl with | [_, _], _ => rfl
  have g__law_add := He.glo_ok XK G (dS.fact 53 (f := .glo "_law_add") rfl)
  obtain ⟨fd__law_mul, F__law_mul⟩ := dS.def_ 36 (d := dd__law_mul) rfl
  have b__law_mul := FunD.bindsN (ps := ["_law_a", "_law_b"]) F__law_mul fun _ _ _ _ _ _ us hl => match us, hl with | [_, _], _ => rfl
  have g__law_mul := He.glo_ok XK G (dS.fact 54 (f := .glo "_law_mul") rfl)
  obtain ⟨fd__law_less, F__law_less⟩ := dS.def_ 37 (d := dd__law_less) rfl
  have b__law_less := FunD.bindsN (ps := ["_law_a", "_law_b"]) F__law_less fun _ _ _ _ _ _ us hl => match us, hl with | [_, _], _ => rfl
  have g__law_less := He.glo_ok XK G (dS.fact 55 (f := .glo "_law_less") rfl)
  obtain ⟨fd__law_as_number, F__law_as_number⟩ := dS.def_ 38 (d := dd__law_as_number) rfl
  have b__law_as_number := FunD.bindsN (ps := ["_law_state", "_law_a"]) F__law_as_number fun _ _ _ _ _ _ us hl => match us, hl with | [_, _], _ => rfl
  have g__law_as_number := He.glo_ok XK G (dS.fact 56 (f := .glo "_law_as_number") rfl)
  obtain ⟨fd__law_plain, F__law_plain⟩ := dS.def_ 39 (d := dd__law_plain) rfl
  have b__law_plain := FunD.bindsN (ps := ["_law_a"]) F__law_plain fun _ _ _ _ _ _ us hl => match us, hl with | [_], _ => rfl
  have g__law_plain := He.glo_ok XK G (dS.fact 57 (f := .glo "_law_plain") rfl)
  obtain ⟨fd__law_is_told, F__law_is_told⟩ := dS.def_ 40 (d := dd__law_is_told) rfl
  have b__law_is_told := FunD.bindsN (ps := ["_law_x", "_law_due"]) F__law_is_told fun _ _ _ _ _ _ us hl => match us, hl with | [_, _], _ => rfl
  have g__law_is_told := He.glo_ok XK G (dS.fact 58 (f := .glo "_law_is_told") rfl)
  obtain ⟨fd__law_on, F__law_on⟩ := dS.def_ 41 (d := dd__law_on) rfl
  have b__law_on := FunD.bindsN (ps := ["_law_course", "_law_t"]) F__law_on fun _ _ _ _ _ _ us hl => match us, hl with | [_, _], _ => rfl
  have g__law_on := He.glo_ok XK G (dS.fact 59 (f := .glo "_law_on") rfl)
  obtain ⟨fd__law_course_of, F__law_course_of⟩ := dS.def_ 42 (d := dd__law_course_of) rfl
  have b__law_course_of := FunD.bindsN (ps := ["_law_state"]) F__law_course_of fun _ _ _ _ _ _ us hl => match us, hl with | [_], _ => rfl
  have g__law_course_of := He.glo_ok XK G (dS.fact 60 (f := .glo "_law_course_of") rfl)
  obtain ⟨fd__law_bends, F__law_bends⟩ := dS.def_ 43 (d := dd__law_bends) rfl
  have b__law_bends := FunD.bindsN (ps := ["_law_course"]) F__law_bends fun _ _ _ _ _ _ us hl => match us, hl with | [_], _ => rfl
  have g__law_bends := He.glo_ok XK G (dS.fact 61 (f := .glo "_law_bends") rfl)
  obtain ⟨fd_law, F_law⟩ := dS.def_ 44 (d := dd_law) rfl
  have b_law := FunD.bindsN (ps := ["_law_script"]) F_law fun _ _ _ _ _ _ us hl => match us, hl with | [_], _ => rfl
  have g_law := He.glo_ok XK G (dS.fact 62 (f := .glo "law") rfl)
  have free_len := He.free_ok XK G (dS.fact 0 (f := .free "len") rfl)
  have free_int := He.free_ok XK G (dS.fact 1 (f := .free "int") rfl)
  have free_enumerate := He.free_ok XK G (dS.fact 2 (f := .free "enumerate") rfl)
  have free_isinstance := He.free_ok XK G (dS.fact 3 (f := .free "isinstance") rfl)
  have free_zip := He.free_ok XK G (dS.fact 4 (f := .free "zip") rfl)
  have free_all := He.free_ok XK G (dS.fact 5 (f := .free "all") rfl)
  have free_range := He.free_ok XK G (dS.fact 6 (f := .free "range") rfl)
  have free_list := He.free_ok XK G (dS.fact 7 (f := .free "list") rfl)
  have free_tuple := He.free_ok XK G (dS.fact 8 (f := .free "tuple") rfl)
  have free_bool := He.free_ok XK G (dS.fact 9 (f := .free "bool") rfl)
  have free_any := He.free_ok XK G (dS.fact 10 (f := .free "any") rfl)
  have g_Exact := He.glo_ok XK G (dS.fact 11 (f := .glo "Exact") rfl)
  have cls_Exact := He.cls_ok (dS.fact 12 (f := .cls "Exact") rfl)
  have noat_Exact_over := He.noat_ok (dS.fact 13 (f := .noat "Exact" "over") rfl)
  have noat_Exact_under := He.noat_ok (dS.fact 14 (f := .noat "Exact" "under") rfl)
  have mkr_Exact := He.mkr_ok (dS.fact 15 (f := .mkr "Exact") rfl)
  have g_Line := He.glo_ok XK G (dS.fact 16 (f := .glo "Line") rfl)
  have cls_Line := He.cls_ok (dS.fact 17 (f := .cls "Line") rfl)
  have noat_Line_rows := He.noat_ok (dS.fact 18 (f := .noat "Line" "rows") rfl)
  have mkr_Line := He.mkr_ok (dS.fact 19 (f := .mkr "Line") rfl)
  have e := hfa.symm.trans g_law
  cases e
  have bl := FunD.bindsA (ps := ["_law_script"]) F_law fun _ _ _ _ _ _ us hl => match us, hl with | [_], _ => rfl
  refine ⟨fd_law, fun s v => bl s [v] rfl, fun base _ _ => ?_⟩
  unfold exB at hex
  simp only [Bool.and_eq_true, decide_eq_true_eq] at hex
  obtain ⟨⟨⟨⟨⟨z1, z2⟩, z3⟩, z4⟩, z5⟩, ⟨⟨y1, y2⟩, ⟨⟨⟨⟨⟨x1, x2⟩, x3⟩, ⟨⟨⟨x4, x5⟩, x6⟩, x7⟩⟩, ⟨⟨⟨x8, x9⟩, x10⟩, x11⟩⟩, ⟨⟨x12, x13⟩, x14⟩⟩⟩⟩ := hex
  have TB : Bt mg := ⟨free_len, free_int, free_enumerate, free_isinstance, free_zip, free_all, free_range, free_list, free_tuple, free_bool⟩
  have T : XC K mg (He.ga K "Exact") := ⟨TB, cls_Exact, noat_Exact_over, noat_Exact_under, ⟨x1, x2, x3⟩, g_Exact, x4, x5, x6, x7, x8, x9, x10, x11, x12, x13, x14, ⟨_, me_Exact___radd__.at_⟩, ⟨_, me_Exact___rsub__.at_⟩, ⟨_, me_Exact___rmul__.at_⟩⟩
  have TE : XE K mg (He.ga K "Exact") := ⟨T, fun t ht => by
    have z := List.all_eq_true.mp y1 t ht
    simp only [Bool.and_eq_true, decide_eq_true_eq] at z
    exact ⟨z.1.1, z.1.2, z.2⟩, y2⟩
  have TT : T11 K mg (He.ga K "Exact") := ⟨TE, free_any⟩
  have TL : LnC K mg (He.ga K "Line") := ⟨cls_Line, noat_Line_rows, g_Line, z1, z2, fun t ht => by
    have z := List.all_eq_true.mp z4 t ht
    simp only [Bool.and_eq_true, decide_eq_true_eq] at z
    exact z, z3⟩
  have c_is_integer : C8.Cal P w K mg base 1 "is_integer" (spInt K) [] := ⟨_, _, _, _, ok_is_integer F_is_integer TB, g_is_integer, F_is_integer.kp, b_is_integer, .nil⟩
  have c_common : C8.Cal P w K mg base 1 "common" spGcd [] := ⟨_, _, _, _, ok_common F_common TB, g_common, F_common.kp, b_common, .nil⟩
  have oi := ok_Exact___init__ (P := P) (w := w) (base := base) F_Exact___init__ T c_is_integer c_common
  obtain ⟨ds2, v2, b2⟩ := FunD.binds1 (ps := ["self", "over", "under"]) F_Exact___init__ 3 1 (by simp [dd_Exact___init__, He.DefD.dvs]) rfl (fun _ _ _ _ _ _ _ us its h1 h2 => match us, its, h1, h2 with | [_, _, _], [_], _, _ => ⟨_, rfl, rfl⟩)
  obtain ⟨ds1, v1, b1⟩ := FunD.binds1 (ps := ["self", "over", "under"]) F_Exact___init__ 2 0 (by simp [dd_Exact___init__, He.DefD.dvs]) rfl (fun _ _ _ _ _ _ _ us its h1 h2 => match us, its, h1, h2 with | [_, _], [_], _, _ => ⟨_, rfl, rfl⟩)
  have c_Exact : C8.Mak P w K mg base 2 "Exact" (He.ga K "Exact") (spInit (He.ga K "Exact")) [] := ⟨_, _, _, _, mkr_Exact, oi, g_Exact, b2, v2⟩
  have c_Exact1 : C8.Mak P w K mg base 2 "Exact" (He.ga K "Exact") (spInit (He.ga K "Exact")) [.int 1] := ⟨_, _, _, _, mkr_Exact, oi, g_Exact, b1, v1⟩
  have c_part_of : C8.Cal P w K mg base 4 "part_of" (spPart (He.ga K "Exact")) [] := ⟨_, _, _, _, ok_part_of F_part_of T c_is_integer c_Exact1, g_part_of, F_part_of.kp, b_part_of, .nil⟩
  have c_is_number : C8.Cal P w K mg base 2 "is_number" (spNum K (He.ga K "Exact")) [] := ⟨_, _, _, _, ok_is_number F_is_number T c_is_integer, g_is_number, F_is_number.kp, b_is_number, .nil⟩
  have olt := ok_Exact___lt__ (P := P) (w := w) (base := base) F_Exact___lt__ T c_part_of
  have mlt : ∀ X : Cx, X.prog = P → X.w = w → X.K = K → X.mg = mg → X.base = base → OwnM X 5 (He.ga K "Exact") "__lt__" (spLt (He.ga K "Exact")) := by
    rintro X rfl rfl rfl rfl rfl
    exact ⟨_, _, _, me_Exact___lt__.at_, me_Exact___lt__.fn, olt, b_Exact___lt__⟩
  have ole := ok_Exact___le__ (P := P) (w := w) (base := base) F_Exact___le__ T c_part_of
  have mle : ∀ X : Cx, X.prog = P → X.w = w → X.K = K → X.mg = mg → X.base = base → OwnM X 5 (He.ga K "Exact") "__le__" (spLe (He.ga K "Exact")) := by
    rintro X rfl rfl rfl rfl rfl
    exact ⟨_, _, _, me_Exact___le__.at_, me_Exact___le__.fn, ole, b_Exact___le__⟩
  have ogt := ok_Exact___gt__ (P := P) (w := w) (base := base) F_Exact___gt__ T c_part_of
  have mgt : ∀ X : Cx, X.prog = P → X.w = w → X.K = K → X.mg = mg → X.base = base → OwnM X 5 (He.ga K "Exact") "__gt__" (spGt (He.ga K "Exact")) := by
    rintro X rfl rfl rfl rfl rfl
    exact ⟨_, _, _, me_Exact___gt__.at_, me_Exact___gt__.fn, ogt, b_Exact___gt__⟩
  have oge := ok_Exact___ge__ (P := P) (w := w) (base := base) F_Exact___ge__ T c_part_of
  have mge : ∀ X : Cx, X.prog = P → X.w = w → X.K = K → X.mg = mg → X.base = base → OwnM X 5 (He.ga K "Exact") "__ge__" (spGe (He.ga K "Exact")) := by
    rintro X rfl rfl rfl rfl rfl
    exact ⟨_, _, _, me_Exact___ge__.at_, me_Exact___ge__.fn, oge, b_Exact___ge__⟩
  have oeq := ok_Exact___eq__ (P := P) (w := w) (base := base) F_Exact___eq__ T c_part_of c_is_number
  have meq : ∀ X : Cx, X.prog = P → X.w = w → X.K = K → X.mg = mg → X.base = base → OwnM X 5 (He.ga K "Exact") "__eq__" (spEqX K (He.ga K "Exact")) := by
    rintro X rfl rfl rfl rfl rfl
    exact ⟨_, _, _, me_Exact___eq__.at_, me_Exact___eq__.fn, oeq, b_Exact___eq__⟩
  have oadd := ok_Exact___add__ (P := P) (w := w) (base := base) F_Exact___add__ T c_part_of c_Exact
  have osub := ok_Exact___sub__ (P := P) (w := w) (base := base) F_Exact___sub__ T c_part_of c_Exact
  have omul := ok_Exact___mul__ (P := P) (w := w) (base := base) F_Exact___mul__ T c_part_of c_Exact
  have madd : ∀ X : Cx, X.prog = P → X.w = w → X.K = K → X.mg = mg → X.base = base → OwnM X 5 (He.ga K "Exact") "__add__" (spAdd (He.ga K "Exact")) := by
    rintro X rfl rfl rfl rfl rfl
    exact ⟨_, _, _, me_Exact___add__.at_, me_Exact___add__.fn, oadd, b_Exact___add__⟩
  have msub : ∀ X : Cx, X.prog = P → X.w = w → X.K = K → X.mg = mg → X.base = base → OwnM X 5 (He.ga K "Exact") "__sub__" (spSub (He.ga K "Exact")) := by
    rintro X rfl rfl rfl rfl rfl
    exact ⟨_, _, _, me_Exact___sub__.at_, me_Exact___sub__.fn, osub, b_Exact___sub__⟩
  have mmul : ∀ X : Cx, X.prog = P → X.w = w → X.K = K → X.mg = mg → X.base = base → OwnM X 5 (He.ga K "Exact") "__mul__" (spMul (He.ga K "Exact")) := by
    rintro X rfl rfl rfl rfl rfl
    exact ⟨_, _, _, me_Exact___mul__.at_, me_Exact___mul__.fn, omul, b_Exact___mul__⟩
  have oradd := ok_Exact___radd__ (P := P) (w := w) (base := base) F_Exact___radd__ T c_part_of madd
  have orsub := ok_Exact___rsub__ (P := P) (w := w) (base := base) F_Exact___rsub__ T c_part_of msub
  have ormul := ok_Exact___rmul__ (P := P) (w := w) (base := base) F_Exact___rmul__ T c_part_of mmul
  have mradd : ∀ X : Cx, X.prog = P → X.w = w → X.K = K → X.mg = mg → X.base = base → OwnM X 6 (He.ga K "Exact") "__radd__" (spRadd (He.ga K "Exact")) := by
    rintro X rfl rfl rfl rfl rfl
    exact ⟨_, _, _, me_Exact___radd__.at_, me_Exact___radd__.fn, oradd, b_Exact___radd__⟩
  have mrsub : ∀ X : Cx, X.prog = P → X.w = w → X.K = K → X.mg = mg → X.base = base → OwnM X 6 (He.ga K "Exact") "__rsub__" (spRsub (He.ga K "Exact")) := by
    rintro X rfl rfl rfl rfl rfl
    exact ⟨_, _, _, me_Exact___rsub__.at_, me_Exact___rsub__.fn, orsub, b_Exact___rsub__⟩
  have mrmul : ∀ X : Cx, X.prog = P → X.w = w → X.K = K → X.mg = mg → X.base = base → OwnM X 6 (He.ga K "Exact") "__rmul__" (spRmul (He.ga K "Exact")) := by
    rintro X rfl rfl rfl rfl rfl
    exact ⟨_, _, _, me_Exact___rmul__.at_, me_Exact___rmul__.fn, ormul, b_Exact___rmul__⟩
  have m_by : C8.Met P w K mg base 5 (He.ga K "Exact") "by" (spBy (He.ga K "Exact")) [] := ⟨_, _, _, _, cls_Exact, me_Exact_by, ok_Exact_by F_Exact_by T c_part_of c_Exact, b_Exact_by, .nil⟩
  have c_plain : C8.Cal P w K mg base 5 "plain" (spPlain (He.ga K "Exact")) [] := ⟨_, _, _, _, ok_plain F_plain T c_part_of, g_plain, F_plain.kp, b_plain, .nil⟩
  have c_is_list : C8.Cal P w K mg base 1 "is_list" (spIsL K) [] := ⟨_, _, _, _, ok_is_list F_is_list TB, g_is_list, F_is_list.kp, b_is_list, .nil⟩
  have c_slope : C8.Cal P w K mg base 6 "slope" (spSlope (He.ga K "Exact")) [] := ⟨_, _, _, _, ok_slope F_slope T msub m_by, g_slope, F_slope.kp, b_slope, .nil⟩
  have c_chk : C8.Cal P w K mg base 6 "checked_points" (spChk (He.ga K "Exact")) [] := ⟨_, _, _, _, ok_checked_points F_checked_points T c_is_list c_is_number c_part_of mlt, g_checked_points, F_checked_points.kp, b_checked_points, .nil⟩
  have c_bent : C8.Cal P w K mg base 7 "bent" (spBent (He.ga K "Exact")) [] := ⟨_, _, _, _, ok_bent F_bent TE c_slope meq, g_bent, F_bent.kp, b_bent, .nil⟩
  have oli := ok_Line___init__ (P := P) (w := w) (base := base) F_Line___init__ T TL c_chk c_bent
  have c_Line : C8.Mak P w K mg base 8 "Line" (He.ga K "Line") (spLInit (He.ga K "Exact") (He.ga K "Line")) [] := ⟨_, _, _, _, mkr_Line, oli, g_Line, b_Line___init__, .nil⟩
  have m_points : C8.Met P w K mg base 6 (He.ga K "Line") "points" (spPts (He.ga K "Exact") (He.ga K "Line")) [] := ⟨_, _, _, _, cls_Line, me_Line_points, ok_Line_points F_Line_points T TL c_plain, b_Line_points, .nil⟩
  have c_hgt : C8.Cal P w K mg base 7 "height_at" (spHgt (He.ga K "Exact")) [] := ⟨_, _, _, _, ok_height_at F_height_at T c_slope mlt madd msub mmul, g_height_at, F_height_at.kp, b_height_at, .nil⟩
  have olc := ok_Line___call__ (P := P) (w := w) (base := base) F_Line___call__ T TL c_is_number c_part_of c_plain c_hgt mle mge
  have co : CalO P w K mg base 8 (He.ga K "Line") (spCallL (He.ga K "Exact") (He.ga K "Line")) := by
    rw [me_Line___call__.at_] at z5
    refine ⟨_, ⟨me_Line___call__.at_, me_Line___call__.fn, z5⟩, ?_⟩
    exact (FnOk.raw olc b_Line___call__ .nil).imp fun vs H Q E h => by rw [List.append_nil]; exact h
  have ole := ok_Line___eq__ (P := P) (w := w) (base := base) F_Line___eq__ TE TL meq
  have mleq : ∀ X : Cx, X.prog = P → X.w = w → X.K = K → X.mg = mg → X.base = base → OwnM X 8 (He.ga K "Line") "__eq__" (spEqL K (He.ga K "Exact") (He.ga K "Line")) := by
    rintro X rfl rfl rfl rfl rfl
    exact ⟨_, _, _, me_Line___eq__.at_, me_Line___eq__.fn, ole, b_Line___eq__⟩
  have c_fresh : C8.Cal P w K mg base 1 "_law_fresh" (spFresh K) [] := ⟨_, _, _, _, ok__law_fresh F__law_fresh, g__law_fresh, F__law_fresh.kp, b__law_fresh, .nil⟩
  have c_fill : C8.Cal P w K mg base 1 "_law_fill" (spFill K) [] := ⟨_, _, _, _, ok__law_fill F__law_fill TB, g__law_fill, F__law_fill.kp, b__law_fill, .nil⟩
  have c_take : C8.Cal P w K mg base 2 "_law_take" (spTake K) [] := ⟨_, _, _, _, ok__law_take F__law_take TB c_fill, g__law_take, F__law_take.kp, b__law_take, .nil⟩
  have c_handed : C8.Cal P w K mg base 3 "_law_handed" (spHanded K) [] := ⟨_, _, _, _, ok__law_handed F__law_handed TB c_take, g__law_handed, F__law_handed.kp, b__law_handed, .nil⟩
  have c_same : C8.Cal P w K mg base 1 "_law_same" spSameI [] := ⟨_, _, _, _, ok__law_same F__law_same TB, g__law_same, F__law_same.kp, b__law_same, .nil⟩
  have c_spA : C8.Cal P w K mg base 1 "_law_spoil" (spSpA (He.ga K "Exact")) [] := ⟨_, _, _, _, ok__law_spoil F__law_spoil T, g__law_spoil, F__law_spoil.kp, b__law_spoil, .nil⟩
  have c_spB : C8.Cal P w K mg base 2 "_law_spoil" (spSpB (He.ga K "Exact")) [] := ⟨_, _, _, _, ok__law_spoil_B F__law_spoil T c_spA, g__law_spoil, F__law_spoil.kp, b__law_spoil, .nil⟩
  have c_spC : C8.Cal P w K mg base 3 "_law_spoil" (spSpC (He.ga K "Exact")) [] := ⟨_, _, _, _, ok__law_spoil_C F__law_spoil T c_spB, g__law_spoil, F__law_spoil.kp, b__law_spoil, .nil⟩
  have c_gcd : C8.Cal P w K mg base 1 "_law_gcd" spGcd [] := ⟨_, _, _, _, ok__law_gcd F__law_gcd TB, g__law_gcd, F__law_gcd.kp, b__law_gcd, .nil⟩
  have c_frac : C8.Cal P w K mg base 2 "_law_frac" spFrac [] := ⟨_, _, _, _, ok__law_frac F__law_frac TB c_gcd, g__law_frac, F__law_frac.kp, b__law_frac, .nil⟩
  have c_add : C8.Cal P w K mg base 3 "_law_add" spFAdd [] := ⟨_, _, _, _, ok__law_add F__law_add TB c_frac, g__law_add, F__law_add.kp, b__law_add, .nil⟩
  have c_mul : C8.Cal P w K mg base 3 "_law_mul" spFMul [] := ⟨_, _, _, _, ok__law_mul F__law_mul TB c_frac, g__law_mul, F__law_mul.kp, b__law_mul, .nil⟩
  have c_less : C8.Cal P w K mg base 1 "_law_less" spLess [] := ⟨_, _, _, _, ok__law_less F__law_less TB, g__law_less, F__law_less.kp, b__law_less, .nil⟩
  have c_asn : C8.Cal P w K mg base 4 "_law_as_number" (spAsNum K (He.ga K "Exact")) [] := ⟨_, _, _, _, ok__law_as_number F__law_as_number T c_take c_Exact, g__law_as_number, F__law_as_number.kp, b__law_as_number, .nil⟩
  have c_lpl : C8.Cal P w K mg base 4 "_law_plain" (spLPlain (He.ga K "Exact")) [] := ⟨_, _, _, _, ok__law_plain F__law_plain T c_Exact, g__law_plain, F__law_plain.kp, b__law_plain, .nil⟩
  have c_tolI : C8.Cal P w K mg base 2 "_law_is_told" (spToldI (He.ga K "Exact")) [] := ⟨_, _, _, _, ok__law_is_told F__law_is_told T c_same, g__law_is_told, F__law_is_told.kp, b__law_is_told, .nil⟩
  have c_tolT : C8.Cal P w K mg base 3 "_law_is_told" (spToldT (He.ga K "Exact")) [] := ⟨_, _, _, _, ok__law_is_told_T F__law_is_told T c_tolI, g__law_is_told, F__law_is_told.kp, b__law_is_told, .nil⟩
  have c_tolP : C8.Cal P w K mg base 4 "_law_is_told" (spToldP (He.ga K "Exact")) [] := ⟨_, _, _, _, ok__law_is_told_P F__law_is_told T c_tolT, g__law_is_told, F__law_is_told.kp, b__law_is_told, .nil⟩
  have c_on : C8.Cal P w K mg base 4 "_law_on" spOn [] := ⟨_, _, _, _, ok__law_on F__law_on TB c_less c_add c_mul c_frac, g__law_on, F__law_on.kp, b__law_on, .nil⟩
  have c_crs : C8.Cal P w K mg base 3 "_law_course_of" (spCrs K) [] := ⟨_, _, _, _, ok__law_course_of F__law_course_of TB c_take c_frac, g__law_course_of, F__law_course_of.kp, b__law_course_of, .nil⟩
  have c_bends : C8.Cal P w K mg base 5 "_law_bends" spBends [] := ⟨_, _, _, _, ok__law_bends F__law_bends TB c_on, g__law_bends, F__law_bends.kp, b__law_bends, .nil⟩
  exact ok_law F_law TT TL c_fresh c_take c_crs c_handed c_asn c_Line c_spC c_bends c_lpl m_points c_tolP c_tolI c_frac c_add c_mul c_on co madd mleq
end LW
open PySem PySem.W PySem.Calls PyProof.Rows
theorem PySem.Challenge.cw_surelevels_k11_lines_told_holds : PySem.Challenge.rw_surelevels_k11_lines_told.Holds := by
  w_on; o_law
  refine HandSHeadRun.head_any (r := OpenLaw.row PySem.Challenge.rw_surelevels_k11_lines_told) (q := view (OpenLaw.row PySem.Challenge.rw_surelevels_k11_lines_told).prog [LW.lawI]) (H := LW.hk) (ob := LW.ob) (M := 20000) (loose := LW.looseL) (d := HandSHeadRun.topDef (OpenLaw.row PySem.Challenge.rw_surelevels_k11_lines_told).prog LW.lawI) (kwd := []) LW.ob_eq
    (by kernel_rfl) (fun s => by kernel_rfl) LW.run (by kernel_rfl) (by kernel_rfl) (by kernel_rfl) (by rfl) (by first | assumption | decide +kernel) (by decide +kernel) ⟨rfl, rfl, rfl, rfl, rfl, by decide +kernel⟩ ?hw ?hc
  case hw => w_witness2
  case hc =>
    refine L2.walk_ofE (l := PySem.Challenge.rw_surelevels_k11_lines_told) (n := 63) (k := 10) (x := "_law_script") (CX := L2.CX0) rfl (by decide) (by kernel_rfl) ⟨rfl, by decide, by decide⟩ ?F (fun _ _ _ _ z => z)
    intro w mg fa h Y G hmg0
    obtain ⟨K, KX, c⟩ := Y
    have hmg : mg ("law" : PySem.Str) = some (.ref fa) := by
      have e : (HandSHeadRun.topDef (OpenLaw.row PySem.Challenge.rw_surelevels_k11_lines_told).prog LW.lawI).name = ("law" : PySem.Str) := by kernel_rfl
      rw [← e]
      exact hmg0
    obtain ⟨fd, hb, hF⟩ := LW.facts (P := (PySem.Challenge.rw_surelevels_k11_lines_told).prog) (w := w) KX G hmg c
    exact ⟨K, fd, LW.spLaw K, KX, hb, fun H a ns hl _ hS => ⟨a, ns, rfl, hS, hl, fun _ => rfl⟩, hF⟩
#print axioms PySem.Challenge.cw_surelevels_k11_lines_told_holds
