import PyProof.Rows.All
import Wide.All
import OpenK.AllK
import Wide.FinOn
import HandS.ForMost
import HandS.Wide
import HandS.IsInst
import HandS.OwnEq
import HandS.Zip
import HandS.Defaults
import KE.GoesMore
import KE.GoesEnum
import KE.KOpsOwn
import HandS.Walk
import HandS.Evl
import HandS.Codes
import HandS.Style
import HandS.Steps
import HandS.Star
import PyProof.NeKinds
import HandS.TryOnly
import PySem.Challenge.RW_surelevels_k12_lines_joined
import HandS.TupAny
import HandS.HeadHook4
import Lean
import KE.KStateDown
import HandS.More
import HandS.Head0
import HandS.Head1
import HandS.Head2
import HandS.HeadEnd
import HandS.HeadHook1
import HandS.HeadHook2
import HandS.HeadHook3
set_option Elab.async false
set_option linter.all false
set_option maxRecDepth 100000
set_option maxHeartbeats 2000000
namespace LV
open PySem PySem.Spec PyProof.Rows L2
/-! enumerate over a tuple -/
theorem newE1 {v : Value} {o : Obj} {H : Heap → Prop} (B : Begins v o H) :
    Meets (Builtin.«enumerate.__new__» ⟨[.type "enumerate", v], []⟩) (fun _ R s => H s.heap ∧
      R (.ok (.ret (.ref (s.heap.push o).objs.size))) { s with heap := (s.heap.push o).push { cls := .type "enumerate", data := .fields #[.none, .bool false, .ref s.heap.objs.size, rawInt 0, .none, .none] } }) :=
  .of_wp fun prog w A R sh hh => by
    obtain ⟨hp, ge, dr, tk, os⟩ := sh
    obtain ⟨hb, hh⟩ := hh
    have subE := sub_enumerate
    have qi : ∀ {A' : Around} {E : Value → Shared → Prop} {Q : Value → Shared → Prop}, Q (.ref hp.objs.size) ⟨hp.push o, ge, dr, tk, os⟩ → wpAny (model prog w) A' (pyIter v) Q E ⟨hp, ge, dr, tk, os⟩ :=
      fun q => B.iter prog w _ _ ⟨hp, ge, dr, tk, os⟩ _ hb q
    wp_walk using qi
    refine wpAny_stack_any fun st => wpAny_pure ?_
    split
    · rename_i c _ _ _ _ _
      cases (c == Value.type "enumerate") <;>
      · wp_walk using qi
        exact ⟨_, rfl, hh⟩
    · wp_walk using qi
      exact ⟨_, rfl, hh⟩
theorem callE1 {prog : Program} {w : World} {A : Around} {E : Value → Shared → Prop} {s : Shared} {v : Value} {o : Obj} {H : Heap → Prop} {Q : Value → Shared → Prop} (B : Begins v o H) (hH : H s.heap)
    (h : ∀ h', IsEnum h' (s.heap.objs.size + 1) s.heap.objs.size 0 .none → h'.get? s.heap.objs.size = some o →
      (∀ b o, s.heap.get? b = some o → h'.get? b = some o) → Q (.ref (s.heap.objs.size + 1)) { s with heap := h' }) :
    wpAny (model prog w) A (call (.type "enumerate") [v]) Q E s := by
  refine callType_new F.called_enumerate (by decide) (F.typeCall_enumerate_1 _) (F.newCall_enumerate_1 _) (fun ob => F.args_object_init_2 ob _) F.entry_enumerate_new
    (newE1 B) ⟨hH, ?_⟩
  have hz : (s.heap.push o).objs.size = s.heap.objs.size + 1 := Heap.size_push ..
  show _ ∧ _
  rw [hz]
  have he : IsEnum ((s.heap.push o).push { cls := .type "enumerate", data := .fields #[.none, .bool false, .ref s.heap.objs.size, rawInt 0, .none, .none] }) (s.heap.objs.size + 1) s.heap.objs.size 0 .none := by
    have q := Heap.get?_push_size (s.heap.push o) (o := { cls := .type "enumerate", data := .fields #[.none, .bool false, .ref s.heap.objs.size, rawInt 0, .none, .none] }) rfl
    rw [hz] at q
    exact q
  exact ⟨⟨_, he, rfl⟩, h _ he (Heap.get?_push_of_some _ (Heap.get?_push_size _ B.free)) fun b o x => Heap.get?_push_of_some _ (Heap.get?_push_of_some _ x)⟩
/-- the tuple at a, each item in a new pair -/
def IteT (K : PySem.W.Frag) (a : Addr) : It :=
  ⟨fun i H => ∃ (xs : List V) (x : V), SqT K H a xs ∧ xs[i]? = some x, fun i H v H' => ∃ T x, v = .ref T ∧ H T = none ∧ H' = upd H T (.tup [.int (i : Nat), x]) ∧ ∀ xs, SqT K H a xs → xs[i]? = some x,
    fun i H => ∃ xs : List V, SqT K H a xs ∧ xs.length = i⟩
theorem turnET {P : Program} {w : World} {K : PySem.W.Frag} {elts : List Expr} {kk : Nat} {tpos : Pos} (a e it : Addr) :
    Turn P w K (.Tuple elts kk tpos) (IteT K a) [e, it] e (fun i h => (∃ old, IsEnum h e it ((i : Nat) : Int) old) ∧ h.IsTupleIter it a i ∧ e ≠ it) where
  mem := by simp
  obj := fun i h st b hb => by
    obtain ⟨⟨old, he⟩, ⟨o, ho, hc, hd⟩, _⟩ := st
    have eb : b = e ∨ b = it := by simpa using hb
    rcases eb with z | z
    · rw [z]
      exact ⟨_, he, fun v q => nomatch q⟩
    · rw [z]
      exact ⟨o, ho, fun v q => by rw [hd] at q; cases q⟩
  keep := fun i h h' st k => let ⟨⟨old, he⟩, hi, hne⟩ := st; ⟨⟨old, k e (by simp) _ he⟩, hi.at fun o q => k it (by simp) o q, hne⟩
  item := by
    intro X hP hw hK hc i pins s σ H E I hf st hg
    subst hP hw hK
    obtain ⟨⟨old, he⟩, hit, hne⟩ := st
    obtain ⟨xs, x, hq, hx⟩ := hg
    obtain ⟨its, rv, p, hz⟩ := I.tuple hq
    obtain ⟨u, hu, ru⟩ := rv.get hx
    obtain ⟨oa, hoa, hca, na, hda⟩ := id p
    have hel : e < s.heap.objs.size := Heap.lt_size he
    have hil : it < s.heap.objs.size := by
      obtain ⟨_, q, _⟩ := hit
      exact Heap.lt_size q
    have hae : a ≠ e := fun z => by
      rw [z, he] at hoa
      cases hoa
      injection hca with q
      exact absurd q (by decide)
    have hai : a ≠ it := fun z => by
      obtain ⟨oi, q, hci, _⟩ := hit
      rw [z, q] at hoa
      cases hoa
      rw [hci] at hca
      injection hca with q2
      exact absurd q2 (by decide)
    have hlt : i < its.toArray.size := by
      have q := (List.getElem?_eq_some_iff.mp hu).1
      simpa using q
    have D : Draws X.prog X.w X.A.in1 it [it, a] its.toArray.size (fun i v => its.toArray[i]? = some v) (fun i h => h.IsTupleIter it a i ∧ h.IsTuple a its.toArray) := Draws.tuple (A := X.A.in1) (show X.A.in1.handled = none from I.ok.hd hc) it a hai its.toArray
    refine wpAny_pyNext_enum_itemD D he ⟨hit, p⟩ hlt hne (by simp [hne, Ne.symm hae]) fun x' h' tk hx' ho hst hT hsz hk => ?_
    have exu : x' = u := by
      have q : its[i]? = some x' := by simpa using hx'
      rw [hu] at q
      exact (Option.some.inj q).symm
    subst exu
    refine ⟨_, rfl, wpAny_letOwnedTupleGo_enum (s := { s with heap := h', toks := tk + 1 }) ho fun h'' he' sb => ?_⟩
    have hT2 : h''.get? s.heap.objs.size = some { cls := .type "tuple", data := .seq #[.int i tk, x'] } := (sb.2 _ (Nat.ne_of_gt hel)).trans hT
    have new : ObjOk X.prog X.w (upd H s.heap.objs.size (.tup [.int (i : Nat), x])) h'' s.heap.objs.size (.tup [.int (i : Nat), x]) :=
      ⟨by show 2 ≤ sizeLine; decide, [.int i tk, x'], .cons ⟨_, rfl⟩ (.cons ru .nil), ⟨_, hT2, rfl, _, rfl⟩⟩
    have I1 : Inv X pins σ (upd H s.heap.objs.size (.tup [.int (i : Nat), x])) { s with heap := h'', toks := tk + 1 } :=
      I.turnedNew (ch := [e, it]) (fun b ob hb q => (sb.2 b (fun z => hb (by simp [z]))).trans (hk b ob (fun z => hb (by simp [z])) (fun z => hb (by simp [z])) q)) hf (Nat.le_refl _) new
    refine ⟨.ref s.heap.objs.size, _, I1, rfl, ⟨_, x, rfl, I.hok.fresh (Nat.le_refl _), rfl, fun ys hy => by rw [I.tuple_inj hy hq]; exact hx⟩, ⟨⟨x', ?_⟩, hst.1.at fun o q => (sb.2 it (Ne.symm hne)).trans q, hne⟩, fun b hb => ?_⟩
    · have e1 : ((i + 1 : Nat) : Int) = (i : Int) + 1 := by omega
      rw [e1]
      exact he'
    · have hb' : b < s.heap.objs.size := by
        have eb : b = e ∨ b = it := by simpa using hb
        rcases eb with z | z
        · rw [z]
          exact hel
        · rw [z]
          exact hil
      rw [upd_ne (Nat.ne_of_lt hb')]
      exact (hf b hb).1
  done := by
    intro X hP hw hK hc i pins s σ H E I hf st hg
    subst hP hw hK
    obtain ⟨⟨old, he⟩, hit, hne⟩ := st
    obtain ⟨xs, hq, hx⟩ := hg
    obtain ⟨its, rv, p, hz⟩ := I.tuple hq
    obtain ⟨oa, hoa, hca, na, hda⟩ := id p
    have hai : a ≠ it := fun z => by
      obtain ⟨oi, q, hci, _⟩ := hit
      rw [z, q] at hoa
      cases hoa
      rw [hci] at hca
      injection hca with q2
      exact absurd q2 (by decide)
    obtain ⟨f0, f1, f2, f3, f4, f5⟩ := hf it (by simp)
    have hl := rv.length
    have D : Draws X.prog X.w X.A.in1 it [it, a] its.toArray.size (fun i v => its.toArray[i]? = some v) (fun i h => h.IsTupleIter it a i ∧ h.IsTuple a its.toArray) := Draws.tuple (A := X.A.in1) (show X.A.in1.handled = none from I.ok.hd hc) it a hai its.toArray
    have hsz : its.toArray.size = i := by
      rw [List.size_toArray]
      omega
    have st : s.heap.IsTupleIter it a its.toArray.size ∧ s.heap.IsTuple a its.toArray := by
      rw [hsz]
      exact ⟨hit, p⟩
    exact wpAny_pyNext_enum_endD D he st fun h' eb => ⟨rfl, I.turned (t' := s.toks) (fun b o hb q => eb b o hb q) f0 f1 f3 f4 f5⟩
  self := fun A i s Q E st h => let ⟨⟨_, he⟩, _⟩ := st; wpAny_pyIter_enum he h
def iEnumT (K : PySem.W.Frag) (ta : TA) : TI := fun σ H R => ta σ H fun vs H1 => ∃ a xs, vs = [.ref a] ∧ SqT K H1 a xs ∧ R (IteT K a) H1
theorem pi_enumT {X : Cx} {e : Expr} {ta : TA} {p pos tpos : Pos} {elts : List Expr} {kk : Nat} (hg : Gl X "enumerate") (hm : X.mg "enumerate" = none) (ha : PA X [e] ta) (hs : starEach [e] X.env = [(false, eval e X.env)] := by rfl) :
    PI X (.Tuple elts kk tpos) (.Call (.Name "enumerate" p) [e] [] pos) (iEnumT X.K ta) := by
  refine ⟨fun pins s σ H R I h => ?_⟩
  refine Call_ (ld_blt I hg hm boot_enumerate (PyProof.Rows.callWith_type1 (thn (ha.run pos pins s σ H _ I h) fun us s1 ⟨vs, H1, I1, r1, q1⟩ => ?_) hs rfl))
  obtain ⟨a, xs, ex, hq, q⟩ := q1
  subst ex
  cases r1 with
  | cons r rr =>
    cases rr
    cases r
    obtain ⟨its, rv, p', hz⟩ := I1.tuple hq
    refine callE1 (begins_tuple a its.toArray) p' fun h' he hit hk => wpAny_pyIter_enum he ?_
    have I2 : Inv X pins σ H1 { s1 with heap := h' } := I1.kept (t' := s1.toks) hk
    refine ⟨s1.heap.objs.size + 1, [s1.heap.objs.size + 1, s1.heap.objs.size], _, _, H1, rfl, I2, turnET a (s1.heap.objs.size + 1) s1.heap.objs.size, ⟨⟨.none, he⟩, ⟨_, hit, rfl, rfl⟩, Nat.succ_ne_self _⟩, fun b hb => ?_, q⟩
    have eb : b = s1.heap.objs.size + 1 ∨ b = s1.heap.objs.size := by simpa using hb
    have hle : s1.heap.objs.size ≤ b := by
      rcases eb with z | z
      · rw [z]
        exact Nat.le_add_right _ _
      · rw [z]
        exact Nat.le_refl _
    exact I1.fpOk hle (I1.hok.fresh hle)
end LV
set_option Elab.async false
set_option linter.all false
set_option maxRecDepth 100000
set_option maxHeartbeats 2000000
namespace LV
open PySem PySem.Spec PyProof.Rows L2
/-! an int's own method is asked with an instance: NotImplemented -/
section
variable {prog : Program} {w : World} {A : Around} {E : Value → Shared → Prop} {s : Shared}
theorem niBin {nm : String} {f : Int → Int → Sem Fin} {i : Int} {t : Tok} {x C dx : Addr} {M : Model} {Q : Value → Shared → Prop} (hx : s.heap.get? x = some (PySem.W.instObj C dx)) (h : Q .notImplemented s) :
    wpAny M A (Builtin.Int.intBinary nm f false ⟨[.int i t, .ref x], []⟩) (fun fin s' => ∃ v, fin = .done (.ret v) ∧ Q v s') E s := by
  obtain ⟨hp, ge, dr, tk, os⟩ := s
  unfold Builtin.Int.intBinary
  wp_walk using wpAny_load hx
  exact ⟨_, rfl, h⟩
/-- int op instance: the instance's reflected method -/
theorem tryN {nm : Str} {id : String} {B : Builtin} {i : Int} {t : Tok} {x : Addr} {Q : Option Value → Shared → Prop} (slot : Slot "int" nm id) (entry : entryFor table id = some B) (args : argsOk id ⟨[.int i t, .ref x], []⟩)
    (hB : ∀ (A' : Around) (Q' : Value → Shared → Prop), Q' .notImplemented s → wpAny (model prog w) A' (B ⟨[.int i t, .ref x], []⟩) (fun fin s' => ∃ v, fin = PySem.Fin.done (.ret v) ∧ Q' v s') E s) (h : Q none s) :
    wpAny (model prog w) A (tryMethod (.int i t) nm (.ref x)) Q E s := by
  unfold tryMethod
  refine wpAny_bind (wpAny_callSpecial?_slot (typeIs_int s i t) slot (wpAny_call_entry slot (typeIs_int s i t) entry (hB _ _ ?_) args))
  exact wpAny_pure h
open PySem.W in
theorem binRefl {K : Frag} {x C dx f : Addr} {i : Int} {t : Tok} {h0 : Heap} {L : Addr} {m : Str → Option Value} {od : Option Obj} {op : Operator} {Q : Value → Shared → Prop} (F : Fr h0 L s.heap m) (X0 : K.In h0) (I : InstAt s.heap x (instObj C dx) C od) (hc : selfFirst K C = true)
    (hs : findIn K (.ref C) (PySem.dunder op.info.2) = some (some (.ref f0))) (hr : findIn K (.ref C) (dunderR op.info.2) = some (some (.ref f))) (hf : isFn K (.ref f) = true)
    (hsub : subIn K (.ref C) (.type "int") = some false) (hfl : fillsNumberSlot (.type "int") op.info.2 = pure true)
    (h1 : ∀ Q' : Option Value → Shared → Prop, Q' none s → wpAny (model prog w) A (tryMethod (.int i t) (PySem.dunder op.info.2) (.ref x)) Q' E s)
    (h : wpAny (model prog w) A (call (.ref f) [.ref x, .int i t]) (W.CmpBack Q) E s) : wpAny (model prog w) A (binaryOp op (.int i t) (.ref x)) Q E s := by
  have X := X0.keeps F.keep
  obtain ⟨cd, rest, hcd, hm⟩ := ksp_first hc
  rcases hi : op.info with ⟨sym, nm⟩
  rw [hi] at hs hr hfl h1
  dsimp only at hs hr hfl h1
  have one := ksp_try (E := E) X I hr hf h
  obtain ⟨hh, ge, dr, tt, os⟩ := s
  have L1 : Looks (model prog w) hh (typeOf (.ref x)) (.ref C) := I.type
  have L2 : Looks (model prog w) hh (typeOf (.int i t)) (.type "int") := Looks.of_pure rfl
  have L3 : Looks (model prog w) hh (fillsNumberSlot (.ref C) nm) true := fills_K X hcd hm hs
  have L4 : Looks (model prog w) hh (fillsNumberSlot (.type "int") nm) true := Looks.of_pure hfl
  have L5 : Looks (model prog w) hh (isSubtype (.ref C) (.type "int")) false := looks_subIn X hsub
  have L7 : Looks (model prog w) hh (numberSlotInPython (.type "int") nm) false := Looks.of_pure rfl
  have hne : (Value.type "int" == Value.ref C) = false := Bool.eq_false_iff.mpr fun q => by cases beq_iff_eq.mp q
  simp only [binaryOp, hi]
  refine wpAny_holding (wpAny_bind ?_)
  unfold binaryOp1
  refine wpAny_bind (L2.at (wpAny_bind (L1.at (wpAny_bind (L4.at ?_)))))
  simp only [hne, Bool.false_eq_true, if_false]
  ksp_lk
  refine h1 _ ?_
  ksp_lk
  refine wpAny_mono one (fun r s' hr' => ?_) fun _ _ e => e
  obtain ⟨v, rfl, hq⟩ := hr'
  ksp_lk
  exact hq
end
end LV
set_option Elab.async false
set_option linter.all false
set_option maxRecDepth 100000
set_option maxHeartbeats 2000000
namespace LV
open PySem PySem.Spec PyProof.Rows L2
/-! own operators over the layer -/
theorem backEP {X : Cx} {pins : List (Addr × Obj)} {σ : L2.St} {Q : VK} {u : Value} {s : Shared} (h : EP X pins σ Q u s) : W.CmpBack (EP X pins σ Q) u s := by
  obtain ⟨v, H, I, r, q⟩ := h
  have h2 : EP X pins σ Q u s := ⟨v, H, I, r, q⟩
  cases u with
  | notImplemented =>
    cases v <;> first
      | exact nomatch r
      | (obtain ⟨t, e⟩ := r; exact nomatch e)
  | _ => exact h2
/-- a def that is an instance's method, with its promise -/
structure OwnM (X : Cx) (k : Nat) (C : Addr) (nm : Str) (sp : Sp) : Prop where
  ex : ∃ (f : Addr) (fd : FuncData) (ps : List Str), PySem.W.findIn X.K (.ref C) nm = some (some (.ref f)) ∧ PySem.W.isFn X.K (.ref f) = true ∧ FnOk X.prog X.w X.K X.mg X.base CX0 k f fd ps sp ∧ Binds X.K fd ps []
/-- its class beside ints -/
structure OwnC (K : PySem.W.Frag) (C : Addr) : Prop where
  first : PySem.W.selfFirst K C = true
  subI : PySem.W.subIn K (.type "int") (.ref C) = some false
  subC : PySem.W.subIn K (.ref C) (.type "int") = some false
/-- the other operand: an int, or an instance of the class -/
def NumV (C : Addr) (H : Hp) (y : V) : Prop := (∃ i, y = .int i) ∨ ∃ b dy gs, y = .ref b ∧ H b = some (.ins C dy gs)
def rOwnL (C : Addr) (sp : Sp) : R2 := fun x y H Q => ∃ a dx fs, x = .ref a ∧ H a = some (.ins C dx fs) ∧ NumV C H y ∧ sp [x, y] H Q E0
def rOwnR (C : Addr) (sp : Sp) : R2 := fun x y H Q => ∃ i b dy gs, x = .int i ∧ y = .ref b ∧ H b = some (.ins C dy gs) ∧ sp [y, x] H Q E0
section
variable {X : Cx} {k : Nat} {C : Addr} {sp : Sp} {op : Operator}
theorem runM {f : Addr} {fd : FuncData} {ps : List Str} {pins : List (Addr × Obj)} {σ : L2.St} {H : Hp} {s : Shared} {Q : VK} {us : List Value} {vs : List V} (F : FnOk X.prog X.w X.K X.mg X.base CX0 k f fd ps sp) (hr : Room k X.A) (hb : Binds X.K fd ps [])
    (I : Inv X pins σ H s) (r : Vals vs us) (h : sp vs H Q E0) : wpAny (model X.prog X.w) X.A (call (.ref f) us) (W.CmpBack (EP X pins σ Q)) X.xe s :=
  wpAny_mono (run_fn (dvs := []) F hr hb .nil pass0 I r (by rw [List.append_nil]; exact h)) (fun _ _ z => backEP z) fun _ _ z => z
theorem op_ownL {fo ro rc : Option Value} (M : OwnM X k C (PySem.dunder op.info.2) sp) (c : OwnC X.K C) (hr : Room k X.A)
    (hrc : PySem.W.findIn X.K (.ref C) (dunderR op.info.2) = some rc) (hp : rc = none ∨ ∃ g : Addr, rc = some (.ref g))
    (h1 : PySem.W.findIn X.K (.type "int") (PySem.dunder op.info.2) = some fo) (h2 : PySem.W.findIn X.K (.type "int") (dunderR op.info.2) = some ro) :
    OpR X (binaryOp op) (rOwnL C sp) := by
  intro pins s σ H x y v u Q I rx ry hq
  obtain ⟨a, dx, fs, rfl, ha, hy, q⟩ := hq
  obtain ⟨f, fd, ps, hs, hf, F, hb⟩ := M.ex
  cases rx
  obtain ⟨mA, J, _⟩ := ins_get I.hok ha
  obtain ⟨od, J, _⟩ := J.look
  obtain ⟨m, hF⟩ := I.fr
  rcases hy with ⟨i, rfl⟩ | ⟨b, dy, gs, rfl, hb'⟩
  · obtain ⟨t, rfl⟩ := ry
    have r2 : Vals [V.ref a, V.int i] [Value.ref a, Value.int i t] := .cons rfl (.cons ⟨_, rfl⟩ .nil)
    exact PySem.W.ksp_binT hF I.ok.mod.kin J rfl c.first hs hf hrc hp h1 h2 c.subI (runM F hr hb I r2 q)
  · cases ry
    obtain ⟨mB, J', _⟩ := ins_get I.hok hb'
    obtain ⟨od', J', _⟩ := J'.look
    have r2 : Vals [V.ref a, V.ref b] [Value.ref a, Value.ref b] := .cons rfl (.cons rfl .nil)
    exact PySem.W.binop_K hF I.ok.mod.kin J J'.type c.first hs hf (runM F hr hb I r2 q)
theorem op_ownR {sp0 : Sp} {k0 : Nat} {id : String} {B : Builtin} (M0 : OwnM X k0 C (PySem.dunder op.info.2) sp0) (M : OwnM X k C (dunderR op.info.2) sp) (c : OwnC X.K C) (hr : Room k X.A)
    (hfl : fillsNumberSlot (.type "int") op.info.2 = pure true) (slot : Slot "int" (PySem.dunder op.info.2) id) (entry : entryFor table id = some B) (args : ∀ a b, argsOk id ⟨[a, b], []⟩)
    (hB : ∀ (i : Int) (t : Tok) (x dx : Addr) (s : Shared) (A' : Around) (E : Value → Shared → Prop) (Q' : Value → Shared → Prop), s.heap.get? x = some (PySem.W.instObj C dx) → Q' .notImplemented s →
      wpAny (model X.prog X.w) A' (B ⟨[.int i t, .ref x], []⟩) (fun fin s' => ∃ v, fin = PySem.Fin.done (.ret v) ∧ Q' v s') E s) :
    OpR X (binaryOp op) (rOwnR C sp) := by
  intro pins s σ H x y v u Q I rx ry hq
  obtain ⟨i, b, dy, gs, rfl, rfl, hb', q⟩ := hq
  obtain ⟨f0, _, _, hs0, _⟩ := M0.ex
  obtain ⟨f, fd, ps, hs, hf, F, hb⟩ := M.ex
  obtain ⟨t, rfl⟩ := rx
  cases ry
  obtain ⟨mA, J, _⟩ := ins_get I.hok hb'
  obtain ⟨od, J, _⟩ := J.look
  obtain ⟨m, hF⟩ := I.fr
  have r2 : Vals [V.ref b, V.int i] [Value.ref b, Value.int i t] := .cons rfl (.cons ⟨_, rfl⟩ .nil)
  exact binRefl hF I.ok.mod.kin J c.first hs0 hs hf c.subC hfl (fun Q' q' => tryN slot entry (args _ _) (fun A' Q2 q2 => hB _ _ _ _ _ _ _ _ J.1 q2) q') (runM F hr hb I r2 q)
theorem un_own (M : OwnM X k C "__neg__" sp) (hr : Room k X.A) : UnR X (unaryOp .USub) (fun x H Q => ∃ a dx fs, x = .ref a ∧ H a = some (.ins C dx fs) ∧ sp [x] H Q E0) := by
  intro pins s σ H x v Q I rx hq
  obtain ⟨a, dx, fs, rfl, ha, q⟩ := hq
  obtain ⟨f, fd, ps, hs, hf, F, hb⟩ := M.ex
  cases rx
  obtain ⟨mA, J, _⟩ := ins_get I.hok ha
  obtain ⟨od, J, _⟩ := J.look
  obtain ⟨m, hF⟩ := I.fr
  have r2 : Vals [V.ref a] [Value.ref a] := .cons rfl .nil
  exact PySem.W.ksp_neg hF I.ok.mod.kin J hs hf (run_fn (dvs := []) F hr hb .nil pass0 I r2 q)
theorem op_addR {sp0 : Sp} {k0 : Nat} (M0 : OwnM X k0 C "__add__" sp0) (M : OwnM X k C "__radd__" sp) (c : OwnC X.K C) (hr : Room k X.A) : OpR X (binaryOp .Add) (rOwnR C sp) :=
  op_ownR (op := .Add) M0 M c hr fills_int_add F.slot_int_add F.entry_int_add F.args_int_add_2 fun i t x dx s A' E Q' hx q => niBin hx q
theorem op_subR {sp0 : Sp} {k0 : Nat} (M0 : OwnM X k0 C "__sub__" sp0) (M : OwnM X k C "__rsub__" sp) (c : OwnC X.K C) (hr : Room k X.A) : OpR X (binaryOp .Sub) (rOwnR C sp) :=
  op_ownR (op := .Sub) M0 M c hr fills_int_sub F.slot_int_sub F.entry_int_sub F.args_int_sub_2 fun i t x dx s A' E Q' hx q => niBin hx q
theorem op_mulR {sp0 : Sp} {k0 : Nat} (M0 : OwnM X k0 C "__mul__" sp0) (M : OwnM X k C "__rmul__" sp) (c : OwnC X.K C) (hr : Room k X.A) : OpR X (binaryOp .Mult) (rOwnR C sp) :=
  op_ownR (op := .Mult) M0 M c hr fills_int_mul F.slot_int_mul F.entry_int_mul F.args_int_mul_2 fun i t x dx s A' E Q' hx q => niBin hx q
theorem fI1 (K : PySem.W.Frag) : PySem.W.findIn K (.type "int") "__add__" = some (some (.builtin "int.__add__")) := by kernel_rfl
theorem fI2 (K : PySem.W.Frag) : PySem.W.findIn K (.type "int") "__radd__" = some (some (.builtin "int.__radd__")) := by kernel_rfl
theorem fI3 (K : PySem.W.Frag) : PySem.W.findIn K (.type "int") "__sub__" = some (some (.builtin "int.__sub__")) := by kernel_rfl
theorem fI4 (K : PySem.W.Frag) : PySem.W.findIn K (.type "int") "__rsub__" = some (some (.builtin "int.__rsub__")) := by kernel_rfl
theorem fI5 (K : PySem.W.Frag) : PySem.W.findIn K (.type "int") "__mul__" = some (some (.builtin "int.__mul__")) := by kernel_rfl
theorem fI6 (K : PySem.W.Frag) : PySem.W.findIn K (.type "int") "__rmul__" = some (some (.builtin "int.__rmul__")) := by kernel_rfl
theorem op_addL {g : Addr} (M : OwnM X k C "__add__" sp) (hg : PySem.W.findIn X.K (.ref C) "__radd__" = some (some (.ref g))) (c : OwnC X.K C) (hr : Room k X.A) : OpR X (binaryOp .Add) (rOwnL C sp) :=
  op_ownL (op := .Add) M c hr hg (.inr ⟨_, rfl⟩) (fI1 _) (fI2 _)
theorem op_subL {g : Addr} (M : OwnM X k C "__sub__" sp) (hg : PySem.W.findIn X.K (.ref C) "__rsub__" = some (some (.ref g))) (c : OwnC X.K C) (hr : Room k X.A) : OpR X (binaryOp .Sub) (rOwnL C sp) :=
  op_ownL (op := .Sub) M c hr hg (.inr ⟨_, rfl⟩) (fI3 _) (fI4 _)
theorem op_mulL {g : Addr} (M : OwnM X k C "__mul__" sp) (hg : PySem.W.findIn X.K (.ref C) "__rmul__" = some (some (.ref g))) (c : OwnC X.K C) (hr : Room k X.A) : OpR X (binaryOp .Mult) (rOwnL C sp) :=
  op_ownL (op := .Mult) M c hr hg (.inr ⟨_, rfl⟩) (fI5 _) (fI6 _)
/-! division by any number but nought -/
theorem op_fdivG : OpR X (binaryOp .FloorDiv) (rI (fun _ j => j ≠ 0 ∧ j.natAbs.log2 < 9000) fun i j => .int (i.fdiv j)) := opI fun _ _ _ _ _ _ _ hc q => floordiv_int hc.1 q (.inl (PyProof.noPylong_of_log2 hc.2))
theorem op_mulG : OpR X (binaryOp .Mult) (rI IntMulOk fun i j => .int (i * j)) := opI fun _ _ _ _ _ _ _ hc q => mul_int q hc
end
end LV
set_option Elab.async false
set_option linter.all false
set_option maxRecDepth 100000
set_option maxHeartbeats 2000000
namespace LV
open PySem PySem.Spec PyProof.Rows L2
theorem walk_enumT {K : PySem.W.Frag} {a : Addr} {xs : List V} : Walk (IteT K a) xs.length (fun H => SqT K H a xs) (YPair (fun i => some (.int (i : Nat))) (fun i => xs[i]?)) := by
  refine ⟨fun i _ hi q => ⟨xs, xs[i], q, by simp [hi]⟩, fun _ q => ⟨xs, q, rfl⟩, fun i H v H' _ q y => ?_⟩
  obtain ⟨T, x, h1, h2, h3, h4⟩ := y
  exact ⟨T, .int (i : Nat), x, h1, h2, h3, rfl, h4 xs q⟩
/-- built-in names that the module does not bind -/
structure Bt (mg : Str → Option Value) : Prop where
  len : mg "len" = none
  int : mg "int" = none
  enumerate : mg "enumerate" = none
  isinstance : mg "isinstance" = none
  zip : mg "zip" = none
  all : mg "all" = none
  range : mg "range" = none
  list : mg "list" = none
  tuple : mg "tuple" = none
  bool : mg "bool" = none
abbrev FnD (K : PySem.W.Frag) (x qual : Str) (st : Stmt) (f : Addr) (fd : FuncData) : Prop := FunD K x qual (defArgs st) (defBody st) (defScope st) [] [] f fd
/-! heaps -/
def But (a : Addr) (H H' : Hp) : Prop := ∀ b o, b ≠ a → H b = some o → H' b = some o
theorem But.refl (a : Addr) (H : Hp) : But a H H := fun _ _ _ h => h
theorem But.trans {a : Addr} {H H1 H2 : Hp} (x : But a H H1) (y : But a H1 H2) : But a H H2 := fun b o n h => y b o n (x b o n h)
theorem Same.but {a : Addr} {H H1 : Hp} (x : Same H H1) : But a H H1 := fun b o _ h => x b o h
theorem But.upd {a : Addr} {H H1 : Hp} {o : HO} (x : But a H H1) : But a H (upd H1 a o) := fun b u n h => by
  rw [upd_ne n]
  exact x b u n h
theorem Same.new {H : Hp} {p : Addr} {o : HO} (h : H p = none) : Same H (upd H p o) := fun b u e => by
  rw [upd_ne (ne_of_none e h)]
  exact e
theorem But.sq {K : PySem.W.Frag} {a c : Addr} {H H1 : Hp} {xs : List V} (x : But a H H1) (n : c ≠ a) (h : SqL K H c xs) : SqL K H1 c xs := by
  rcases h with (h | ⟨o, h⟩) | h
  · exact .inl (.inl (x _ _ n h))
  · exact .inl (.inr ⟨o, x _ _ n h⟩)
  · exact .inr h
theorem Same.sqT {K : PySem.W.Frag} {a : Addr} {H H1 : Hp} {xs : List V} (x : Same H H1) (h : SqT K H a xs) : SqT K H1 a xs := by
  rcases h with (h | ⟨o, h⟩) | h
  · exact .inl (.inl (x _ _ h))
  · exact .inl (.inr ⟨o, x _ _ h⟩)
  · exact .inr h
/-- a new object: the heap behind it is some heap -/
theorem nAt {H H1 : Hp} {p : Addr} {o : HO} (q : upd H p o = H1) : H1 p = some o := by
  rw [← q]
  exact upd_same
theorem nSm {H H1 : Hp} {p : Addr} {o : HO} (q : upd H p o = H1) (n : H p = none) : Same H H1 := by
  rw [← q]
  exact Same.new n
theorem nBt {H H1 : Hp} {p : Addr} {o : HO} (q : upd H p o = H1) : But p H H1 := by
  rw [← q]
  exact (But.refl p H).upd
/-- the law's state for draws -/
abbrev stL (c : Addr) (n l : Int) (m : Bool) : HO := .lst [.ref c, .int n, .int l, .bl m]
def Stt (K : PySem.W.Frag) (H : Hp) (a : Addr) : Prop := ∃ (c : Addr) (ns : List Int) (n l : Int) (m : Bool), H a = some (stL c n l m) ∧ c ≠ a ∧ H c = some (.lst (ns.map V.int)) ∧ ns.length ≤ 63
theorem Stt.same {K : PySem.W.Frag} {H H1 : Hp} {a : Addr} (e : Same H H1) (s : Stt K H a) : Stt K H1 a := by
  obtain ⟨c, ns, n, l, m, h, hn, hs, hl⟩ := s
  exact ⟨c, ns, n, l, m, e _ _ h, hn, e _ _ hs, hl⟩
def notSt : HO → Bool
  | .lst (.ref _ :: .int _ :: .int _ :: .bl _ :: []) => false
  | _ => true
theorem But.get {K : PySem.W.Frag} {a x : Addr} {H H1 : Hp} {o : HO} (e : But a H H1) (s : Stt K H a) (h : H x = some o) (n : notSt o = true) : H1 x = some o := by
  refine e x o (fun q => ?_) h
  obtain ⟨c, ns, n', l, m, h2, _⟩ := s
  rw [q, h2] at h
  cases h
  cases n
/-- all but the state stays, and its cells are the same list -/
def Bus (a : Addr) (H H' : Hp) : Prop := But a H H' ∧ ∀ c n l m, H a = some (stL c n l m) → ∃ n' l' m', H' a = some (stL c n' l' m')
theorem Bus.refl (a : Addr) (H : Hp) : Bus a H H := ⟨But.refl a H, fun _ n l m h => ⟨n, l, m, h⟩⟩
theorem Bus.trans {a : Addr} {H H1 H2 : Hp} (x : Bus a H H1) (y : Bus a H1 H2) : Bus a H H2 := ⟨x.1.trans y.1, fun c n l m h => by
  obtain ⟨n', l', m', h'⟩ := x.2 c n l m h
  exact y.2 c n' l' m' h'⟩
theorem Same.bus {a : Addr} {H H1 : Hp} (x : Same H H1) : Bus a H H1 := ⟨Same.but x, fun _ n l m h => ⟨n, l, m, x _ _ h⟩⟩
theorem Bus.get {K : PySem.W.Frag} {a x : Addr} {H H1 : Hp} {o : HO} (e : Bus a H H1) (s : Stt K H a) (h : H x = some o) (n : notSt o = true) : H1 x = some o := e.1.get s h n
theorem nBus {a c : Addr} {n l n' l' : Int} {m m' : Bool} {H H1 : Hp} (h : H a = some (stL c n l m)) (q : upd H a (stL c n' l' m') = H1) : Bus a H H1 := ⟨nBt q, fun c2 n2 l2 m2 h2 => by
  rw [h] at h2
  cases h2
  exact ⟨_, _, _, nAt q⟩⟩
/-- a list apart from the state and its cells -/
def Apt (H : Hp) (a b : Addr) : Prop := b ≠ a ∧ ∀ c n l m, H a = some (stL c n l m) → c ≠ b
theorem Apt.bus {K : PySem.W.Frag} {a b : Addr} {H H' : Hp} (s : Stt K H a) (e : Bus a H H') (h : Apt H a b) : Apt H' a b := by
  obtain ⟨c, ns, n, l, m, h1, _⟩ := s
  obtain ⟨n', l', m', h2⟩ := e.2 c n l m h1
  refine ⟨h.1, fun c2 n2 l2 m2 h3 => ?_⟩
  rw [h2] at h3
  cases h3
  exact h.2 c n l m h1
theorem Apt.same {K : PySem.W.Frag} {a b : Addr} {H H' : Hp} (s : Stt K H a) (e : Same H H') (h : Apt H a b) : Apt H' a b := h.bus s (Same.bus e)
theorem Apt.new {K : PySem.W.Frag} {a b : Addr} {H : Hp} (s : Stt K H a) (h : H b = none) : Apt H a b := by
  obtain ⟨c, ns, n, l, m, h1, h2, h3, _⟩ := s
  refine ⟨fun z => ?_, fun c2 n2 l2 m2 h4 z => ?_⟩
  · subst z
    rw [h1] at h
    cases h
  · rw [h1] at h4
    cases h4
    subst z
    rw [h3] at h
    cases h
/-- the state stays where another list is changed -/
theorem Stt.but {K : PySem.W.Frag} {a b : Addr} {H H' : Hp} (s : Stt K H a) (h : Apt H a b) (e : But b H H') : Stt K H' a := by
  obtain ⟨c, ns, n, l, m, h1, h2, h3, h4⟩ := s
  exact ⟨c, ns, n, l, m, e _ _ h.1.symm h1, h2, e _ _ (h.2 _ _ _ _ h1) h3, h4⟩
theorem atL {α : Type} {xs : List α} {z : Int} {n : Nat} (h0 : 0 ≤ z) (h1 : z < n) (hn : n = xs.length) : ∃ v, xs[z.toNat]? = some v ∧ atI xs z = some v := by
  have hj : z.toNat < xs.length := by omega
  refine ⟨xs[z.toNat], by simp [hj], ?_⟩
  have e : z = ((z.toNat : Nat) : Int) := by omega
  have q : atI xs ((z.toNat : Nat) : Int) = some xs[z.toNat] := atI_nat (by simp [hj])
  rw [← e] at q
  exact q
theorem mulS {i j : Int} (h : -(2 ^ 64) < j ∧ j < 2 ^ 64) : IntMulOk i j := CMul.ok (.inr h)
theorem mulS' {i j : Int} (h : -(2 ^ 64) < i ∧ i < 2 ^ 64) : IntMulOk i j := CMul.ok (.inl h)
theorem fdp {i j : Int} (h : 0 < j) : i.fdiv j = i / j := Int.fdiv_eq_ediv_of_nonneg i (by omega)
/-! tests as a whole -/
theorem ans_or2 {t u : TT} {σ : L2.St} {H : Hp} {a b : Bool} (h1 : Ans t σ H a) (h2 : Ans u σ H b) : Ans (tOr t u) σ H (a || b) := by
  cases a with
  | true => exact ans_or1 h1
  | false => exact ans_or h1 h2
theorem ansE {t : TT} {σ : L2.St} {H : Hp} {Q : Bool → Hp → Prop} (P : Bool → Prop) (h : ∃ b, Ans t σ H b ∧ P b) (q : ∀ b, P b → Q b H) : t σ H Q := by
  obtain ⟨b, hb, hp⟩ := h
  exact hb Q (q b hp)
theorem vIx {K : PySem.W.Frag} {ta tb : TE} {σ : L2.St} {H : Hp} {p : Addr} {xs : List V} {i : Int} {v : V} (h1 : Val ta σ H (.ref p)) (h2 : Val tb σ H (.int i)) (h : SqL K H p xs) (hv : atI xs i = some v) : Val (tOp (rIxL K) ta tb) σ H v :=
  val_op h1 h2 fun Q q => ⟨p, xs, i, v, rfl, rfl, h, hv, q⟩
theorem vI0 {ta tb : TE} {σ : L2.St} {H : Hp} {i j : Int} {g : Int → Int → V} (h1 : Val ta σ H (.int i)) (h2 : Val tb σ H (.int j)) : Val (tOp (rI0 g) ta tb) σ H (g i j) := val_op h1 h2 fun Q q => ⟨i, j, rfl, rfl, q⟩
theorem vI {ta tb : TE} {σ : L2.St} {H : Hp} {i j : Int} {C : Int → Int → Prop} {g : Int → Int → V} (h1 : Val ta σ H (.int i)) (h2 : Val tb σ H (.int j)) (hc : C i j) : Val (tOp (rI C g) ta tb) σ H (g i j) := val_op h1 h2 fun Q q => ⟨i, j, rfl, rfl, hc, q⟩
theorem aI0 {ta tb : TE} {σ : L2.St} {H : Hp} {i j : Int} {g : Int → Int → Bool} (h1 : Val ta σ H (.int i)) (h2 : Val tb σ H (.int j)) : Ans (tTest (tOp (rI0 fun i j => .bl (g i j)) ta tb)) σ H (g i j) := ans_cmp h1 h2 fun Q q => ⟨i, j, rfl, rfl, q⟩
theorem aEq {ta tb : TE} {σ : L2.St} {H : Hp} {x y : V} (h1 : Val ta σ H x) (h2 : Val tb σ H y) (hs : scal x y = true) : Ans (tTest (tOp rEq ta tb)) σ H (decide (x = y)) := ans_cmp h1 h2 fun Q q => ⟨hs, q⟩
end LV
set_option Elab.async false
set_option linter.all false
set_option maxRecDepth 100000
set_option maxHeartbeats 2000000
namespace LV
open PySem PySem.Spec PyProof.Rows L2
open AutoSeq1 (wpAny_loadPart')
/-! comparisons: a built-in value beside an instance -/
section
variable {prog : Program} {w : World} {A : Around} {E : Value → Shared → Prop} {s : Shared}
theorem tryC {nm : Str} {id T : String} {B : Builtin} {a : Value} {x : Addr} {Q : Option Value → Shared → Prop} (hT : s.TypeIs a T) (slot : Slot T nm id) (entry : entryFor table id = some B) (args : argsOk id ⟨[a, .ref x], []⟩)
    (hB : ∀ (A' : Around) (Q' : Value → Shared → Prop), Q' .notImplemented s → wpAny (model prog w) A' (B ⟨[a, .ref x], []⟩) (fun fin s' => ∃ v, fin = PySem.Fin.done (.ret v) ∧ Q' v s') E s) (h : Q none s) :
    wpAny (model prog w) A (tryCompare a nm (.ref x)) Q E s := by
  unfold tryCompare
  refine wpAny_bind (wpAny_callSpecialIfBound?_slot hT slot (wpAny_call_entry slot hT entry (hB _ _ ?_) args))
  exact wpAny_pure h
open PySem.W in
theorem cmpRefl {K : Frag} {x C f L : Addr} {h0 : Heap} {m : Str → Option Value} {ox : Obj} {od : Option Obj} {op : CmpOp} {a : Value} {T : String} {Q : Value → Shared → Prop} (hu : A.units < cLine) (FR : Fr h0 L s.heap m) (X0 : K.In h0) (I : InstAt s.heap x ox C od)
    (ha : Looks (model prog w) s.heap (typeOf a) (.type T)) (ho : oneThing? op a (.ref x) = none) (hsub : subIn K (.ref C) (.type T) = some false)
    (h1 : ∀ Q' : Option Value → Shared → Prop, Q' none s → wpAny (model prog w) A (tryCompare a (cmpInfo op).2.1 (.ref x)) Q' E s)
    (hs : findIn K (.ref C) (cmpInfo op).2.2 = some (some (.ref f))) (hf : isFn K (.ref f) = true)
    (h : wpAny (model prog w) A (call (.ref f) [.ref x, a]) (W.CmpBack Q) E s) : wpAny (model prog w) A (richCompare op a (.ref x)) Q E s := by
  have X := X0.keeps FR.keep
  have two : wpAny (model prog w) A (tryCompare (.ref x) (cmpInfo op).2.2 a) (fun r s' => ∃ v, r = some v ∧ Q v s') E s := by
    unfold tryCompare
    refine wpAny_bind (ifBound_K X I hs hf (wpAny_mono h (fun v s' hv => ?_) fun _ _ e => e))
    cases v <;> first | exact hv.elim | exact wpAny_pure ⟨_, rfl, hv⟩
  have hne0 : (Value.type T == Value.ref C) = false := Bool.eq_false_iff.mpr fun z => by cases beq_iff_eq.mp z
  have hne : (Value.type T != Value.ref C) = true := by
    unfold bne
    rw [hne0]
    rfl
  unfold richCompare
  simp only [ho]
  refine wpAny_holding (wpAny_bind (wpAny_cRoomFor hu ?_))
  refine wpAny_bind (ha.here (wpAny_bind (I.type.here ?_)))
  simp only [hne, if_true]
  refine wpAny_bind ((looks_subIn X hsub).here ?_)
  simp only [Bool.false_eq_true, if_false]
  refine wpAny_bind (h1 _ ?_)
  simp only [Bool.not_false, if_true]
  refine wpAny_bind (wpAny_mono two (fun r s' z => ?_) fun _ _ e => e)
  obtain ⟨v, rfl, hq⟩ := z
  exact wpAny_pure hq
/-! x != y by the object's own way over __eq__ -/
open PySem.W in
theorem neOwn {K : Frag} {x C f L : Addr} {h0 : Heap} {m : Str → Option Value} {od : Option Obj} {b tb : Value} {dx : Addr} {Q : Value → Shared → Prop} (hu : A.units + 1 < cLine) (FR : Fr h0 L s.heap m) (X0 : K.In h0) (I : InstAt s.heap x (instObj C dx) C od)
    (hb : Looks (model prog w) s.heap (typeOf b) tb) (hn : notFirst K C tb = true) (hne : findIn K (.ref C) "__ne__" = some (some (.builtin "object.__ne__"))) (hobj : mroIn K C (.type "object") = some true)
    (hs : findIn K (.ref C) "__eq__" = some (some (.ref f))) (hf : isFn K (.ref f) = true)
    (h : wpAny (model prog w) A.in1 (call (.ref f) [.ref x, b]) (fun v s' => ∃ r, v = .bool r ∧ Q (.bool (!r)) s') E s) : wpAny (model prog w) A (richCompare .NotEq (.ref x) b) Q E s := by
  have X := X0.keeps FR.keep
  have S := F.cmp_object.ne
  have sub : Looks (model prog w) s.heap (isInstance (.ref x) (.type "object")) true := I.type.andThen (looks_mroIn X hobj)
  have cs : wpAny (model prog w) A (callSpecialIfBound? (.ref x) "__ne__" [b]) (fun r s' => ∃ z, r = some (.bool z) ∧ Q (.bool z) s') E s := by
    simp only [callSpecialIfBound?, bindSpecialIfBound?]
    refine wpAny_holding (wpAny_bind (wpAny_bind (wpAny_bind (I.type.here ((looks_findIn X hne).here ?_)))))
    simp only [S.bind]
    refine wpAny_bind (wpAny_askSetting (wpAny_ite ?_))
    have call1 : wpAny (model prog w) A (call (.builtin "object.__ne__") [.ref x, b]) (fun v s' => ∃ r, v = .bool r ∧ Q (.bool r) s') E s := by
      refine wpAny_call (codeAny_call_builtin S.plain F.cmpEntry_ne (check_slot F.cmpKind_ne F.cmpSplit_ne sub (F.cmpArgs_ne _ _) ?_))
      unfold Builtin.«object.__ne__»
      obtain ⟨hp, ge, dr, tk, os⟩ := s
      repeat (first
        | with_reducible refine wpAny_cRoomFor hu ?_
        | (refine wpAny_bind (m := callSpecialIfBound? (.ref x) (Str.ofString "__eq__") [b])
            (ifBound_K X I hs hf (wpAny_mono h (fun r s' hr => by
              obtain ⟨z, rfl, hq⟩ := hr
              repeat (first | exact ⟨_, rfl, hq⟩ | exact wpAny_pure ⟨_, rfl, hq⟩ | exact wpAny_truthy_bool ⟨_, rfl, hq⟩ | (refine wpAny_bind (m := truthy (.bool _)) (wpAny_truthy_bool ?_)) | wp_step)) fun _ _ e => e)))
        | wp_step)
    have fin : wpAny (model prog w) A (call (.builtin "object.__ne__") ([.ref x] ++ [b]) >>= fun v => pure (some v)) (fun r s' => ∃ z, r = some (.bool z) ∧ Q (.bool z) s') E s :=
      wpAny_bind (wpAny_mono call1 (fun v s' h' => wpAny_pure (by
        obtain ⟨z, rfl, hq⟩ := h'
        exact ⟨z, rfl, hq⟩)) fun _ _ h' => h')
    split
    · exact wpAny_bind (wpAny_pure (wpAny_pure fin))
    · exact wpAny_tryCatch (wpAny_bind (wpAny_pure (wpAny_pure fin)))
  have one : wpAny (model prog w) A (tryCompare (.ref x) "__ne__" b) (fun r s' => ∃ v, r = some v ∧ Q v s') E s := by
    unfold tryCompare
    refine wpAny_bind (wpAny_mono cs (fun r s' hr => ?_) fun _ _ e => e)
    obtain ⟨z, rfl, hq⟩ := hr
    exact wpAny_pure ⟨_, rfl, hq⟩
  unfold richCompare
  simp only [oneThing_ref]
  refine wpAny_holding (wpAny_bind (wpAny_cRoomFor (Nat.lt_of_succ_lt hu) ?_))
  rw [cmpInfo_NotEq]
  dsimp only
  refine wpAny_bind (I.type.here (wpAny_bind (hb.here ?_)))
  split
  · rename_i z
    have e : subIn K tb (.ref C) = some false := by
      rcases Bool.or_eq_true_iff.mp hn with e | e
      · rw [beq_iff_eq.mp e] at z
        simp at z
      · exact beq_iff_eq.mp e
    refine wpAny_bind ((looks_subIn X e).here ?_)
    simp only [Bool.false_eq_true, if_false]
    refine wpAny_bind (wpAny_mono one (fun r s' y => ?_) fun _ _ e => e)
    obtain ⟨v, rfl, hq⟩ := y
    exact wpAny_pure hq
  · refine wpAny_bind (wpAny_pure ?_)
    simp only [Bool.false_eq_true, if_false]
    refine wpAny_bind (wpAny_mono one (fun r s' y => ?_) fun _ _ e => e)
    obtain ⟨v, rfl, hq⟩ := y
    exact wpAny_pure hq
end
end LV
set_option Elab.async false
set_option linter.all false
set_option maxRecDepth 100000
set_option maxHeartbeats 2000000
namespace LV
open PySem PySem.Spec PyProof.Rows L2
open AutoSeq1 (wpAny_loadPart')
/-! a built-in value's own == with an instance: NotImplemented -/
section
variable {prog : Program} {w : World} {A : Around} {E : Value → Shared → Prop} {s : Shared} {M : Model} {x C dx : Addr} {Q : Value → Shared → Prop}
abbrev NiQ (Q : Value → Shared → Prop) : PySem.Fin → Shared → Prop := fun fin s' => ∃ v, fin = PySem.Fin.done (.ret v) ∧ Q v s'
theorem niBoolEq {b : Bool} (hx : s.heap.get? x = some (PySem.W.instObj C dx)) (h : Q .notImplemented s) : wpAny M A (Builtin.«int.__eq__» ⟨[.bool b, .ref x], []⟩) (NiQ Q) E s := by
  obtain ⟨hp, ge, dr, tk, os⟩ := s
  show wpAny M A (Builtin.Int.intBinary _ _ false ⟨[.bool b, .ref x], []⟩) _ E _
  unfold Builtin.Int.intBinary
  wp_walk using wpAny_load hx
  exact ⟨_, rfl, h⟩
theorem niNoneEq (hx : s.heap.get? x = some (PySem.W.instObj C dx)) (h : Q .notImplemented s) : wpAny M A (Builtin.«NoneType.__eq__» ⟨[.none, .ref x], []⟩) (NiQ Q) E s := by
  obtain ⟨hp, ge, dr, tk, os⟩ := s
  unfold Builtin.«NoneType.__eq__»
  wp_walk using wpAny_load hx
  exact ⟨_, rfl, h⟩
theorem niStrEq {z : Str} {t : Tok} (hx : s.heap.get? x = some (PySem.W.instObj C dx)) (h : Q .notImplemented s) : wpAny M A (Builtin.«str.__eq__» ⟨[.str z t, .ref x], []⟩) (NiQ Q) E s := by
  obtain ⟨hp, ge, dr, tk, os⟩ := s
  wp_walk using wpAny_load hx
  exact ⟨_, rfl, h⟩
theorem niListEq {K : PySem.W.Frag} {l : Addr} (X : K.In s.heap) (hs : PySem.W.subIn K (.ref C) (.type "list") = some false) (hx : s.heap.get? x = some (PySem.W.instObj C dx)) (h : Q .notImplemented s) :
    wpAny (model prog w) A (Builtin.«list.__eq__» ⟨[.ref l, .ref x], []⟩) (NiQ Q) E s := by
  have L := PySem.W.looks_subIn (M := model prog w) X hs
  obtain ⟨hp, ge, dr, tk, os⟩ := s
  wp_walk using wpAny_loadPart' hx, L.at
  exact ⟨_, rfl, h⟩
theorem niTupEq {K : PySem.W.Frag} {l : Addr} (X : K.In s.heap) (hs : PySem.W.subIn K (.ref C) (.type "tuple") = some false) (hx : s.heap.get? x = some (PySem.W.instObj C dx)) (h : Q .notImplemented s) :
    wpAny (model prog w) A (Builtin.«tuple.__eq__» ⟨[.ref l, .ref x], []⟩) (NiQ Q) E s := by
  have L := PySem.W.looks_subIn (M := model prog w) X hs
  obtain ⟨hp, ge, dr, tk, os⟩ := s
  wp_walk using wpAny_loadPart' hx, L.at
  exact ⟨_, rfl, h⟩
theorem niDictEq {K : PySem.W.Frag} {l : Addr} (X : K.In s.heap) (hs : PySem.W.subIn K (.ref C) (.type "dict") = some false) (hx : s.heap.get? x = some (PySem.W.instObj C dx)) (h : Q .notImplemented s) :
    wpAny (model prog w) A (Builtin.«dict.__eq__» ⟨[.ref l, .ref x], []⟩) (NiQ Q) E s := by
  have L := PySem.W.looks_subIn (M := model prog w) X hs
  obtain ⟨hp, ge, dr, tk, os⟩ := s
  wp_walk using wpAny_loadPart' hx, L.at
  exact ⟨_, rfl, h⟩
end
/-! comparisons over the layer -/
section
variable {X : Cx} {k : Nat} {C : Addr} {sp : Sp} {op : CmpOp}
/-- the method runs one level within -/
theorem runIn {f : Addr} {fd : FuncData} {ps : List Str} {pins : List (Addr × Obj)} {σ : L2.St} {H : Hp} {s : Shared} {Q : VK} {us : List Value} {vs : List V} (F : FnOk X.prog X.w X.K X.mg X.base CX0 k f fd ps sp) (hr : Room (k + 1) X.A) (hb : Binds X.K fd ps [])
    (I : Inv X pins σ H s) (r : Vals vs us) (h : sp vs H Q E0) : wpAny (model X.prog X.w) X.A.in1 (call (.ref f) us) (EP X pins σ Q) X.xe s := by
  have hl : us.length = ps.length := by
    rw [← r.length]
    exact F.len _ _ _ _ h
  have b0 := hb s us I.kIn (by simpa using hl)
  refine wpAny_call (codeAny_mono (F.run X.A.in1 X.stack s H ⟨us, []⟩ us vs Q E0 hr.in1 (Env0.in1 I.env0) (by simpa using b0) r h) fun r s' hq => ?_)
  cases r with
  | error e => exact hq.elim
  | ok fl =>
    cases fl with
    | ret u => exact I.after hq
    | next => exact False.elim hq
    | brk => exact False.elim hq
    | cont => exact False.elim hq
/-- what stands to the right of an instance: its type is none below the class -/
def NotF (K : PySem.W.Frag) (C : Addr) (H : Hp) (y : V) : Prop := ∃ t, TyX K H y t ∧ PySem.W.notFirst K C t = true
def rCmpL (K : PySem.W.Frag) (C : Addr) (sp : Sp) : R2 := fun x y H Q => ∃ a dx fs, x = .ref a ∧ H a = some (.ins C dx fs) ∧ NotF K C H y ∧ sp [x, y] H Q E0
theorem op_cmpL (hcm : ∀ v u, compareOp op v u = richCompare op v u) (M : OwnM X k C (cmpInfo op).2.1 sp) (hr : Room k X.A) : OpR X (compareOp op) (rCmpL X.K C sp) := by
  intro pins s σ H x y v u Q I rx ry hq
  obtain ⟨a, dx, fs, rfl, ha, ⟨t, ht, hn⟩, q⟩ := hq
  obtain ⟨f, fd, ps, hs, hf, F, hb⟩ := M.ex
  cases rx
  obtain ⟨mA, J, _⟩ := ins_get I.hok ha
  obtain ⟨od, J, _⟩ := J.look
  obtain ⟨m, hF⟩ := I.fr
  obtain ⟨PP, kt, hP, _⟩ := kit_of I ry ht
  have r2 : Vals [V.ref a, y] [Value.ref a, u] := .cons rfl (.cons ry .nil)
  rw [hcm]
  exact PySem.W.cmp_K hr.units0 hF I.ok.mod.kin J (kt.ty _ _ I.kIn hP) hn hs hf (runM F hr hb I r2 q)
/-- x != y over __eq__ -/
def rNeL (K : PySem.W.Frag) (C : Addr) (sp : Sp) : R2 := fun x y H Q => ∃ a dx fs, x = .ref a ∧ H a = some (.ins C dx fs) ∧ NotF K C H y ∧ sp [x, y] H (fun v H' => ∃ b, v = .bl b ∧ Q (.bl (!b)) H') E0
theorem op_neL (M : OwnM X k C "__eq__" sp) (hne : PySem.W.findIn X.K (.ref C) "__ne__" = some (some (.builtin "object.__ne__"))) (hobj : PySem.W.mroIn X.K C (.type "object") = some true) (hr : Room (k + 1) X.A) : OpR X (compareOp .NotEq) (rNeL X.K C sp) := by
  intro pins s σ H x y v u Q I rx ry hq
  obtain ⟨a, dx, fs, rfl, ha, ⟨t, ht, hn⟩, q⟩ := hq
  obtain ⟨f, fd, ps, hs, hf, F, hb⟩ := M.ex
  cases rx
  obtain ⟨mA, J, _⟩ := ins_get I.hok ha
  obtain ⟨od, J, _⟩ := J.look
  obtain ⟨m, hF⟩ := I.fr
  obtain ⟨PP, kt, hP, _⟩ := kit_of I ry ht
  have r2 : Vals [V.ref a, y] [Value.ref a, u] := .cons rfl (.cons ry .nil)
  show wpAny (model X.prog X.w) X.A (richCompare .NotEq (.ref a) u) (EP X pins σ Q) X.xe s
  have hu : X.A.units + 1 < cLine := hu_of hr
  refine neOwn hu hF I.ok.mod.kin J (kt.ty _ _ I.kIn hP) hn hne hobj hs hf (wpAny_mono (runIn F hr hb I r2 q) (fun v s' z => ?_) fun _ _ z => z)
  obtain ⟨v', H', I', rv, b, rfl, q'⟩ := z
  exact ⟨b, rv, .bl (!b), H', I', rfl, q'⟩
/-- a built-in value to the left of an instance -/
inductive Lft (K : PySem.W.Frag) (H : Hp) : V → String → Prop where
  | non : Lft K H .non "NoneType"
  | bl (b : Bool) : Lft K H (.bl b) "bool"
  | int (i : Int) : Lft K H (.int i) "int"
  | str (z : Str) : Lft K H (.str z) "str"
  | lst {a : Addr} {xs : List V} (h : H a = some (.lst xs)) : Lft K H (.ref a) "list"
  | tup {a : Addr} {xs : List V} (h : H a = some (.tup xs)) : Lft K H (.ref a) "tuple"
  | dK {a : Addr} {kvs : List (Key × V)} (h : H a = some (.dK kvs)) : Lft K H (.ref a) "dict"
def rCmpR (K : PySem.W.Frag) (C : Addr) (sp : Sp) : R2 := fun x y H Q => ∃ b dy gs T, y = .ref b ∧ H b = some (.ins C dy gs) ∧ Lft K H x T ∧ PySem.W.subIn K (.ref C) (.type T) = some false ∧ sp [y, x] H Q E0
theorem op_eqR (M : OwnM X k C "__eq__" sp) (hr : Room k X.A) : OpR X (compareOp .Eq) (rCmpR X.K C sp) := by
  intro pins s σ H x y v u Q I rx ry hq
  obtain ⟨b, dy, gs, T, rfl, hb', hx, hsub, q⟩ := hq
  obtain ⟨f, fd, ps, hs, hf, FM, hb⟩ := M.ex
  cases ry
  obtain ⟨mA, J, _⟩ := ins_get I.hok hb'
  obtain ⟨od, J, _⟩ := J.look
  obtain ⟨m, hF⟩ := I.fr
  have r2 : Vals [V.ref b, x] [Value.ref b, v] := .cons rfl (.cons rx .nil)
  have run := runM FM hr hb I r2 q
  show wpAny (model X.prog X.w) X.A (richCompare .Eq v (.ref b)) (EP X pins σ Q) X.xe s
  cases hx with
  | non =>
    cases rx
    exact cmpRefl hr.units0 hF I.ok.mod.kin J (PySem.W.Looks.of_pure rfl) rfl hsub (fun Q' q' => tryC (T := "NoneType") (show s.TypeIs Value.none "NoneType" from rfl) F.slot_NoneType_eq F.entry_NoneType_eq (F.args_NoneType_eq_2 _ _) (fun A' Q2 q2 => niNoneEq J.1 q2) q') hs hf run
  | bl z =>
    cases rx
    exact cmpRefl hr.units0 hF I.ok.mod.kin J (PySem.W.Looks.of_pure rfl) rfl hsub (fun Q' q' => tryC (T := "bool") (show s.TypeIs (Value.bool z) "bool" from rfl) F.slot_bool_eq F.entry_int_eq (F.args_int_eq_2 _ _) (fun A' Q2 q2 => niBoolEq J.1 q2) q') hs hf run
  | int i =>
    obtain ⟨t, rfl⟩ := rx
    exact cmpRefl hr.units0 hF I.ok.mod.kin J (PySem.W.Looks.of_pure rfl) rfl hsub (fun Q' q' => tryC (T := "int") (typeIs_int s i t) F.slot_int_eq F.entry_int_eq (F.args_int_eq_2 _ _) (fun A' Q2 q2 => niBin J.1 q2) q') hs hf run
  | str z =>
    obtain ⟨t, rfl⟩ := rx
    exact cmpRefl hr.units0 hF I.ok.mod.kin J (PySem.W.Looks.of_pure rfl) rfl hsub (fun Q' q' => tryC (T := "str") (show s.TypeIs (Value.str z t) "str" from rfl) F.slot_str_eq F.entry_str_eq (F.args_str_eq_2 _ _) (fun A' Q2 q2 => niStrEq J.1 q2) q') hs hf run
  | lst h =>
    obtain ⟨PP, kt, hP, _⟩ := kit_of I rx (TyX.base (TyOf.lst h))
    cases rx
    obtain ⟨_, _, n, _, h1⟩ := (show ObjOk X.prog X.w H s.heap _ (.lst _) from I.hok _ _ h)
    exact cmpRefl hr.units0 hF I.ok.mod.kin J (kt.ty _ _ I.kIn hP) rfl hsub (fun Q' q' => tryC (T := "list") ⟨_, h1, rfl⟩ F.slot_list_eq F.entry_list_eq (F.args_list_eq_2 _ _) (fun A' Q2 q2 => niListEq I.kIn hsub J.1 q2) q') hs hf run
  | tup h =>
    obtain ⟨PP, kt, hP, _⟩ := kit_of I rx (TyX.base (TyOf.tup h))
    cases rx
    obtain ⟨_, _, _, o, h1, h2, _⟩ := (show ObjOk X.prog X.w H s.heap _ (.tup _) from I.hok _ _ h)
    exact cmpRefl hr.units0 hF I.ok.mod.kin J (kt.ty _ _ I.kIn hP) rfl hsub (fun Q' q' => tryC (T := "tuple") ⟨o, h1, h2⟩ F.slot_tuple_eq F.entry_tuple_eq (F.args_tuple_eq_2 _ _) (fun A' Q2 q2 => niTupEq I.kIn hsub J.1 q2) q') hs hf run
  | dK h =>
    obtain ⟨PP, kt, hP, _⟩ := kit_of I rx (TyX.base (TyOf.dK h))
    cases rx
    obtain ⟨_, _, vs, _, o, es, ep, h1, h2, _⟩ := (show ObjOk X.prog X.w H s.heap _ (.dK _) from I.hok _ _ h)
    exact cmpRefl hr.units0 hF I.ok.mod.kin J (kt.ty _ _ I.kIn hP) rfl hsub (fun Q' q' => tryC (T := "dict") ⟨o, h1, h2.1⟩ F.slot_dict_eq F.entry_dict_eq (F.args_dict_eq_2 _ _) (fun A' Q2 q2 => niDictEq I.kIn hsub J.1 q2) q') hs hf run
/-- int op instance, by the reflected method -/
def rCmpRI (C : Addr) (sp : Sp) : R2 := fun x y H Q => ∃ i b dy gs, x = .int i ∧ y = .ref b ∧ H b = some (.ins C dy gs) ∧ sp [y, x] H Q E0
theorem op_cmpRI {id : String} {B : Builtin} (hcm : ∀ v u, compareOp op v u = richCompare op v u) (M : OwnM X k C (cmpInfo op).2.2 sp) (c : OwnC X.K C) (hr : Room k X.A) (ho : ∀ i t b, oneThing? op (.int i t) (.ref b) = none)
    (slot : Slot "int" (cmpInfo op).2.1 id) (entry : entryFor table id = some B) (args : ∀ a b, argsOk id ⟨[a, b], []⟩)
    (hB : ∀ (i : Int) (t : Tok) (x dx : Addr) (s : Shared) (A' : Around) (E : Value → Shared → Prop) (Q' : Value → Shared → Prop), s.heap.get? x = some (PySem.W.instObj C dx) → Q' .notImplemented s →
      wpAny (model X.prog X.w) A' (B ⟨[.int i t, .ref x], []⟩) (fun fin s' => ∃ v, fin = PySem.Fin.done (.ret v) ∧ Q' v s') E s) : OpR X (compareOp op) (rCmpRI C sp) := by
  intro pins s σ H x y v u Q I rx ry hq
  obtain ⟨i, b, dy, gs, rfl, rfl, hb', q⟩ := hq
  obtain ⟨f, fd, ps, hs, hf, FM, hb⟩ := M.ex
  obtain ⟨t, rfl⟩ := rx
  cases ry
  obtain ⟨mA, J, _⟩ := ins_get I.hok hb'
  obtain ⟨od, J, _⟩ := J.look
  obtain ⟨m, hF⟩ := I.fr
  have r2 : Vals [V.ref b, V.int i] [Value.ref b, Value.int i t] := .cons rfl (.cons ⟨_, rfl⟩ .nil)
  rw [hcm]
  exact cmpRefl hr.units0 hF I.ok.mod.kin J (PySem.W.Looks.of_pure rfl) (ho _ _ _) c.subC (fun Q' q' => tryC (T := "int") (typeIs_int s i t) slot entry (args _ _) (fun A' Q2 q2 => hB _ _ _ _ _ _ _ _ J.1 q2) q') hs hf (runM FM hr hb I r2 q)
theorem op_ltR (M : OwnM X k C "__gt__" sp) (c : OwnC X.K C) (hr : Room k X.A) : OpR X (compareOp .Lt) (rCmpRI C sp) :=
  op_cmpRI (op := .Lt) (fun _ _ => rfl) M c hr (fun _ _ _ => rfl) F.slot_int_lt F.entry_int_lt F.args_int_lt_2 fun i t x dx s A' E Q' hx q => niBin hx q
theorem op_leR (M : OwnM X k C "__ge__" sp) (c : OwnC X.K C) (hr : Room k X.A) : OpR X (compareOp .LtE) (rCmpRI C sp) :=
  op_cmpRI (op := .LtE) (fun _ _ => rfl) M c hr (fun _ _ _ => rfl) F.slot_int_le F.entry_int_le F.args_int_le_2 fun i t x dx s A' E Q' hx q => niBin hx q
theorem op_gtR (M : OwnM X k C "__lt__" sp) (c : OwnC X.K C) (hr : Room k X.A) : OpR X (compareOp .Gt) (rCmpRI C sp) :=
  op_cmpRI (op := .Gt) (fun _ _ => rfl) M c hr (fun _ _ _ => rfl) F.slot_int_gt F.entry_int_gt F.args_int_gt_2 fun i t x dx s A' E Q' hx q => niBin hx q
theorem op_geR (M : OwnM X k C "__le__" sp) (c : OwnC X.K C) (hr : Room k X.A) : OpR X (compareOp .GtE) (rCmpRI C sp) :=
  op_cmpRI (op := .GtE) (fun _ _ => rfl) M c hr (fun _ _ _ => rfl) F.slot_int_ge F.entry_int_ge F.args_int_ge_2 fun i t x dx s A' E Q' hx q => niBin hx q
theorem op_ltL (M : OwnM X k C "__lt__" sp) (hr : Room k X.A) : OpR X (compareOp .Lt) (rCmpL X.K C sp) := op_cmpL (op := .Lt) (fun _ _ => rfl) M hr
theorem op_leL (M : OwnM X k C "__le__" sp) (hr : Room k X.A) : OpR X (compareOp .LtE) (rCmpL X.K C sp) := op_cmpL (op := .LtE) (fun _ _ => rfl) M hr
theorem op_gtL (M : OwnM X k C "__gt__" sp) (hr : Room k X.A) : OpR X (compareOp .Gt) (rCmpL X.K C sp) := op_cmpL (op := .Gt) (fun _ _ => rfl) M hr
theorem op_geL (M : OwnM X k C "__ge__" sp) (hr : Room k X.A) : OpR X (compareOp .GtE) (rCmpL X.K C sp) := op_cmpL (op := .GtE) (fun _ _ => rfl) M hr
theorem op_eqL (M : OwnM X k C "__eq__" sp) (hr : Room k X.A) : OpR X (compareOp .Eq) (rCmpL X.K C sp) := op_cmpL (op := .Eq) (fun _ _ => rfl) M hr
end
end LV
set_option Elab.async false
set_option linter.all false
set_option maxRecDepth 100000
set_option maxHeartbeats 2000000
/-! == of lists and tuples of own instances, with its answer -/
namespace GB
open PySem PySem.SeqAt
open AutoSeq1 (wpAny_loadPart')
open MeetsSeq MeetsSeq2 MeetsSeq3 SeqRoads2
open GQ (FinOf call_here)
section
variable {prog : Program} {w : World} {A : Around} {R : Result → Shared → Prop}
/-- the two lists as they are read -/
def LRead (l b : Addr) (N : Nat) (s : Shared) (P : Array Value → Array Value → Prop) : Prop :=
  ∃ (items items2 : Array Value) (n n2 : Nat), s.heap.get? l = some { cls := .type "list", data := .seq items n } ∧ s.heap.get? b = some { cls := .type "list", data := .seq items2 n2 } ∧ items.size = N ∧ items2.size = N ∧ P items items2
def ListB (prog : Program) (w : World) (A : Around) (E : Value → Shared → Prop) (l b : Addr) (N : Nat) (I : Nat → Shared → Prop) (Fs : Shared → Prop) : Prop :=
  (∀ i s, I i s → LRead l b N s fun items items2 => ∀ (h1 : i < items.size) (h2 : i < items2.size), wpAny (model prog w) A.in1 (eqBool items[i] items2[i]) (fun r s' => (r = true ∧ I (i + 1) s') ∨ (r = false ∧ Fs s')) E s) ∧
  ∀ s, Fs s → LRead l b N s fun _ _ => True
theorem eq_loopB (l b : Addr) (N : Nat) (I : Nat → Shared → Prop) (Fs : Shared → Prop) (hl : ListB prog w A (fun e s' => R (.error e) s') l b N I Fs)
    (fin : ∀ s, I N s → R (.ok (.ret (.bool true))) s) (ff : ∀ s, Fs s → R (.ok (.ret (.bool false))) s) (k : Nat) :
    ∀ i : Nat, N - i = k → i ≤ N → ∀ s, I i s →
      wpAny (model prog w) A.in1 (Builtin.«list.__eq__.loop» ⟨[.ref l, .ref b, rawInt i, rawInt 2], []⟩) (FinOf prog w A R) (fun e s' => R (.error e) s') s := by
  induction k with
  | zero =>
    intro i hk hi s h
    obtain ⟨items, items2, n, n2, hl1, hb1, hs1, hs2, _⟩ := hl.1 _ _ h
    have hi' : i = N := by omega
    have hR : R (.ok (.ret (.bool true))) s := fin s (hi' ▸ h)
    obtain ⟨hp, g, d, tk, os⟩ := s
    wp_walk using wpAny_loadPart' hl1, wpAny_loadPart' hb1
    have hi1 : items[((i : Nat) : Int).toNat]? = none := by simp; omega
    have hi2 : items2[((i : Nat) : Int).toNat]? = none := by simp; omega
    rw [hi1, hi2]
    wp_walk using wpAny_loadPart' hl1, wpAny_loadPart' hb1
    show R (.ok (.ret (.bool (items.size == items2.size)))) _
    rw [hs1, hs2]
    simpa using hR
  | succ k ih =>
    intro i hk hi s h
    obtain ⟨items, items2, n, n2, hl1, hb1, hs1, hs2, turn⟩ := hl.1 _ _ h
    have hlt : i < items.size := by omega
    have hlt2 : i < items2.size := by omega
    have ht := turn hlt hlt2
    obtain ⟨hp, g, d, tk, os⟩ := s
    wp_walk using wpAny_loadPart' hl1, wpAny_loadPart' hb1
    have hi1 : items[((i : Nat) : Int).toNat]? = some items[i] := by simp [hlt]
    have hi2 : items2[((i : Nat) : Int).toNat]? = some items2[i] := by simp [hlt2]
    have hc : ((i : Int) + 1) = ((i + 1 : Nat) : Int) := by omega
    rw [hi1, hi2]
    refine wpAny_bind (wpAny_mono ht (fun r s2 h2 => ?_) fun _ _ x => x)
    rcases h2 with ⟨hr, h2⟩ | ⟨hr, h2⟩
    · subst hr
      have hrec := ih (i + 1) (by omega) (by omega) s2 h2
      obtain ⟨hp2, g2, d2, tk2, os2⟩ := s2
      wp_walk
      rw [hc]
      exact ⟨plainId_quiet plain_eq_loop _, codeAny_builtin entry_eq_loop (by
        rw [Around.under_plainId plain_eq_loop _]
        exact hrec)⟩
    · subst hr
      obtain ⟨jt, jt2, m, m2, kl, kb, z1, z2, _⟩ := hl.2 _ h2
      have hR := ff s2 h2
      obtain ⟨hp2, g2, d2, tk2, os2⟩ := s2
      wp_walk using wpAny_loadPart' kl, wpAny_loadPart' kb
      have hj1 : jt[((i : Nat) : Int).toNat]? = some (jt[i]'(by omega)) := by
        have : i < jt.size := by omega
        simp [this]
      have hj2 : jt2[((i : Nat) : Int).toNat]? = some (jt2[i]'(by omega)) := by
        have : i < jt2.size := by omega
        simp [this]
      rw [hj1, hj2]
      wp_walk
      exact hR
theorem list_eqB (l b : Addr) (N : Nat) (I : Nat → Shared → Prop) (Fs : Shared → Prop) (hl : ListB prog w A (fun e s' => R (.error e) s') l b N I Fs)
    (fin : ∀ s, I N s → R (.ok (.ret (.bool true))) s) (ff : ∀ s, Fs s → R (.ok (.ret (.bool false))) s) {s : Shared} (h : I 0 s) :
    wpAny (model prog w) A.in1 (Builtin.«list.__eq__» ⟨[.ref l, .ref b], []⟩) (FinOf prog w A R) (fun e s' => R (.error e) s') s := by
  obtain ⟨items, items2, n, n2, hl1, hb1, hs1, hs2, _⟩ := hl.1 _ _ h
  have hrec := eq_loopB (A := A) (R := R) l b N I Fs hl fin ff _ 0 rfl (Nat.zero_le _) s h
  obtain ⟨hp, g, d, tk, os⟩ := s
  have f3 := AutoSeq1.sub_list_list
  have hne : ¬ (items.size != items2.size) = true := by simp [hs1, hs2]
  wp_walk using wpAny_loadPart' hl1, wpAny_loadPart' hb1
  exact ⟨plainId_quiet plain_eq_loop _, codeAny_builtin entry_eq_loop (by
    rw [Around.under_plainId plain_eq_loop _]
    exact hrec)⟩
theorem tuple_eqB (l b : Addr) (items items2 : Array Value) (n n2 : Nat) (dd dd2 : Option Addr) (sl sl2 : Array (Option Value)) (hsz : items.size = items2.size) (I : Nat → Shared → Prop) (Fs : Shared → Prop)
    (turn : ∀ i (h1 : i < items.size) (h2 : i < items2.size) s, I i s → wpAny (model prog w) A.in1 (eqBool items[i] items2[i]) (fun r s' => (r = true ∧ I (i + 1) s') ∨ (r = false ∧ Fs s')) (fun e s' => R (.error e) s') s)
    (fin : ∀ s, I items.size s → R (.ok (.ret (.bool true))) s) (ff : ∀ s, Fs s → R (.ok (.ret (.bool false))) s) {s : Shared} (hl1 : s.heap.get? l = some { cls := .type "tuple", dict := dd, data := .seq items n, slots := sl }) (hb1 : s.heap.get? b = some { cls := .type "tuple", dict := dd2, data := .seq items2 n2, slots := sl2 }) (h : I 0 s) :
    wpAny (model prog w) A.in1 (Builtin.«tuple.__eq__» ⟨[.ref l, .ref b], []⟩) (FinOf prog w A R) (fun e s' => R (.error e) s') s := by
  have f2 := AutoSeq1.sub_tuple_tuple
  have hZ : (items.toList.zip items2.toList).length = items.size := by simp [hsz]
  have h0 := h
  obtain ⟨hp, g, d, tk, os⟩ := s
  wp_walk using wpAny_loadPart' hl1, wpAny_loadPart' hb1, wpAny_forIn_list _ (fun rest b s' => (b.1 = none ∧ ∃ i, rest = (items.toList.zip items2.toList).drop i ∧ i ≤ items.size ∧ I i s') ) _
  case turn =>
    rintro ⟨y, x⟩ rest b s' ⟨hb', i, hz, hi, hI⟩
    have hlt : i < (items.toList.zip items2.toList).length := by
      rcases Nat.lt_or_ge i (items.toList.zip items2.toList).length with h' | h'
      · exact h'
      · rw [List.drop_of_length_le h'] at hz; cases hz
    have h1 : i < items.size := hZ ▸ hlt
    have h2 : i < items2.size := hsz ▸ h1
    rw [List.drop_eq_getElem_cons hlt] at hz
    injection hz with hyx hrest
    have hy : y = items[i] := by have := congrArg Prod.fst hyx; simpa using this
    have hx : x = items2[i] := by have := congrArg Prod.snd hyx; simpa using this
    subst hy hx
    refine wpAny_bind (wpAny_mono (turn i h1 h2 s' hI) (fun r s2 q2 => ?_) fun _ _ x => x)
    rcases q2 with ⟨hr, q2⟩ | ⟨hr, q2⟩
    · subst hr
      wp_walk
      exact ⟨rfl, i + 1, hrest, h1, q2⟩
    · subst hr
      wp_walk
      exact ff _ q2
  case fin =>
    rintro ⟨b1, b2⟩ s' ⟨hb', i, hz, hi, hI⟩
    simp only at hb'
    subst hb'
    have hge : items.size ≤ i := by
      rcases Nat.lt_or_ge i (items.toList.zip items2.toList).length with h' | h'
      · rw [List.drop_eq_getElem_cons h'] at hz; cases hz
      · exact hZ ▸ h'
    have hi' : i = items.size := by omega
    have hR : R (.ok (.ret (.bool true))) s' := fin s' (hi' ▸ hI)
    wp_walk
    simpa [Builtin.Tuple.tupleCompareSizes, hsz] using hR
  case h =>
    exact ⟨rfl, 0, rfl, Nat.zero_le _, h0⟩
end
section
variable {prog : Program} {w : World} {A : Around} {E : Value → Shared → Prop} {s : Shared}
theorem rc_listB {l b : Addr} {N : Nat} {Q : Value → Shared → Prop} (hu : A.units < cLine) (I : Nat → Shared → Prop) (Fs : Shared → Prop) (hl : ListB prog w A E l b N I Fs)
    (fin : ∀ s, I N s → Q (.bool true) s) (ff : ∀ s, Fs s → Q (.bool false) s) (h : I 0 s) : wpAny (model prog w) A (richCompare .Eq (.ref l) (.ref b)) Q E s := by
  obtain ⟨items, items2, n, n2, hl1, hb1, _, _, _⟩ := hl.1 _ _ h
  refine wpAny_richCompare_same_room (op := .Eq) ⟨_, hl1, rfl⟩ ⟨_, hb1, rfl⟩ F.slot_list_eq (call_here F.slot_list_eq ⟨_, hl1, rfl⟩ F.entry_list_eq (F.args_list_eq_2 _ _) ?_) hu
  exact list_eqB (R := wants (fun v s' => v ≠ .notImplemented ∧ Q v s') E) l b N I Fs hl (fun s' q => ⟨(fun x => nomatch x), fin s' q⟩) (fun s' q => ⟨(fun x => nomatch x), ff s' q⟩) h
theorem rc_tupB {l b : Addr} {items items2 : Array Value} {Q : Value → Shared → Prop} (hsz : items.size = items2.size) (hu : A.units < cLine) (I : Nat → Shared → Prop) (Fs : Shared → Prop)
    (hl : s.heap.IsTuple l items) (hb : s.heap.IsTuple b items2)
    (turn : ∀ i (h1 : i < items.size) (h2 : i < items2.size) s, I i s → wpAny (model prog w) A.in1 (eqBool items[i] items2[i]) (fun r s' => (r = true ∧ I (i + 1) s') ∨ (r = false ∧ Fs s')) E s)
    (fin : ∀ s, I items.size s → Q (.bool true) s) (ff : ∀ s, Fs s → Q (.bool false) s) (h : I 0 s) : wpAny (model prog w) A (richCompare .Eq (.ref l) (.ref b)) Q E s := by
  obtain ⟨⟨cls, dd, data, sl⟩, ho, hc, n, hd⟩ := id hl
  obtain ⟨⟨cls2, dd2, data2, sl2⟩, ho2, hc2, n2, hd2⟩ := id hb
  simp only at hc hd hc2 hd2
  subst hc hd hc2 hd2
  refine wpAny_richCompare_same_room (op := .Eq) ⟨_, ho, rfl⟩ ⟨_, ho2, rfl⟩ F.slot_tuple_eq (call_here F.slot_tuple_eq ⟨_, ho, rfl⟩ F.entry_tuple_eq (F.args_tuple_eq_2 _ _) ?_) hu
  exact tuple_eqB (R := wants (fun v s' => v ≠ .notImplemented ∧ Q v s') E) l b items items2 n n2 dd dd2 sl sl2 hsz I Fs turn (fun s' q => ⟨(fun x => nomatch x), fin s' q⟩) (fun s' q => ⟨(fun x => nomatch x), ff s' q⟩) ho ho2 h
end
end GB
namespace LV
open PySem PySem.Spec PyProof.Rows L2
abbrev EqvB := V → V → Bool → Hp → Prop
def MonB (D : EqvB) : Prop := ∀ x y b H H', Ext H H' → D x y b H → D x y b H'
def RflB (D : EqvB) : Prop := ∀ x b H, D x x b H → b = true
def EqB (X : Cx) (n : Nat) (D : EqvB) : Prop :=
  ∀ (A : Around) (pins : List (Addr × Obj)) (s : Shared) (σ : L2.St) (H : Hp) (x y : V) (u v : Value) (b : Bool), Sub X n A → Inv X pins σ H s → RelV x u → RelV y v → D x y b H →
    wpAny (model X.prog X.w) A (eqBool u v) (fun r s' => r = b ∧ ∃ H', Inv X pins σ H' s' ∧ Ext H H') X.xe s
def RcB (X : Cx) (n : Nat) (D : EqvB) : Prop :=
  ∀ (A : Around) (pins : List (Addr × Obj)) (s : Shared) (σ : L2.St) (H : Hp) (x y : V) (u v : Value) (b : Bool), Sub X n A → Inv X pins σ H s → RelV x u → RelV y v → D x y b H →
    wpAny (model X.prog X.w) A (richCompare .Eq u v) (fun r s' => r = .bool b ∧ ∃ H', Inv X pins σ H' s' ∧ Ext H H') X.xe s
section
variable {X : Cx} {n m : Nat} {D D' : EqvB}
/-- item by item: the answers -/
def PrsB (D : EqvB) (xs ys : List V) (f : Nat → Bool) (H : Hp) : Prop := xs.length = ys.length ∧ ∀ (i : Nat) x y, xs[i]? = some x → ys[i]? = some y → D x y (f i) H
theorem PrsB.mon (hD : MonB D) {xs ys : List V} {f : Nat → Bool} {H H' : Hp} (e : Ext H H') (p : PrsB D xs ys f H) : PrsB D xs ys f H' := ⟨p.1, fun i x y h1 h2 => hD x y _ H H' e (p.2 i x y h1 h2)⟩
theorem turnB (hD : MonB D) (h : EqB X n D) {A : Around} (sb : Sub X (n + 1) A) {pins : List (Addr × Obj)} {σ : L2.St} {H : Hp} {xs ys : List V} {f : Nat → Bool} {its its2 : List Value} (p : PrsB D xs ys f H) (r : Vals xs its) (r2 : Vals ys its2)
    (i : Nat) (h1 : i < its.toArray.size) (h2 : i < its2.toArray.size) (s' : Shared) (l : LoopI X pins σ H s') :
    wpAny (model X.prog X.w) A.in1 (eqBool its.toArray[i] its2.toArray[i]) (fun r s2 => r = f i ∧ LoopI X pins σ H s2) X.xe s' := by
  obtain ⟨H1, I1, e1⟩ := l
  have g1 : its[i]? = some its.toArray[i] := by
    have h1' : i < its.length := by simpa using h1
    rw [List.getElem?_eq_getElem h1'] <;> simp
  have g2 : its2[i]? = some its2.toArray[i] := by
    have h2' : i < its2.length := by simpa using h2
    rw [List.getElem?_eq_getElem h2'] <;> simp
  have k1 : i < xs.length := by rw [r.length]; simpa using h1
  have k2 : i < ys.length := by rw [r2.length]; simpa using h2
  obtain ⟨u, hu, ru⟩ := r.get (List.getElem?_eq_getElem k1)
  obtain ⟨v, hv, rv⟩ := r2.get (List.getElem?_eq_getElem k2)
  rw [g1] at hu
  rw [g2] at hv
  rw [Option.some.inj hu, Option.some.inj hv]
  refine wpAny_mono (h A.in1 pins s' σ H1 _ _ u v _ sb.in1 I1 ru rv (hD _ _ _ _ _ e1 (p.2 i _ _ (List.getElem?_eq_getElem k1) (List.getElem?_eq_getElem k2)))) (fun r s2 q => ?_) fun _ _ x => x
  obtain ⟨hr, H2, I2, e2⟩ := q
  exact ⟨hr, H2, I2, e1.trans e2⟩
def DLstB (D : EqvB) : EqvB := fun x y b H => ∃ (a c : Addr) (xs ys : List V), x = .ref a ∧ y = .ref c ∧ H a = some (.lst xs) ∧ H c = some (.lst ys) ∧ ((xs.length ≠ ys.length ∧ b = false) ∨ ∃ f, PrsB D xs ys f H ∧ b = (List.range xs.length).all f)
def DTupB (D : EqvB) : EqvB := fun x y b H => ∃ (a c : Addr) (xs ys : List V), x = .ref a ∧ y = .ref c ∧ H a = some (.tup xs) ∧ H c = some (.tup ys) ∧ ∃ f, PrsB D xs ys f H ∧ b = (List.range xs.length).all f
theorem monB_lst (hD : MonB D) : MonB (DLstB D) := fun x y b H H' e d => by
  obtain ⟨a, c, xs, ys, hx, hy, h1, h2, p⟩ := d
  exact ⟨a, c, xs, ys, hx, hy, e _ _ h1, e _ _ h2, p.imp id fun ⟨f, p, q⟩ => ⟨f, p.mon hD e, q⟩⟩
theorem monB_tup (hD : MonB D) : MonB (DTupB D) := fun x y b H H' e d => by
  obtain ⟨a, c, xs, ys, hx, hy, h1, h2, f, p, q⟩ := d
  exact ⟨a, c, xs, ys, hx, hy, e _ _ h1, e _ _ h2, f, p.mon hD e, q⟩
theorem rflB_prs (hR : RflB D) {xs : List V} {f : Nat → Bool} {H : Hp} (p : PrsB D xs xs f H) : (List.range xs.length).all f = true := by
  rw [List.all_eq_true]
  intro i hi
  have hi' : i < xs.length := by simpa using hi
  exact hR _ _ _ (p.2 i _ _ (List.getElem?_eq_getElem hi') (List.getElem?_eq_getElem hi'))
theorem rflB_tup (hR : RflB D) : RflB (DTupB D) := fun x b H d => by
  obtain ⟨a, c, xs, ys, rfl, hy, h1, h2, f, p, q⟩ := d
  cases hy
  rw [h1] at h2
  cases h2
  rw [q, rflB_prs hR p]
theorem rflB_lst (hR : RflB D) : RflB (DLstB D) := fun x b H d => by
  obtain ⟨a, c, xs, ys, rfl, hy, h1, h2, p⟩ := d
  cases hy
  rw [h1] at h2
  cases h2
  rcases p with ⟨n, _⟩ | ⟨f, p, q⟩
  · exact absurd rfl n
  · rw [q, rflB_prs hR p]
theorem all_f {f : Nat → Bool} {N : Nat} (h : ∀ j, j < N → f j = true) : (List.range N).all f = true := by
  rw [List.all_eq_true]
  intro i hi
  exact h i (by simpa using hi)
theorem not_f {f : Nat → Bool} {N j : Nat} (hj : j < N) (h : f j = false) : (List.range N).all f = false := by
  cases z : (List.range N).all f with
  | false => rfl
  | true =>
    rw [List.all_eq_true] at z
    have := z j (by simpa using hj)
    rw [h] at this
    cases this
theorem rcB_lst (hD : MonB D) (h : EqB X n D) : RcB X (n + 1) (DLstB D) := by
  intro A pins s σ H x y u v b sb I rx ry d
  obtain ⟨a, c, xs, ys, rfl, rfl, ha, hb, p⟩ := d
  cases rx
  cases ry
  rcases p with ⟨ne, rfl⟩ | ⟨f, p, rfl⟩
  · obtain ⟨z, its, k, r, e⟩ := I.hok a _ ha
    obtain ⟨z2, its2, k2, r2, e2⟩ := I.hok c _ hb
    refine richCompare_meets_room (op := .Eq) ⟨_, e, rfl⟩ ⟨_, e2, rfl⟩ F.slot_list_eq F.entry_list_eq (F.args_list_eq_2 _ _) (SeqAt.list_eq_lengthsAt a c _ _ k k2 _ _ _ _ ?_) ⟨e, e2, ?_⟩ sb.room.units0
    · rw [List.size_toArray, List.size_toArray, ← r.length, ← r2.length]
      simpa using ne
    · exact ⟨(fun x => nomatch x), rfl, H, I, Ext.rfl'⟩
  · refine GB.rc_listB (N := xs.length) sb.room.units0 (fun i s' => LoopI X pins σ H s' ∧ ∀ j, j < i → f j = true) (fun s' => LoopI X pins σ H s' ∧ ∃ j, j < xs.length ∧ f j = false) ⟨fun i s' q => ?_, fun s' q => ?_⟩
      (fun s' q => ⟨by rw [all_f q.2], q.1⟩) (fun s' ⟨q, j, hj, hf⟩ => ⟨by rw [not_f hj hf], q⟩) ⟨⟨H, I, Ext.rfl'⟩, fun j hj => absurd hj (Nat.not_lt_zero j)⟩
    · obtain ⟨q, qf⟩ := q
      obtain ⟨H1, I1, e1⟩ := id q
      obtain ⟨z, its, k, r, e⟩ := I1.hok a _ (e1 _ _ ha)
      obtain ⟨z2, its2, k2, r2, e2⟩ := I1.hok c _ (e1 _ _ hb)
      refine ⟨its.toArray, its2.toArray, k, k2, e, e2, by rw [List.size_toArray, ← r.length], by rw [List.size_toArray, ← r2.length, ← p.1], fun h1 h2 => ?_⟩
      refine wpAny_mono (turnB hD h sb p r r2 i h1 h2 s' q) (fun w s2 z => ?_) fun _ _ x => x
      obtain ⟨hw, z⟩ := z
      cases hf : f i with
      | true =>
        refine .inl ⟨hw.trans hf, z, fun j hj => ?_⟩
        by_cases hji : j = i
        · rw [hji]; exact hf
        · exact qf j (by omega)
      | false =>
        refine .inr ⟨hw.trans hf, z, i, ?_, hf⟩
        rw [r.length]
        simpa using h1
    · obtain ⟨q, _⟩ := q
      obtain ⟨H1, I1, e1⟩ := id q
      obtain ⟨z, its, k, r, e⟩ := I1.hok a _ (e1 _ _ ha)
      obtain ⟨z2, its2, k2, r2, e2⟩ := I1.hok c _ (e1 _ _ hb)
      exact ⟨its.toArray, its2.toArray, k, k2, e, e2, by rw [List.size_toArray, ← r.length], by rw [List.size_toArray, ← r2.length, ← p.1], trivial⟩
theorem rcB_tup (hD : MonB D) (h : EqB X n D) : RcB X (n + 1) (DTupB D) := by
  intro A pins s σ H x y u v b sb I rx ry d
  obtain ⟨a, c, xs, ys, rfl, rfl, ha, hb, f, p, rfl⟩ := d
  cases rx
  cases ry
  obtain ⟨its, r, e, z⟩ := I.tuple (SqT.of ha)
  obtain ⟨its2, r2, e2, z2⟩ := I.tuple (SqT.of hb)
  have hsz : its.toArray.size = its2.toArray.size := by rw [List.size_toArray, List.size_toArray, ← r.length, ← r2.length]; exact p.1
  refine GB.rc_tupB hsz sb.room.units0 (fun i s' => LoopI X pins σ H s' ∧ ∀ j, j < i → f j = true) (fun s' => LoopI X pins σ H s' ∧ ∃ j, j < xs.length ∧ f j = false) e e2 (fun i h1 h2 s' q => ?_)
    (fun s' q => ⟨by rw [all_f fun j hj => q.2 j (by rw [List.size_toArray, ← r.length]; exact hj)], q.1⟩) (fun s' ⟨q, j, hj, hf⟩ => ⟨by rw [not_f hj hf], q⟩) ⟨⟨H, I, Ext.rfl'⟩, fun j hj => absurd hj (Nat.not_lt_zero j)⟩
  obtain ⟨q, qf⟩ := q
  refine wpAny_mono (turnB hD h sb p r r2 i h1 h2 s' q) (fun w s2 z => ?_) fun _ _ x => x
  obtain ⟨hw, z⟩ := z
  cases hf : f i with
  | true =>
    refine .inl ⟨hw.trans hf, z, fun j hj => ?_⟩
    by_cases hji : j = i
    · rw [hji]; exact hf
    · exact qf j (by omega)
  | false =>
    refine .inr ⟨hw.trans hf, z, i, ?_, hf⟩
    rw [r.length]
    simpa using h1
/-- instances with the text's own == -/
def DInsB (C : Addr) (sp : Sp) : EqvB := fun x y b H => (∃ a c dx dy fs gs, x = .ref a ∧ y = .ref c ∧ H a = some (.ins C dx fs) ∧ H c = some (.ins C dy gs)) ∧ (∀ H', Ext H H' → sp [x, y] H' (fun v H'' => v = .bl b ∧ Ext H' H'') E0) ∧ (x = y → b = true)
theorem monB_ins {C : Addr} {sp : Sp} : MonB (DInsB C sp) := fun x y b H H' e d => by
  obtain ⟨⟨a, c, dx, dy, fs, gs, hx, hy, h1, h2⟩, r, q⟩ := d
  exact ⟨⟨a, c, dx, dy, fs, gs, hx, hy, e _ _ h1, e _ _ h2⟩, fun H'' e' => r H'' (e.trans e'), q⟩
theorem rflB_ins {C : Addr} {sp : Sp} : RflB (DInsB C sp) := fun x b H d => d.2.2 rfl
theorem rcB_ins {C : Addr} {sp : Sp} (M : OwnM X n C "__eq__" sp) : RcB X n (DInsB C sp) := by
  intro A pins s σ H x y u v b sb I rx ry d
  obtain ⟨f, fd, ps, hs, hf, F, hbd⟩ := M.ex
  obtain ⟨⟨a, c, dx, dy, fs, gs, rfl, rfl, ha, hb'⟩, hr, _⟩ := d
  cases rx
  cases ry
  obtain ⟨mA, J, _⟩ := ins_get I.hok ha
  obtain ⟨mB, J', _⟩ := ins_get I.hok hb'
  obtain ⟨od, J, _⟩ := J.look
  obtain ⟨od', J', _⟩ := J'.look
  obtain ⟨m, hF⟩ := I.fr
  refine PySem.W.cmp_K (op := .Eq) (tb := .ref C) sb.room.units0 hF I.ok.mod.kin J J'.type (by simp [PySem.W.notFirst]) hs hf ?_
  have hsp := hr H Ext.rfl'
  have e0 : Env0 X.prog X.w X.K X.mg X.base A X.stack s H := by
    have e := I.env0
    exact ⟨by rw [sb.fr]; exact e.frames, e.mod, e.bs, e.bsz, e.funs, e.frf, e.hok, e.bare⟩
  have hl := F.len _ _ _ _ hsp
  have r2 : Vals [V.ref a, V.ref c] [Value.ref a, Value.ref c] := .cons rfl (.cons rfl .nil)
  refine wpAny_call (codeAny_mono (F.run A X.stack s H ⟨[.ref a, .ref c], []⟩ [.ref a, .ref c] [.ref a, .ref c] _ E0 sb.room e0 (by
    have := hbd s [.ref a, .ref c] I.kIn (by simpa using hl)
    simpa using this) r2 hsp) fun r s' hq => ?_)
  cases r with
  | error e => exact (show False from hq).elim
  | ok fl =>
    cases fl with
    | ret w =>
      obtain ⟨z, H', I', rz, ez, ex⟩ := I.after hq
      subst ez
      cases rz
      exact ⟨rfl, H', I', ex⟩
    | next => exact False.elim hq
    | brk => exact False.elim hq
    | cont => exact False.elim hq
theorem RcB.eqB (h : RcB X n D) (hR : RflB D) (hr : ∀ x y b H, D x y b H → ∃ a c, x = .ref a ∧ y = .ref c) : EqB X n D := by
  intro A pins s σ H x y u v b sb I rx ry d
  obtain ⟨a, c, rfl, rfl⟩ := hr _ _ _ _ d
  cases rx
  cases ry
  by_cases hab : a = c
  · subst hab
    exact SeqAt.EqAt.same (A := A) (s := s) (.ref a) X.prog X.w X.xe _ ⟨(hR _ _ _ d).symm, H, I, Ext.rfl'⟩
  · refine GQ.eqBool_refG hab (wpAny_mono (h A pins s σ H (.ref a) (.ref c) _ _ b sb I rfl rfl d) (fun r s' q => ?_) fun _ _ x => x)
    obtain ⟨hr', q⟩ := q
    exact ⟨b, hr', rfl, q⟩
theorem eqB_tup (hD : MonB D) (hR : RflB D) (h : EqB X n D) : EqB X (n + 1) (DTupB D) := (rcB_tup hD h).eqB (rflB_tup hR) fun _ _ _ _ d => let ⟨a, b, _, _, hx, hy, _⟩ := d; ⟨a, b, hx, hy⟩
theorem eqB_ins {C : Addr} {sp : Sp} (M : OwnM X n C "__eq__" sp) : EqB X n (DInsB C sp) := (rcB_ins M).eqB rflB_ins fun _ _ _ _ d => let ⟨⟨a, b, _, _, _, _, hx, hy, _⟩, _⟩ := d; ⟨a, b, hx, hy⟩
def rEqB (D : EqvB) : R2 := fun x y H Q => ∃ b, D x y b H ∧ ∀ H', Ext H H' → Q (.bl b) H'
theorem op_eqB (h : RcB X n D) (hr : Room n X.A) : OpR X (compareOp .Eq) (rEqB D) := by
  intro pins s σ H x y v u Q I rx ry hq
  obtain ⟨b, d, q⟩ := hq
  show wpAny (model X.prog X.w) X.A (richCompare .Eq v u) (EP X pins σ Q) X.xe s
  refine wpAny_mono (h X.A pins s σ H x y v u b ⟨hr, rfl⟩ I rx ry d) (fun r s' z => ?_) fun _ _ x => x
  obtain ⟨hr', H', I', e⟩ := z
  subst hr'
  exact ⟨.bl b, H', I', rfl, q H' e⟩
/-- lists of pairs of such instances -/
abbrev DRows (C : Addr) (sp : Sp) : EqvB := DLstB (DTupB (DInsB C sp))
theorem op_eqRows {C : Addr} {sp : Sp} (M : OwnM X n C "__eq__" sp) (hr : Room (n + 2) X.A) : OpR X (compareOp .Eq) (rEqB (DRows C sp)) :=
  op_eqB (rcB_lst (monB_tup monB_ins) (eqB_tup monB_ins rflB_ins (eqB_ins M))) hr
/-! xs != [] -/
def rNeNil : R2 := fun x y H Q => ∃ a c xs, x = .ref a ∧ y = .ref c ∧ H a = some (.lst xs) ∧ H c = some (.lst []) ∧ Q (.bl (!decide (xs = []))) H
theorem op_neNil (hu : X.A.units < cLine) : OpR X (compareOp .NotEq) rNeNil := by
  intro pins s σ H x y v u Q I rx ry h
  obtain ⟨a, c, xs, rfl, rfl, ha, hc, q⟩ := h
  cases rx
  cases ry
  obtain ⟨z, its, k, r, e⟩ := I.hok a _ ha
  obtain ⟨z2, its2, k2, r2, e2⟩ := I.hok c _ hc
  have e2n : its2 = [] := by
    have := r2.length
    cases its2 with
    | nil => rfl
    | cons _ _ => simp at this
  subst e2n
  have L1 : s.heap.IsList a its.toArray := ⟨_, e, rfl, _, rfl⟩
  have L2 : s.heap.IsList c ([] : List Value).toArray := ⟨_, e2, rfl, _, rfl⟩
  show wpAny (model X.prog X.w) X.A (richCompare .NotEq (.ref a) (.ref c)) (EP X pins σ Q) X.xe s
  cases xs with
  | nil =>
    have e1n : its = [] := by
      have := r.length
      cases its with
      | nil => rfl
      | cons _ _ => simp at this
    subst e1n
    exact SeqAt.RcNeAt.lists (e := fun _ => true) L1 L2 rfl hu (fun j h1 _ => absurd h1 (Nat.not_lt_zero j)) X.prog X.w X.xe _ ⟨.bl false, H, I, rfl, q⟩
  | cons x xs =>
    refine SeqAt.RcNeAt.lists_lengths L1 L2 ?_ hu X.prog X.w X.xe _ ⟨.bl true, H, I, rfl, q⟩
    have := r.length
    cases its with
    | nil => simp at this
    | cons _ _ => rfl
/-! walks over a list or a tuple -/
def iOr (w1 w2 : TI) : TI := fun σ H R => w1 σ H R ∨ w2 σ H R
theorem pi_or {tg e : Expr} {w1 w2 : TI} (h1 : PI X tg e w1) (h2 : PI X tg e w2) : PI X tg e (iOr w1 w2) := ⟨fun pins s σ H R I h => h.elim (h1.run pins s σ H R I) (h2.run pins s σ H R I)⟩
theorem pi_seq {tg l : Expr} {tl : TE} (hl : PE X l tl) : PI X tg l (iOr (iList X.K tl) (iTup X.K tl)) := pi_or (pi_list hl) (pi_tup hl)
end
end LV
set_option Elab.async false
set_option linter.all false
set_option maxRecDepth 100000
set_option maxHeartbeats 2000000
/-! pure values, the pure region of a heap, owned trees -/
namespace UL
open PySem PySem.Spec PyProof.Rows L2 LV
inductive U where
  | non | bl (b : Bool) | int (i : Int) | str (x : Str) | q (r : Rat)
  | lst (xs : List U) | tup (xs : List U) | obj (c : String) (ns : List Str) (xs : List U) | dic (ks : List Str) (xs : List U)
/-- owned trees: p a pure value, l a list, o an object, d a dict -/
inductive Ow where
  | p (u : U) | l (ws : List Ow) | o (c : String) (ns : List Str) (ws : List Ow) | d (ks : List Str) (ws : List Ow)
def exF (o u : Int) : List (Str × V) := [("over", .int o), ("under", .int u)]
section
variable (κ : String → Addr)
mutual
def Rep (S : Hp) : U → V → Prop
  | .non, v => v = .non
  | .bl b, v => v = .bl b
  | .int i, v => v = .int i
  | .str x, v => v = .str x
  | .q r, v => ∃ x dx, v = .ref x ∧ S x = some (.ins (κ "Exact") dx (exF r.num r.den))
  | .lst us, v => ∃ a vs, v = .ref a ∧ S a = some (.lst vs) ∧ Reps S us vs
  | .tup us, v => ∃ a vs, v = .ref a ∧ S a = some (.tup vs) ∧ Reps S us vs
  | .obj c ns us, v => ∃ a dx vs, v = .ref a ∧ S a = some (.ins (κ c) dx (ns.zip vs)) ∧ ns.length = vs.length ∧ Reps S us vs
  | .dic ks us, v => ∃ a vs, v = .ref a ∧ S a = some (.dK ((ks.map Sum.inr).zip vs)) ∧ ks.length = vs.length ∧ Reps S us vs
def Reps (S : Hp) : List U → List V → Prop
  | [], vs => vs = []
  | u :: us, vs => ∃ v vs', vs = v :: vs' ∧ Rep S u v ∧ Reps S us vs'
end
/-- an instance of Exact -/
def XObj (o : HO) : Prop := ∃ dx fs, o = .ins (κ "Exact") dx fs
mutual
def RepO (S H : Hp) : Ow → V → List Addr → Prop
  | .p u, v, F => F = [] ∧ Rep κ S u v
  | .l ws, v, F => ∃ a vs F', v = .ref a ∧ H a = some (.lst vs) ∧ F = a :: F' ∧ RepOs S H ws vs F'
  | .o c ns ws, v, F => ∃ a dx vs F', v = .ref a ∧ H a = some (.ins (κ c) dx (ns.zip vs)) ∧ κ c ≠ κ "Exact" ∧ ns.length = vs.length ∧ F = a :: F' ∧ RepOs S H ws vs F'
  | .d ks ws, v, F => ∃ a vs F', v = .ref a ∧ H a = some (.dK ((ks.map Sum.inr).zip vs)) ∧ ks.length = vs.length ∧ F = a :: F' ∧ RepOs S H ws vs F'
def RepOs (S H : Hp) : List Ow → List V → List Addr → Prop
  | [], vs, F => vs = [] ∧ F = []
  | w :: ws, vs, F => ∃ v vs' F1 F2, vs = v :: vs' ∧ F = F1 ++ F2 ∧ RepO S H w v F1 ∧ RepOs S H ws vs' F2
end
end
mutual
def frz : Ow → U
  | .p u => u
  | .l ws => .lst (frzs ws)
  | .o c ns ws => .obj c ns (frzs ws)
  | .d ks ws => .dic ks (frzs ws)
def frzs : List Ow → List U
  | [] => []
  | w :: ws => frz w :: frzs ws
end
theorem frzs_map (us : List U) : frzs (us.map .p) = us := by
  induction us with
  | nil => rfl
  | cons u us ih => simp [frzs, frz, ih]
abbrev Env := List (Option Ow)
section
variable {κ : String → Addr}
theorem Reps.len : ∀ {us : List U} {vs : List V} {S : Hp}, Reps κ S us vs → us.length = vs.length
  | [], _, _, h => by
    cases (show _ = _ from h)
    rfl
  | _ :: _, _, _, h => by
    obtain ⟨v, vs', rfl, _, h⟩ := h
    simp [Reps.len h]
mutual
theorem Rep.mono {S S' : Hp} (e : Same S S') : ∀ (u : U) {v : V}, Rep κ S u v → Rep κ S' u v
  | .non, _, h => h
  | .bl _, _, h => h
  | .int _, _, h => h
  | .str _, _, h => h
  | .q _, _, ⟨x, dx, h1, h2⟩ => ⟨x, dx, h1, e _ _ h2⟩
  | .lst us, _, ⟨a, vs, h1, h2, h3⟩ => ⟨a, vs, h1, e _ _ h2, Reps.mono e us h3⟩
  | .tup us, _, ⟨a, vs, h1, h2, h3⟩ => ⟨a, vs, h1, e _ _ h2, Reps.mono e us h3⟩
  | .obj _ _ us, _, ⟨a, dx, vs, h1, h2, h3, h4⟩ => ⟨a, dx, vs, h1, e _ _ h2, h3, Reps.mono e us h4⟩
  | .dic _ us, _, ⟨a, vs, h1, h2, h3, h4⟩ => ⟨a, vs, h1, e _ _ h2, h3, Reps.mono e us h4⟩
theorem Reps.mono {S S' : Hp} (e : Same S S') : ∀ (us : List U) {vs : List V}, Reps κ S us vs → Reps κ S' us vs
  | [], _, h => h
  | u :: us, _, ⟨v, vs', h1, h2, h3⟩ => ⟨v, vs', h1, Rep.mono e u h2, Reps.mono e us h3⟩
end
theorem Reps.get : ∀ {us : List U} {vs : List V} {S : Hp} {i : Nat} {u : U}, Reps κ S us vs → us[i]? = some u → ∃ v, vs[i]? = some v ∧ Rep κ S u v
  | [], _, _, _, _, _, e => by simp at e
  | a :: us, _, _, 0, u, ⟨v, vs', rfl, h1, h2⟩, e => by
    simp at e
    subst e
    exact ⟨v, rfl, h1⟩
  | a :: us, _, _, i + 1, u, ⟨v, vs', rfl, h1, h2⟩, e => by
    obtain ⟨x, hx, hr⟩ := Reps.get (i := i) h2 (by simpa using e)
    exact ⟨x, by simpa using hx, hr⟩
/-- the other way round: what stands at a place of the values -/
theorem Reps.at_ {us : List U} {vs : List V} {S : Hp} {i : Nat} {v : V} (h : Reps κ S us vs) (e : vs[i]? = some v) : ∃ u, us[i]? = some u ∧ Rep κ S u v := by
  have hi : i < us.length := by
    rw [h.len]
    exact (List.getElem?_eq_some_iff.mp e).1
  have q : us[i]? = some us[i] := by simp [hi]
  obtain ⟨x, hx, hr⟩ := h.get q
  rw [e] at hx
  cases hx
  exact ⟨_, q, hr⟩
theorem Reps.snoc {S : Hp} {u : U} {v : V} (hr : Rep κ S u v) : ∀ {us : List U} {vs : List V}, Reps κ S us vs → Reps κ S (us ++ [u]) (vs ++ [v])
  | [], _, h => by
    cases (show _ = _ from h)
    exact ⟨v, [], rfl, hr, rfl⟩
  | a :: us, _, h => by
    obtain ⟨x, vs', rfl, h1, h2⟩ := h
    exact ⟨x, vs' ++ [v], rfl, h1, Reps.snoc hr h2⟩
theorem Reps.app {S : Hp} : ∀ {us us2 : List U} {vs vs2 : List V}, Reps κ S us vs → Reps κ S us2 vs2 → Reps κ S (us ++ us2) (vs ++ vs2)
  | [], _, _, _, h, h2 => by
    cases (show _ = _ from h)
    exact h2
  | a :: us, _, _, _, ⟨x, vs', rfl, h1, h2⟩, h => ⟨x, _, rfl, h1, Reps.app h2 h⟩
theorem Reps.drop {S : Hp} : ∀ {us : List U} {vs : List V} (n : Nat), Reps κ S us vs → Reps κ S (us.drop n) (vs.drop n)
  | _, _, 0, h => h
  | [], _, n + 1, h => by
    cases (show _ = _ from h)
    rfl
  | a :: us, _, n + 1, h => by
    obtain ⟨x, vs', rfl, h1, h2⟩ := h
    exact Reps.drop n h2
theorem Reps.take {S : Hp} : ∀ {us : List U} {vs : List V} (n : Nat), Reps κ S us vs → Reps κ S (us.take n) (vs.take n)
  | _, _, 0, h => rfl
  | [], _, n + 1, h => by
    cases (show _ = _ from h)
    rfl
  | a :: us, _, n + 1, h => by
    obtain ⟨x, vs', rfl, h1, h2⟩ := h
    exact ⟨x, _, rfl, h1, Reps.take n h2⟩
theorem Reps.rev {S : Hp} : ∀ {us : List U} {vs : List V}, Reps κ S us vs → Reps κ S us.reverse vs.reverse
  | [], _, h => by
    cases (show _ = _ from h)
    rfl
  | a :: us, _, h => by
    obtain ⟨x, vs', rfl, h1, h2⟩ := h
    rw [List.reverse_cons, List.reverse_cons]
    exact Reps.snoc h1 (Reps.rev h2)
/-! owned trees stay where their places stay -/
mutual
theorem RepO.mono {S S' H H' : Hp} (e : Same S S') : ∀ (w : Ow) {v : V} {F : List Addr}, (∀ a ∈ F, H' a = H a) → RepO κ S H w v F → RepO κ S' H' w v F
  | .p u, _, _, _, ⟨h1, h2⟩ => ⟨h1, Rep.mono e u h2⟩
  | .l ws, _, _, k, h => by
    obtain ⟨a, vs, F', h1, h2, rfl, h4⟩ := h
    exact ⟨a, vs, F', h1, (k a (by simp)).trans h2, rfl, RepOs.mono e ws (fun b hb => k b (by simp [hb])) h4⟩
  | .o _ _ ws, _, _, k, h => by
    obtain ⟨a, dx, vs, F', h1, h2, h3, h5, rfl, h4⟩ := h
    exact ⟨a, dx, vs, F', h1, (k a (by simp)).trans h2, h3, h5, rfl, RepOs.mono e ws (fun b hb => k b (by simp [hb])) h4⟩
  | .d _ ws, _, _, k, h => by
    obtain ⟨a, vs, F', h1, h2, h3, rfl, h4⟩ := h
    exact ⟨a, vs, F', h1, (k a (by simp)).trans h2, h3, rfl, RepOs.mono e ws (fun b hb => k b (by simp [hb])) h4⟩
theorem RepOs.mono {S S' H H' : Hp} (e : Same S S') : ∀ (ws : List Ow) {vs : List V} {F : List Addr}, (∀ a ∈ F, H' a = H a) → RepOs κ S H ws vs F → RepOs κ S' H' ws vs F
  | [], _, _, _, h => h
  | w :: ws, _, _, k, h => by
    obtain ⟨v, vs', F1, F2, h1, rfl, h3, h4⟩ := h
    exact ⟨v, vs', F1, F2, h1, rfl, RepO.mono e w (fun b hb => k b (by simp [hb])) h3, RepOs.mono e ws (fun b hb => k b (by simp [hb])) h4⟩
end
/-! owned places hold things that are no Exacts -/
mutual
theorem RepO.foot {S H : Hp} : ∀ (w : Ow) {v : V} {F : List Addr}, RepO κ S H w v F → ∀ a ∈ F, ∃ o, H a = some o ∧ ¬ XObj κ o
  | .p u, _, _, h => by
    obtain ⟨rfl, _⟩ := h
    exact fun a ha => by simp at ha
  | .l ws, _, _, h => by
    obtain ⟨a, vs, F', h1, h2, rfl, h4⟩ := h
    intro b hb
    rcases List.mem_cons.mp hb with rfl | hb
    · exact ⟨_, h2, fun ⟨_, _, z⟩ => by cases z⟩
    · exact RepOs.foot ws h4 b hb
  | .o _ _ ws, _, _, h => by
    obtain ⟨a, dx, vs, F', h1, h2, h3, _, rfl, h4⟩ := h
    intro b hb
    rcases List.mem_cons.mp hb with rfl | hb
    · exact ⟨_, h2, fun ⟨_, _, z⟩ => by injection z with z; exact h3 z⟩
    · exact RepOs.foot ws h4 b hb
  | .d _ ws, _, _, h => by
    obtain ⟨a, vs, F', h1, h2, _, rfl, h4⟩ := h
    intro b hb
    rcases List.mem_cons.mp hb with rfl | hb
    · exact ⟨_, h2, fun ⟨_, _, z⟩ => by cases z⟩
    · exact RepOs.foot ws h4 b hb
theorem RepOs.foot {S H : Hp} : ∀ (ws : List Ow) {vs : List V} {F : List Addr}, RepOs κ S H ws vs F → ∀ a ∈ F, ∃ o, H a = some o ∧ ¬ XObj κ o
  | [], _, _, h => by
    obtain ⟨_, rfl⟩ := h
    exact fun a ha => by simp at ha
  | w :: ws, _, _, h => by
    obtain ⟨v, vs', F1, F2, h1, rfl, h3, h4⟩ := h
    intro b hb
    rcases List.mem_append.mp hb with hb | hb
    · exact RepO.foot w h3 b hb
    · exact RepOs.foot ws h4 b hb
end
/-! what is owned, told as pure in a region that holds its places -/
mutual
theorem RepO.frz {S H S' : Hp} (e : Same S S') : ∀ (w : Ow) {v : V} {F : List Addr}, (∀ a ∈ F, S' a = H a) → RepO κ S H w v F → Rep κ S' (frz w) v
  | .p u, _, _, _, ⟨_, h⟩ => Rep.mono e u h
  | .l ws, _, _, k, h => by
    obtain ⟨a, vs, F', h1, h2, rfl, h4⟩ := h
    exact ⟨a, vs, h1, (k a (by simp)).trans h2, RepOs.frz e ws (fun b hb => k b (by simp [hb])) h4⟩
  | .o _ _ ws, _, _, k, h => by
    obtain ⟨a, dx, vs, F', h1, h2, _, h5, rfl, h4⟩ := h
    exact ⟨a, dx, vs, h1, (k a (by simp)).trans h2, h5, RepOs.frz e ws (fun b hb => k b (by simp [hb])) h4⟩
  | .d _ ws, _, _, k, h => by
    obtain ⟨a, vs, F', h1, h2, h3, rfl, h4⟩ := h
    exact ⟨a, vs, h1, (k a (by simp)).trans h2, h3, RepOs.frz e ws (fun b hb => k b (by simp [hb])) h4⟩
theorem RepOs.frz {S H S' : Hp} (e : Same S S') : ∀ (ws : List Ow) {vs : List V} {F : List Addr}, (∀ a ∈ F, S' a = H a) → RepOs κ S H ws vs F → Reps κ S' (frzs ws) vs
  | [], _, _, _, h => h.1
  | w :: ws, _, _, k, h => by
    obtain ⟨v, vs', F1, F2, h1, rfl, h3, h4⟩ := h
    exact ⟨v, vs', h1, RepO.frz e w (fun b hb => k b (by simp [hb])) h3, RepOs.frz e ws (fun b hb => k b (by simp [hb])) h4⟩
end
theorem RepOs.pure_ {S H : Hp} : ∀ {us : List U} {vs : List V}, Reps κ S us vs → RepOs κ S H (us.map .p) vs []
  | [], _, h => ⟨h, rfl⟩
  | u :: us, _, ⟨v, vs', h1, h2, h3⟩ => ⟨v, vs', [], [], h1, rfl, ⟨rfl, h2⟩, RepOs.pure_ h3⟩
theorem RepOs.flat {S H : Hp} : ∀ {us : List U} {vs : List V} {F : List Addr}, RepOs κ S H (us.map .p) vs F → F = [] ∧ Reps κ S us vs
  | [], _, _, h => ⟨h.2, h.1⟩
  | u :: us, _, _, h => by
    obtain ⟨v, vs', F1, F2, h1, rfl, ⟨rfl, h2⟩, h3⟩ := h
    obtain ⟨rfl, h4⟩ := RepOs.flat h3
    exact ⟨rfl, v, vs', h1, h2, h4⟩
/-! the slots -/
def SlotOk (κ : String → Addr) (S H : Hp) (s : Option V) : Option Ow → List Addr → Prop
  | none, F => F = []
  | some w, F => ∃ v, s = some v ∧ RepO κ S H w v F
def EnvOk (κ : String → Addr) (S H : Hp) : L2.St → Env → List Addr → Prop
  | [], [], F => F = []
  | s :: σ, e :: env, F => ∃ F1 F2, F = F1 ++ F2 ∧ SlotOk κ S H s e F1 ∧ EnvOk κ S H σ env F2
  | _, _, _ => False
theorem SlotOk.mono {S S' H H' : Hp} (e : Same S S') {s : Option V} : ∀ {w : Option Ow} {F : List Addr}, (∀ a ∈ F, H' a = H a) → SlotOk κ S H s w F → SlotOk κ S' H' s w F
  | none, _, _, h => h
  | some w, _, k, ⟨v, h1, h2⟩ => ⟨v, h1, RepO.mono e w k h2⟩
theorem EnvOk.mono {S S' H H' : Hp} (e : Same S S') : ∀ {σ : L2.St} {env : Env} {F : List Addr}, (∀ a ∈ F, H' a = H a) → EnvOk κ S H σ env F → EnvOk κ S' H' σ env F
  | [], [], _, _, h => h
  | s :: σ, w :: env, _, k, h => by
    obtain ⟨F1, F2, rfl, h1, h2⟩ := h
    exact ⟨F1, F2, rfl, SlotOk.mono e (fun b hb => k b (by simp [hb])) h1, EnvOk.mono e (fun b hb => k b (by simp [hb])) h2⟩
  | [], _ :: _, _, _, h => h
  | _ :: _, [], _, _, h => h
theorem EnvOk.len {S H : Hp} : ∀ {σ : L2.St} {env : Env} {F : List Addr}, EnvOk κ S H σ env F → σ.length = env.length
  | [], [], _, _ => rfl
  | s :: σ, w :: env, _, h => by
    obtain ⟨F1, F2, rfl, h1, h2⟩ := h
    exact by simp [EnvOk.len h2]
  | [], _ :: _, _, h => h.elim
  | _ :: _, [], _, h => h.elim
theorem EnvOk.foot {S H : Hp} : ∀ {σ : L2.St} {env : Env} {F : List Addr}, EnvOk κ S H σ env F → ∀ a ∈ F, ∃ o, H a = some o ∧ ¬ XObj κ o
  | [], [], _, h => fun a ha => by
    have : _ = [] := h
    subst this
    simp at ha
  | s :: σ, w :: env, _, h => by
    obtain ⟨F1, F2, rfl, h1, h2⟩ := h
    intro a ha
    rcases List.mem_append.mp ha with ha | ha
    · cases w with
      | none =>
        have : _ = [] := h1
        subst this
        simp at ha
      | some w =>
        obtain ⟨v, _, h⟩ := h1
        exact RepO.foot w h a ha
    · exact EnvOk.foot h2 a ha
  | [], _ :: _, _, h => h.elim
  | _ :: _, [], _, h => h.elim
/-- a slot, and the slots with another thing in its place -/
theorem EnvOk.get {S H : Hp} : ∀ {σ : L2.St} {env : Env} {F : List Addr} {i : Nat} {w : Option Ow}, EnvOk κ S H σ env F → env[i]? = some w →
    ∃ s F1 F2 F3, σ[i]? = some s ∧ F = F1 ++ F2 ++ F3 ∧ SlotOk κ S H s w F2 ∧
      ∀ {S' H' : Hp} {s' : Option V} {w' : Option Ow} {F2' : List Addr}, Same S S' → (∀ a, a ∈ F1 ∨ a ∈ F3 → H' a = H a) → SlotOk κ S' H' s' w' F2' → EnvOk κ S' H' (σ.set i s') (env.set i w') (F1 ++ F2' ++ F3)
  | [], [], _, _, _, _, e => by simp at e
  | s :: σ, x :: env, _, 0, w, ⟨F1, F2, rfl, h1, h2⟩, e => by
    simp at e
    subst e
    exact ⟨s, [], F1, F2, rfl, by simp, h1, fun e k h => ⟨_, F2, by simp, h, h2.mono e (fun a ha => k a (.inr ha))⟩⟩
  | s :: σ, x :: env, _, i + 1, w, ⟨F1, F2, rfl, h1, h2⟩, e => by
    obtain ⟨s', A, B, C, g1, rfl, g3, g4⟩ := EnvOk.get (i := i) h2 (by simpa using e)
    refine ⟨s', F1 ++ A, B, C, by simpa using g1, by simp, g3, fun e k h => ?_⟩
    refine ⟨F1, A ++ _ ++ C, by simp, h1.mono e fun a ha => k a (.inl (by simp [ha])), g4 e (fun a ha => k a ?_) h⟩
    rcases ha with ha | ha
    · exact .inl (by simp [ha])
    · exact .inr ha
  | [], _ :: _, _, _, _, h, _ => h.elim
  | _ :: _, [], _, _, _, h, _ => h.elim
end
/-! states and steps -/
section
variable (κ : String → Addr)
structure WF (S H : Hp) (F : List Addr) : Prop where
  sub : Same S H
  nd : F.Nodup
  out : ∀ a ∈ F, S a = none
structure Stp (S H : Hp) (F : List Addr) (S' H' : Hp) (F' : List Addr) : Prop where
  keep : ∀ b o, b ∉ F → H b = some o → H' b = some o
  trk : ∀ b, H' b = none → H b = none
  sub : Same S S'
  new : ∀ b o, S' b = some o → S b = some o ∨ H b = none ∨ XObj κ o ∨ b ∈ F
  foot : ∀ a ∈ F', a ∈ F ∨ H a = none
structure Gd (σ : L2.St) (S H : Hp) (F : List Addr) (env : Env) : Prop where
  wf : WF S H F
  env : EnvOk κ S H σ env F
/-- a pure step -/
structure StpP (S H S' H' : Hp) : Prop where
  keep : Same H H'
  sub : Same S S'
  in_ : Same S' H'
  new : ∀ b o, S' b = some o → S b = some o ∨ H b = none ∨ XObj κ o
end
section
variable {κ : String → Addr} {S H S1 H1 S2 H2 : Hp} {F F1 F2 : List Addr} {σ : L2.St} {env : Env}
theorem Stp.refl (S H : Hp) (F : List Addr) : Stp κ S H F S H F := ⟨fun _ _ _ h => h, fun _ h => h, fun _ _ h => h, fun _ _ h => .inl h, fun _ h => .inl h⟩
theorem Stp.trans (a : Stp κ S H F S1 H1 F1) (b : Stp κ S1 H1 F1 S2 H2 F2) : Stp κ S H F S2 H2 F2 where
  keep := fun x o hx h => b.keep x o (fun z => by
    rcases a.foot x z with z | z
    · exact hx z
    · rw [h] at z; cases z) (a.keep x o hx h)
  trk := fun x h => a.trk x (b.trk x h)
  sub := fun x o h => b.sub x o (a.sub x o h)
  new := fun x o h => by
    rcases b.new x o h with h | h | h | h
    · exact a.new x o h
    · exact .inr (.inl (a.trk x h))
    · exact .inr (.inr (.inl h))
    · rcases a.foot x h with h | h
      · exact .inr (.inr (.inr h))
      · exact .inr (.inl h)
  foot := fun x h => by
    rcases b.foot x h with h | h
    · exact a.foot x h
    · exact .inr (a.trk x h)
theorem StpP.refl (h : Same S H) : StpP κ S H S H := ⟨fun _ _ h => h, fun _ _ h => h, h, fun _ _ h => .inl h⟩
theorem none_of_same (e : Same H H1) {b : Addr} (h : H1 b = none) : H b = none := by
  cases q : H b with
  | none => rfl
  | some o =>
    rw [e b o q] at h
    cases h
theorem StpP.trans (a : StpP κ S H S1 H1) (b : StpP κ S1 H1 S2 H2) : StpP κ S H S2 H2 where
  keep := a.keep.trans b.keep
  sub := a.sub.trans b.sub
  in_ := b.in_
  new := fun x o h => by
    rcases b.new x o h with h | h | h
    · exact a.new x o h
    · exact .inr (.inl (none_of_same a.keep h))
    · exact .inr (.inr h)
theorem StpP.stp (a : StpP κ S H S1 H1) : Stp κ S H F S1 H1 F :=
  ⟨fun b o _ h => a.keep b o h, fun b h => none_of_same a.keep h, a.sub, fun b o h => by
    rcases a.new b o h with h | h | h
    · exact .inl h
    · exact .inr (.inl h)
    · exact .inr (.inr (.inl h)), fun _ h => .inl h⟩
theorem Gd.pure_ (g : Gd κ σ S H F env) (a : StpP κ S H S1 H1) : Gd κ σ S1 H1 F env := by
  have kf : ∀ x ∈ F, H1 x = H x := fun x hx => by
    obtain ⟨o, ho, _⟩ := g.env.foot x hx
    rw [a.keep x o ho, ho]
  refine ⟨⟨a.in_, g.wf.nd, fun x hx => ?_⟩, g.env.mono a.sub kf⟩
  cases q : S1 x with
  | none => rfl
  | some o =>
    obtain ⟨o', ho, nx⟩ := g.env.foot x hx
    rcases a.new x o q with h | h | h
    · rw [g.wf.out x hx] at h
      cases h
    · rw [ho] at h
      cases h
    · have h2 := a.in_ x o q
      rw [kf x hx, ho] at h2
      cases h2
      exact (nx h).elim
/-- a new pure object -/
theorem StpP.new1 {p : Addr} {o : HO} (h : Same S H) (hp : H p = none) : StpP κ S H (upd S p o) (upd H p o) := by
  have sp : S p = none := none_of_same h hp
  refine ⟨Same.new hp, Same.new sp, fun b u e => ?_, fun b u e => ?_⟩
  · by_cases hb : b = p
    · subst hb
      rw [upd_same] at e ⊢
      exact e
    · rw [upd_ne hb] at e ⊢
      exact h b u e
  · by_cases hb : b = p
    · subst hb
      exact .inr (.inl hp)
    · rw [upd_ne hb] at e
      exact .inl e
/-- a step that may be told to be quiet: nothing that is owned is touched -/
structure StpQ (κ : String → Addr) (ρ : Bool) (S H : Hp) (F : List Addr) (env : Env) (S' H' : Hp) (F' : List Addr) (env' : Env) : Prop where
  stp : Stp κ S H F S' H' F'
  qt : ρ = true → Same H H' ∧ F' = F ∧ env' = env
theorem StpQ.refl {ρ : Bool} (S H : Hp) (F : List Addr) (env : Env) : StpQ κ ρ S H F env S H F env := ⟨Stp.refl S H F, fun _ => ⟨fun _ _ h => h, rfl, rfl⟩⟩
theorem StpQ.trans {ρ : Bool} {env1 env2 : Env} (a : StpQ κ ρ S H F env S1 H1 F1 env1) (b : StpQ κ ρ S1 H1 F1 env1 S2 H2 F2 env2) : StpQ κ ρ S H F env S2 H2 F2 env2 :=
  ⟨a.stp.trans b.stp, fun h => by
    obtain ⟨a1, a2, a3⟩ := a.qt h
    obtain ⟨b1, b2, b3⟩ := b.qt h
    exact ⟨a1.trans b1, b2.trans a2, b3.trans a3⟩⟩
theorem StpQ.sub {ρ : Bool} {env1 : Env} (a : StpQ κ ρ S H F env S1 H1 F1 env1) : Same S S1 := a.stp.sub
theorem StpP.stq {ρ : Bool} (a : StpP κ S H S1 H1) : StpQ κ ρ S H F env S1 H1 F env := ⟨a.stp, fun _ => ⟨a.keep, rfl, rfl⟩⟩
theorem Stp.stq {env1 : Env} (a : Stp κ S H F S1 H1 F1) : StpQ κ false S H F env S1 H1 F1 env1 := ⟨a, fun h => nomatch h⟩
end
end UL
set_option Elab.async false
set_option linter.all false
set_option maxRecDepth 100000
set_option maxHeartbeats 2000000
/-! mirrors and what it is that a reading does as its mirror says -/
namespace UL
open PySem PySem.Spec PyProof.Rows L2 LV
abbrev M (α : Type) := Env → Option (α × Env)
inductive Fl where
  | nx (env : Env) | rt (u : Ow) (env : Env) | bk (env : Env)
abbrev MS := Env → Option Fl
/-! mirrors: expressions -/
def mVar (i : Nat) : M U := fun env => match env[i]? with
  | some (some (.p u)) => some (u, env)
  | _ => none
/-- an owned thing is handed on and is pure from then on -/
def mFrz (i : Nat) : M U := fun env => match env[i]? with
  | some (some w) => some (frz w, env.set i (some (.p (frz w))))
  | _ => none
def mC (u : U) : M U := fun env => some (u, env)
def m1 (f : U → Option U) (a : M U) : M U := fun env => (a env).bind fun x => (f x.1).bind fun z => some (z, x.2)
def m2 (f : U → U → Option U) (a b : M U) : M U := fun env => (a env).bind fun x => (b x.2).bind fun y => (f x.1 y.1).bind fun z => some (z, y.2)
def mNil : M (List U) := fun env => some ([], env)
def mCons (a : M U) (r : M (List U)) : M (List U) := fun env => (a env).bind fun x => (r x.2).bind fun y => some (x.1 :: y.1, y.2)
def mN (f : List U → Option U) (a : M (List U)) : M U := fun env => (a env).bind fun x => (f x.1).bind fun z => some (z, x.2)
def mLst (a : M (List U)) : M U := fun env => (a env).bind fun x => some (.lst x.1, x.2)
def mTup (a : M (List U)) : M U := fun env => (a env).bind fun x => some (.tup x.1, x.2)
def mLstO (a : M (List U)) : M Ow := fun env => (a env).bind fun x => some (.l (x.1.map .p), x.2)
def mP (a : M U) : M Ow := fun env => (a env).bind fun x => some (.p x.1, x.2)
def mF (a : M Ow) : M U := fun env => (a env).bind fun x => some (frz x.1, x.2)
def isB : U → Option Bool
  | .bl b => some b
  | _ => none
def mTest (a : M U) : M Bool := fun env => (a env).bind fun x => (isB x.1).bind fun b => some (b, x.2)
def mAnd (a b : M Bool) : M Bool := fun env => (a env).bind fun x => if x.1 = true then b x.2 else some (false, x.2)
def mOr (a b : M Bool) : M Bool := fun env => (a env).bind fun x => if x.1 = true then some (true, x.2) else b x.2
def mNot (a : M Bool) : M Bool := fun env => (a env).bind fun x => some (!x.1, x.2)
def mIf (c : M Bool) (a b : M U) : M U := fun env => (c env).bind fun x => if x.1 = true then a x.2 else b x.2
def mAndV (a b : M U) : M U := fun env => (a env).bind fun x => (isB x.1).bind fun k => if k = true then b x.2 else some (.bl false, x.2)
def mOrV (a b : M U) : M U := fun env => (a env).bind fun x => (isB x.1).bind fun k => if k = true then some (.bl true, x.2) else b x.2
def mNotV (a : M U) : M U := fun env => (a env).bind fun x => (isB x.1).bind fun k => some (.bl (!k), x.2)
def isN : U → Bool
  | .non => true
  | _ => false
def mIsN (a : M U) : M U := fun env => (a env).bind fun x => some (.bl (isN x.1), x.2)
def mNotN (a : M U) : M U := fun env => (a env).bind fun x => some (.bl (!isN x.1), x.2)
def mChain (f g : U → U → Option U) (a b c : M U) : M U := fun env => (a env).bind fun x => (b x.2).bind fun y => (f x.1 y.1).bind fun z => (isB z).bind fun k =>
  if k = true then (c y.2).bind fun w => (g y.1 w.1).bind fun r => some (r, w.2) else some (.bl false, y.2)
section
variable (κ : String → Addr)
structure SimE (ρ : Bool) (t : TE) (m : M U) : Prop where
  run : ∀ {σ : L2.St} {S H : Hp} {F : List Addr} {env : Env}, Gd κ σ S H F env → ∀ {u : U} {env' : Env}, m env = some (u, env') → ∀ Q : VK,
  (∀ v S' H' F', StpQ κ ρ S H F env S' H' F' env' → Gd κ σ S' H' F' env' → Rep κ S' u v → Q v H') → t σ H Q
structure SimO (t : TE) (m : M Ow) : Prop where
  run : ∀ {σ : L2.St} {S H : Hp} {F : List Addr} {env : Env}, Gd κ σ S H F env → ∀ {w : Ow} {env' : Env}, m env = some (w, env') → ∀ Q : VK,
  (∀ v S' H' F' Fw, Stp κ S H F S' H' (F' ++ Fw) → Gd κ σ S' H' F' env' → WF S' H' (F' ++ Fw) → RepO κ S' H' w v Fw → Q v H') → t σ H Q
structure SimT (ρ : Bool) (t : TT) (m : M Bool) : Prop where
  run : ∀ {σ : L2.St} {S H : Hp} {F : List Addr} {env : Env}, Gd κ σ S H F env → ∀ {b : Bool} {env' : Env}, m env = some (b, env') → ∀ Q : Bool → Hp → Prop,
  (∀ S' H' F', StpQ κ ρ S H F env S' H' F' env' → Gd κ σ S' H' F' env' → Q b H') → t σ H Q
structure SimA (ρ : Bool) (n : Nat) (t : TA) (m : M (List U)) : Prop where
  len : ∀ {env us env'}, m env = some (us, env') → us.length = n
  run : ∀ {σ : L2.St} {S H : Hp} {F : List Addr} {env : Env}, Gd κ σ S H F env → ∀ {us : List U} {env' : Env}, m env = some (us, env') → ∀ Q : List V → Hp → Prop,
    (∀ vs S' H' F', StpQ κ ρ S H F env S' H' F' env' → Gd κ σ S' H' F' env' → Reps κ S' us vs → Q vs H') → t σ H Q
/-- a pure operation on values -/
def rP (f : List U → Option U) : List V → Hp → VK → Prop := fun vs H Q => ∃ S us u, Same S H ∧ Reps κ S us vs ∧ f us = some u ∧ ∀ v S' H', StpP κ S H S' H' → Rep κ S' u v → Q v H'
def r1 (f : U → Option U) : V → Hp → VK → Prop := fun x H Q => ∃ S a u, Same S H ∧ Rep κ S a x ∧ f a = some u ∧ ∀ v S' H', StpP κ S H S' H' → Rep κ S' u v → Q v H'
def r2 (f : U → U → Option U) : R2 := fun x y H Q => ∃ S a b u, Same S H ∧ Rep κ S a x ∧ Rep κ S b y ∧ f a b = some u ∧ ∀ v S' H', StpP κ S H S' H' → Rep κ S' u v → Q v H'
end
section
variable {κ : String → Addr} {ρ : Bool}
theorem bindS {α β : Type} {x : Option α} {f : α → Option β} {z : β} (h : x.bind f = some z) : ∃ a, x = some a ∧ f a = some z := by
  cases x with
  | none => cases h
  | some a => exact ⟨a, rfl, h⟩
theorem WF.left {S H : Hp} {F G : List Addr} (h : WF S H (F ++ G)) : WF S H F := ⟨h.sub, (List.nodup_append.mp h.nd).1, fun a ha => h.out a (by simp [ha])⟩
/-- a slot that is read -/
theorem Gd.slot {σ : L2.St} {S H : Hp} {F : List Addr} {env : Env} (g : Gd κ σ S H F env) {i : Nat} {u : U} (e : env[i]? = some (some (.p u))) : ∃ v, σ[i]? = some (some v) ∧ Rep κ S u v := by
  obtain ⟨s, F1, F2, F3, h1, _, ⟨v, rfl, _, h3⟩, _⟩ := g.env.get e
  exact ⟨v, h1, h3⟩
theorem simE_var (i : Nat) : SimE κ ρ (tVar i) (mVar i) := by
  constructor
  intro σ S H F env g u env' h Q k
  unfold mVar at h
  split at h
  · rename_i u' e
    cases h
    obtain ⟨v, h1, h2⟩ := g.slot e
    exact ⟨v, h1, k v S H F (StpQ.refl S H F env) g h2⟩
  · cases h
theorem simE_c {v : V} {u : U} (h : ∀ S, Rep κ S u v) : SimE κ ρ (tC v) (mC u) := by
  constructor
  intro σ S H F env g u' env' e Q k
  cases e
  exact k v S H F (StpQ.refl S H F env) g (h S)
theorem simE_int {i : Int} : SimE κ ρ (tC (.int i)) (mC (.int i)) := simE_c (v := .int i) (u := .int i) fun _ => rfl
theorem simE_str {x : Str} : SimE κ ρ (tC (.str x)) (mC (.str x)) := simE_c (v := .str x) (u := .str x) fun _ => rfl
theorem simE_bl {b : Bool} : SimE κ ρ (tC (.bl b)) (mC (.bl b)) := simE_c (v := .bl b) (u := .bl b) fun _ => rfl
theorem simE_non : SimE κ ρ (tC .non) (mC .non) := simE_c (v := .non) (u := .non) fun _ => rfl
theorem simE_un {f : U → Option U} {ta : TE} {ma : M U} (ha : SimE κ ρ ta ma) : SimE κ ρ (tUn (r1 κ f) ta) (m1 f ma) := by
  constructor
  intro σ S H F env g u env' e Q k
  obtain ⟨⟨x, e1⟩, h1, e⟩ := bindS e
  obtain ⟨z, h2, e⟩ := bindS e
  cases e
  refine ha.run g h1 _ fun v S1 H1 F1 s1 g1 r => ?_
  exact ⟨S1, x, u, g1.wf.sub, r, h2, fun v' S' H' p r' => k v' S' H' F1 (s1.trans p.stq) (g1.pure_ p) r'⟩
theorem simE_op {f : U → U → Option U} {ta tb : TE} {ma mb : M U} (ha : SimE κ ρ ta ma) (hb : SimE κ ρ tb mb) : SimE κ ρ (tOp (r2 κ f) ta tb) (m2 f ma mb) := by
  constructor
  intro σ S H F env g u env' e Q k
  obtain ⟨⟨x, e1⟩, h1, e⟩ := bindS e
  obtain ⟨⟨y, e2⟩, h2, e⟩ := bindS e
  obtain ⟨z, h3, e⟩ := bindS e
  cases e
  refine ha.run g h1 _ fun v S1 H1 F1 s1 g1 r => hb.run g1 h2 _ fun v2 S2 H2 F2 s2 g2 r2 => ?_
  exact ⟨S2, x, y, u, g2.wf.sub, Rep.mono s2.sub x r, r2, h3, fun v' S' H' p r' => k v' S' H' F2 ((s1.trans s2).trans p.stq) (g2.pure_ p) r'⟩
theorem simA_nil : SimA κ ρ 0 tNil mNil := ⟨fun e => by cases e; rfl, fun {σ S H F env} g {us env'} e Q k => by
  cases e
  exact k [] S H F (StpQ.refl S H F env) g rfl⟩
theorem simA_cons {n : Nat} {ta : TE} {ma : M U} {tr : TA} {mr : M (List U)} (ha : SimE κ ρ ta ma) (hr : SimA κ ρ n tr mr) : SimA κ ρ (n + 1) (tCons ta tr) (mCons ma mr) := by
  constructor
  · intro env us env' e
    obtain ⟨⟨x, e1⟩, h1, e⟩ := bindS e
    obtain ⟨⟨y, e2⟩, h2, e⟩ := bindS e
    cases e
    simp [hr.len h2]
  · intro σ S H F env g us env' e Q k
    obtain ⟨⟨x, e1⟩, h1, e⟩ := bindS e
    obtain ⟨⟨y, e2⟩, h2, e⟩ := bindS e
    cases e
    exact ha.run g h1 _ fun v S1 H1 F1 s1 g1 r => hr.run g1 h2 _ fun vs S2 H2 F2 s2 g2 rs => k _ S2 H2 F2 (s1.trans s2) g2 ⟨v, vs, rfl, Rep.mono s2.sub x r, rs⟩
theorem simE_cb {f : List U → Option U} {n : Nat} {t : TA} {m : M (List U)} (h : SimA κ ρ n t m) : SimE κ ρ (tCB (rP κ f) t) (mN f m) := by
  constructor
  intro σ S H F env g u env' e Q k
  obtain ⟨⟨x, e1⟩, h1, e⟩ := bindS e
  obtain ⟨z, h3, e⟩ := bindS e
  cases e
  refine h.run g h1 _ fun vs S1 H1 F1 s1 g1 r => ?_
  exact ⟨S1, x, u, g1.wf.sub, r, h3, fun v' S' H' p r' => k v' S' H' F1 (s1.trans p.stq) (g1.pure_ p) r'⟩
theorem simE_lst {n : Nat} {t : TA} {m : M (List U)} (h : SimA κ ρ n t m) (hn : n ≤ 1000 := by decide) : SimE κ ρ (tLst t) (mLst m) := by
  constructor
  intro σ S H F env g u env' e Q k
  obtain ⟨⟨x, e1⟩, h1, e⟩ := bindS e
  cases e
  have hl := h.len h1
  refine h.run g h1 _ fun vs S1 H1 F1 s1 g1 r => ⟨?_, fun p hp => ?_⟩
  · rw [← r.len, hl]
    exact Nat.le_trans hn (by decide)
  · have st : StpP κ S1 H1 (upd S1 p (.lst vs)) (upd H1 p (.lst vs)) := StpP.new1 g1.wf.sub hp
    exact k _ _ _ F1 (s1.trans st.stq) (g1.pure_ st) ⟨p, vs, rfl, upd_same, Reps.mono st.sub _ r⟩
theorem simE_tup {n : Nat} {t : TA} {m : M (List U)} (h : SimA κ ρ n t m) (hn : n ≤ 1000 := by decide) : SimE κ ρ (tTup t) (mTup m) := by
  constructor
  intro σ S H F env g u env' e Q k
  obtain ⟨⟨x, e1⟩, h1, e⟩ := bindS e
  cases e
  have hl := h.len h1
  refine h.run g h1 _ fun vs S1 H1 F1 s1 g1 r => ⟨?_, fun p hp => ?_⟩
  · rw [← r.len, hl]
    exact Nat.le_trans hn (by decide)
  · have st : StpP κ S1 H1 (upd S1 p (.tup vs)) (upd H1 p (.tup vs)) := StpP.new1 g1.wf.sub hp
    exact k _ _ _ F1 (s1.trans st.stq) (g1.pure_ st) ⟨p, vs, rfl, upd_same, Reps.mono st.sub _ r⟩
/-! owned results -/
theorem simO_p {t : TE} {m : M U} (h : SimE κ false t m) : SimO κ t (mP m) := by
  constructor
  intro σ S H F env g w env' e Q k
  obtain ⟨⟨x, e1⟩, h1, e⟩ := bindS e
  cases e
  refine h.run g h1 _ fun v S1 H1 F1 s1 g1 r => k v S1 H1 F1 [] (by rw [List.append_nil]; exact s1.stp) g1 (by rw [List.append_nil]; exact g1.wf) ⟨rfl, r⟩
/-- a new owned object with pure parts -/
theorem new_owned {σ : L2.St} {S H : Hp} {F : List Addr} {env : Env} (g : Gd κ σ S H F env) {p : Addr} {o : HO} (hp : H p = none) :
    Stp κ S H F S (upd H p o) (F ++ [p]) ∧ Gd κ σ S (upd H p o) F env ∧ WF S (upd H p o) (F ++ [p]) := by
  have np : p ∉ F := fun z => by
    obtain ⟨o, ho, _⟩ := g.env.foot p z
    rw [hp] at ho
    cases ho
  have sp : S p = none := none_of_same g.wf.sub hp
  have sub : Same S (upd H p o) := g.wf.sub.trans (Same.new hp)
  refine ⟨⟨fun b u _ h => Same.new hp b u h, fun b h => none_of_same (Same.new hp) h, fun _ _ h => h, fun _ _ h => .inl h, fun a ha => ?_⟩, ⟨⟨sub, g.wf.nd, g.wf.out⟩, g.env.mono (fun _ _ h => h) fun a ha => upd_ne fun z => np (z ▸ ha)⟩, ⟨sub, ?_, ?_⟩⟩
  · rcases List.mem_append.mp ha with ha | ha
    · exact .inl ha
    · rw [List.mem_singleton.mp ha]
      exact .inr hp
  · refine List.nodup_append.mpr ⟨g.wf.nd, by simp, fun a ha b hb => ?_⟩
    rw [List.mem_singleton.mp hb]
    exact fun z => np (z ▸ ha)
  · intro a ha
    rcases List.mem_append.mp ha with ha | ha
    · exact g.wf.out a ha
    · rw [List.mem_singleton.mp ha]
      exact sp
theorem simO_lst {n : Nat} {t : TA} {m : M (List U)} (h : SimA κ false n t m) (hn : n ≤ 1000 := by decide) : SimO κ (tLst t) (mLstO m) := by
  constructor
  intro σ S H F env g w env' e Q k
  obtain ⟨⟨x, e1⟩, h1, e⟩ := bindS e
  cases e
  have hl := h.len h1
  refine h.run g h1 _ fun vs S1 H1 F1 s1 g1 r => ⟨?_, fun p hp => ?_⟩
  · rw [← r.len, hl]
    exact Nat.le_trans hn (by decide)
  · obtain ⟨a1, a2, a3⟩ := new_owned (o := .lst vs) g1 hp
    exact k _ _ _ F1 [p] (s1.stp.trans a1) a2 a3 ⟨p, vs, [], rfl, upd_same, rfl, RepOs.pure_ r⟩
/-- what was owned is handed on as pure -/
theorem frz_state {σ : L2.St} {S H S1 H1 : Hp} {F F1 Fw : List Addr} {env : Env} {w : Ow} {v : V} (s : Stp κ S H F S1 H1 (F1 ++ Fw)) (g : Gd κ σ S1 H1 F1 env) (wf : WF S1 H1 (F1 ++ Fw)) (r : RepO κ S1 H1 w v Fw) :
    ∃ S2, Same S1 S2 ∧ Stp κ S H F S2 H1 F1 ∧ Gd κ σ S2 H1 F1 env ∧ Rep κ S2 (frz w) v := by
  have hS : Same S1 fun b => if b ∈ Fw then H1 b else S1 b := fun b o h => by
    by_cases hb : b ∈ Fw
    · have := wf.out b (by simp [hb])
      rw [this] at h
      cases h
    · show (if b ∈ Fw then H1 b else S1 b) = _
      rw [if_neg hb]
      exact h
  refine ⟨fun b => if b ∈ Fw then H1 b else S1 b, hS, ?_, ⟨⟨fun b o h => ?_, g.wf.nd, fun a ha => ?_⟩, g.env.mono hS fun _ _ => rfl⟩, RepO.frz hS w (fun a ha => if_pos ha) r⟩
  · refine ⟨s.keep, s.trk, s.sub.trans hS, fun b o h => ?_, fun a ha => s.foot a (by simp [ha])⟩
    by_cases hb : b ∈ Fw
    · rcases s.foot b (by simp [hb]) with z | z
      · exact .inr (.inr (.inr z))
      · exact .inr (.inl z)
    · rw [if_neg hb] at h
      exact s.new b o h
  · by_cases hb : b ∈ Fw
    · rw [if_pos hb] at h
      exact h
    · rw [if_neg hb] at h
      exact wf.sub b o h
  · have : a ∉ Fw := fun z => (List.nodup_append.mp wf.nd).2.2 a ha a z rfl
    show (if a ∈ Fw then H1 a else S1 a) = none
    rw [if_neg this]
    exact g.wf.out a ha
theorem simE_f {t : TE} {m : M Ow} (h : SimO κ t m) : SimE κ false t (mF m) := by
  constructor
  intro σ S H F env g u env' e Q k
  obtain ⟨⟨x, e1⟩, h1, e⟩ := bindS e
  cases e
  refine h.run g h1 _ fun v S1 H1 F1 Fw s1 g1 wf r => ?_
  obtain ⟨S2, _, b1, b2, b3⟩ := frz_state s1 g1 wf r
  exact k v S2 H1 F1 b1.stq b2 b3
theorem nodup_mid {A B C : List Addr} (h : (A ++ B ++ C).Nodup) : (A ++ C).Nodup ∧ (∀ a ∈ B, a ∉ A ∧ a ∉ C) := by
  rw [List.append_assoc] at h
  obtain ⟨h1, h2, h3⟩ := List.nodup_append.mp h
  obtain ⟨h4, h5, h6⟩ := List.nodup_append.mp h2
  refine ⟨List.nodup_append.mpr ⟨h1, h5, fun a ha b hb => h3 a ha b (by simp [hb])⟩, fun a ha => ⟨fun z => h3 a z a (by simp [ha]) rfl, fun z => h6 a ha a z rfl⟩⟩
theorem simE_frz (i : Nat) : SimE κ false (tVar i) (mFrz i) := by
  constructor
  intro σ S H F env g u env' h Q k
  unfold mFrz at h
  split at h
  · rename_i w e
    cases h
    obtain ⟨s, F1, F2, F3, h1, rfl, ⟨v, rfl, h3⟩, h4⟩ := g.env.get e
    obtain ⟨nd1, nd2⟩ := nodup_mid g.wf.nd
    -- the rest of the slots, the thing apart
    have g0 : Gd κ σ S H (F1 ++ F3) (env.set i none) := by
      refine ⟨⟨g.wf.sub, nd1, fun a ha => g.wf.out a ?_⟩, ?_⟩
      · rcases List.mem_append.mp ha with ha | ha <;> simp [ha]
      · have q := h4 (S' := S) (H' := H) (s' := some v) (w' := none) (F2' := []) (fun _ _ h => h) (fun _ _ => rfl) rfl
        rw [List.append_nil] at q
        rw [show σ.set i (some v) = σ by
          apply List.ext_getElem?
          intro j
          by_cases hj : j = i
          · subst hj
            rw [h1, List.getElem?_set_self (List.getElem?_eq_some_iff.mp h1).1]
          · rw [List.getElem?_set_ne (Ne.symm hj)]] at q
        exact q
    have st : Stp κ S H (F1 ++ F2 ++ F3) S H ((F1 ++ F3) ++ F2) := ⟨fun _ _ _ h => h, fun _ h => h, fun _ _ h => h, fun _ _ h => .inl h, fun a ha => .inl (by
      simp only [List.mem_append] at ha ⊢
      rcases ha with (ha | ha) | ha <;> simp [ha])⟩
    have wf : WF S H ((F1 ++ F3) ++ F2) := ⟨g.wf.sub, List.nodup_append.mpr ⟨nd1, (List.nodup_append.mp (List.nodup_append.mp g.wf.nd).1).2.1, fun a ha b hb z => by
      subst z
      obtain ⟨q1, q2⟩ := nd2 a hb
      rcases List.mem_append.mp ha with ha | ha
      · exact q1 ha
      · exact q2 ha⟩, fun a ha => g.wf.out a (by
      simp only [List.mem_append] at ha ⊢
      rcases ha with (ha | ha) | ha <;> simp [ha])⟩
    obtain ⟨S2, e2, b1, b2, b3⟩ := frz_state st g0 wf h3
    refine ⟨v, h1, k v S2 H (F1 ++ F3) b1.stq ⟨b2.wf, ?_⟩ b3⟩
    have q := h4 (S' := S2) (H' := H) (s' := some v) (w' := some (.p (frz w))) (F2' := []) e2 (fun _ _ => rfl) ⟨v, rfl, rfl, b3⟩
    rw [List.append_nil] at q
    rw [show σ.set i (some v) = σ by
      apply List.ext_getElem?
      intro j
      by_cases hj : j = i
      · subst hj
        rw [h1, List.getElem?_set_self (List.getElem?_eq_some_iff.mp h1).1]
      · rw [List.getElem?_set_ne (Ne.symm hj)]] at q
    exact q
  · cases h
/-! tests -/
theorem isB_rep {S : Hp} {u : U} {b : Bool} {v : V} (h : isB u = some b) (r : Rep κ S u v) : v = .bl b := by
  cases u <;> first
    | (cases h; exact r)
    | cases h
theorem simT_test {t : TE} {m : M U} (h : SimE κ ρ t m) : SimT κ ρ (tTest t) (mTest m) := by
  constructor
  intro σ S H F env g b env' e Q k
  obtain ⟨⟨x, e1⟩, h1, e⟩ := bindS e
  obtain ⟨z, h2, e⟩ := bindS e
  cases e
  exact h.run g h1 _ fun v S1 H1 F1 s1 g1 r => ⟨_, isB_rep h2 r, k S1 H1 F1 s1 g1⟩
theorem simT_B {t : TE} {m : M U} (h : SimE κ ρ t m) : SimT κ ρ (tB t) (mTest m) := by
  constructor
  intro σ S H F env g b env' e Q k
  obtain ⟨⟨x, e1⟩, h1, e⟩ := bindS e
  obtain ⟨z, h2, e⟩ := bindS e
  cases e
  exact h.run g h1 _ fun v S1 H1 F1 s1 g1 r => ⟨_, isB_rep h2 r, k S1 H1 F1 s1 g1⟩
theorem simT_not {t : TT} {m : M Bool} (h : SimT κ ρ t m) : SimT κ ρ (tNot t) (mNot m) := by
  constructor
  intro σ S H F env g b env' e Q k
  obtain ⟨⟨x, e1⟩, h1, e⟩ := bindS e
  cases e
  exact h.run g h1 _ fun S1 H1 F1 s1 g1 => k S1 H1 F1 s1 g1
theorem simT_and {t u : TT} {m n : M Bool} (h : SimT κ ρ t m) (h' : SimT κ ρ u n) : SimT κ ρ (tAnd t u) (mAnd m n) := by
  constructor
  intro σ S H F env g b env' e Q k
  obtain ⟨⟨x, e1⟩, h1, e⟩ := bindS e
  refine h.run g h1 _ fun S1 H1 F1 s1 g1 => ?_
  cases x with
  | true => exact h'.run g1 e _ fun S2 H2 F2 s2 g2 => k S2 H2 F2 (s1.trans s2) g2
  | false =>
    cases e
    exact k S1 H1 F1 s1 g1
theorem simT_or {t u : TT} {m n : M Bool} (h : SimT κ ρ t m) (h' : SimT κ ρ u n) : SimT κ ρ (tOr t u) (mOr m n) := by
  constructor
  intro σ S H F env g b env' e Q k
  obtain ⟨⟨x, e1⟩, h1, e⟩ := bindS e
  refine h.run g h1 _ fun S1 H1 F1 s1 g1 => ?_
  cases x with
  | true =>
    cases e
    exact k S1 H1 F1 s1 g1
  | false => exact h'.run g1 e _ fun S2 H2 F2 s2 g2 => k S2 H2 F2 (s1.trans s2) g2
theorem simE_if {c : TT} {ta tb : TE} {mc : M Bool} {ma mb : M U} (hc : SimT κ ρ c mc) (ha : SimE κ ρ ta ma) (hb : SimE κ ρ tb mb) : SimE κ ρ (tIf c ta tb) (mIf mc ma mb) := by
  constructor
  intro σ S H F env g u env' e Q k
  obtain ⟨⟨x, e1⟩, h1, e⟩ := bindS e
  refine hc.run g h1 _ fun S1 H1 F1 s1 g1 => ?_
  cases x with
  | true => exact ha.run g1 e _ fun v S2 H2 F2 s2 g2 r => k v S2 H2 F2 (s1.trans s2) g2 r
  | false => exact hb.run g1 e _ fun v S2 H2 F2 s2 g2 r => k v S2 H2 F2 (s1.trans s2) g2 r
theorem simE_andV {ta tb : TE} {ma mb : M U} (ha : SimE κ ρ ta ma) (hb : SimE κ ρ tb mb) : SimE κ ρ (tAndV ta tb) (mAndV ma mb) := by
  constructor
  intro σ S H F env g u env' e Q k
  obtain ⟨⟨x, e1⟩, h1, e⟩ := bindS e
  obtain ⟨z, h2, e⟩ := bindS e
  refine ha.run g h1 _ fun v S1 H1 F1 s1 g1 r => ⟨z, isB_rep h2 r, ?_⟩
  cases z with
  | true => exact hb.run g1 e _ fun v S2 H2 F2 s2 g2 r => k v S2 H2 F2 (s1.trans s2) g2 r
  | false =>
    cases e
    exact k _ S1 H1 F1 s1 g1 rfl
theorem simE_orV {ta tb : TE} {ma mb : M U} (ha : SimE κ ρ ta ma) (hb : SimE κ ρ tb mb) : SimE κ ρ (tOrV ta tb) (mOrV ma mb) := by
  constructor
  intro σ S H F env g u env' e Q k
  obtain ⟨⟨x, e1⟩, h1, e⟩ := bindS e
  obtain ⟨z, h2, e⟩ := bindS e
  refine ha.run g h1 _ fun v S1 H1 F1 s1 g1 r => ⟨z, isB_rep h2 r, ?_⟩
  cases z with
  | true =>
    cases e
    exact k _ S1 H1 F1 s1 g1 rfl
  | false => exact hb.run g1 e _ fun v S2 H2 F2 s2 g2 r => k v S2 H2 F2 (s1.trans s2) g2 r
theorem simE_notV {ta : TE} {ma : M U} (ha : SimE κ ρ ta ma) : SimE κ ρ (tNotV ta) (mNotV ma) := by
  constructor
  intro σ S H F env g u env' e Q k
  obtain ⟨⟨x, e1⟩, h1, e⟩ := bindS e
  obtain ⟨z, h2, e⟩ := bindS e
  cases e
  exact ha.run g h1 _ fun v S1 H1 F1 s1 g1 r => ⟨z, isB_rep h2 r, k _ S1 H1 F1 s1 g1 rfl⟩
theorem isN_rep {S : Hp} {u : U} {v : V} (r : Rep κ S u v) : decide (v = .non) = isN u := by
  cases u with
  | non => exact decide_eq_true r
  | bl b => rw [show v = .bl b from r]; rfl
  | int i => rw [show v = .int i from r]; rfl
  | str x => rw [show v = .str x from r]; rfl
  | q x => obtain ⟨a, _, rfl, _⟩ := r; rfl
  | lst us => obtain ⟨a, _, rfl, _⟩ := r; rfl
  | tup us => obtain ⟨a, _, rfl, _⟩ := r; rfl
  | obj c ns us => obtain ⟨a, _, _, rfl, _⟩ := r; rfl
  | dic ks us => obtain ⟨a, _, rfl, _⟩ := r; rfl
theorem simE_isN {ta : TE} {ma : M U} (ha : SimE κ ρ ta ma) : SimE κ ρ (tIsN ta) (mIsN ma) := by
  constructor
  intro σ S H F env g u env' e Q k
  obtain ⟨⟨x, e1⟩, h1, e⟩ := bindS e
  cases e
  refine ha.run g h1 _ fun v S1 H1 F1 s1 g1 r => ?_
  rw [isN_rep r]
  exact k _ S1 H1 F1 s1 g1 rfl
theorem simE_notN {ta : TE} {ma : M U} (ha : SimE κ ρ ta ma) : SimE κ ρ (tNotN ta) (mNotN ma) := by
  constructor
  intro σ S H F env g u env' e Q k
  obtain ⟨⟨x, e1⟩, h1, e⟩ := bindS e
  cases e
  refine ha.run g h1 _ fun v S1 H1 F1 s1 g1 r => ?_
  rw [isN_rep r]
  exact k _ S1 H1 F1 s1 g1 rfl
theorem simE_chain {f f' : U → U → Option U} {ta tb tc : TE} {ma mb mc : M U} (ha : SimE κ ρ ta ma) (hb : SimE κ ρ tb mb) (hc : SimE κ ρ tc mc) : SimE κ ρ (tChain (r2 κ f) (r2 κ f') ta tb tc) (mChain f f' ma mb mc) := by
  constructor
  intro σ S H F env g u env' e Q k
  obtain ⟨⟨x, e1⟩, h1, e⟩ := bindS e
  obtain ⟨⟨y, e2⟩, h2, e⟩ := bindS e
  obtain ⟨z, h3, e⟩ := bindS e
  obtain ⟨b, h4, e⟩ := bindS e
  refine ha.run g h1 _ fun v S1 H1 F1 s1 g1 r => hb.run g1 h2 _ fun v2 S2 H2 F2 s2 g2 r2 => ?_
  refine ⟨S2, x, y, z, g2.wf.sub, Rep.mono s2.sub x r, r2, h3, fun v3 S3 H3 p3 r3 => ⟨b, isB_rep h4 r3, ?_⟩⟩
  have g3 := g2.pure_ p3
  have s3 := (s1.trans s2).trans (p3.stq (F := F2))
  cases b with
  | false =>
    cases e
    exact k _ S3 H3 F2 s3 g3 rfl
  | true =>
    obtain ⟨⟨w, e3⟩, h5, e⟩ := bindS e
    obtain ⟨q, h6, e⟩ := bindS e
    cases e
    refine hc.run g3 h5 _ fun v4 S4 H4 F4 s4 g4 r4 => ?_
    exact ⟨S4, y, w, u, g4.wf.sub, Rep.mono (p3.sub.trans s4.sub) y r2, r4, h6, fun v5 S5 H5 p5 r5 => k v5 S5 H5 F4 ((s3.trans s4).trans p5.stq) (g4.pure_ p5) r5⟩
end
end UL
set_option Elab.async false
set_option linter.all false
set_option maxRecDepth 100000
set_option maxHeartbeats 2000000
/-! statements, loops -/
namespace UL
open PySem PySem.Spec PyProof.Rows L2 LV
/-! mirrors -/
def sNext : MS := fun env => some (.nx env)
def sNever : MS := fun _ => none
def sSeq (a b : MS) : MS := fun env => (a env).bind fun f => match f with
  | .nx e => b e
  | f => some f
def sIf (c : M Bool) (a b : MS) : MS := fun env => (c env).bind fun x => if x.1 = true then a x.2 else b x.2
def sDrop (a : M U) : MS := fun env => (a env).bind fun x => some (.nx x.2)
def sRet (a : M Ow) : MS := fun env => (a env).bind fun x => some (.rt x.1 x.2)
def sRetN : MS := fun env => some (.rt (.p .non) env)
def sBrk : MS := fun env => some (.bk env)
def sSet (i : Nat) (a : M Ow) : MS := fun env => (a env).bind fun x => some (.nx (x.2.set i (some x.1)))
/-- an owned thing leaves its name -/
def mMov (i : Nat) : M Ow := fun env => match env[i]? with
  | some (some w) => some (w, env.set i none)
  | _ => none
def whileO (c : M Bool) (b : MS) : Nat → MS
  | 0, _ => none
  | n + 1, env => (c env).bind fun x => if x.1 = true then (b x.2).bind fun f => match f with
      | .nx e => whileO c b n e
      | .bk e => some (.nx e)
      | .rt w e => some (.rt w e)
    else some (.nx x.2)
abbrev MG := U → Env → Option Env
def gN (i : Nat) : MG := fun u env => some (env.set i (some (.p u)))
abbrev MGs := List U → Env → Option Env
def gsNil : MGs := fun us env => match us with
  | [] => some env
  | _ => none
def gsCons (g : MG) (r : MGs) : MGs := fun us env => match us with
  | u :: us => (g u env).bind fun e => r us e
  | [] => none
def gT (n : Nat) (r : MGs) : MG := fun u env => match u with
  | .tup us => if us.length = n then r us env else none
  | _ => none
def gL (n : Nat) (r : MGs) : MG := fun u env => match u with
  | .lst us => if us.length = n then r us env else none
  | _ => none
def sAsg (a : M U) (g : MG) : MS := fun env => (a env).bind fun x => (g x.1 x.2).bind fun e => some (.nx e)
def sPar (i j : Nat) (a : M (List U)) : MS := fun env => (a env).bind fun x => match x.1 with
  | [u, v] => some (.nx ((x.2.set i (some (.p u))).set j (some (.p v))))
  | _ => none
def sPar3 (i j l : Nat) (a : M (List U)) : MS := fun env => (a env).bind fun x => match x.1 with
  | [u, v, w] => some (.nx (((x.2.set i (some (.p u))).set j (some (.p v))).set l (some (.p w))))
  | _ => none
def sAug (i : Nat) (f : U → U → Option U) (a : M U) : MS := fun env => (mVar i env).bind fun y => (a y.2).bind fun x => (f y.1 x.1).bind fun z => some (.nx (x.2.set i (some (.p z))))
def forO (g : MG) (b : MS) : List U → MS
  | [], env => some (.nx env)
  | u :: us, env => (g u env).bind fun e1 => (b e1).bind fun f => match f with
    | .nx e2 => forO g b us e2
    | .bk e2 => some (.nx e2)
    | .rt w e2 => some (.rt w e2)
def sFor (it : M (List U)) (g : MG) (b : MS) : MS := fun env => (it env).bind fun x => forO g b x.1 x.2
/-! what they are mirrors of -/
def Fix (fx : Nat → Bool) (σ σ' : L2.St) : Prop := σ'.length = σ.length ∧ ∀ i, fx i = true → σ'[i]? = σ[i]?
theorem Fix.refl (fx : Nat → Bool) (σ : L2.St) : Fix fx σ σ := ⟨rfl, fun _ _ => rfl⟩
theorem Fix.trans {fx : Nat → Bool} {σ σ1 σ2 : L2.St} (a : Fix fx σ σ1) (b : Fix fx σ1 σ2) : Fix fx σ σ2 := ⟨b.1.trans a.1, fun i h => (b.2 i h).trans (a.2 i h)⟩
theorem Fix.set {fx : Nat → Bool} {σ : L2.St} {i : Nat} {v : Option V} (h : fx i = false) : Fix fx σ (σ.set i v) := ⟨by simp, fun j hj => by
  rw [List.getElem?_set_ne]
  intro z
  subst z
  rw [h] at hj
  cases hj⟩
section
variable (κ : String → Addr) (fx : Nat → Bool)
/-- what a flow of the mirror asks of the ends -/
def Rch (σ : L2.St) (S H : Hp) (F : List Addr) (D : Ends) : Fl → Prop
  | .nx env' => ∀ σ' S' H' F', Stp κ S H F S' H' F' → Gd κ σ' S' H' F' env' → Fix fx σ σ' → D.nx σ' H'
  | .bk env' => ∀ σ' S' H' F', Stp κ S H F S' H' F' → Gd κ σ' S' H' F' env' → Fix fx σ σ' → D.bk σ' H'
  | .rt w env' => ∀ v σ' S' H' F' Fw, Stp κ S H F S' H' (F' ++ Fw) → Gd κ σ' S' H' F' env' → WF S' H' (F' ++ Fw) → RepO κ S' H' w v Fw → Fix fx σ σ' → D.rt v H'
structure SimS (t : TS) (m : MS) : Prop where
  run : ∀ {σ : L2.St} {S H : Hp} {F : List Addr} {env : Env}, Gd κ σ S H F env → ∀ {fl : Fl}, m env = some fl → ∀ D : Ends, Rch κ fx σ S H F D fl → t D σ H
structure SimG (g : TG) (m : MG) : Prop where
  run : ∀ {σ : L2.St} {S H : Hp} {F : List Addr} {env : Env}, Gd κ σ S H F env → ∀ {u : U} {v : V} {env' : Env}, Rep κ S u v → m u env = some env' → ∀ Q : L2.St → Hp → Prop,
  (∀ σ' S' H' F', Stp κ S H F S' H' F' → Gd κ σ' S' H' F' env' → Fix fx σ σ' → Q σ' H') → g v σ H Q
structure SimGs (g : TGs) (m : MGs) : Prop where
  run : ∀ {σ : L2.St} {S H : Hp} {F : List Addr} {env : Env}, Gd κ σ S H F env → ∀ {us : List U} {vs : List V} {env' : Env}, Reps κ S us vs → m us env = some env' → ∀ Q : L2.St → Hp → Prop,
  (∀ σ' S' H' F', Stp κ S H F S' H' F' → Gd κ σ' S' H' F' env' → Fix fx σ σ' → Q σ' H') → g vs σ H Q
/-- an iterator gives these, while a region stands -/
structure ItOk (J : It) (S A : Hp) (items : List U) : Prop where
  go : ∀ i H, i < items.length → Same A H → J.go i H
  stop : ∀ H, Same A H → J.stop items.length H
  yld : ∀ i H x H' S1 u, items[i]? = some u → Same A H → Same S S1 → Same S1 H → J.yld i H x H' → ∃ S1', StpP κ S1 H S1' H' ∧ Rep κ S1' u x
structure SimI (ρ : Bool) (wi : TI) (m : M (List U)) : Prop where
  run : ∀ {σ : L2.St} {S H : Hp} {F : List Addr} {env : Env}, Gd κ σ S H F env → ∀ {items : List U} {env' : Env}, m env = some (items, env') → ∀ R : It → Hp → Prop,
  (∀ J S' H' F', StpQ κ ρ S H F env S' H' F' env' → Gd κ σ S' H' F' env' → ItOk κ J S' S' items → R J H') → wi σ H R
end
section
variable {κ : String → Addr} {fx : Nat → Bool} {ρ : Bool}
theorem Rch.mono {σ σ1 : L2.St} {S H S1 H1 : Hp} {F F1 : List Addr} {D : Ends} {fl : Fl} (s : Stp κ S H F S1 H1 F1) (hf : Fix fx σ σ1) (h : Rch κ fx σ S H F D fl) : Rch κ fx σ1 S1 H1 F1 D fl := by
  cases fl with
  | nx e => exact fun σ' S' H' F' s' g f => h σ' S' H' F' (s.trans s') g (hf.trans f)
  | bk e => exact fun σ' S' H' F' s' g f => h σ' S' H' F' (s.trans s') g (hf.trans f)
  | rt w e => exact fun v σ' S' H' F' Fw s' g wf r f => h v σ' S' H' F' Fw (s.trans s') g wf r (hf.trans f)
theorem sim_next : SimS κ fx tNext sNext := by
  constructor
  intro σ S H F env g fl e D k
  cases e
  exact k σ S H F (Stp.refl S H F) g (Fix.refl fx σ)
theorem sim_never : SimS κ fx tNever sNever := by
  constructor
  intro σ S H F env g fl e D k
  cases e
theorem sim_brk : SimS κ fx tBreak sBrk := by
  constructor
  intro σ S H F env g fl e D k
  cases e
  exact k σ S H F (Stp.refl S H F) g (Fix.refl fx σ)
theorem sim_seq {t u : TS} {m n : MS} (h : SimS κ fx t m) (h' : SimS κ fx u n) : SimS κ fx (tSeq t u) (sSeq m n) := by
  constructor
  intro σ S H F env g fl e D k
  obtain ⟨f, h1, e⟩ := bindS e
  refine h.run g h1 _ ?_
  cases f with
  | nx e1 => exact fun σ1 S1 H1 F1 s1 g1 f1 => h'.run g1 e D (k.mono s1 f1)
  | bk e1 =>
    cases e
    exact k
  | rt w e1 =>
    cases e
    exact k
theorem sim_if {c : TT} {t u : TS} {mc : M Bool} {m n : MS} (hc : SimT κ false c mc) (h : SimS κ fx t m) (h' : SimS κ fx u n) : SimS κ fx (tIfS c t u) (sIf mc m n) := by
  constructor
  intro σ S H F env g fl e D k
  obtain ⟨⟨x, e1⟩, h1, e⟩ := bindS e
  refine hc.run g h1 _ fun S1 H1 F1 s1 g1 => ?_
  cases x with
  | true => exact h.run g1 e D (k.mono s1.stp (Fix.refl fx σ))
  | false => exact h'.run g1 e D (k.mono s1.stp (Fix.refl fx σ))
theorem sim_drop {t : TE} {m : M U} (h : SimE κ false t m) : SimS κ fx (tDrop t) (sDrop m) := by
  constructor
  intro σ S H F env g fl e D k
  obtain ⟨⟨x, e1⟩, h1, e⟩ := bindS e
  cases e
  exact h.run g h1 _ fun v S1 H1 F1 s1 g1 _ => k σ S1 H1 F1 s1.stp g1 (Fix.refl fx σ)
theorem sim_ret {t : TE} {m : M Ow} (h : SimO κ t m) : SimS κ fx (tRet t) (sRet m) := by
  constructor
  intro σ S H F env g fl e D k
  obtain ⟨⟨x, e1⟩, h1, e⟩ := bindS e
  cases e
  exact h.run g h1 _ fun v S1 H1 F1 Fw s1 g1 wf r => k v σ S1 H1 F1 Fw s1 g1 wf r (Fix.refl fx σ)
theorem sim_retN : SimS κ fx tRetN sRetN := by
  constructor
  intro σ S H F env g fl e D k
  cases e
  exact k .non σ S H F [] (by rw [List.append_nil]; exact Stp.refl S H F) g (by rw [List.append_nil]; exact g.wf) ⟨rfl, rfl⟩ (Fix.refl fx σ)
/-- a slot gets a thing -/
theorem Gd.put {σ : L2.St} {S H : Hp} {F Fw : List Addr} {env : Env} (g : Gd κ σ S H F env) (wf : WF S H (F ++ Fw)) {w : Ow} {v : V} (r : RepO κ S H w v Fw) (i : Nat) (hi : i < env.length) :
    ∃ F', Gd κ (σ.set i (some v)) S H F' (env.set i (some w)) ∧ ∀ a ∈ F', a ∈ F ++ Fw := by
  have e : env[i]? = some env[i] := by simp [hi]
  obtain ⟨s, F1, F2, F3, h1, rfl, h3, h4⟩ := g.env.get e
  have q := h4 (S' := S) (H' := H) (s' := some v) (w' := some w) (F2' := Fw) (fun _ _ h => h) (fun _ _ => rfl) ⟨v, rfl, r⟩
  have sub : ∀ a ∈ F1 ++ Fw ++ F3, a ∈ (F1 ++ F2 ++ F3) ++ Fw := fun a ha => by
    simp only [List.mem_append] at ha ⊢
    rcases ha with (ha | ha) | ha <;> simp [ha]
  refine ⟨F1 ++ Fw ++ F3, ⟨⟨g.wf.sub, ?_, fun a ha => wf.out a (sub a ha)⟩, q⟩, sub⟩
  obtain ⟨n1, n2, n3⟩ := List.nodup_append.mp wf.nd
  have n4 := (nodup_mid n1).1
  obtain ⟨n5, n6, n7⟩ := List.nodup_append.mp n4
  rw [List.append_assoc]
  refine List.nodup_append.mpr ⟨n5, List.nodup_append.mpr ⟨n2, n6, fun a ha b hb z => n3 b (by simp [hb]) a ha z.symm⟩, fun a ha b hb => ?_⟩
  rcases List.mem_append.mp hb with hb | hb
  · exact n3 a (by simp [ha]) b hb
  · exact n7 a ha b hb
theorem set_ge {α : Type} {l : List α} {i : Nat} {x : α} (h : ¬ i < l.length) : l.set i x = l := List.set_eq_of_length_le (Nat.le_of_not_lt h)
theorem Gd.put2 {σ : L2.St} {S H : Hp} {F Fw : List Addr} {env : Env} (g : Gd κ σ S H F env) (wf : WF S H (F ++ Fw)) {w : Ow} {v : V} (r : RepO κ S H w v Fw) (i : Nat) :
    ∃ F', Gd κ (σ.set i (some v)) S H F' (env.set i (some w)) ∧ ∀ a ∈ F', a ∈ F ++ Fw := by
  by_cases hi : i < env.length
  · exact g.put wf r i hi
  · have hl := g.env.len
    rw [set_ge hi, set_ge (by omega)]
    exact ⟨F, g, fun a ha => by simp [ha]⟩
theorem Gd.putP {σ : L2.St} {S H : Hp} {F : List Addr} {env : Env} (g : Gd κ σ S H F env) {u : U} {v : V} (r : Rep κ S u v) (i : Nat) :
    ∃ F', Gd κ (σ.set i (some v)) S H F' (env.set i (some (.p u))) ∧ ∀ a ∈ F', a ∈ F := by
  obtain ⟨F', h1, h2⟩ := g.put2 (Fw := []) (by rw [List.append_nil]; exact g.wf) (w := .p u) ⟨rfl, r⟩ i
  exact ⟨F', h1, fun a ha => by simpa using h2 a ha⟩
theorem Stp.less {S H S1 H1 : Hp} {F F1 F2 : List Addr} (s : Stp κ S H F S1 H1 F1) (h : ∀ a ∈ F2, a ∈ F1) : Stp κ S H F S1 H1 F2 := ⟨s.keep, s.trk, s.sub, s.new, fun a ha => s.foot a (h a ha)⟩
theorem sim_set {t : TE} {m : M Ow} (i : Nat) (h : SimO κ t m) (hf : fx i = false := by rfl) : SimS κ fx (tAsg t (gName i)) (sSet i m) := by
  constructor
  intro σ S H F env g fl e D k
  obtain ⟨⟨x, e1⟩, h1, e⟩ := bindS e
  cases e
  refine h.run g h1 _ fun v S1 H1 F1 Fw s1 g1 wf r => ?_
  obtain ⟨F', g2, hs⟩ := g1.put2 wf r i
  exact k _ S1 H1 F' (s1.less hs) g2 (Fix.set hf)
theorem simG_name (i : Nat) (hf : fx i = false := by rfl) : SimG κ fx (gName i) (gN i) := by
  constructor
  intro σ S H F env g u v env' r e Q k
  cases e
  obtain ⟨F', g2, hs⟩ := g.putP r i
  exact k _ S H F' ((Stp.refl S H F).less hs) g2 (Fix.set hf)
theorem simGs_nil : SimGs κ fx gNil gsNil := by
  constructor
  intro σ S H F env g us vs env' r e Q k
  cases us with
  | nil =>
    cases e
    exact ⟨r, k σ S H F (Stp.refl S H F) g (Fix.refl fx σ)⟩
  | cons u us => cases e
theorem simGs_cons {g : TG} {m : MG} {gs : TGs} {ms : MGs} (h : SimG κ fx g m) (h' : SimGs κ fx gs ms) : SimGs κ fx (gCons g gs) (gsCons m ms) := by
  constructor
  intro σ S H F env gd us vs env' r e Q k
  cases us with
  | nil => cases e
  | cons u us =>
    obtain ⟨e1, h1, e⟩ := bindS e
    obtain ⟨v, vs', rfl, r1, r2⟩ := r
    refine ⟨v, vs', rfl, h.run gd r1 h1 _ fun σ1 S1 H1 F1 s1 g1 f1 => h'.run g1 (Reps.mono s1.sub us r2) e _ fun σ2 S2 H2 F2 s2 g2 f2 => k σ2 S2 H2 F2 (s1.trans s2) g2 (f1.trans f2)⟩
theorem simG_tup {K : PySem.W.Frag} {n : Nat} {gs : TGs} {ms : MGs} (h : SimGs κ fx gs ms) : SimG κ fx (gTup K n gs) (gT n ms) := by
  constructor
  intro σ S H F env gd u v env' r e Q k
  cases u <;> try cases e
  rename_i us
  obtain ⟨a, vs, rfl, h2, h3⟩ := r
  unfold gT at e
  dsimp only at e
  split at e
  · rename_i hl
    exact ⟨a, vs, rfl, SqT.of (gd.wf.sub _ _ h2), by rw [← h3.len, hl], h.run gd h3 e Q k⟩
  · cases e
theorem simG_lst {K : PySem.W.Frag} {n : Nat} {gs : TGs} {ms : MGs} (h : SimGs κ fx gs ms) : SimG κ fx (gLst K n gs) (gL n ms) := by
  constructor
  intro σ S H F env gd u v env' r e Q k
  cases u <;> try cases e
  rename_i us
  obtain ⟨a, vs, rfl, h2, h3⟩ := r
  unfold gL at e
  dsimp only at e
  split at e
  · rename_i hl
    exact ⟨a, vs, rfl, SqL.of (gd.wf.sub _ _ h2), by rw [← h3.len, hl], h.run gd h3 e Q k⟩
  · cases e
theorem sim_asg {t : TE} {m : M U} {g : TG} {mg : MG} (h : SimE κ false t m) (hg : SimG κ fx g mg) : SimS κ fx (tAsg t g) (sAsg m mg) := by
  constructor
  intro σ S H F env gd fl e D k
  obtain ⟨⟨x, e1⟩, h1, e⟩ := bindS e
  obtain ⟨e2, h2, e⟩ := bindS e
  cases e
  exact h.run gd h1 _ fun v S1 H1 F1 s1 g1 r => hg.run g1 r h2 _ fun σ2 S2 H2 F2 s2 g2 f2 => k σ2 S2 H2 F2 (s1.stp.trans s2) g2 f2
theorem sim_par {i j : Nat} {t : TA} {m : M (List U)} (h : SimA κ false 2 t m) (hi : fx i = false := by rfl) (hj : fx j = false := by rfl) : SimS κ fx (tPar i j t) (sPar i j m) := by
  constructor
  intro σ S H F env gd fl e D k
  obtain ⟨⟨x, e1⟩, h1, e⟩ := bindS e
  have hn := h.len h1
  obtain ⟨u, v, rfl⟩ : ∃ u v, x = [u, v] := by
    match x, hn with
    | [u, v], _ => exact ⟨u, v, rfl⟩
  refine h.run gd h1 _ fun vs S1 H1 F1 s1 g1 r => ?_
  · obtain ⟨a, _, rfl, ra, b, _, rfl, rb, rfl⟩ := r
    cases (Option.some.inj e)
    obtain ⟨F2, g2, h2⟩ := g1.putP ra i
    obtain ⟨F3, g3, h3⟩ := g2.putP rb j
    exact ⟨a, b, rfl, k _ S1 H1 F3 (s1.stp.less fun z hz => h2 z (h3 z hz)) g3 ((Fix.set hi).trans (Fix.set hj))⟩
theorem sim_par3 {i j l : Nat} {t : TA} {m : M (List U)} (h : SimA κ false 3 t m) (hi : fx i = false := by rfl) (hj : fx j = false := by rfl) (hl : fx l = false := by rfl) : SimS κ fx (tPar3 i j l t) (sPar3 i j l m) := by
  constructor
  intro σ S H F env gd fl e D k
  obtain ⟨⟨x, e1⟩, h1, e⟩ := bindS e
  have hn := h.len h1
  obtain ⟨u, v, w, rfl⟩ : ∃ u v w, x = [u, v, w] := by
    match x, hn with
    | [u, v, w], _ => exact ⟨u, v, w, rfl⟩
  refine h.run gd h1 _ fun vs S1 H1 F1 s1 g1 r => ?_
  · obtain ⟨a, _, rfl, ra, b, _, rfl, rb, c, _, rfl, rc, rfl⟩ := r
    cases (Option.some.inj e)
    obtain ⟨F2, g2, h2⟩ := g1.putP ra i
    obtain ⟨F3, g3, h3⟩ := g2.putP rb j
    obtain ⟨F4, g4, h4⟩ := g3.putP rc l
    exact ⟨a, b, c, rfl, k _ S1 H1 F4 (s1.stp.less fun z hz => h2 z (h3 z (h4 z hz))) g4 (((Fix.set hi).trans (Fix.set hj)).trans (Fix.set hl))⟩
theorem sim_aug {i : Nat} {f : U → U → Option U} {t : TE} {m : M U} (h : SimE κ false t m) (hi : fx i = false := by rfl) : SimS κ fx (tAug i t (r2 κ f)) (sAug i f m) := by
  constructor
  intro σ S H F env gd fl e D k
  obtain ⟨⟨y, e0⟩, h0, e⟩ := bindS e
  obtain ⟨⟨x, e1⟩, h1, e⟩ := bindS e
  obtain ⟨z, h2, e⟩ := bindS e
  cases e
  unfold mVar at h0
  split at h0
  · rename_i u' e'
    cases h0
    obtain ⟨v, hv, rv⟩ := gd.slot e'
    refine ⟨v, hv, h.run gd h1 _ fun v1 S1 H1 F1 s1 g1 r1 => ?_⟩
    refine ⟨S1, y, x, z, g1.wf.sub, Rep.mono s1.sub y rv, r1, h2, fun v' S' H' p r' => ?_⟩
    obtain ⟨F2, g2, hs⟩ := (g1.pure_ p).putP r' i
    exact k _ S' H' F2 ((s1.stp.trans p.stp).less hs) g2 (Fix.set hi)
  · cases h0
theorem simO_mov (i : Nat) : SimO κ (tVar i) (mMov i) := by
  constructor
  intro σ S H F env g w env' h Q k
  unfold mMov at h
  split at h
  · rename_i w' e
    cases h
    obtain ⟨s, F1, F2, F3, h1, rfl, ⟨v, rfl, h3⟩, h4⟩ := g.env.get e
    obtain ⟨nd1, nd2⟩ := nodup_mid g.wf.nd
    have se : σ.set i (some v) = σ := by
      apply List.ext_getElem?
      intro j
      by_cases hj : j = i
      · subst hj
        rw [h1, List.getElem?_set_self (List.getElem?_eq_some_iff.mp h1).1]
      · rw [List.getElem?_set_ne (Ne.symm hj)]
    have mem : ∀ a, a ∈ (F1 ++ F3) ++ F2 → a ∈ F1 ++ F2 ++ F3 := fun a ha => by
      simp only [List.mem_append] at ha ⊢
      rcases ha with (ha | ha) | ha <;> simp [ha]
    have g0 : Gd κ σ S H (F1 ++ F3) (env.set i none) := by
      refine ⟨⟨g.wf.sub, nd1, fun a ha => g.wf.out a (mem a (by simp only [List.mem_append] at ha ⊢; exact .inl ha))⟩, ?_⟩
      have q := h4 (S' := S) (H' := H) (s' := some v) (w' := none) (F2' := []) (fun _ _ h => h) (fun _ _ => rfl) rfl
      rw [List.append_nil, se] at q
      exact q
    have st : Stp κ S H (F1 ++ F2 ++ F3) S H ((F1 ++ F3) ++ F2) := ⟨fun _ _ _ h => h, fun _ h => h, fun _ _ h => h, fun _ _ h => .inl h, fun a ha => .inl (mem a ha)⟩
    have wf : WF S H ((F1 ++ F3) ++ F2) := ⟨g.wf.sub, List.nodup_append.mpr ⟨nd1, (List.nodup_append.mp (List.nodup_append.mp g.wf.nd).1).2.1, fun a ha b hb z => by
      subst z
      obtain ⟨q1, q2⟩ := nd2 a hb
      rcases List.mem_append.mp ha with ha | ha
      · exact q1 ha
      · exact q2 ha⟩, fun a ha => g.wf.out a (mem a ha)⟩
    exact ⟨v, h1, k v S H (F1 ++ F3) F2 st g0 wf h3⟩
  · cases h
/-! while -/
theorem sim_while {c : TT} {t : TS} {mc : M Bool} {m : MS} (n : Nat) (hc : SimT κ false c mc) (h : SimS κ fx t m) : SimS κ fx (tWhile c t) (whileO mc m n) := by
  constructor
  intro σ S H F env gd fl e D k
  refine ⟨fun n' σ' H' => ∃ S' F' env', Stp κ S H F S' H' F' ∧ Gd κ σ' S' H' F' env' ∧ Fix fx σ σ' ∧ whileO mc m n' env' = some fl, ⟨n, S, F, env, Stp.refl S H F, gd, Fix.refl fx σ, e⟩, ?_⟩
  rintro n' σ' H' ⟨S', F', env', s, g, hf, e⟩
  cases n' with
  | zero => cases e
  | succ n' =>
    obtain ⟨⟨x, e1⟩, h1, e⟩ := bindS e
    refine hc.run g h1 _ fun S1 H1 F1 s1 g1 => ?_
    cases x with
    | false =>
      rw [if_neg Bool.false_ne_true] at e ⊢
      cases e
      exact k σ' S1 H1 F1 (s.trans s1.stp) g1 hf
    | true =>
      rw [if_pos rfl] at e ⊢
      obtain ⟨f, h2, e⟩ := bindS e
      refine ⟨fun σ2 H2 => ∃ S2 F2 env2, Stp κ S H F S2 H2 F2 ∧ Gd κ σ2 S2 H2 F2 env2 ∧ Fix fx σ σ2 ∧ whileO mc m n' env2 = some fl, fun σ2 H2 w => ⟨n', Nat.lt_succ_self _, w⟩, ?_⟩
      refine h.run g1 h2 _ ?_
      cases f with
      | nx e2 => exact fun σ2 S2 H2 F2 s2 g2 f2 => ⟨S2, F2, e2, (s.trans s1.stp).trans s2, g2, hf.trans f2, e⟩
      | bk e2 =>
        cases e
        exact fun σ2 S2 H2 F2 s2 g2 f2 => k σ2 S2 H2 F2 ((s.trans s1.stp).trans s2) g2 (hf.trans f2)
      | rt w e2 =>
        cases e
        exact fun v σ2 S2 H2 F2 Fw s2 g2 wf r f2 => k v σ2 S2 H2 F2 Fw ((s.trans s1.stp).trans s2) g2 wf r (hf.trans f2)
/-! for -/
theorem drop_some {α : Type} {l : List α} {i : Nat} (h : i < l.length) : ∃ u, l[i]? = some u ∧ l.drop i = u :: l.drop (i + 1) := by
  refine ⟨l[i], by simp [h], ?_⟩
  rw [List.drop_eq_getElem_cons h]
/-- what an iterator leans on stays: it is of the region, or apart from what is owned -/
def KeepA (A S H : Hp) (F : List Addr) : Prop := ∀ b o, A b = some o → S b = some o ∨ (H b = some o ∧ b ∉ F)
theorem KeepA.self {S H : Hp} {F : List Addr} : KeepA S S H F := fun _ _ h => .inl h
theorem KeepA.go {A S H S' H' : Hp} {F F' : List Addr} (k : KeepA A S H F) (s : Stp κ S H F S' H' F') (w : Same S' H') : Same A H' := fun b o h => by
  rcases k b o h with h | ⟨h, n⟩
  · exact w b o (s.sub b o h)
  · exact s.keep b o n h
theorem for_core {J : It} {g : TG} {mg : MG} {t : TS} {m : MS} {σ : L2.St} {S H A : Hp} {F : List Addr} {env : Env} {items : List U} {fl : Fl} (gd : Gd κ σ S H F env) (ok : ItOk κ J S A items) (ka : KeepA A S H F) (hg : SimG κ fx g mg) (h : SimS κ fx t m)
    (e : forO mg m items env = some fl) (D : Ends) (k : Rch κ fx σ S H F D fl) : ∃ W : Nat → Nat → L2.St → Hp → Prop, (∃ m, W 0 m σ H) ∧ ∀ i m σ H, W i m σ H →
      (J.stop i H ∧ D.nx σ H) ∨ (J.go i H ∧ ∃ N : L2.St → Hp → Prop, (∀ σ' H', N σ' H' → ∃ m', m' < m ∧ W (i + 1) m' σ' H') ∧ ∀ x H', J.yld i H x H' → g x σ H' fun σ2 H2 => t { D with nx := N, ct := N, bk := D.nx } σ2 H2) := by
  have wk : Walk J items.length (fun H => Same A H) (fun i H x H' => J.yld i H x H') := ⟨fun i H hi q => ok.go i H hi q, fun H q => ok.stop H q, fun _ _ _ _ _ _ y => y⟩
  refine for_it wk (fun i σ' H' => ∃ S' F' env', Stp κ S H F S' H' F' ∧ Gd κ σ' S' H' F' env' ∧ Fix fx σ σ' ∧ forO mg m (items.drop i) env' = some fl) ?_ ?_ ?_ ?_
  · exact ⟨S, F, env, Stp.refl S H F, gd, Fix.refl fx σ, e⟩
  · rintro i σ' H' _ ⟨S', F', env', s', g', _, _⟩
    exact ka.go s' g'.wf.sub
  · rintro i x σ' H' H2 hlt ⟨S', F', env', s', g', hf, e⟩ y
    obtain ⟨u, hu, hd⟩ := drop_some hlt
    rw [hd] at e
    obtain ⟨e1, h1, e⟩ := bindS e
    obtain ⟨f, h2, e⟩ := bindS e
    obtain ⟨S2, p2, r2⟩ := ok.yld i H' x H2 S' u hu (ka.go s' g'.wf.sub) s'.sub g'.wf.sub y
    have g2 := g'.pure_ p2
    refine hg.run g2 r2 h1 _ fun σ3 S3 H3 F3 s3 g3 f3 => h.run g3 h2 _ ?_
    have st := (s'.trans p2.stp).trans s3
    cases f with
    | nx e2 => exact fun σ4 S4 H4 F4 s4 g4 f4 => ⟨S4, F4, e2, st.trans s4, g4, (hf.trans f3).trans f4, e⟩
    | bk e2 =>
      cases e
      exact fun σ4 S4 H4 F4 s4 g4 f4 => k σ4 S4 H4 F4 (st.trans s4) g4 ((hf.trans f3).trans f4)
    | rt w e2 =>
      cases e
      exact fun v σ4 S4 H4 F4 Fw s4 g4 wf r f4 => k v σ4 S4 H4 F4 Fw (st.trans s4) g4 wf r ((hf.trans f3).trans f4)
  · rintro σ' H' ⟨S', F', env', s', g', hf, e⟩
    rw [List.drop_length] at e
    cases e
    exact k σ' S' H' F' s' g' hf
theorem sim_for {wi : TI} {mi : M (List U)} {g : TG} {mg : MG} {t : TS} {m : MS} (hi : SimI κ false wi mi) (hg : SimG κ fx g mg) (h : SimS κ fx t m) : SimS κ fx (tFor wi g t) (sFor mi mg m) := by
  constructor
  intro σ S H F env gd fl e D k
  obtain ⟨⟨items, e0⟩, h0, e⟩ := bindS e
  exact hi.run gd h0 _ fun J S1 H1 F1 s1 g1 ok => for_core g1 ok KeepA.self hg h e D (k.mono s1.stp (Fix.refl fx σ))
/-! what is walked -/
def seqU : U → Option (List U)
  | .lst us => some us
  | .tup us => some us
  | _ => none
def mSeq (a : M U) : M (List U) := fun env => (a env).bind fun x => (seqU x.1).bind fun us => some (us, x.2)
theorem itOk_list {K : PySem.W.Frag} {a : Addr} {S A : Hp} {us : List U} {vs : List V} (h : A a = some (.lst vs)) (r : Reps κ S us vs) : ItOk κ (Itl K a) S A us := by
  have wk := walk_list (K := K) (a := a) (xs := vs)
  refine ⟨fun i H hi q => wk.goes i H (by rw [← r.len]; exact hi) (SqL.of (q _ _ h)), fun H q => by rw [r.len]; exact wk.stops H (SqL.of (q _ _ h)), fun i H x H' S1 u hu e0 e1 e2 y => ?_⟩
  have hi : i < vs.length := by
    rw [← r.len]
    exact (List.getElem?_eq_some_iff.mp hu).1
  obtain ⟨rfl, hx⟩ := wk.yields i H x H' hi (SqL.of (e0 _ _ h)) y
  obtain ⟨v, hv, rv⟩ := r.get hu
  rw [hx] at hv
  cases hv
  exact ⟨S1, StpP.refl e2, Rep.mono e1 u rv⟩
theorem itOk_tup {K : PySem.W.Frag} {a : Addr} {S A : Hp} {us : List U} {vs : List V} (h : A a = some (.tup vs)) (r : Reps κ S us vs) : ItOk κ (Itt K a) S A us := by
  have wk := walk_tup (K := K) (a := a) (xs := vs)
  refine ⟨fun i H hi q => wk.goes i H (by rw [← r.len]; exact hi) (SqT.of (q _ _ h)), fun H q => by rw [r.len]; exact wk.stops H (SqT.of (q _ _ h)), fun i H x H' S1 u hu e0 e1 e2 y => ?_⟩
  have hi : i < vs.length := by
    rw [← r.len]
    exact (List.getElem?_eq_some_iff.mp hu).1
  obtain ⟨rfl, hx⟩ := wk.yields i H x H' hi (SqT.of (e0 _ _ h)) y
  obtain ⟨v, hv, rv⟩ := r.get hu
  rw [hx] at hv
  cases hv
  exact ⟨S1, StpP.refl e2, Rep.mono e1 u rv⟩
theorem simI_seq {K : PySem.W.Frag} {t : TE} {m : M U} (h : SimE κ ρ t m) : SimI κ ρ (iOr (iList K t) (iTup K t)) (mSeq m) := by
  constructor
  intro σ S H F env gd items env' e R k
  obtain ⟨⟨x, e1⟩, h1, e⟩ := bindS e
  obtain ⟨us, h2, e⟩ := bindS e
  cases e
  cases x <;> try cases h2
  · refine .inl (h.run gd h1 _ fun v S1 H1 F1 s1 g1 r => ?_)
    obtain ⟨a, vs, rfl, ha, rs⟩ := r
    exact ⟨a, rfl, ⟨vs, SqL.of (g1.wf.sub _ _ ha)⟩, k _ S1 H1 F1 s1 g1 (itOk_list ha rs)⟩
  · refine .inr (h.run gd h1 _ fun v S1 H1 F1 s1 g1 r => ?_)
    obtain ⟨a, vs, rfl, ha, rs⟩ := r
    exact ⟨a, rfl, ⟨vs, SqT.of (g1.wf.sub _ _ ha)⟩, k _ S1 H1 F1 s1 g1 (itOk_tup ha rs)⟩
def rngU (lo : Int) (n : Nat) : List U := (List.range n).map fun (k : Nat) => .int (lo + (k : Nat))
theorem itOk_rng {lo : Int} {n : Nat} {S A : Hp} : ItOk κ (Itr lo n) S A (rngU lo n) := by
  have wk := walk_range (lo := lo) (n := n)
  have hl : (rngU lo n).length = n := by simp [rngU]
  refine ⟨fun i H hi q => wk.goes i H (by rw [hl] at hi; exact hi) trivial, fun H q => by rw [hl]; exact wk.stops H trivial, fun i H x H' S1 u hu e0 e1 e2 y => ?_⟩
  have hi : i < n := by
    rw [← hl]
    exact (List.getElem?_eq_some_iff.mp hu).1
  obtain ⟨rfl, rfl⟩ := wk.yields i H x H' hi trivial y
  refine ⟨S1, StpP.refl e2, ?_⟩
  have q : u = .int (lo + (i : Nat)) := by
    simp [rngU, hi] at hu
    exact hu.symm
  subst q
  rfl
def mRng1 (a : M (List U)) : M (List U) := fun env => (a env).bind fun x => match x.1 with
  | [.int j] => if -(2 ^ 62) ≤ j ∧ j < 2 ^ 62 then some (rngU 0 j.toNat, x.2) else none
  | _ => none
def mRng2 (a : M (List U)) : M (List U) := fun env => (a env).bind fun x => match x.1 with
  | [.int i, .int j] => if -(2 ^ 62) ≤ i ∧ i < 2 ^ 62 ∧ -(2 ^ 62) ≤ j ∧ j < 2 ^ 62 then some (rngU i (j - i).toNat, x.2) else none
  | _ => none
theorem simI_rng1 {n : Nat} {t : TA} {m : M (List U)} (h : SimA κ ρ n t m) : SimI κ ρ (iRng1 t) (mRng1 m) := by
  constructor
  intro σ S H F env gd items env' e R k
  obtain ⟨⟨x, e1⟩, h1, e⟩ := bindS e
  dsimp only at e
  split at e
  · rename_i j
    split at e
    · rename_i hj
      cases e
      refine h.run gd h1 _ fun vs S1 H1 F1 s1 g1 r => ?_
      obtain ⟨v, _, rfl, hv, rfl⟩ := r
      have hv : v = .int j := hv
      subst hv
      exact ⟨j, rfl, hj.1, hj.2, k _ S1 H1 F1 s1 g1 itOk_rng⟩
    · cases e
  · cases e
theorem simI_rng2 {n : Nat} {t : TA} {m : M (List U)} (h : SimA κ ρ n t m) : SimI κ ρ (iRng2 t) (mRng2 m) := by
  constructor
  intro σ S H F env gd items env' e R k
  obtain ⟨⟨x, e1⟩, h1, e⟩ := bindS e
  dsimp only at e
  split at e
  · rename_i i j
    split at e
    · rename_i hj
      cases e
      refine h.run gd h1 _ fun vs S1 H1 F1 s1 g1 r => ?_
      obtain ⟨v, _, rfl, hv, w, _, rfl, hw, rfl⟩ := r
      have hv : v = .int i := hv
      have hw : w = .int j := hw
      subst hv
      subst hw
      exact ⟨i, j, rfl, hj, k _ S1 H1 F1 s1 g1 itOk_rng⟩
    · cases e
  · cases e
/-- enumerate of a list -/
def enumU (us : List U) : List U := us.zipIdx.map fun p => .tup [.int (p.2 : Nat), p.1]
def mEnum (a : M (List U)) : M (List U) := fun env => (a env).bind fun x => match x.1 with
  | [.lst us] => some (enumU us, x.2)
  | _ => none
theorem enumU_len (us : List U) : (enumU us).length = us.length := by simp [enumU]
theorem enumU_get {us : List U} {i : Nat} {u : U} (h : (enumU us)[i]? = some u) : ∃ x, us[i]? = some x ∧ u = .tup [.int (i : Nat), x] := by
  have hi : i < us.length := by
    have := (List.getElem?_eq_some_iff.mp h).1
    rw [enumU_len] at this
    exact this
  refine ⟨us[i], by simp [hi], ?_⟩
  simp [enumU, hi] at h
  exact h.symm
/-- a new pair -/
theorem pair_rep {S1 H : Hp} {T : Addr} {x y : V} {a b : U} (e : Same S1 H) (hT : H T = none) (ra : Rep κ S1 a x) (rb : Rep κ S1 b y) :
    ∃ S1', StpP κ S1 H S1' (upd H T (.tup [x, y])) ∧ Rep κ S1' (.tup [a, b]) (.ref T) := by
  have st : StpP κ S1 H (upd S1 T (.tup [x, y])) (upd H T (.tup [x, y])) := StpP.new1 e hT
  exact ⟨_, st, T, [x, y], rfl, upd_same, x, [y], rfl, Rep.mono st.sub a ra, y, [], rfl, Rep.mono st.sub b rb, rfl⟩
theorem itOk_enum {K : PySem.W.Frag} {a : Addr} {S A : Hp} {us : List U} {vs : List V} (h : A a = some (.lst vs)) (r : Reps κ S us vs) : ItOk κ (Ite K a) S A (enumU us) := by
  have wk := walk_enum (K := K) (a := a) (xs := vs)
  have hl := enumU_len us
  refine ⟨fun i H hi q => wk.goes i H (by rw [← r.len, ← hl]; exact hi) (SqL.of (q _ _ h)), fun H q => by rw [hl, r.len]; exact wk.stops H (SqL.of (q _ _ h)), fun i H x H' S1 u hu e0 e1 e2 y => ?_⟩
  have hi : i < vs.length := by
    rw [← r.len, ← hl]
    exact (List.getElem?_eq_some_iff.mp hu).1
  obtain ⟨T, p, z, rfl, hT, rfl, h1, h2⟩ := wk.yields i H x H' hi (SqL.of (e0 _ _ h)) y
  obtain ⟨w, hw, rfl⟩ := enumU_get hu
  obtain ⟨v, hv, rv⟩ := r.get hw
  have h2 : vs[i]? = some z := h2
  rw [h2] at hv
  cases hv
  cases h1
  exact pair_rep e2 hT rfl (Rep.mono e1 w rv)
theorem simI_enum {K : PySem.W.Frag} {n : Nat} {t : TA} {m : M (List U)} (h : SimA κ ρ n t m) : SimI κ ρ (iEnum K t) (mEnum m) := by
  constructor
  intro σ S H F env gd items env' e R k
  obtain ⟨⟨x, e1⟩, h1, e⟩ := bindS e
  dsimp only at e
  split at e
  · rename_i us
    cases e
    refine h.run gd h1 _ fun vs S1 H1 F1 s1 g1 r => ?_
    obtain ⟨v, _, rfl, ⟨a, ws, rfl, ha, rs⟩, rfl⟩ := r
    exact ⟨a, ws, rfl, SqL.of (g1.wf.sub _ _ ha), k _ S1 H1 F1 s1 g1 (itOk_enum ha rs)⟩
  · cases e
/-- zip of two lists -/
def zipU (us ws : List U) : List U := (us.zip ws).map fun p => .tup [p.1, p.2]
def mZip (a : M (List U)) : M (List U) := fun env => (a env).bind fun x => match x.1 with
  | [.lst us, .lst ws] => some (zipU us ws, x.2)
  | _ => none
theorem zipU_len (us ws : List U) : (zipU us ws).length = min us.length ws.length := by simp [zipU]
theorem zipU_get {us ws : List U} {i : Nat} {u : U} (h : (zipU us ws)[i]? = some u) : ∃ x y, us[i]? = some x ∧ ws[i]? = some y ∧ u = .tup [x, y] := by
  simp [zipU, List.getElem?_map, List.getElem?_zip_eq_some] at h
  obtain ⟨a, b, ⟨h1, h2⟩, h3⟩ := h
  exact ⟨a, b, h1, h2, h3.symm⟩
theorem itOk_zip {K : PySem.W.Frag} {a b : Addr} {S A : Hp} {us ws : List U} {vs xs : List V} (h : A a = some (.lst vs)) (r : Reps κ S us vs) (h' : A b = some (.lst xs)) (r' : Reps κ S ws xs) : ItOk κ (Itz K a b) S A (zipU us ws) := by
  have wk := walk_zip (K := K) (a := a) (b := b) (xs := vs) (ys := xs) rfl
  have hl : (zipU us ws).length = min vs.length xs.length := by rw [zipU_len, r.len, r'.len]
  refine ⟨fun i H hi q => wk.goes i H (by rw [← hl]; exact hi) ⟨SqL.of (q _ _ h), SqL.of (q _ _ h')⟩, fun H q => by rw [hl]; exact wk.stops H ⟨SqL.of (q _ _ h), SqL.of (q _ _ h')⟩, fun i H x H' S1 u hu e0 e1 e2 y => ?_⟩
  have hi : i < min vs.length xs.length := by
    rw [← hl]
    exact (List.getElem?_eq_some_iff.mp hu).1
  obtain ⟨T, p, z, rfl, hT, rfl, h1, h2⟩ := wk.yields i H x H' hi ⟨SqL.of (e0 _ _ h), SqL.of (e0 _ _ h')⟩ y
  obtain ⟨w, w', hw, hw', rfl⟩ := zipU_get hu
  obtain ⟨v, hv, rv⟩ := r.get hw
  obtain ⟨v', hv', rv'⟩ := r'.get hw'
  have h1 : vs[i]? = some p := h1
  have h2 : xs[i]? = some z := h2
  rw [h1] at hv
  rw [h2] at hv'
  cases hv
  cases hv'
  exact pair_rep e2 hT (Rep.mono e1 w rv) (Rep.mono e1 w' rv')
theorem simI_zip {K : PySem.W.Frag} {n : Nat} {t : TA} {m : M (List U)} (h : SimA κ ρ n t m) : SimI κ ρ (iZip K t) (mZip m) := by
  constructor
  intro σ S H F env gd items env' e R k
  obtain ⟨⟨x, e1⟩, h1, e⟩ := bindS e
  dsimp only at e
  split at e
  · rename_i us ws
    cases e
    refine h.run gd h1 _ fun vs S1 H1 F1 s1 g1 r => ?_
    obtain ⟨v, _, rfl, ⟨a, vs, rfl, ha, rs⟩, w, _, rfl, ⟨b, xs, rfl, hb, rs'⟩, rfl⟩ := r
    exact ⟨a, b, vs, xs, rfl, SqL.of (g1.wf.sub _ _ ha), SqL.of (g1.wf.sub _ _ hb), k _ S1 H1 F1 s1 g1 (itOk_zip ha rs hb rs')⟩
  · cases e
end
end UL
set_option Elab.async false
set_option linter.all false
set_option maxRecDepth 100000
set_option maxHeartbeats 2000000
/-! places, lists that change, comprehensions -/
namespace UL
open PySem PySem.Spec PyProof.Rows L2 LV
inductive Sg where
  | f (n : Str) | i (k : Nat)
def ixF (n : Str) : List Str → Option Nat
  | [] => none
  | m :: r => if m = n then some 0 else (ixF n r).map (· + 1)
def get1 : Ow → Sg → Option Ow
  | .o _ ns ws, .f n => (ixF n ns).bind fun j => ws[j]?
  | .l ws, .i k => ws[k]?
  | _, _ => none
def put1 : Ow → Sg → Ow → Ow
  | .o c ns ws, .f n, w => match ixF n ns with
    | some j => .o c ns (ws.set j w)
    | none => .o c ns ws
  | .l ws, .i k, w => .l (ws.set k w)
  | x, _, _ => x
def getO : Ow → List Sg → Option Ow
  | w, [] => some w
  | w, s :: p => (get1 w s).bind fun x => getO x p
def putO : Ow → List Sg → Ow → Ow
  | _, [], w => w
  | x, s :: p, w => match get1 x s with
    | some y => put1 x s (putO y p w)
    | none => x
def getE (env : Env) (i : Nat) (p : List Sg) : Option Ow := match env[i]? with
  | some (some w) => getO w p
  | _ => none
def putE (env : Env) (i : Nat) (p : List Sg) (w : Ow) : Env := match env[i]? with
  | some (some x) => env.set i (some (putO x p w))
  | _ => env
theorem getO_snoc : ∀ (w : Ow) (p : List Sg) (s : Sg), getO w (p ++ [s]) = (getO w p).bind fun x => get1 x s
  | w, [], s => by
    show (get1 w s).bind _ = get1 w s
    cases get1 w s <;> rfl
  | w, a :: p, s => by
    show (get1 w a).bind _ = ((get1 w a).bind _).bind _
    cases get1 w a with
    | none => rfl
    | some x => exact getO_snoc x p s
theorem putO_snoc : ∀ (w : Ow) (p : List Sg) (s : Sg) (y x : Ow), getO w p = some y → (∃ z, get1 y s = some z) → putO w (p ++ [s]) x = putO w p (put1 y s x)
  | w, [], s, y, x, h, ⟨z, hz⟩ => by
    cases h
    show (match get1 w s with | some y => put1 w s (putO y [] x) | none => w) = put1 w s x
    rw [hz]
    rfl
  | w, a :: p, s, y, x, h, hz => by
    show (match get1 w a with | some y => put1 w a (putO y (p ++ [s]) x) | none => w) = (match get1 w a with | some y' => put1 w a (putO y' p (put1 y s x)) | none => w)
    obtain ⟨b, hb, h⟩ := bindS (show (get1 w a).bind _ = some y from h)
    rw [hb]
    show put1 w a _ = put1 w a _
    rw [putO_snoc b p s y x h hz]
section
variable {κ : String → Addr} {ρ : Bool} {fx : Nat → Bool} {σ : L2.St} {S H : Hp} {F : List Addr} {env : Env}
theorem set_id {α : Type} {l : List α} {i : Nat} {x : α} (h : l[i]? = some x) : l.set i x = l := by
  apply List.ext_getElem?
  intro j
  by_cases hj : j = i
  · subst hj
    rw [h, List.getElem?_set_self (List.getElem?_eq_some_iff.mp h).1]
  · rw [List.getElem?_set_ne (Ne.symm hj)]
/-- one of several owned things -/
theorem RepOs.get : ∀ {ws : List Ow} {vs : List V} {F : List Addr} {j : Nat} {w : Ow}, RepOs κ S H ws vs F → ws[j]? = some w →
    ∃ v F1 F2 F3, vs[j]? = some v ∧ F = F1 ++ F2 ++ F3 ∧ RepO κ S H w v F2 ∧
      ∀ {S' H' : Hp} {w' : Ow} {F2' : List Addr} {v' : V}, Same S S' → (∀ a, a ∈ F1 ∨ a ∈ F3 → H' a = H a) → RepO κ S' H' w' v' F2' → RepOs κ S' H' (ws.set j w') (vs.set j v') (F1 ++ F2' ++ F3)
  | [], _, _, _, _, _, e => by simp at e
  | x :: ws, _, _, 0, w, h, e => by
    obtain ⟨v, vs', F1, F2, rfl, rfl, h1, h2⟩ := h
    simp at e
    subst e
    exact ⟨v, [], F1, F2, rfl, by simp, h1, fun {S' H' w' F2' v'} e k h => ⟨v', vs', F2', F2, rfl, by simp, h, RepOs.mono e ws (fun a ha => k a (.inr ha)) h2⟩⟩
  | x :: ws, _, _, j + 1, w, h, e => by
    obtain ⟨v, vs', F1, F2, rfl, rfl, h1, h2⟩ := h
    obtain ⟨v', A, B, C, g1, rfl, g3, g4⟩ := RepOs.get (j := j) h2 (by simpa using e)
    refine ⟨v', F1 ++ A, B, C, by simpa using g1, by simp, g3, fun {S' H' w' F2' v2} e k h => ⟨v, vs'.set j v2, F1, A ++ F2' ++ C, rfl, by simp, RepO.mono e x (fun a ha => k a (.inl (by simp [ha]))) h1, g4 e (fun a ha => k a ?_) h⟩⟩
    rcases ha with ha | ha
    · exact .inl (by simp [ha])
    · exact .inr ha
theorem RepOs.len : ∀ {ws : List Ow} {vs : List V} {F : List Addr}, RepOs κ S H ws vs F → ws.length = vs.length
  | [], _, _, h => by
    rw [h.1]
    rfl
  | _ :: _, _, _, h => by
    obtain ⟨v, vs', F1, F2, rfl, rfl, h1, h2⟩ := h
    simp [RepOs.len h2]
theorem RepOs.app : ∀ {ws ws2 : List Ow} {vs vs2 : List V} {F F2 : List Addr}, RepOs κ S H ws vs F → RepOs κ S H ws2 vs2 F2 → RepOs κ S H (ws ++ ws2) (vs ++ vs2) (F ++ F2)
  | [], _, _, _, _, _, h, h2 => by
    obtain ⟨rfl, rfl⟩ := h
    exact h2
  | w :: ws, _, _, _, _, _, h, h2 => by
    obtain ⟨v, vs', A, B, rfl, rfl, h1, h3⟩ := h
    exact ⟨v, _, A, B ++ _, rfl, by simp, h1, RepOs.app h3 h2⟩
theorem RepOs.split : ∀ {ws : List Ow} {vs : List V} {F : List Addr} (n : Nat), RepOs κ S H ws vs F → ∃ F1 F2, F = F1 ++ F2 ∧ RepOs κ S H (ws.take n) (vs.take n) F1 ∧ RepOs κ S H (ws.drop n) (vs.drop n) F2
  | ws, vs, F, 0, h => ⟨[], F, rfl, ⟨rfl, rfl⟩, h⟩
  | [], _, _, n + 1, h => by
    obtain ⟨rfl, rfl⟩ := h
    exact ⟨[], [], rfl, ⟨rfl, rfl⟩, ⟨rfl, rfl⟩⟩
  | w :: ws, _, _, n + 1, h => by
    obtain ⟨v, vs', A, B, rfl, rfl, h1, h2⟩ := h
    obtain ⟨C, D, rfl, h3, h4⟩ := RepOs.split n h2
    exact ⟨A ++ C, D, by simp, ⟨v, _, A, C, rfl, rfl, h1, h3⟩, h4⟩
/-! places -/
def Loc (κ : String → Addr) (σ : L2.St) (S H : Hp) (F : List Addr) (env : Env) (i : Nat) (p : List Sg) (w : Ow) (v : V) : Prop :=
  ∃ F1 F2 F3, F = F1 ++ F2 ++ F3 ∧ RepO κ S H w v F2 ∧ ∀ {S' H' : Hp} {w' : Ow} {F2' : List Addr}, Same S S' → (∀ a, a ∈ F1 ∨ a ∈ F3 → H' a = H a) → RepO κ S' H' w' v F2' → EnvOk κ S' H' σ (putE env i p w') (F1 ++ F2' ++ F3)
theorem Loc.pure_ {S1 H1 : Hp} {i : Nat} {p : List Sg} {w : Ow} {v : V} (g : Gd κ σ S H F env) (s : Same S S1) (k : Same H H1) (h : Loc κ σ S H F env i p w v) : Loc κ σ S1 H1 F env i p w v := by
  have kf : ∀ x ∈ F, H1 x = H x := fun x hx => by
    obtain ⟨o, ho, _⟩ := g.env.foot x hx
    rw [k x o ho, ho]
  obtain ⟨F1, F2, F3, rfl, h2, h3⟩ := h
  refine ⟨F1, F2, F3, rfl, RepO.mono s w (fun a ha => kf a (by simp [ha])) h2, fun e k h => h3 (s.trans e) (fun a ha => (k a ha).trans (kf a ?_)) h⟩
  rcases ha with ha | ha <;> simp [ha]
theorem loc_root (g : Gd κ σ S H F env) {i : Nat} {w : Ow} (e : env[i]? = some (some w)) : ∃ v, σ[i]? = some (some v) ∧ Loc κ σ S H F env i [] w v := by
  obtain ⟨s, F1, F2, F3, h1, rfl, ⟨v, rfl, h3⟩, h4⟩ := g.env.get e
  refine ⟨v, h1, F1, F2, F3, rfl, h3, fun {S' H' w' F2'} e' k h => ?_⟩
  have q := h4 (s' := some v) (w' := some w') (F2' := F2') e' k ⟨v, rfl, h⟩
  rw [set_id h1] at q
  show EnvOk κ S' H' σ (putE env i [] w') _
  unfold putE
  rw [e]
  exact q
theorem loc_ix {i : Nat} {p : List Sg} {ws : List Ow} {v : V} {k : Nat} {w : Ow} (h : Loc κ σ S H F env i p (.l ws) v) (hp : getE env i p = some (.l ws)) (hk : ws[k]? = some w) :
    ∃ a vs v1, v = .ref a ∧ H a = some (.lst vs) ∧ vs[k]? = some v1 ∧ Loc κ σ S H F env i (p ++ [.i k]) w v1 := by
  obtain ⟨F1, F2, F3, rfl, ⟨a, vs, F', rfl, ha, rfl, hs⟩, h3⟩ := h
  obtain ⟨v1, G1, G2, G3, g1, rfl, g3, g4⟩ := hs.get hk
  refine ⟨a, vs, v1, rfl, ha, g1, F1 ++ a :: G1, G2, G3 ++ F3, by simp, g3, fun {S' H' w' F2'} e kk r => ?_⟩
  have q := h3 (S' := S') (H' := H') (w' := .l (ws.set k w')) (F2' := a :: (G1 ++ F2' ++ G3)) e (fun x hx => kk x (by
    rcases hx with hx | hx
    · exact .inl (by simp [hx])
    · exact .inr (by simp [hx]))) ⟨a, vs, G1 ++ F2' ++ G3, rfl, (kk a (.inl (by simp))).trans ha, rfl, by
      have z := g4 (v' := v1) e (fun x hx => kk x (by
        rcases hx with hx | hx
        · exact .inl (by simp [hx])
        · exact .inr (by simp [hx]))) r
      rw [set_id g1] at z
      exact z⟩
  have e2 : putE env i (p ++ [.i k]) w' = putE env i p (.l (ws.set k w')) := by
    unfold putE getE at *
    split at hp
    · rename_i x hx
      show env.set i _ = env.set i _
      rw [putO_snoc x p (.i k) (.l ws) w' hp ⟨w, hk⟩]
      rfl
    · cases hp
  rw [e2]
  simpa using q
theorem zip_get {ns : List Str} {vs : List V} {n : Str} {j : Nat} (h : ixF n ns = some j) (hl : ns.length = vs.length) : (ns.zip vs).lookup n = vs[j]? := by
  induction ns generalizing vs j with
  | nil => cases h
  | cons m r ih =>
    cases vs with
    | nil => simp at hl
    | cons x vs =>
      unfold ixF at h
      by_cases hm : m = n
      · rw [if_pos hm] at h
        cases h
        subst hm
        simp [List.lookup]
      · rw [if_neg hm] at h
        obtain ⟨j', hj, rfl⟩ := Option.map_eq_some_iff.mp h
        have hb : (n == m) = false := beq_eq_false_iff_ne.mpr (Ne.symm hm)
        simp only [List.zip_cons_cons, List.lookup, hb]
        rw [ih hj (by simpa using hl)]
        rfl
theorem loc_fld {i : Nat} {p : List Sg} {c : String} {ns : List Str} {ws : List Ow} {v : V} {n : Str} {w : Ow} (h : Loc κ σ S H F env i p (.o c ns ws) v) (hp : getE env i p = some (.o c ns ws)) (hk : get1 (.o c ns ws) (.f n) = some w) :
    ∃ a dx vs v1, v = .ref a ∧ H a = some (.ins (κ c) dx (ns.zip vs)) ∧ (ns.zip vs).lookup n = some v1 ∧ Loc κ σ S H F env i (p ++ [.f n]) w v1 := by
  obtain ⟨F1, F2, F3, rfl, ⟨a, dx, vs, F', rfl, ha, hx, hl, rfl, hs⟩, h3⟩ := h
  obtain ⟨j, hj, hw⟩ := bindS (show (ixF n ns).bind (fun j => ws[j]?) = some w from hk)
  obtain ⟨v1, G1, G2, G3, g1, rfl, g3, g4⟩ := hs.get hw
  refine ⟨a, dx, vs, v1, rfl, ha, by rw [zip_get hj hl, g1], F1 ++ a :: G1, G2, G3 ++ F3, by simp, g3, fun {S' H' w' F2'} e kk r => ?_⟩
  have q := h3 (S' := S') (H' := H') (w' := .o c ns (ws.set j w')) (F2' := a :: (G1 ++ F2' ++ G3)) e (fun x hx => kk x (by
    rcases hx with hx | hx
    · exact .inl (by simp [hx])
    · exact .inr (by simp [hx]))) ⟨a, dx, vs, G1 ++ F2' ++ G3, rfl, (kk a (.inl (by simp))).trans ha, hx, hl, rfl, by
      have z := g4 (v' := v1) e (fun x hx => kk x (by
        rcases hx with hx | hx
        · exact .inl (by simp [hx])
        · exact .inr (by simp [hx]))) r
      rw [set_id g1] at z
      exact z⟩
  have e2 : putE env i (p ++ [.f n]) w' = putE env i p (.o c ns (ws.set j w')) := by
    unfold putE getE at *
    split at hp
    · rename_i x hx
      show env.set i _ = env.set i _
      rw [putO_snoc x p (.f n) (.o c ns ws) w' hp ⟨w, hk⟩]
      show env.set i (some (putO x p (match ixF n ns with | some j => .o c ns (ws.set j w') | none => .o c ns ws))) = _
      rw [hj]
    · cases hp
  rw [e2]
  simpa using q
/-- what stands at a place is exchanged for what has the same foot -/
theorem Loc.upd (g : Gd κ σ S H F env) {i : Nat} {p : List Sg} {ws : List Ow} {v : V} (h : Loc κ σ S H F env i p (.l ws) v) : ∃ a vs F', v = .ref a ∧ H a = some (.lst vs) ∧ RepOs κ S H ws vs F' ∧ (∀ x ∈ F', x ∈ F) ∧
    ∀ {ws' : List Ow} {vs' : List V} {F2 : List Addr}, RepOs κ S H ws' vs' F2 → List.Sublist F2 F' → ∃ F3, Gd κ σ S (L2.upd H a (.lst vs')) F3 (putE env i p (.l ws')) ∧ Stp κ S H F S (L2.upd H a (.lst vs')) F3 := by
  obtain ⟨F1, F2, F3, rfl, ⟨a, vs, F', rfl, ha, rfl, hs⟩, h3⟩ := h
  have nd := g.wf.nd
  refine ⟨a, vs, F', rfl, ha, hs, fun x hx => by simp [hx], fun {ws' vs' G} r sb => ?_⟩
  obtain ⟨_, nd2⟩ := nodup_mid nd
  obtain ⟨na1, na3⟩ := nd2 a (by simp)
  have naF : a ∉ F' := by
    have := (List.nodup_append.mp (List.nodup_append.mp nd).1).2.1
    exact (List.nodup_cons.mp this).1
  have naG : a ∉ G := fun z => naF (sb.subset z)
  have q := h3 (S' := S) (H' := L2.upd H a (.lst vs')) (w' := .l ws') (F2' := a :: G) (fun _ _ h => h) (fun x hx => upd_ne (fun z => by
    subst z
    rcases hx with hx | hx
    · exact na1 hx
    · exact na3 hx)) ⟨a, vs', G, rfl, upd_same, rfl, RepOs.mono (fun _ _ h => h) ws' (fun x hx => upd_ne (fun z => naG (z ▸ hx))) r⟩
  have mem : ∀ x ∈ F1 ++ (a :: G) ++ F3, x ∈ F1 ++ (a :: F') ++ F3 := fun x hx => by
    simp only [List.mem_append, List.mem_cons] at hx ⊢
    rcases hx with (hx | hx | hx) | hx
    · simp [hx]
    · simp [hx]
    · simp [sb.subset hx]
    · simp [hx]
  refine ⟨F1 ++ (a :: G) ++ F3, ⟨⟨fun b o hb => ?_, ?_, fun x hx => g.wf.out x (mem x hx)⟩, q⟩, ⟨fun b o hb hh => ?_, fun b hb => ?_, fun _ _ h => h, fun _ _ h => .inl h, fun x hx => .inl (mem x hx)⟩⟩
  · rw [upd_ne (fun z => by
      subst z
      rw [g.wf.out b (by simp)] at hb
      cases hb)]
    exact g.wf.sub b o hb
  · exact List.Nodup.sublist (((List.Sublist.refl F1).append ((sb.cons_cons a))).append (List.Sublist.refl F3)) nd
  · rw [upd_ne (fun z => hb (by subst z; simp))]
    exact hh
  · by_cases z : b = a
    · subst z
      rw [upd_same] at hb
      cases hb
    · rw [upd_ne z] at hb
      exact hb
end
/-! mirrors of what changes a list: the root of a name -/
def isL (env : Env) (i : Nat) : Option Unit := match env[i]? with
  | some (some (.l _)) => some ()
  | _ => none
def isI : U → Option Int
  | .int i => some i
  | _ => none
def mAppV (i : Nat) (a : M U) : M U := fun env => (isL env i).bind fun _ => (a env).bind fun x => match x.2[i]? with
  | some (some (.l ws)) => if ws.length < sizeLine then some (.non, x.2.set i (some (.l (ws ++ [.p x.1])))) else none
  | _ => none
def mExtV (i : Nat) (a : M U) : M U := fun env => (isL env i).bind fun _ => (a env).bind fun x => match x.2[i]? with
  | some (some (.l ws)) => match x.1 with
    | .lst us => if ws.length + us.length ≤ sizeLine then some (.non, x.2.set i (some (.l (ws ++ us.map .p)))) else none
    | _ => none
  | _ => none
def mInsV (i : Nat) (k a : M U) : M U := fun env => (isL env i).bind fun _ => (k env).bind fun y => (a y.2).bind fun x => match x.2[i]? with
  | some (some (.l ws)) => (isI y.1).bind fun j => if ws.length < sizeLine ∧ 0 ≤ j ∧ j < 2 ^ 63 then some (.non, x.2.set i (some (.l (ws.take j.toNat ++ [.p x.1] ++ ws.drop j.toNat)))) else none
  | _ => none
def isP : Ow → Option U
  | .p u => some u
  | _ => none
def mPopV (i : Nat) : M U := fun env => match env[i]? with
  | some (some (.l ws)) => (ws[ws.length - 1]?).bind fun w => (isP w).bind fun u => some (u, env.set i (some (.l ws.dropLast)))
  | _ => none
def mIxV (i : Nat) (k : M U) : M U := fun env => (isL env i).bind fun _ => (k env).bind fun y => match y.2[i]? with
  | some (some (.l ws)) => (isI y.1).bind fun j => (atI ws j).bind fun w => (isP w).bind fun u => some (u, y.2)
  | _ => none
def mLenV (i : Nat) : M U := fun env => match env[i]? with
  | some (some (.l ws)) => some (.int ws.length, env)
  | _ => none
/-- x[k] = e -/
def sSetV (i : Nat) (k a : M U) : MS := fun env => (a env).bind fun x => (isL x.2 i).bind fun _ => (k x.2).bind fun y => match y.2[i]? with
  | some (some (.l ws)) => (isI y.1).bind fun j => (ixN ws.length j).bind fun n => (ws[n]?).bind fun w => (isP w).bind fun _ => some (.nx (y.2.set i (some (.l (ws.set n (.p x.1))))))
  | _ => none
section
variable {κ : String → Addr} {ρ : Bool} {fx : Nat → Bool} {K : PySem.W.Frag}
theorem putE_root {env : Env} {i : Nat} {w w' : Ow} (e : env[i]? = some (some w)) : putE env i [] w' = env.set i (some w') := by
  unfold putE
  rw [e]
  rfl
theorem tyLst {H : Hp} {a : Addr} {vs : List V} (h : H a = some (.lst vs)) : tyV K "list" (.ref a) H := .inl ⟨rfl, vs, SqL.of h⟩
theorem isL_ty {σ : L2.St} {S H : Hp} {F : List Addr} {env : Env} (g : Gd κ σ S H F env) {i : Nat} {u : Unit} (h : isL env i = some u) : ∃ v, σ[i]? = some (some v) ∧ tyV K "list" v H := by
  unfold isL at h
  split at h
  · rename_i ws hw
    obtain ⟨v, hv, loc⟩ := loc_root g hw
    obtain ⟨a, vs, F', rfl, ha, _⟩ := loc.upd g
    exact ⟨_, hv, tyLst ha⟩
  · cases h
theorem isP_eq {w : Ow} {u : U} (h : isP w = some u) : w = .p u := by
  cases w <;> first
    | (cases h; rfl)
    | cases h
theorem isI_eq {x : U} {i : Int} (h : isI x = some i) : x = .int i := by
  cases x <;> first
    | (cases h; rfl)
    | cases h
theorem one_p {S H : Hp} {u : U} {v : V} (r : Rep κ S u v) : RepOs κ S H [.p u] [v] [] := ⟨v, [], [], [], rfl, rfl, ⟨rfl, r⟩, rfl, rfl⟩
theorem simE_appV {i : Nat} {te : TE} {me : M U} (h : SimE κ false te me) : SimE κ false (tBM K "list" rAppend (tVar i) (tCons te tNil)) (mAppV i me) := by
  constructor
  intro σ S H F env g u env' e Q k
  obtain ⟨_, h0, e⟩ := bindS e
  obtain ⟨⟨x, e1⟩, h1, e⟩ := bindS e
  obtain ⟨v, hv, ty⟩ := isL_ty (K := K) g h0
  dsimp only at e
  split at e
  · rename_i ws hw
    split at e
    · rename_i hz
      cases e
      refine ⟨v, hv, ty, h.run g h1 _ fun v1 S1 H1 F1 s1 g1 r1 => ?_⟩
      obtain ⟨v', hv', loc⟩ := loc_root g1 hw
      rw [hv] at hv'
      cases hv'
      obtain ⟨a, vs, F', rfl, ha, rs, _, up⟩ := loc.upd g1
      obtain ⟨F3, g3, s3⟩ := up (rs.app (one_p r1)) (by simp)
      rw [putE_root hw] at g3
      exact ⟨a, vs, v1, rfl, rfl, ha, by rw [← rs.len]; exact hz, k _ _ _ _ ((s1.stp.trans s3).stq) g3 rfl⟩
    · cases e
  · cases e
theorem simE_extV {i : Nat} {te : TE} {me : M U} (h : SimE κ false te me) : SimE κ false (tBM K "list" rExtend (tVar i) (tCons te tNil)) (mExtV i me) := by
  constructor
  intro σ S H F env g u env' e Q k
  obtain ⟨_, h0, e⟩ := bindS e
  obtain ⟨⟨x, e1⟩, h1, e⟩ := bindS e
  obtain ⟨v, hv, ty⟩ := isL_ty (K := K) g h0
  dsimp only at e
  split at e
  · rename_i ws hw
    split at e
    · rename_i us
      split at e
      · rename_i hz
        cases e
        refine ⟨v, hv, ty, h.run g h1 _ fun v1 S1 H1 F1 s1 g1 r1 => ?_⟩
        obtain ⟨b, zs, rfl, hb, rz⟩ := r1
        obtain ⟨v', hv', loc⟩ := loc_root g1 hw
        rw [hv] at hv'
        cases hv'
        obtain ⟨a, vs, F', rfl, ha, rs, _, up⟩ := loc.upd g1
        obtain ⟨F3, g3, s3⟩ := up (rs.app (RepOs.pure_ rz)) (by simp)
        rw [putE_root hw] at g3
        exact ⟨a, b, vs, zs, rfl, rfl, ha, g1.wf.sub _ _ hb, by rw [← rs.len, ← rz.len]; exact hz, k _ _ _ _ ((s1.stp.trans s3).stq) g3 rfl⟩
      · cases e
    · cases e
  · cases e
/-- list.insert's reading -/
def rInsert : V → List V → Hp → VK → Prop := fun x vs H Q => ∃ (l : Addr) (xs : List V) (i : Int) (y : V), x = .ref l ∧ vs = [.int i, y] ∧ H l = some (.lst xs) ∧ xs.length < sizeLine ∧ 0 ≤ i ∧ i < 2 ^ 63 ∧
    Q .non (upd H l (.lst (xs.take i.toNat ++ [y] ++ xs.drop i.toNat)))
theorem simE_insV {i : Nat} {tk te : TE} {mk me : M U} (hk : SimE κ false tk mk) (h : SimE κ false te me) : SimE κ false (tBM K "list" rInsert (tVar i) (tCons tk (tCons te tNil))) (mInsV i mk me) := by
  constructor
  intro σ S H F env g u env' e Q k
  obtain ⟨_, h0, e⟩ := bindS e
  obtain ⟨⟨y, e0⟩, h2, e⟩ := bindS e
  obtain ⟨⟨x, e1⟩, h1, e⟩ := bindS e
  obtain ⟨v, hv, ty⟩ := isL_ty (K := K) g h0
  dsimp only at e
  split at e
  · rename_i ws hw
    obtain ⟨j, hj, e'⟩ := bindS e
    clear e
    · have := isI_eq hj
      subst this
      split at e'
      · rename_i hz
        cases e'
        refine ⟨v, hv, ty, hk.run g h2 _ fun v0 S0 H0 F0 s0 g0 r0 => h.run g0 h1 _ fun v1 S1 H1 F1 s1 g1 r1 => ?_⟩
        have r0 : v0 = .int j := r0
        subst r0
        obtain ⟨v', hv', loc⟩ := loc_root g1 hw
        rw [hv] at hv'
        cases hv'
        obtain ⟨a, vs, F', rfl, ha, rs, _, up⟩ := loc.upd g1
        obtain ⟨A, B, rfl, ra, rb⟩ := rs.split j.toNat
        obtain ⟨F3, g3, s3⟩ := up ((ra.app (one_p r1)).app rb) (by simp)
        rw [putE_root hw] at g3
        exact ⟨a, vs, j, v1, rfl, rfl, ha, by rw [← rs.len]; exact hz.1, hz.2.1, hz.2.2, k _ _ _ _ (((s0.trans s1).stp.trans s3).stq) g3 rfl⟩
      · cases e'
  · cases e
theorem RepOs.last {S H : Hp} {ws : List Ow} {vs : List V} {F : List Addr} {u : U} (h : RepOs κ S H ws vs F) (e : ws[ws.length - 1]? = some (.p u)) : ∃ v, vs[vs.length - 1]? = some v ∧ Rep κ S u v ∧ RepOs κ S H ws.dropLast vs.dropLast F := by
  have hl := h.len
  obtain ⟨v, F1, F2, F3, h1, rfl, ⟨rfl, h3⟩, _⟩ := h.get e
  have hlt : ws.length - 1 < ws.length := (List.getElem?_eq_some_iff.mp e).1
  obtain ⟨A, B, hAB, ra, rb⟩ := h.split (ws.length - 1)
  have ed : ws.drop (ws.length - 1) = [.p u] := by
    rw [List.drop_eq_getElem_cons hlt]
    have : ws[ws.length - 1] = .p u := by
      have := (List.getElem?_eq_some_iff.mp e).2
      exact this
    rw [this, List.drop_of_length_le (by omega)]
  rw [ed] at rb
  obtain ⟨v', vs', G1, G2, _, rfl, ⟨rfl, _⟩, _, rfl⟩ := rb
  refine ⟨v, by rw [← hl]; exact h1, h3, ?_⟩
  rw [hAB, List.dropLast_eq_take, List.dropLast_eq_take, ← hl]
  simpa using ra
theorem simE_popV {i : Nat} : SimE κ false (tBM0 K "list" rPop (tVar i)) (mPopV i) := by
  constructor
  intro σ S H F env g u env' e Q k
  unfold mPopV at e
  split at e
  · rename_i ws hw
    obtain ⟨w, h1, e⟩ := bindS e
    obtain ⟨u', h2, e⟩ := bindS e
    cases e
    have := isP_eq h2
    subst this
    obtain ⟨v, hv, loc⟩ := loc_root g hw
    obtain ⟨a, vs, F', rfl, ha, rs, _, up⟩ := loc.upd g
    obtain ⟨y, hy, ry, rd⟩ := rs.last h1
    obtain ⟨F3, g3, s3⟩ := up rd (List.Sublist.refl _)
    rw [putE_root hw] at g3
    exact ⟨_, hv, tyLst ha, a, vs, y, rfl, rfl, ha, hy, k _ _ _ _ s3.stq g3 ry⟩
  · cases e
theorem atI_map {ws : List Ow} {vs : List V} {j : Int} {w : Ow} (hl : ws.length = vs.length) (h : atI ws j = some w) : ∃ n : Nat, ws[n]? = some w ∧ atI vs j = vs[n]? := by
  obtain ⟨n, h1, h2⟩ := bindS (show (ixN ws.length j).bind (fun n => ws[n]?) = some w from h)
  refine ⟨n, h2, ?_⟩
  show (ixN vs.length j).bind _ = _
  rw [← hl, h1]
  rfl
theorem simE_ixV {i : Nat} {tk : TE} {mk : M U} (hk : SimE κ ρ tk mk) : SimE κ ρ (tOp (rIxL K) (tVar i) tk) (mIxV i mk) := by
  constructor
  intro σ S H F env g u env' e Q k
  obtain ⟨_, h0, e⟩ := bindS e
  obtain ⟨⟨y, e0⟩, h2, e⟩ := bindS e
  obtain ⟨v, hv, _⟩ := isL_ty (K := K) g h0
  dsimp only at e
  split at e
  · rename_i ws hw
    obtain ⟨j, h3, e⟩ := bindS e
    obtain ⟨w, h4, e⟩ := bindS e
    obtain ⟨u', h5, e⟩ := bindS e
    cases e
    have := isP_eq h5
    subst this
    have := isI_eq h3
    subst this
    refine ⟨v, hv, hk.run g h2 _ fun v0 S0 H0 F0 s0 g0 r0 => ?_⟩
    have r0 : v0 = .int j := r0
    subst r0
    obtain ⟨v', hv', loc⟩ := loc_root g0 hw
    rw [hv] at hv'
    cases hv'
    obtain ⟨a, vs, F', rfl, ha, rs, _, up⟩ := loc.upd g0
    obtain ⟨n, hn, hv2⟩ := atI_map rs.len h4
    obtain ⟨y, A, B, C, hy, _, ⟨_, ry⟩, _⟩ := rs.get hn
    exact ⟨a, vs, j, y, rfl, rfl, SqL.of ha, by rw [hv2]; exact hy, k _ _ _ _ s0 g0 ry⟩
  · cases e
theorem simE_lenV {i : Nat} : SimE κ ρ (tCB (Evl.rLenS K) (tCons (tVar i) tNil)) (mLenV i) := by
  constructor
  intro σ S H F env g u env' e Q k
  unfold mLenV at e
  split at e
  · rename_i ws hw
    cases e
    obtain ⟨v, hv, loc⟩ := loc_root g hw
    obtain ⟨a, vs, F', rfl, ha, rs, _, up⟩ := loc.upd g
    exact ⟨_, hv, a, vs, rfl, .inl (SqL.of ha), k _ S H F (StpQ.refl S H F env) g (by rw [rs.len]; rfl)⟩
  · cases e
theorem sim_setV {i : Nat} {tk te : TE} {mk me : M U} (hk : SimE κ false tk mk) (h : SimE κ false te me) : SimS κ fx (tAsg te (gSub (tVar i) tk rSetL)) (sSetV i mk me) := by
  constructor
  intro σ S H F env g fl e D k
  obtain ⟨⟨x, e1⟩, h1, e⟩ := bindS e
  obtain ⟨_, h0, e⟩ := bindS e
  obtain ⟨⟨y, e0⟩, h2, e⟩ := bindS e
  dsimp only at e
  split at e
  · rename_i ws hw
    obtain ⟨j, h3, e⟩ := bindS e
    obtain ⟨n, h4, e⟩ := bindS e
    obtain ⟨w, h5, e⟩ := bindS e
    obtain ⟨u', h6, e⟩ := bindS e
    cases e
    have := isP_eq h6
    subst this
    have := isI_eq h3
    subst this
    refine h.run g h1 _ fun v1 S1 H1 F1 s1 g1 r1 => ?_
    obtain ⟨v, hv, _⟩ := isL_ty (K := []) g1 h0
    refine ⟨v, hv, hk.run g1 h2 _ fun v0 S0 H0 F0 s0 g0 r0 => ?_⟩
    have r0 : v0 = .int j := r0
    subst r0
    obtain ⟨v', hv', loc⟩ := loc_root g0 hw
    rw [hv] at hv'
    cases hv'
    obtain ⟨a, vs, F', rfl, ha, rs, _, up⟩ := loc.upd g0
    obtain ⟨y, A, B, C, hy, hF, ⟨rfl, ry⟩, rb⟩ := rs.get h5
    obtain ⟨F3, g3, s3⟩ := up (rb (w' := .p x) (v' := v1) (F2' := []) (fun _ _ h => h) (fun _ _ => rfl) ⟨rfl, Rep.mono s0.sub x r1⟩) (by rw [hF]; exact List.Sublist.refl _)
    rw [putE_root hw] at g3
    exact ⟨a, vs, j, n, rfl, rfl, ha, by rw [← rs.len]; exact h4, k _ _ _ _ ((s1.trans s0).stp.trans s3) g3 (Fix.refl fx σ)⟩
  · cases e
end
end UL
set_option Elab.async false
set_option linter.all false
set_option maxRecDepth 100000
set_option maxHeartbeats 2000000
/-! comprehensions; loops over what is owned -/
namespace UL
open PySem PySem.Spec PyProof.Rows L2 LV
def wipeE (env : Env) : List Nat → Env
  | [] => env
  | v :: vs => (wipeE env vs).set v none
def keepP (env : Env) (v : Nat) : Option Ow := match env[v]? with
  | some (some (.p u)) => some (.p u)
  | _ => none
def restE (env e : Env) : List Nat → Env
  | [] => e
  | v :: vs => (restE env e vs).set v (keepP env v)
def lcO (vs : List Nat) (g : MG) (tt : M Bool) (te : M U) : List U → List U → Env → Option (List U × Env)
  | [], acc, env => some (acc, env)
  | u :: us, acc, env => (g u (wipeE env vs)).bind fun e1 => (tt e1).bind fun b => if b.1 = true then (te b.2).bind fun y => if acc.length < sizeLine then lcO vs g tt te us (acc ++ [y.1]) (restE env y.2 vs) else none
    else lcO vs g tt te us acc (restE env b.2 vs)
def mLcL (vs : List Nat) (mi : M (List U)) (g : MG) (tt : M Bool) (te : M U) : M (List U) := fun env => (mi env).bind fun x => lcO vs g tt te x.1 [] x.2
def mLcO (vs : List Nat) (mi : M (List U)) (g : MG) (tt : M Bool) (te : M U) : M Ow := fun env => (mLcL vs mi g tt te env).bind fun x => some (.l (x.1.map .p), x.2)
def mLc (vs : List Nat) (mi : M (List U)) (g : MG) (tt : M Bool) (te : M U) : M U := fun env => (mLcL vs mi g tt te env).bind fun x => some (.lst x.1, x.2)
def mYes : M Bool := fun env => some (true, env)
section
variable {κ : String → Addr} {ρ : Bool} {fx : Nat → Bool} {K : PySem.W.Frag}
theorem simT_yes : SimT κ ρ tYes mYes := by
  constructor
  intro σ S H F env g b env' e Q k
  cases e
  exact k S H F (StpQ.refl S H F env) g
/-- a slot gets what owns nothing -/
theorem Gd.putN {σ : L2.St} {S H : Hp} {F : List Addr} {env : Env} (g : Gd κ σ S H F env) (i : Nat) {s : Option V} {w : Option Ow} (r : SlotOk κ S H s w []) :
    ∃ F', Gd κ (σ.set i s) S H F' (env.set i w) ∧ List.Sublist F' F := by
  have hl := g.env.len
  by_cases hi : i < env.length
  · have e : env[i]? = some env[i] := by simp [hi]
    obtain ⟨s0, F1, F2, F3, h1, rfl, h3, h4⟩ := g.env.get e
    have q := h4 (S' := S) (H' := H) (s' := s) (w' := w) (F2' := []) (fun _ _ h => h) (fun _ _ => rfl) r
    rw [List.append_nil] at q
    have sb : List.Sublist (F1 ++ F3) (F1 ++ F2 ++ F3) := by
      rw [List.append_assoc]
      exact (List.Sublist.refl F1).append (List.sublist_append_right F2 F3)
    exact ⟨F1 ++ F3, ⟨⟨g.wf.sub, List.Nodup.sublist sb g.wf.nd, fun a ha => g.wf.out a (sb.subset ha)⟩, q⟩, sb⟩
  · rw [set_ge hi, set_ge (by omega)]
    exact ⟨F, g, List.Sublist.refl F⟩
theorem Gd.wipe {σ : L2.St} {S H : Hp} {F : List Addr} {env : Env} (g : Gd κ σ S H F env) : ∀ vs : List Nat, ∃ F', Gd κ (L2.wipe σ vs) S H F' (wipeE env vs) ∧ List.Sublist F' F
  | [] => ⟨F, g, List.Sublist.refl F⟩
  | v :: vs => by
    obtain ⟨F1, g1, s1⟩ := Gd.wipe g vs
    obtain ⟨F2, g2, s2⟩ := g1.putN v (s := none) (w := none) rfl
    exact ⟨F2, g2, s2.trans s1⟩
def restS (σ τ : L2.St) : List Nat → L2.St
  | [] => τ
  | v :: vs => (restS σ τ vs).set v (σ[v]?.getD none)
theorem restS_len (σ τ : L2.St) : ∀ vs : List Nat, (restS σ τ vs).length = τ.length
  | [] => rfl
  | v :: vs => by
    unfold restS
    rw [List.length_set, restS_len σ τ vs]
theorem restS_get (σ τ : L2.St) (hl : τ.length = σ.length) (j : Nat) : ∀ vs : List Nat, (restS σ τ vs)[j]? = if j ∈ vs then σ[j]? else τ[j]?
  | [] => by simp [restS]
  | v :: vs => by
    unfold restS
    by_cases hj : v = j
    · subst hj
      by_cases hi : v < τ.length
      · have q : v < (restS σ τ vs).length := by
          rw [restS_len]
          exact hi
        have z : v < σ.length := by omega
        rw [List.getElem?_set_self q]
        simp [z]
      · have q : (restS σ τ vs).length ≤ v := by
          rw [restS_len]
          omega
        rw [List.set_eq_of_length_le q, restS_get σ τ hl v vs]
        have z : σ[v]? = none := List.getElem?_eq_none_iff.mpr (by omega)
        have z' : τ[v]? = none := List.getElem?_eq_none_iff.mpr (by omega)
        simp [z, z']
    · rw [List.getElem?_set_ne hj, restS_get σ τ hl j vs]
      have : j ≠ v := fun z => hj z.symm
      simp [this]
theorem restS_eq {σ τ : L2.St} {vs : List Nat} (hl : τ.length = σ.length) (h : ∀ j, j ∉ vs → τ[j]? = σ[j]?) : restS σ τ vs = σ := by
  apply List.ext_getElem?
  intro j
  rw [restS_get σ τ hl j vs]
  by_cases hj : j ∈ vs
  · rw [if_pos hj]
  · rw [if_neg hj]
    exact h j hj
theorem Gd.rest {σ τ : L2.St} {S H S0 H0 : Hp} {F F0 : List Addr} {env e : Env} (g : Gd κ τ S H F e) (g0 : Gd κ σ S0 H0 F0 env) (sb : Same S0 S) : ∀ vs : List Nat, ∃ F', Gd κ (restS σ τ vs) S H F' (restE env e vs) ∧ List.Sublist F' F
  | [] => ⟨F, g, List.Sublist.refl F⟩
  | v :: vs => by
    obtain ⟨F1, g1, s1⟩ := Gd.rest g g0 sb vs
    have r : SlotOk κ S H (σ[v]?.getD none) (keepP env v) [] := by
      unfold keepP
      split
      · rename_i u hu
        obtain ⟨x, hx, rx⟩ := g0.slot hu
        rw [hx]
        exact ⟨x, rfl, rfl, Rep.mono sb u rx⟩
      · rfl
    obtain ⟨F2, g2, s2⟩ := g1.putN v r
    exact ⟨F2, g2, s2.trans s1⟩
theorem wipe_same {σ τ : L2.St} {vs : List Nat} (h : Fix (fun j => !vs.contains j) (L2.wipe σ vs) τ) : L2.wipe τ vs = L2.wipe σ vs ∧ τ.length = σ.length ∧ ∀ j, j ∉ vs → τ[j]? = σ[j]? := by
  have hl : τ.length = σ.length := by rw [h.1, wipe_length]
  have ho : ∀ j, j ∉ vs → τ[j]? = σ[j]? := fun j hj => by
    rw [h.2 j (by simpa using hj), wipe_out hj]
  refine ⟨?_, hl, ho⟩
  apply List.ext_getElem?
  intro j
  by_cases hj : j ∈ vs
  · cases q : (L2.wipe τ vs)[j]? with
    | none =>
      have : τ.length ≤ j := by
        have := List.getElem?_eq_none_iff.mp q
        rwa [wipe_length] at this
      exact (List.getElem?_eq_none_iff.mpr (by rw [wipe_length]; omega)).symm
    | some x =>
      have hx : x = none := by
        cases x with
        | none => rfl
        | some v => exact absurd hj (wipe_some q).2
      subst hx
      have hlt : j < σ.length := by
        have := (List.getElem?_eq_some_iff.mp q).1
        rwa [wipe_length, hl] at this
      cases q2 : (L2.wipe σ vs)[j]? with
      | none =>
        have := List.getElem?_eq_none_iff.mp q2
        rw [wipe_length] at this
        omega
      | some y =>
        cases y with
        | none => rfl
        | some v => exact absurd hj (wipe_some q2).2
  · rw [wipe_out hj, wipe_out hj, ho j hj]
/-- an owned place apart stays -/
theorem Stp.apart {S H S' H' : Hp} {F F' : List Addr} {D : Addr} {o : HO} (s : Stp κ S H F S' H' F') (w : Same S' H') (h1 : H D = some o) (h2 : D ∉ F) (h3 : S D = none) (nx : ¬ XObj κ o) : H' D = some o ∧ D ∉ F' ∧ S' D = none := by
  have h4 := s.keep D o h2 h1
  refine ⟨h4, fun z => ?_, ?_⟩
  · rcases s.foot D z with z | z
    · exact h2 z
    · rw [h1] at z
      cases z
  · cases q : S' D with
    | none => rfl
    | some u =>
      have := w D u q
      rw [h4] at this
      cases this
      rcases s.new D _ q with z | z | z | z
      · rw [h3] at z
        cases z
      · rw [h1] at z
        cases z
      · exact (nx z).elim
      · exact (h2 z).elim
theorem lc_core {J : It} {g : TG} {mg : MG} {tt : TT} {mt : M Bool} {te : TE} {me : M U} {vs : List Nat} {σ : L2.St} {S H A : Hp} {F : List Addr} {env env' : Env} {items res : List U} (gd : Gd κ σ S H F env) (ok : ItOk κ J S A items) (ka : KeepA A S H F)
    (hg : SimG κ (fun j => !vs.contains j) g mg) (ht : SimT κ false tt mt) (he : SimE κ false te me) (e : lcO vs mg mt me items [] env = some (res, env')) {D : Addr} (hD : H D = none) (Q : Hp → Prop)
    (k : ∀ S' H' F' vs, Stp κ S H F S' H' (F' ++ [D]) → Gd κ σ S' H' F' env' → WF S' H' (F' ++ [D]) → H' D = some (.lst vs) → Reps κ S' res vs → Q H') :
    ∃ W : Nat → Nat → Hp → Prop, (∃ m, W 0 m (upd H D (.lst []))) ∧ ∀ i m H, W i m H →
      (J.stop i H ∧ Q H) ∨ (J.go i H ∧ ∃ Nx : Hp → Prop, (∀ H', Nx H' → ∃ m', m' < m ∧ W (i + 1) m' H') ∧ ∀ x H', J.yld i H x H' → g x (L2.wipe σ vs) H' fun σ2 H2 => L2.wipe σ2 vs = L2.wipe σ vs ∧ tt σ2 H2 fun b H3 =>
        if b = true then te σ2 H3 fun y H4 => ∃ acc, H4 D = some (.lst acc) ∧ acc.length < sizeLine ∧ Nx (upd H4 D (.lst (acc ++ [y]))) else Nx H3) := by
  obtain ⟨n1, n2, n3⟩ := new_owned (o := .lst []) gd hD
  have kA : ∀ {S' H' : Hp} {F' : List Addr}, Stp κ S H F S' H' F' → Same S' H' → Same A H' := fun s w => ka.go s w
  have wk : Walk J items.length (fun H => Same A H) (fun i H x H' => J.yld i H x H') := ⟨fun i H hi q => ok.go i H hi q, fun H q => ok.stop H q, fun _ _ _ _ _ _ y => y⟩
  refine lc_it wk (fun i Hc => ∃ S' F' env1 acc av, Stp κ S H F S' Hc (F' ++ [D]) ∧ Gd κ σ S' Hc F' env1 ∧ D ∉ F' ∧ S' D = none ∧ Hc D = some (.lst av) ∧ Reps κ S' acc av ∧ lcO vs mg mt me (items.drop i) acc env1 = some (res, env')) ?_ ?_ ?_ ?_
  · refine ⟨S, F, env, [], [], n1, n2, fun z => ?_, n3.out D (by simp), upd_same, rfl, e⟩
    exact (List.nodup_append.mp n3.nd).2.2 D z D (by simp) rfl
  · rintro i Hc _ ⟨S', F', env1, acc, av, s', g', _⟩
    exact kA s' g'.wf.sub
  · rintro i x Hc H2 hlt ⟨S', F', env1, acc, av, s', g', dF, dS, hd, ra, e⟩ y
    obtain ⟨u, hu, hdr⟩ := drop_some hlt
    rw [hdr] at e
    obtain ⟨e1, h1, e⟩ := bindS e
    obtain ⟨⟨b, e2⟩, h2, e⟩ := bindS e
    obtain ⟨S2, p2, r2⟩ := ok.yld i Hc x H2 S' u hu (kA s' g'.wf.sub) s'.sub g'.wf.sub y
    have g2 := g'.pure_ p2
    obtain ⟨F2, g3, sb⟩ := g2.wipe vs
    have nX : ∀ l : List V, ¬ XObj κ (.lst l) := fun l ⟨_, _, z⟩ => by cases z
    -- the new list stands apart
    obtain ⟨d1, d2, d3⟩ := (p2.stp (F := F')).apart p2.in_ hd dF dS (nX av)
    have d4 : D ∉ F2 := fun z => d2 (sb.subset z)
    have st2 : Stp κ S H F S2 H2 (F2 ++ [D]) := (s'.trans (p2.stp (F := F' ++ [D]))).less fun a ha => by
      simp only [List.mem_append] at ha ⊢
      exact ha.imp_left (fun z => sb.subset z)
    refine hg.run g3 r2 h1 _ fun σ3 S3 H3 F3 s3 g4 f3 => ?_
    obtain ⟨w1, w2, w3⟩ := wipe_same f3
    refine ⟨w1, ?_⟩
    refine ht.run g4 h2 _ fun S4 H4 F4 s4 g5 => ?_
    -- what is wanted behind a turn, from the state behind its last expression
    have fin : ∀ {S5 H5 : Hp} {F5 : List Addr} {e5 : Env} {acc' : List U} {av' : List V} {H6 : Hp}, Stp κ S2 H2 F2 S5 H5 F5 → Gd κ σ3 S5 H5 F5 e5 → Reps κ S5 acc' av' → H6 = upd H5 D (.lst av') → lcO vs mg mt me (items.drop (i + 1)) acc' (restE env1 e5 vs) = some (res, env') →
        ∃ S' F' env1 acc av, Stp κ S H F S' H6 (F' ++ [D]) ∧ Gd κ σ S' H6 F' env1 ∧ D ∉ F' ∧ S' D = none ∧ H6 D = some (.lst av) ∧ Reps κ S' acc av ∧ lcO vs mg mt me (items.drop (i + 1)) acc env1 = some (res, env') := by
      intro S5 H5 F5 e5 acc' av' H6 s5 g5 r5 hH e5'
      obtain ⟨q1, q2, q3⟩ := s5.apart g5.wf.sub d1 d4 d3 (nX av)
      obtain ⟨F6, g6, sb6⟩ := g5.rest g' (p2.sub.trans s5.sub) vs
      rw [restS_eq w2 w3] at g6
      have q4 : D ∉ F6 := fun z => q2 (sb6.subset z)
      subst hH
      refine ⟨S5, F6, _, acc', av', ?_, ⟨⟨fun b o hb => ?_, g6.wf.nd, g6.wf.out⟩, g6.env.mono (fun _ _ h => h) fun a ha => upd_ne fun z => q4 (z ▸ ha)⟩, q4, q3, upd_same, r5, e5'⟩
      · -- the steps joined, the list at D written
        have s56 : Stp κ S2 H2 (F2 ++ [D]) S5 (upd H5 D (.lst av')) (F6 ++ [D]) := by
          refine ⟨fun b o hb hh => ?_, fun b hb => ?_, s5.sub, fun b o hb => ?_, fun a ha => ?_⟩
          · rw [upd_ne fun z => hb (by subst z; simp)]
            exact s5.keep b o (fun z => hb (by simp [z])) hh
          · by_cases z : b = D
            · subst z
              rw [upd_same] at hb
              cases hb
            · rw [upd_ne z] at hb
              exact s5.trk b hb
          · rcases s5.new b o hb with z | z | z | z
            · exact .inl z
            · exact .inr (.inl z)
            · exact .inr (.inr (.inl z))
            · exact .inr (.inr (.inr (by simp [z])))
          · rcases List.mem_append.mp ha with ha | ha
            · rcases s5.foot a (sb6.subset ha) with z | z
              · exact .inl (by simp [z])
              · exact .inr z
            · exact .inl (by simp [List.mem_singleton.mp ha])
        exact st2.trans s56
      · rw [upd_ne fun z => by
          subst z
          rw [q3] at hb
          cases hb]
        exact g6.wf.sub b o hb
    cases b with
    | false =>
      rw [if_neg Bool.false_ne_true] at e ⊢
      obtain ⟨q1, q2, q3⟩ := (s3.trans s4.stp).apart g5.wf.sub d1 d4 d3 (nX av)
      refine fin (s3.trans s4.stp) g5 (Reps.mono ((p2.sub.trans s3.sub).trans s4.sub) acc ra) ?_ e
      funext b
      by_cases z : b = D
      · subst z
        rw [upd_same, q1]
      · rw [upd_ne z]
    | true =>
      rw [if_pos rfl] at e ⊢
      obtain ⟨⟨yv, e3⟩, h3, e⟩ := bindS e
      dsimp only at e
      split at e
      · rename_i hz
        refine he.run g5 h3 _ fun v S5 H5 F5 s5 g6 r5 => ?_
        have s35 := (s3.trans s4.stp).trans s5.stp
        obtain ⟨q1, q2, q3⟩ := s35.apart g6.wf.sub d1 d4 d3 (nX av)
        refine ⟨av, q1, by rw [← ra.len]; exact hz, fin s35 g6 (Reps.snoc r5 (Reps.mono (p2.sub.trans s35.sub) acc ra)) rfl e⟩
      · cases e
  · rintro Hc ⟨S', F', env1, acc, av, s', g', dF, dS, hd, ra, e⟩
    rw [List.drop_length] at e
    cases e
    refine k S' Hc F' av s' g' ⟨g'.wf.sub, List.nodup_append.mpr ⟨g'.wf.nd, by simp, fun a ha b hb => ?_⟩, fun a ha => ?_⟩ hd ra
    · rw [List.mem_singleton.mp hb]
      exact fun z => dF (z ▸ ha)
    · rcases List.mem_append.mp ha with ha | ha
      · exact g'.wf.out a ha
      · rw [List.mem_singleton.mp ha]
        exact dS
theorem simO_lc {wi : TI} {mi : M (List U)} {g : TG} {mg : MG} {tt : TT} {mt : M Bool} {te : TE} {me : M U} {vs : List Nat} (hi : SimI κ false wi mi) (hg : SimG κ (fun j => !vs.contains j) g mg) (ht : SimT κ false tt mt) (he : SimE κ false te me) :
    SimO κ (tLc wi g tt te vs) (mLcO vs mi mg mt me) := by
  constructor
  intro σ S H F env gd w env' e Q k
  obtain ⟨⟨res, e2⟩, e', e⟩ := bindS e
  cases e
  obtain ⟨⟨items, e0⟩, h0, e1⟩ := bindS e'
  refine hi.run gd h0 _ fun J S1 H1 F1 s1 g1 ok D hD => lc_core g1 ok KeepA.self hg ht he e1 hD _ fun S' H' F' vs' s' g' wf hd rs => ?_
  exact k _ S' H' F' [D] (s1.stp.trans s') g' wf ⟨D, vs', [], rfl, hd, rfl, RepOs.pure_ rs⟩
theorem simE_lc {wi : TI} {mi : M (List U)} {g : TG} {mg : MG} {tt : TT} {mt : M Bool} {te : TE} {me : M U} {vs : List Nat} (hi : SimI κ false wi mi) (hg : SimG κ (fun j => !vs.contains j) g mg) (ht : SimT κ false tt mt) (he : SimE κ false te me) :
    SimE κ false (tLc wi g tt te vs) (mLc vs mi mg mt me) := by
  constructor
  intro σ S H F env gd u env' e Q k
  obtain ⟨⟨res, e2⟩, e', e⟩ := bindS e
  cases e
  have q : mF (mLcO vs mi mg mt me) env = some (.lst res, e2) := by
    show ((mLcL vs mi mg mt me env).bind _).bind _ = _
    rw [e']
    show some (U.lst (frzs (res.map .p)), e2) = _
    rw [frzs_map]
  exact (simE_f (simO_lc hi hg ht he)).run gd q Q k
end
end UL
set_option Elab.async false
set_option linter.all false
set_option maxRecDepth 100000
set_option maxHeartbeats 2000000
/-! what is owned walked; calls; fields; new objects -/
namespace UL
open PySem PySem.Spec PyProof.Rows L2 LV
def allP : List Ow → Option (List U)
  | [] => some []
  | w :: ws => (isP w).bind fun u => (allP ws).bind fun us => some (u :: us)
/-- for x in xs, xs owned: the body does not see xs -/
def sForV (i : Nat) (g : MG) (b : MS) : MS := fun env => match env[i]? with
  | some (some (.l ws)) => (allP ws).bind fun us => (forO g b us (env.set i none)).bind fun f => match f with
    | .nx e => some (.nx (e.set i (some (.l ws))))
    | .bk e => some (.bk (e.set i (some (.l ws))))
    | .rt w e => some (.rt w (e.set i (some (.l ws))))
  | _ => none
def mLcLV (i : Nat) (vs : List Nat) (g : MG) (tt : M Bool) (te : M U) : M (List U) := fun env => match env[i]? with
  | some (some (.l ws)) => (allP ws).bind fun us => (lcO vs g tt te us [] (env.set i none)).bind fun x => some (x.1, x.2.set i (some (.l ws)))
  | _ => none
def mLcOV (i : Nat) (vs : List Nat) (g : MG) (tt : M Bool) (te : M U) : M Ow := fun env => (mLcLV i vs g tt te env).bind fun x => some (.l (x.1.map .p), x.2)
def mLcV (i : Nat) (vs : List Nat) (g : MG) (tt : M Bool) (te : M U) : M U := fun env => (mLcLV i vs g tt te env).bind fun x => some (.lst x.1, x.2)
section
variable {κ : String → Addr} {ρ : Bool} {fx : Nat → Bool} {K : PySem.W.Frag}
theorem allP_eq : ∀ {ws : List Ow} {us : List U}, allP ws = some us → ws = us.map .p
  | [], us, h => by
    cases h
    rfl
  | w :: ws, us, h => by
    obtain ⟨u, h1, h⟩ := bindS h
    obtain ⟨us', h2, h⟩ := bindS h
    cases h
    rw [isP_eq h1, allP_eq h2]
    rfl
/-- an owned thing put aside -/
theorem Gd.hide {σ : L2.St} {S H : Hp} {F : List Addr} {env : Env} (g : Gd κ σ S H F env) {i : Nat} {w : Ow} (e : env[i]? = some (some w)) :
    ∃ v F0 F2, σ[i]? = some (some v) ∧ Gd κ σ S H F0 (env.set i none) ∧ RepO κ S H w v F2 ∧ (F0 ++ F2).Nodup ∧ (∀ a, a ∈ F0 ++ F2 ↔ a ∈ F) := by
  obtain ⟨s, F1, F2, F3, h1, rfl, ⟨v, rfl, h3⟩, h4⟩ := g.env.get e
  obtain ⟨nd1, nd2⟩ := nodup_mid g.wf.nd
  have mem : ∀ a, a ∈ (F1 ++ F3) ++ F2 ↔ a ∈ F1 ++ F2 ++ F3 := fun a => by
    simp only [List.mem_append]
    constructor
    · rintro ((ha | ha) | ha) <;> simp [ha]
    · rintro ((ha | ha) | ha) <;> simp [ha]
  refine ⟨v, F1 ++ F3, F2, h1, ⟨⟨g.wf.sub, nd1, fun a ha => g.wf.out a ((mem a).mp (by simp only [List.mem_append] at ha ⊢; exact .inl ha))⟩, ?_⟩, h3, ?_, mem⟩
  · have q := h4 (S' := S) (H' := H) (s' := some v) (w' := none) (F2' := []) (fun _ _ h => h) (fun _ _ => rfl) rfl
    rw [List.append_nil, set_id h1] at q
    exact q
  · refine List.nodup_append.mpr ⟨nd1, (List.nodup_append.mp (List.nodup_append.mp g.wf.nd).1).2.1, fun a ha b hb z => ?_⟩
    subst z
    obtain ⟨q1, q2⟩ := nd2 a hb
    rcases List.mem_append.mp ha with ha | ha
    · exact q1 ha
    · exact q2 ha
/-- .. and put back behind steps that did not see it -/
theorem Gd.back {σ σ' : L2.St} {S H S' H' : Hp} {F F0 F2 F' : List Addr} {env env' : Env} (g : Gd κ σ S H F env) {i : Nat} {w : Ow} {v : V} (r : RepO κ S H w v F2) (nd : (F0 ++ F2).Nodup) (mem : ∀ a, a ∈ F0 ++ F2 ↔ a ∈ F)
    (s : Stp κ S H F0 S' H' F') (g' : Gd κ σ' S' H' F' env') (hv : σ'[i]? = some (some v)) : ∃ F3, Gd κ σ' S' H' F3 (env'.set i (some w)) ∧ Stp κ S H F S' H' (F3) ∧ ∀ a ∈ F3, a ∈ F' ∨ a ∈ F2 := by
  have ap : ∀ a ∈ F2, H' a = H a ∧ a ∉ F' ∧ S' a = none := fun a ha => by
    obtain ⟨o, ho, nx⟩ := RepO.foot w r a ha
    have na : a ∉ F0 := fun z => (List.nodup_append.mp nd).2.2 a z a ha rfl
    obtain ⟨q1, q2, q3⟩ := s.apart g'.wf.sub ho na (g.wf.out a ((mem a).mp (by simp [ha]))) nx
    exact ⟨q1.trans ho.symm, q2, q3⟩
  have wf : WF S' H' (F' ++ F2) := ⟨g'.wf.sub, List.nodup_append.mpr ⟨g'.wf.nd, (List.nodup_append.mp nd).2.1, fun a ha b hb z => by
    subst z
    exact (ap a hb).2.1 ha⟩, fun a ha => by
    rcases List.mem_append.mp ha with ha | ha
    · exact g'.wf.out a ha
    · exact (ap a ha).2.2⟩
  obtain ⟨F3, g3, hs⟩ := g'.put2 wf (RepO.mono s.sub w (fun a ha => (ap a ha).1) r) i
  rw [set_id hv] at g3
  refine ⟨F3, g3, ⟨fun b o hb hh => s.keep b o (fun z => hb ((mem b).mp (by simp [z]))) hh, s.trk, s.sub, fun b o hb => ?_, fun a ha => ?_⟩, fun a ha => List.mem_append.mp (hs a ha)⟩
  · rcases s.new b o hb with z | z | z | z
    · exact .inl z
    · exact .inr (.inl z)
    · exact .inr (.inr (.inl z))
    · exact .inr (.inr (.inr ((mem b).mp (by simp [z]))))
  · rcases List.mem_append.mp (hs a ha) with z | z
    · rcases s.foot a z with z | z
      · exact .inl ((mem a).mp (by simp [z]))
      · exact .inr z
    · exact .inl ((mem a).mp (by simp [z]))
theorem sim_forV {i : Nat} {g : TG} {mg : MG} {t : TS} {m : MS} (hf : fx i = true) (hg : SimG κ fx g mg) (h : SimS κ fx t m) : SimS κ fx (tFor (iList K (tVar i)) g t) (sForV i mg m) := by
  constructor
  intro σ S H F env gd fl e D k
  unfold sForV at e
  split at e
  · rename_i ws hw
    obtain ⟨us, h1, e⟩ := bindS e
    obtain ⟨f, h2, e⟩ := bindS e
    obtain ⟨v, F0, F2, hv, g0, r, nd, mem⟩ := gd.hide hw
    have r' := r
    rw [allP_eq h1] at r
    obtain ⟨a, vs, G, rfl, ha, rfl, rs⟩ := r
    obtain ⟨rfl, rp⟩ := rs.flat
    have na : a ∉ F0 := fun z => (List.nodup_append.mp nd).2.2 a z a (by simp) rfl
    let A : Hp := fun b => if b = a then some (.lst vs) else none
    have hA : A a = some (.lst vs) := if_pos rfl
    refine ⟨_, hv, a, rfl, ⟨vs, SqL.of ha⟩, for_core (A := A) g0 (itOk_list hA rp) (fun b o hb => ?_) hg h h2 D ?_⟩
    · by_cases z : b = a
      · subst z
        rw [hA] at hb
        cases hb
        exact .inr ⟨ha, na⟩
      · have : A b = none := if_neg z
        rw [this] at hb
        cases hb
    · cases f with
      | nx e1 =>
        cases e
        intro σ' S' H' F' s' g' f'
        obtain ⟨F3, g3, s3, _⟩ := gd.back r' nd mem s' g' ((f'.2 i hf).trans hv)
        exact k σ' S' H' F3 s3 g3 f'
      | bk e1 =>
        cases e
        intro σ' S' H' F' s' g' f'
        obtain ⟨F3, g3, s3, _⟩ := gd.back r' nd mem s' g' ((f'.2 i hf).trans hv)
        exact k σ' S' H' F3 s3 g3 f'
      | rt w e1 =>
        cases e
        intro x σ' S' H' F' Fw s' g' wf rw' f'
        -- what is handed back stands apart from what was put aside
        have ap : ∀ b ∈ [a], b ∉ F' ++ Fw ∧ S' b = none ∧ H' b = H b := fun b hb => by
          rw [List.mem_singleton.mp hb]
          obtain ⟨q1, q2, q3⟩ := s'.apart wf.sub ha na (gd.wf.out a ((mem a).mp (by simp))) (fun ⟨_, _, z⟩ => by cases z)
          exact ⟨q2, q3, q1.trans ha.symm⟩
        obtain ⟨F3, g3, s3, hs3⟩ := gd.back r' nd mem (s'.less fun b hb => by simp [hb]) g' ((f'.2 i hf).trans hv)
        refine k x σ' S' H' F3 Fw ⟨s3.keep, s3.trk, s3.sub, s3.new, fun b hb => ?_⟩ g3 ⟨g3.wf.sub, List.nodup_append.mpr ⟨g3.wf.nd, (List.nodup_append.mp wf.nd).2.1, fun b hb c hc z => ?_⟩, fun b hb => ?_⟩ rw' f'
        · rcases List.mem_append.mp hb with hb | hb
          · exact s3.foot b hb
          · rcases s'.foot b (by simp [hb]) with z | z
            · exact .inl ((mem b).mp (by simp [z]))
            · exact .inr z
        · subst z
          rcases hs3 b hb with z | z
          · exact (List.nodup_append.mp wf.nd).2.2 b z b hc rfl
          · exact (ap b z).1 (by simp [hc])
        · rcases List.mem_append.mp hb with hb | hb
          · exact g3.wf.out b hb
          · exact wf.out b (by simp [hb])
  · cases e
theorem simO_lcV {i : Nat} {g : TG} {mg : MG} {tt : TT} {mt : M Bool} {te : TE} {me : M U} {vs : List Nat} (hg : SimG κ (fun j => !vs.contains j) g mg) (ht : SimT κ false tt mt) (he : SimE κ false te me) :
    SimO κ (tLc (iList K (tVar i)) g tt te vs) (mLcOV i vs mg mt me) := by
  constructor
  intro σ S H F env gd w env' e Q k
  obtain ⟨⟨res, e2⟩, e', e⟩ := bindS e
  cases e
  unfold mLcLV at e'
  split at e'
  · rename_i ws hw
    obtain ⟨us, h1, e⟩ := bindS e'
    obtain ⟨⟨res', e3⟩, h2, e⟩ := bindS e
    cases e
    obtain ⟨v, F0, F2, hv, g0, r, nd, mem⟩ := gd.hide hw
    have r' := r
    rw [allP_eq h1] at r
    obtain ⟨a, vs', G, rfl, ha, rfl, rs⟩ := r
    obtain ⟨rfl, rp⟩ := rs.flat
    have na : a ∉ F0 := fun z => (List.nodup_append.mp nd).2.2 a z a (by simp) rfl
    let A : Hp := fun b => if b = a then some (.lst vs') else none
    have hA : A a = some (.lst vs') := if_pos rfl
    refine ⟨_, hv, a, rfl, ⟨vs', SqL.of ha⟩, fun D hD => lc_core (A := A) g0 (itOk_list hA rp) (fun b o hb => ?_) hg ht he h2 hD _ fun S' H' F' xs s' g' wf hd rr => ?_⟩
    · by_cases z : b = a
      · subst z
        rw [hA] at hb
        cases hb
        exact .inr ⟨ha, na⟩
      · have : A b = none := if_neg z
        rw [this] at hb
        cases hb
    · have s0 := s'.less (F2 := F') fun b hb => by simp [hb]
      obtain ⟨q1, q2, q3⟩ := s'.apart wf.sub ha na (gd.wf.out a ((mem a).mp (by simp))) (fun ⟨_, _, z⟩ => by cases z)
      obtain ⟨F3, g3, s3, hs3⟩ := gd.back r' nd mem s0 g' hv
      refine k _ S' H' F3 [D] ⟨s3.keep, s3.trk, s3.sub, s3.new, fun b hb => ?_⟩ g3 ⟨g3.wf.sub, List.nodup_append.mpr ⟨g3.wf.nd, by simp, fun b hb c hc z => ?_⟩, fun b hb => ?_⟩ ⟨D, xs, [], rfl, hd, rfl, RepOs.pure_ rr⟩
      · rcases List.mem_append.mp hb with hb | hb
        · exact s3.foot b hb
        · rw [List.mem_singleton.mp hb]
          exact .inr hD
      · rw [List.mem_singleton.mp hc] at z
        subst z
        rcases hs3 b hb with z | z
        · exact (List.nodup_append.mp wf.nd).2.2 b z b (by simp) rfl
        · rw [List.mem_singleton.mp z] at q2
          exact q2 (by rw [← List.mem_singleton.mp z]; simp)
      · rcases List.mem_append.mp hb with hb | hb
        · exact g3.wf.out b hb
        · exact wf.out b (by simp [hb])
  · cases e'
theorem simE_lcV {i : Nat} {g : TG} {mg : MG} {tt : TT} {mt : M Bool} {te : TE} {me : M U} {vs : List Nat} (hg : SimG κ (fun j => !vs.contains j) g mg) (ht : SimT κ false tt mt) (he : SimE κ false te me) :
    SimE κ false (tLc (iList K (tVar i)) g tt te vs) (mLcV i vs mg mt me) := by
  constructor
  intro σ S H F env gd u env' e Q k
  obtain ⟨⟨res, e2⟩, e', e⟩ := bindS e
  cases e
  have q : mF (mLcOV i vs mg mt me) env = some (.lst res, e2) := by
    show ((mLcLV i vs mg mt me env).bind _).bind _ = _
    rw [e']
    show some (U.lst (frzs (res.map .p)), e2) = _
    rw [frzs_map]
  exact (simE_f (simO_lcV hg ht he)).run gd q Q k
end
end UL
set_option Elab.async false
set_option linter.all false
set_option maxRecDepth 100000
set_option maxHeartbeats 2000000
/-! calls; fields; new objects; places -/
namespace UL
open PySem PySem.Spec PyProof.Rows L2 LV
/-! promises -/
section
variable (κ : String → Addr)
def spP (f : List U → Option U) : Sp := fun vs H Q _ => rP κ f vs H Q
/-- what is handed back is owned -/
def spR (f : List U → Option Ow) : Sp := fun vs H Q _ => ∃ S us w, Same S H ∧ Reps κ S us vs ∧ f us = some w ∧ ∀ v S' H' Fw, Stp κ S H [] S' H' Fw → WF S' H' Fw → RepO κ S' H' w v Fw → Q v H'
/-- the first argument is owned and may be changed -/
def spI (f : Ow → List U → Option (U × Ow)) : Sp := fun vs H Q _ => ∃ S F w us v0 vs' u w', vs = v0 :: vs' ∧ WF S H F ∧ RepO κ S H w v0 F ∧ Reps κ S us vs' ∧ f w us = some (u, w') ∧
  ∀ v S' H' F', Stp κ S H F S' H' F' → WF S' H' F' → RepO κ S' H' w' v0 F' → Rep κ S' u v → Q v H'
/-- .. and what is handed back is owned, too -/
def spIR (f : Ow → List U → Option (Ow × Ow)) : Sp := fun vs H Q _ => ∃ S F w us v0 vs' u w', vs = v0 :: vs' ∧ WF S H F ∧ RepO κ S H w v0 F ∧ Reps κ S us vs' ∧ f w us = some (u, w') ∧
  ∀ v S' H' F' Fw, Stp κ S H F S' H' (F' ++ Fw) → WF S' H' (F' ++ Fw) → RepO κ S' H' w' v0 F' → RepO κ S' H' u v Fw → Q v H'
end
def mNR (f : List U → Option Ow) (a : M (List U)) : M Ow := fun env => (a env).bind fun x => (f x.1).bind fun z => some (z, x.2)
def hasS (env : Env) (i : Nat) : Option Unit := match env[i]? with
  | some (some _) => some ()
  | _ => none
def atS (env : Env) (i : Nat) : Option Ow := match env[i]? with
  | some (some w) => some w
  | _ => none
def mCallI (i : Nat) (f : Ow → List U → Option (U × Ow)) (a : M (List U)) : M U := fun env => (hasS env i).bind fun _ => (a env).bind fun x => (atS x.2 i).bind fun w => (f w x.1).bind fun z => some (z.1, x.2.set i (some z.2))
def mCallIR (i : Nat) (f : Ow → List U → Option (Ow × Ow)) (a : M (List U)) : M Ow := fun env => (hasS env i).bind fun _ => (a env).bind fun x => (atS x.2 i).bind fun w => (f w x.1).bind fun z => some (z.1, x.2.set i (some z.2))
/-- whether a value is an instance of the class without such an attribute -/
def rcv (c : String) (m : Str) : U → Option Unit
  | .obj c' ns _ => if c' = c ∧ ixF m ns = none then some () else none
  | .q _ => if c = "Exact" ∧ m ≠ "over" ∧ m ≠ "under" then some () else none
  | _ => none
def mMeth (c : String) (m : Str) (f : List U → Option U) (o : M U) (a : M (List U)) : M U := fun env => (o env).bind fun x => (rcv c m x.1).bind fun _ => (a x.2).bind fun y => (f (x.1 :: y.1)).bind fun z => some (z, y.2)
def rcvO (c : String) (m : Str) : Ow → Option Unit
  | .o c' ns _ => if c' = c ∧ ixF m ns = none then some () else none
  | _ => none
def mMethI (c : String) (m : Str) (i : Nat) (f : Ow → List U → Option (U × Ow)) (a : M (List U)) : M U := fun env => (atS env i).bind fun w0 => (rcvO c m w0).bind fun _ => (a env).bind fun x => (atS x.2 i).bind fun w => (f w x.1).bind fun z => some (z.1, x.2.set i (some z.2))
def mMk (c : String) (f : Ow → List U → Option (U × Ow)) (a : M (List U)) : M Ow := fun env => (a env).bind fun x => (f (.o c [] []) x.1).bind fun z => match z.1 with
  | .non => some (z.2, x.2)
  | _ => none
section
variable {κ : String → Addr} {ρ : Bool} {fx : Nat → Bool} {K : PySem.W.Frag} {E : XK}
theorem simE_call {f : List U → Option U} {n : Nat} {t : TA} {m : M (List U)} (h : SimA κ ρ n t m) : SimE κ ρ (tCall (spP κ f) [] E t) (mN f m) := by
  constructor
  intro σ S H F env g u env' e Q k
  obtain ⟨⟨x, e1⟩, h1, e⟩ := bindS e
  obtain ⟨z, h3, e⟩ := bindS e
  cases e
  refine h.run g h1 _ fun vs S1 H1 F1 s1 g1 r => ?_
  exact ⟨S1, x, u, g1.wf.sub, by rw [List.append_nil]; exact r, h3, fun v' S' H' p r' => k v' S' H' F1 (s1.trans p.stq) (g1.pure_ p) r'⟩
/-- with defaults -/
theorem simE_callD {f : List U → Option U} {n : Nat} {t : TA} {m : M (List U)} {dvs : List V} {du : List U} (hd : ∀ S, Reps κ S du dvs) (h : SimA κ ρ n t m) : SimE κ ρ (tCall (spP κ f) dvs E t) (mN (fun us => f (us ++ du)) m) := by
  constructor
  intro σ S H F env g u env' e Q k
  obtain ⟨⟨x, e1⟩, h1, e⟩ := bindS e
  obtain ⟨z, h3, e⟩ := bindS e
  cases e
  refine h.run g h1 _ fun vs S1 H1 F1 s1 g1 r => ?_
  exact ⟨S1, x ++ du, u, g1.wf.sub, r.app (hd S1), h3, fun v' S' H' p r' => k v' S' H' F1 (s1.trans p.stq) (g1.pure_ p) r'⟩
/-- what a step that sees nothing owned leaves as it is -/
theorem Gd.foreign {σ : L2.St} {S H S1 H1 : Hp} {F Fw : List Addr} {env : Env} (g : Gd κ σ S H F env) (s : Stp κ S H [] S1 H1 Fw) (w : WF S1 H1 Fw) : Gd κ σ S1 H1 F env ∧ Stp κ S H F S1 H1 (F ++ Fw) ∧ WF S1 H1 (F ++ Fw) := by
  have kf : ∀ x ∈ F, H1 x = H x ∧ x ∉ Fw ∧ S1 x = none := fun x hx => by
    obtain ⟨o, ho, nx⟩ := g.env.foot x hx
    obtain ⟨q1, q2, q3⟩ := s.apart w.sub ho (by simp) (g.wf.out x hx) nx
    exact ⟨q1.trans ho.symm, q2, q3⟩
  refine ⟨⟨⟨w.sub, g.wf.nd, fun x hx => (kf x hx).2.2⟩, g.env.mono s.sub fun x hx => (kf x hx).1⟩, ⟨fun b o _ h => s.keep b o (by simp) h, s.trk, s.sub, fun b o h => ?_, fun a ha => ?_⟩, ⟨w.sub, List.nodup_append.mpr ⟨g.wf.nd, w.nd, fun a ha b hb z => ?_⟩, fun a ha => ?_⟩⟩
  · rcases s.new b o h with z | z | z | z
    · exact .inl z
    · exact .inr (.inl z)
    · exact .inr (.inr (.inl z))
    · simp at z
  · rcases List.mem_append.mp ha with ha | ha
    · exact .inl ha
    · rcases s.foot a ha with z | z
      · simp at z
      · exact .inr z
  · subst z
    exact (kf a ha).2.1 hb
  · rcases List.mem_append.mp ha with ha | ha
    · exact (kf a ha).2.2
    · exact w.out a ha
theorem simO_callR {f : List U → Option Ow} {n : Nat} {t : TA} {m : M (List U)} (h : SimA κ false n t m) : SimO κ (tCall (spR κ f) [] E t) (mNR f m) := by
  constructor
  intro σ S H F env g w env' e Q k
  obtain ⟨⟨x, e1⟩, h1, e⟩ := bindS e
  obtain ⟨z, h3, e⟩ := bindS e
  cases e
  refine h.run g h1 _ fun vs S1 H1 F1 s1 g1 r => ?_
  refine ⟨S1, x, w, g1.wf.sub, by rw [List.append_nil]; exact r, h3, fun v' S' H' Fw s' wf r' => ?_⟩
  obtain ⟨g2, s2, w2⟩ := g1.foreign s' wf
  exact k v' S' H' F1 Fw (s1.stp.trans s2) g2 w2 r'
theorem atS_eq {env : Env} {i : Nat} {w : Ow} (h : atS env i = some w) : env[i]? = some (some w) := by
  unfold atS at h
  split at h
  · rename_i w' hw
    cases h
    exact hw
  · cases h
theorem hasS_val {σ : L2.St} {S H : Hp} {F : List Addr} {env : Env} (g : Gd κ σ S H F env) {i : Nat} {u : Unit} (h : hasS env i = some u) : ∃ v, σ[i]? = some (some v) := by
  unfold hasS at h
  split at h
  · rename_i w hw
    obtain ⟨v, hv, _⟩ := loc_root g hw
    exact ⟨v, hv⟩
  · cases h
/-- a step within one slot's foot -/
theorem Gd.inner {σ : L2.St} {S H S1 H1 : Hp} {F F0 F2 F2' : List Addr} {env : Env} (g : Gd κ σ S H F env) {i : Nat} {w w' : Ow} {v : V} (g0 : Gd κ σ S H F0 (env.set i none)) (hv : σ[i]? = some (some v)) (nd : (F0 ++ F2).Nodup) (mem : ∀ a, a ∈ F0 ++ F2 ↔ a ∈ F)
    (s : Stp κ S H F2 S1 H1 F2') (wf : WF S1 H1 F2') (r : RepO κ S1 H1 w' v F2') : ∃ F3, Gd κ σ S1 H1 F3 (env.set i (some w')) ∧ Stp κ S H F S1 H1 F3 ∧ (∀ a ∈ F3, a ∈ F0 ++ F2') ∧ (F0 ++ F2').Nodup ∧ ∀ a ∈ F0, H1 a = H a ∧ S1 a = none := by
  have ap : ∀ a ∈ F0, H1 a = H a ∧ a ∉ F2' ∧ S1 a = none := fun a ha => by
    obtain ⟨o, ho, nx⟩ := g0.env.foot a ha
    have na : a ∉ F2 := fun z => (List.nodup_append.mp nd).2.2 a ha a z rfl
    obtain ⟨q1, q2, q3⟩ := s.apart wf.sub ho na (g0.wf.out a ha) nx
    exact ⟨q1.trans ho.symm, q2, q3⟩
  have nd2 : (F0 ++ F2').Nodup := List.nodup_append.mpr ⟨g0.wf.nd, wf.nd, fun a ha b hb z => by
    subst z
    exact (ap a ha).2.1 hb⟩
  have wf2 : WF S1 H1 (F0 ++ F2') := ⟨wf.sub, nd2, fun a ha => by
    rcases List.mem_append.mp ha with ha | ha
    · exact (ap a ha).2.2
    · exact wf.out a ha⟩
  have g1 : Gd κ σ S1 H1 F0 (env.set i none) := ⟨wf2.left, g0.env.mono s.sub fun a ha => (ap a ha).1⟩
  obtain ⟨F3, g3, hs⟩ := g1.put2 wf2 r i
  rw [set_id hv, List.set_set] at g3
  refine ⟨F3, g3, ⟨fun b o hb h => s.keep b o (fun z => hb ((mem b).mp (by simp [z]))) h, s.trk, s.sub, fun b o h => ?_, fun a ha => ?_⟩, hs, nd2, fun a ha => ⟨(ap a ha).1, (ap a ha).2.2⟩⟩
  · rcases s.new b o h with z | z | z | z
    · exact .inl z
    · exact .inr (.inl z)
    · exact .inr (.inr (.inl z))
    · exact .inr (.inr (.inr ((mem b).mp (by simp [z]))))
  · rcases List.mem_append.mp (hs a ha) with z | z
    · exact .inl ((mem a).mp (by simp [z]))
    · rcases s.foot a z with z | z
      · exact .inl ((mem a).mp (by simp [z]))
      · exact .inr z
theorem callI_core {i : Nat} {f : Ow → List U → Option (U × Ow)} {σ : L2.St} {S H : Hp} {F : List Addr} {env : Env} {us : List U} {vs : List V} {w w' : Ow} {v0 : V} {u : U} (g : Gd κ σ S H F env) (hv : σ[i]? = some (some v0)) (r : Reps κ S us vs) (hw : env[i]? = some (some w)) (hf : f w us = some (u, w')) (Q : VK)
    (k : ∀ v S' H' F', Stp κ S H F S' H' F' → Gd κ σ S' H' F' (env.set i (some w')) → Rep κ S' u v → Q v H') : spI κ f (v0 :: vs) H Q E := by
  obtain ⟨v, F0, F2, hv', g0, rw', nd, mem⟩ := g.hide hw
  rw [hv] at hv'
  cases hv'
  have wf2 : WF S H F2 := ⟨g.wf.sub, (List.nodup_append.mp nd).2.1, fun a ha => g.wf.out a ((mem a).mp (by simp [ha]))⟩
  refine ⟨S, F2, w, us, v0, vs, u, w', rfl, wf2, rw', r, hf, fun v' S' H' F' s' wf' r' ru => ?_⟩
  obtain ⟨F3, g3, s3, _⟩ := g.inner (w := w) g0 hv nd mem s' wf' r'
  exact k v' S' H' F3 s3 g3 ru
theorem simE_callI {i n : Nat} {f : Ow → List U → Option (U × Ow)} {t : TA} {m : M (List U)} (h : SimA κ false n t m) : SimE κ false (tCall (spI κ f) [] E (tCons (tVar i) t)) (mCallI i f m) := by
  constructor
  intro σ S H F env g u env' e Q k
  obtain ⟨_, h0, e⟩ := bindS e
  obtain ⟨⟨x, e1⟩, h1, e⟩ := bindS e
  obtain ⟨w, h2, e⟩ := bindS e
  obtain ⟨⟨u', w'⟩, h3, e⟩ := bindS e
  cases e
  obtain ⟨v, hv⟩ := hasS_val g h0
  refine ⟨v, hv, h.run g h1 _ fun vs S1 H1 F1 s1 g1 r => ?_⟩
  show spI κ f ((v :: vs) ++ []) H1 Q E
  rw [List.append_nil]
  exact callI_core g1 hv r (atS_eq h2) h3 _ fun v' S' H' F' s' g' ru => k v' S' H' F' (s1.stp.trans s').stq g' ru
theorem simO_callIR {i n : Nat} {f : Ow → List U → Option (Ow × Ow)} {t : TA} {m : M (List U)} (h : SimA κ false n t m) : SimO κ (tCall (spIR κ f) [] E (tCons (tVar i) t)) (mCallIR i f m) := by
  constructor
  intro σ S H F env g u env' e Q k
  obtain ⟨_, h0, e⟩ := bindS e
  obtain ⟨⟨x, e1⟩, h1, e⟩ := bindS e
  obtain ⟨w, h2, e⟩ := bindS e
  obtain ⟨⟨u', w'⟩, h3, e⟩ := bindS e
  cases e
  obtain ⟨v0, hv⟩ := hasS_val g h0
  refine ⟨v0, hv, h.run g h1 _ fun vs S1 H1 F1 s1 g1 r => ?_⟩
  show spIR κ f ((v0 :: vs) ++ []) H1 Q E
  rw [List.append_nil]
  obtain ⟨v, F0, F2, hv', g0, rw', nd, mem⟩ := g1.hide (atS_eq h2)
  rw [hv] at hv'
  cases hv'
  have wf2 : WF S1 H1 F2 := ⟨g1.wf.sub, (List.nodup_append.mp nd).2.1, fun a ha => g1.wf.out a ((mem a).mp (by simp [ha]))⟩
  refine ⟨S1, F2, w, x, v0, vs, u', w', rfl, wf2, rw', r, h3, fun v' S' H' F' Fw s' wf' r' ru => ?_⟩
  obtain ⟨F3, g3, s3, hs3, nd3, _⟩ := g1.inner (w := w) g0 hv nd mem (s'.less fun a ha => by simp [ha]) wf'.left r'
  -- the part that is handed back stands apart
  have ap : ∀ a ∈ F0, a ∉ F' ++ Fw ∧ S' a = none := fun a ha => by
    obtain ⟨o, ho, nx⟩ := g0.env.foot a ha
    have na : a ∉ F2 := fun z => (List.nodup_append.mp nd).2.2 a ha a z rfl
    obtain ⟨q1, q2, q3⟩ := s'.apart wf'.sub ho na (g0.wf.out a ha) nx
    exact ⟨q2, q3⟩
  refine k v' S' H' F3 Fw ⟨(s1.stp.trans s3).keep, (s1.stp.trans s3).trk, (s1.stp.trans s3).sub, (s1.stp.trans s3).new, fun a ha => ?_⟩ g3 ⟨wf'.sub, List.nodup_append.mpr ⟨g3.wf.nd, (List.nodup_append.mp wf'.nd).2.1, fun a ha b hb z => ?_⟩, fun a ha => ?_⟩ ru
  · rcases List.mem_append.mp ha with ha | ha
    · exact (s1.stp.trans s3).foot a ha
    · rcases s'.foot a (by simp [ha]) with z | z
      · exact s1.stp.foot a ((mem a).mp (by simp [z]))
      · exact .inr (s1.stp.trk a z)
  · subst z
    rcases List.mem_append.mp (hs3 a ha) with z | z
    · exact (ap a z).1 (by simp [hb])
    · exact (List.nodup_append.mp wf'.nd).2.2 a z a hb rfl
  · rcases List.mem_append.mp ha with ha | ha
    · exact g3.wf.out a ha
    · exact wf'.out a (by simp [ha])
theorem ixF_none {n : Str} : ∀ {ns : List Str} {vs : List V}, ixF n ns = none → (ns.zip vs).lookup n = none
  | [], _, _ => rfl
  | m :: r, [], _ => rfl
  | m :: r, x :: vs, h => by
    unfold ixF at h
    by_cases hm : m = n
    · rw [if_pos hm] at h
      cases h
    · rw [if_neg hm] at h
      have hb : (n == m) = false := beq_eq_false_iff_ne.mpr (Ne.symm hm)
      simp only [List.zip_cons_cons, List.lookup, hb]
      exact ixF_none (by simpa using h)
theorem rcv_ok {c : String} {m : Str} {x : U} {S : Hp} {v : V} {z : Unit} (h : rcv c m x = some z) (r : Rep κ S x v) : ∃ a dx fs, v = .ref a ∧ S a = some (.ins (κ c) dx fs) ∧ fs.lookup m = none := by
  cases x <;> try cases h
  · rename_i q
    obtain ⟨a, dx, rfl, h2⟩ := r
    dsimp only [rcv] at h
    split at h
    · rename_i hc
      obtain ⟨rfl, h3, h4⟩ := hc
      refine ⟨a, dx, _, rfl, h2, ?_⟩
      have e1 : (m == "over") = false := beq_eq_false_iff_ne.mpr h3
      have e2 : (m == "under") = false := beq_eq_false_iff_ne.mpr h4
      simp only [exF, List.lookup, e1, e2]
    · cases h
  · rename_i c' ns us
    obtain ⟨a, dx, vs, rfl, h2, _⟩ := r
    dsimp only [rcv] at h
    split at h
    · rename_i hc
      obtain ⟨rfl, h3⟩ := hc
      exact ⟨a, dx, _, rfl, h2, ixF_none h3⟩
    · cases h
theorem simE_meth {c : String} {m : Str} {f : List U → Option U} {n : Nat} {to : TE} {mo : M U} {t : TA} {ma : M (List U)} (ho : SimE κ ρ to mo) (h : SimA κ ρ n t ma) : SimE κ ρ (tMeth (κ c) m (spP κ f) [] E to t) (mMeth c m f mo ma) := by
  constructor
  intro σ S H F env g u env' e Q k
  obtain ⟨⟨x, e1⟩, h1, e⟩ := bindS e
  obtain ⟨_, h2, e⟩ := bindS e
  obtain ⟨⟨y, e2⟩, h3, e⟩ := bindS e
  obtain ⟨z, h4, e⟩ := bindS e
  cases e
  refine ho.run g h1 _ fun v S1 H1 F1 s1 g1 r => ?_
  obtain ⟨a, dx, fs, rfl, ha, hm⟩ := rcv_ok h2 r
  refine ⟨a, dx, fs, rfl, g1.wf.sub _ _ ha, hm, h.run g1 h3 _ fun vs S2 H2 F2 s2 g2 rs => ?_⟩
  exact ⟨S2, x :: y, u, g2.wf.sub, ⟨_, vs, by rw [List.append_nil], Rep.mono s2.sub x r, rs⟩, h4, fun v' S' H' p r' => k v' S' H' F2 ((s1.trans s2).trans p.stq) (g2.pure_ p) r'⟩
theorem simE_methI {c : String} {m : Str} {i n : Nat} {f : Ow → List U → Option (U × Ow)} {t : TA} {ma : M (List U)} (h : SimA κ false n t ma) : SimE κ false (tMeth (κ c) m (spI κ f) [] E (tVar i) t) (mMethI c m i f ma) := by
  constructor
  intro σ S H F env g u env' e Q k
  obtain ⟨w0, h0, e⟩ := bindS e
  obtain ⟨_, hr, e⟩ := bindS e
  obtain ⟨⟨x, e1⟩, h1, e⟩ := bindS e
  obtain ⟨w, h2, e⟩ := bindS e
  obtain ⟨⟨u', w'⟩, h3, e⟩ := bindS e
  cases e
  obtain ⟨v, hv, loc⟩ := loc_root g (atS_eq h0)
  obtain ⟨F1, F2, F3, rfl, r0, _⟩ := loc
  cases w0 <;> try cases hr
  rename_i c' ns ws
  dsimp only [rcvO] at hr
  split at hr
  · rename_i hc
    obtain ⟨rfl, hm⟩ := hc
    obtain ⟨a, dx, vs0, F', rfl, ha, _, _, rfl, _⟩ := r0
    refine ⟨_, hv, a, dx, _, rfl, ha, ixF_none hm, h.run g h1 _ fun vs S1 H1 F1 s1 g1 r => ?_⟩
    rw [List.append_nil]
    exact callI_core g1 hv r (atS_eq h2) h3 _ fun v' S' H' F' s' g' ru => k v' S' H' F' (s1.stp.trans s').stq g' ru
  · cases hr
theorem simO_make {c : String} {f : Ow → List U → Option (U × Ow)} {n : Nat} {t : TA} {m : M (List U)} (hc : κ c ≠ κ "Exact") (h : SimA κ false n t m) : SimO κ (tMake (κ c) (spI κ f) [] E t) (mMk c f m) := by
  constructor
  intro σ S H F env g w env' e Q k
  obtain ⟨⟨x, e1⟩, h1, e⟩ := bindS e
  obtain ⟨⟨u, w'⟩, h3, e⟩ := bindS e
  have eu : u = .non ∧ w' = w ∧ e1 = env' := by
    cases u <;> first
      | (cases e; exact ⟨rfl, rfl, rfl⟩)
      | cases e
  obtain ⟨rfl, rfl, rfl⟩ := eu
  refine h.run g h1 _ fun vs S1 H1 F1 s1 g1 r y dx hy hdx ne => ?_
  rw [List.append_nil]
  -- the new instance and its dict
  have hd1 : upd H1 dx (.own y) y = none := by rw [upd_ne (Ne.symm ne)]; exact hy
  have p1 : Stp κ S1 H1 [] S1 (upd H1 dx (.own y)) [] := ⟨fun b o _ hh => Same.new hdx b o hh, fun b hh => none_of_same (Same.new hdx) hh, fun _ _ h => h, fun _ _ h => .inl h, fun a ha => by simp at ha⟩
  have sub1 : Same S1 (upd H1 dx (.own y)) := g1.wf.sub.trans (Same.new hdx)
  have p2 : Stp κ S1 (upd H1 dx (.own y)) [] S1 (upd (upd H1 dx (.own y)) y (.ins (κ c) dx [])) [y] := ⟨fun b o _ hh => Same.new hd1 b o hh, fun b hh => none_of_same (Same.new hd1) hh, fun _ _ h => h, fun _ _ h => .inl h, fun a ha => by
    rw [List.mem_singleton.mp ha]
    exact .inr hd1⟩
  have sub2 : Same S1 (upd (upd H1 dx (.own y)) y (.ins (κ c) dx [])) := sub1.trans (Same.new hd1)
  have wf2 : WF S1 (upd (upd H1 dx (.own y)) y (.ins (κ c) dx [])) [y] := ⟨sub2, by simp, fun a ha => by
    rw [List.mem_singleton.mp ha]
    exact none_of_same g1.wf.sub hy⟩
  refine ⟨S1, [y], .o c [] [], x, .ref y, vs, .non, w', rfl, wf2, ⟨y, dx, [], [], rfl, upd_same, hc, rfl, rfl, rfl, rfl⟩, r, h3, fun v' S' H' F' s' wf' r' ru => ⟨ru, ?_⟩⟩
  obtain ⟨g2, s2, w2⟩ := g1.foreign ((p1.trans p2).trans s') wf'
  exact k _ S' H' F1 F' (s1.stp.trans s2) g2 w2 r'
/-! fields -/
/-- which attributes of which classes are read off the instance -/
structure Tb (K : PySem.W.Frag) (κ : String → Addr) (fd : String → Str → Bool) : Prop where
  ok : ∀ c f, fd c f = true → Cls K (κ c) ∧ NoAttr K (κ c) f
def fldU (fd : String → Str → Bool) (f : Str) : U → Option U
  | .obj c ns us => if fd c f = true then (ixF f ns).bind fun j => us[j]? else none
  | .q r => if fd "Exact" f = true then (if f = "over" then some (.int r.num) else if f = "under" then some (.int r.den) else none) else none
  | _ => none
theorem simE_fld {fd : String → Str → Bool} (T : Tb K κ fd) {f : Str} {t : TE} {m : M U} (h : SimE κ ρ t m) : SimE κ ρ (tFld K t f) (m1 (fldU fd f) m) := by
  constructor
  intro σ S H F env g u env' e Q k
  obtain ⟨⟨x, e1⟩, h1, e⟩ := bindS e
  obtain ⟨z, h2, e⟩ := bindS e
  cases e
  refine h.run g h1 _ fun v S1 H1 F1 s1 g1 r => ?_
  dsimp only at h2
  cases x <;> try cases h2
  · rename_i qq
    obtain ⟨a, dx, rfl, ha⟩ := r
    dsimp only [fldU] at h2
    split at h2
    · rename_i hf
      obtain ⟨c1, c2⟩ := T.ok _ _ hf
      split at h2
      · rename_i h3
        cases h2
        subst h3
        exact ⟨a, _, dx, _, _, rfl, g1.wf.sub _ _ ha, c1, c2, rfl, k _ S1 H1 F1 s1 g1 rfl⟩
      · split at h2
        · rename_i h3 h4
          cases h2
          subst h4
          exact ⟨a, _, dx, _, _, rfl, g1.wf.sub _ _ ha, c1, c2, rfl, k _ S1 H1 F1 s1 g1 rfl⟩
        · cases h2
    · cases h2
  · rename_i c ns us
    obtain ⟨a, dx, vs, rfl, ha, hl, rs⟩ := r
    dsimp only [fldU] at h2
    split at h2
    · rename_i hf
      obtain ⟨c1, c2⟩ := T.ok _ _ hf
      obtain ⟨j, hj, h2⟩ := bindS h2
      obtain ⟨v, hv, rv⟩ := rs.get h2
      exact ⟨a, _, dx, _, v, rfl, g1.wf.sub _ _ ha, c1, c2, by rw [zip_get hj hl]; exact hv, k _ S1 H1 F1 s1 g1 rv⟩
    · cases h2
end
end UL
set_option Elab.async false
set_option linter.all false
set_option maxRecDepth 100000
set_option maxHeartbeats 2000000
/-! operations on pure values -/
namespace UL
open PySem PySem.Spec PyProof.Rows L2 LV
def smQ (r : Rat) : Bool := decide (r.num.natAbs < 2 ^ 4000) && decide (r.den < 2 ^ 4000)
def bigI (i : Int) : Bool := decide (i.natAbs < 2 ^ 8500)
def smI (i : Int) : Bool := decide (i.natAbs < 2 ^ 64)
def mulOk (i j : Int) : Bool := smI i || smI j || (bigI i && bigI j)
def okQ (a b : Rat) (x : U) : Option U := if smQ a && smQ b then some x else none
def addU : U → U → Option U
  | .int i, .int j => some (.int (i + j))
  | .q a, .q b => okQ a b (.q (a + b))
  | .q a, .int j => okQ a j (.q (a + j))
  | .int i, .q b => okQ i b (.q (i + b))
  | .str a, .str b => if a.length + b.length ≤ sizeLine then some (.str (a ++ b)) else none
  | .lst a, .lst b => if a.length + b.length ≤ sizeLine then some (.lst (a ++ b)) else none
  | .tup a, .tup b => if a.length + b.length ≤ sizeLine then some (.tup (a ++ b)) else none
  | _, _ => none
def subU : U → U → Option U
  | .int i, .int j => some (.int (i - j))
  | .q a, .q b => okQ a b (.q (a - b))
  | .q a, .int j => okQ a j (.q (a - j))
  | .int i, .q b => okQ i b (.q (i - b))
  | _, _ => none
def mulU : U → U → Option U
  | .int i, .int j => if mulOk i j then some (.int (i * j)) else none
  | .q a, .q b => okQ a b (.q (a * b))
  | .q a, .int j => okQ a j (.q (a * j))
  | .int i, .q b => okQ i b (.q (i * b))
  | _, _ => none
def negU : U → Option U
  | .int i => some (.int (-i))
  | .q a => if smQ a then some (.q (-a)) else none
  | _ => none
def fdivU : U → U → Option U
  | .int i, .int j => if j ≠ 0 ∧ j.natAbs.log2 < 9000 then some (.int (i.fdiv j)) else none
  | _, _ => none
def modU : U → U → Option U
  | .int i, .int j => if j ≠ 0 then some (.int (i.fmod j)) else none
  | _, _ => none
def powU : U → U → Option U
  | .int i, .int j => if 0 ≤ j ∧ j ≤ 1000000 ∧ i.natAbs < 2 ^ 64 then some (.int (i ^ j.toNat)) else none
  | _, _ => none
def ltU : U → U → Option U
  | .int i, .int j => some (.bl (decide (i < j)))
  | .q a, .q b => okQ a b (.bl (decide (a < b)))
  | .q a, .int j => okQ a j (.bl (decide (a < j)))
  | .int i, .q b => okQ i b (.bl (decide ((i : Rat) < b)))
  | _, _ => none
def leU : U → U → Option U
  | .int i, .int j => some (.bl (decide (i ≤ j)))
  | .q a, .q b => okQ a b (.bl (decide (a ≤ b)))
  | .q a, .int j => okQ a j (.bl (decide (a ≤ j)))
  | .int i, .q b => okQ i b (.bl (decide ((i : Rat) ≤ b)))
  | _, _ => none
def gtU (a b : U) : Option U := match a, b with
  | .int i, .int j => some (.bl (decide (j < i)))
  | .q a, .q b => okQ a b (.bl (decide (b < a)))
  | .q a, .int j => okQ a j (.bl (decide ((j : Rat) < a)))
  | .int i, .q b => okQ i b (.bl (decide (b < (i : Rat))))
  | _, _ => none
def geU (a b : U) : Option U := match a, b with
  | .int i, .int j => some (.bl (decide (j ≤ i)))
  | .q a, .q b => okQ a b (.bl (decide (b ≤ a)))
  | .q a, .int j => okQ a j (.bl (decide ((j : Rat) ≤ a)))
  | .int i, .q b => okQ i b (.bl (decide (b ≤ (i : Rat))))
  | _, _ => none
/-- == of flat values -/
def eqF : U → U → Option Bool
  | .non, .non => some true | .non, .int _ => some false | .int _, .non => some false | .non, .bl _ => some false | .bl _, .non => some false | .non, .str _ => some false | .str _, .non => some false
  | .int i, .int j => some (decide (i = j)) | .bl a, .bl b => some (decide (a = b)) | .str x, .str y => some (decide (x = y))
  | .int _, .str _ => some false | .str _, .int _ => some false | .bl _, .str _ => some false | .str _, .bl _ => some false
  | .q a, .q b => some (decide (a = b)) | .q a, .int j => some (decide (a = j)) | .int i, .q b => some (decide ((i : Rat) = b))
  | .q _, .non => some false | .q _, .bl _ => some false | .q _, .str _ => some false | .q _, .lst _ => some false | .q _, .tup _ => some false | .q _, .dic _ _ => some false
  | .non, .q _ => some false | .bl _, .q _ => some false | .str _, .q _ => some false | .lst _, .q _ => some false | .tup _, .q _ => some false | .dic _ _, .q _ => some false
  | _, _ => none
def allEq (f : U → U → Option Bool) : List U → List U → Option Bool
  | [], [] => some true
  | x :: xs, y :: ys => (f x y).bind fun b => (allEq f xs ys).bind fun c => some (b && c)
  | _, _ => none
/-- == within a depth -/
def eqN : Nat → U → U → Option Bool
  | n + 1, .lst a, .lst b => if a.length = b.length then allEq (eqN n) a b else some false
  | n + 1, .tup a, .tup b => if a.length = b.length then allEq (eqN n) a b else none
  | _, a, b => eqF a b
def eqU (n : Nat) (a b : U) : Option U := (eqN n a b).bind fun x => some (.bl x)
/-- != of flat values -/
def neF (a b : U) : Option U := (eqF a b).bind fun x => some (.bl (!x))
def ixU : U → U → Option U
  | .lst us, .int i => atI us i
  | .tup us, .int i => atI us i
  | .str z, .int i => if z.length ≤ sizeLine then (atI z.cps.toList i).bind fun c => some (.str ⟨#[c]⟩) else none
  | _, _ => none
def lenU : List U → Option U
  | [.lst us] => some (.int us.length)
  | [.tup us] => some (.int us.length)
  | _ => none
def cutU (xs : List U) (lo hi : Option Int) : List U := (xs.drop (HT.sIx xs.length 0 lo)).take (HT.sIx xs.length xs.length hi - HT.sIx xs.length 0 lo)
def slU (u : U) (lo hi : Option Int) : Option U := match u with
  | .lst us => some (.lst (cutU us lo hi))
  | .tup us => some (.tup (cutU us lo hi))
  | _ => none
/-- the name of a value's class -/
def tyU : U → String
  | .non => "NoneType" | .bl _ => "bool" | .int _ => "int" | .str _ => "str" | .q _ => "Exact" | .lst _ => "list" | .tup _ => "tuple" | .dic _ _ => "dict" | .obj c _ _ => c
def isiN (T t : String) : Bool := decide (t = T) || (decide (T = "int") && decide (t = "bool"))
def allB : List U → Option (List Bool)
  | [] => some []
  | u :: us => (isB u).bind fun b => (allB us).bind fun bs => some (b :: bs)
def allU : List U → Option U
  | [.lst us] => (allB us).bind fun bs => some (.bl (bs.all id))
  | _ => none
def anyU : List U → Option U
  | [.lst us] => (allB us).bind fun bs => some (.bl (bs.any id))
  | _ => none
def intU : List U → Option U
  | [.int i] => some (.int i)
  | [.bl b] => some (.int (if b then 1 else 0))
  | _ => none
def listU : List U → Option U
  | [.lst us] => some (.lst us)
  | [.tup us] => some (.lst us)
  | _ => none
def tupU : List U → Option U
  | [.lst us] => some (.tup us)
  | [.tup us] => some (.tup us)
  | _ => none
end UL
set_option Elab.async false
set_option linter.all false
set_option maxRecDepth 100000
set_option maxHeartbeats 2000000
/-! further operations on pure values -/
namespace UL
open PySem PySem.Spec PyProof.Rows L2 LV
mutual
def toD : U → Option PyData
  | .non => some .none
  | .bl b => some (.bool b)
  | .int i => some (.int i)
  | .str x => some (.str x)
  | .lst us => (toDs us).bind fun ds => some (.list ds)
  | .tup us => (toDs us).bind fun ds => some (.tuple ds)
  | _ => none
def toDs : List U → Option (List PyData)
  | [] => some []
  | u :: us => (toD u).bind fun d => (toDs us).bind fun ds => some (d :: ds)
end
/-- != -/
def neU : U → U → Option U
  | .lst us, .lst [] => some (.bl (!us.isEmpty))
  | .q a, .q b => some (.bl (!decide (a = b)))
  | .q a, .int j => some (.bl (!decide (a = j)))
  | .q _, .non => some (.bl true) | .q _, .bl _ => some (.bl true) | .q _, .str _ => some (.bl true)
  | a, b => (toD a).bind fun d => (toD b).bind fun e => if SeqAt.shaped d && SeqAt.shaped e then some (.bl (!PyData.eqv d e)) else none
def addI (a b : U) : Option U := (isI a).bind fun i => (isI b).bind fun j => some (.int (i + j))
/-- x in xs, flat things -/
def flatU : U → Bool
  | .non => true | .bl _ => true | .int _ => true | .str _ => true | _ => false
def eqFl : U → U → Bool
  | .non, .non => true
  | .bl a, .bl b => a == b
  | .bl a, .int b => (if a then 1 else 0) == b
  | .int a, .bl b => a == (if b then 1 else 0)
  | .int a, .int b => a == b
  | .str a, .str b => a == b
  | _, _ => false
def inU (x y : U) : Option U := (seqU y).bind fun us => if flatU x && us.all flatU then some (.bl (us.any fun u => eqFl u x)) else none
def notInU (x y : U) : Option U := (seqU y).bind fun us => if flatU x && us.all flatU then some (.bl (!us.any fun u => eqFl u x)) else none
/-- the class of a value is known -/
def kwn (cs : List String) : U → Bool
  | .obj c _ _ => cs.contains c
  | _ => true
def isiU (cs : List String) (T : String) (u : U) : Option U := if kwn cs u then some (.bl (isiN T (tyU u))) else none
def isiA (cs : List String) (Ts : List String) (u : U) : Option U := if kwn cs u then some (.bl (Ts.any fun T => isiN T (tyU u))) else none
/-- == and != of instances of one class by its own == -/
def isO (c : String) : U → Bool
  | .obj c' _ _ => c' == c
  | _ => false
def eqOb (c : String) (f : List U → Option U) (a b : U) : Option U := if isO c a && isO c b then f [a, b] else none
def neOb (c : String) (f : List U → Option U) (a b : U) : Option U := if isO c a && isO c b then (f [a, b]).bind fun r => (isB r).bind fun x => some (.bl (!x)) else none
def isBU (a b : U) : Option U := (isB a).bind fun x => (isB b).bind fun y => some (.bl (decide (x = y)))
def notBU (a b : U) : Option U := (isB a).bind fun x => (isB b).bind fun y => some (.bl (!decide (x = y)))
/-- how often a loop may turn -/
def fuel : Nat := 2 ^ 20000
/-! functions of the module exacts -/
def partF : List U → Option U
  | [.int i] => some (.q i)
  | [.q r] => some (.q r)
  | _ => none
def plainF : List U → Option U
  | [.int i] => some (.int i)
  | [.q r] => some (if r.den = 1 then .int r.num else .q r)
  | _ => none
def byF : List U → Option U
  | [.q a, .q b] => if b ≠ 0 then okQ a b (.q (a / b)) else none
  | [.q a, .int j] => if j ≠ 0 then okQ a j (.q (a / j)) else none
  | _ => none
def isIntF (cs : List String) : List U → Option U
  | [u] => if kwn cs u then some (.bl (isiN "int" (tyU u) && !isiN "bool" (tyU u))) else none
  | _ => none
def isNumF (cs : List String) : List U → Option U
  | [u] => if kwn cs u then some (.bl ((isiN "int" (tyU u) && !isiN "bool" (tyU u)) || isiN "Exact" (tyU u))) else none
  | _ => none
/-- Exact(o, u) -/
def mkF : List U → Option U
  | [.int o, .int u] => if u ≠ 0 ∧ bigI u = true then some (.q (Rat.divInt o u)) else none
  | [.int o] => some (.q o)
  | _ => none
end UL
set_option Elab.async false
set_option linter.all false
set_option maxRecDepth 100000
set_option maxHeartbeats 2000000
/-! defs as a whole; slices -/
namespace UL
open PySem PySem.Spec PyProof.Rows L2 LV
def env0 (ws : List Ow) (nl : Nat) : Env := ws.map some ++ List.replicate nl none
/-- a def that owns nothing from outside -/
def fnP (n nl : Nat) (b : MS) : List U → Option U := fun us => if us.length = n then (b (env0 (us.map .p) nl)).bind fun f => match f with
    | .rt w _ => isP w
    | .nx _ => some .non
    | .bk _ => none
  else none
def fnR (n nl : Nat) (b : MS) : List U → Option Ow := fun us => if us.length = n then (b (env0 (us.map .p) nl)).bind fun f => match f with
    | .rt w _ => some w
    | _ => none
  else none
/-- its first argument is owned -/
def fnI (n nl : Nat) (b : MS) : Ow → List U → Option (U × Ow) := fun w us => if us.length + 1 = n then (b (env0 (w :: us.map .p) nl)).bind fun f => match f with
    | .rt r e => (isP r).bind fun u => (atS e 0).bind fun w' => some (u, w')
    | .nx e => (atS e 0).bind fun w' => some (.non, w')
    | .bk _ => none
  else none
def fnIR (n nl : Nat) (b : MS) : Ow → List U → Option (Ow × Ow) := fun w us => if us.length + 1 = n then (b (env0 (w :: us.map .p) nl)).bind fun f => match f with
    | .rt r e => (atS e 0).bind fun w' => some (r, w')
    | _ => none
  else none
abbrev fx0 : Nat → Bool := fun _ => false
abbrev fx1 : Nat → Bool := fun i => i == 0
section
variable {κ : String → Addr} {ρ : Bool}
theorem envOk_nones {S H : Hp} : ∀ n : Nat, EnvOk κ S H (List.replicate n none) (List.replicate n none) []
  | 0 => rfl
  | n + 1 => by
    rw [List.replicate_succ]
    exact ⟨[], [], rfl, rfl, envOk_nones n⟩
theorem envOk_start {S H : Hp} {nl : Nat} : ∀ {ws : List Ow} {vs : List V} {F : List Addr}, RepOs κ S H ws vs F → EnvOk κ S H (vs.map some ++ List.replicate nl none) (ws.map some ++ List.replicate nl none) F
  | [], _, _, h => by
    obtain ⟨rfl, rfl⟩ := h
    exact envOk_nones nl
  | w :: ws, _, _, h => by
    obtain ⟨v, vs', F1, F2, rfl, rfl, h1, h2⟩ := h
    exact ⟨F1, F2, rfl, ⟨v, rfl, h1⟩, envOk_start h2⟩
theorem gd_start {S H : Hp} {nl : Nat} {N : List Str} {ws : List Ow} {vs : List V} {F : List Addr} (wf : WF S H F) (r : RepOs κ S H ws vs F) (hN : N.length = vs.length + nl) : Gd κ (L2.start N vs) S H F (env0 ws nl) := by
  refine ⟨wf, ?_⟩
  unfold L2.start env0
  rw [show N.length - vs.length = nl by omega]
  exact envOk_start r
theorem StpP.of {S H S' H' : Hp} {F : List Addr} (s : Stp κ S H [] S' H' F) (w : Same S' H') : StpP κ S H S' H' :=
  ⟨fun b o h => s.keep b o (by simp) h, s.sub, w, fun b o h => by
    rcases s.new b o h with z | z | z | z
    · exact .inl z
    · exact .inr (.inl z)
    · exact .inr (.inr z)
    · simp at z⟩
theorem sim_fnP {t : TS} {b : MS} {n nl : Nat} {N : List Str} {vs : List V} {H : Hp} {Q : VK} {E : XK} (h : SimS κ fx0 t b) (hs : spP κ (fnP n nl b) vs H Q E) (hN : N.length = n + nl) : t { nx := fun _ H' => Q .non H', rt := Q } (L2.start N vs) H := by
  obtain ⟨S, us, u, e, rs, hf, k⟩ := hs
  unfold fnP at hf
  split at hf <;> try cases hf
  rename_i hl
  obtain ⟨f, h1, hf⟩ := bindS hf
  have hN : N.length = vs.length + nl := by rw [hN, ← rs.len, hl]
  have g := gd_start (nl := nl) (N := N) ⟨e, by simp, fun a ha => by simp at ha⟩ (RepOs.pure_ (H := H) rs) hN
  refine h.run g h1 _ ?_
  cases f with
  | nx e1 =>
    cases hf
    exact fun σ' S' H' F' s' g' _ => k _ S' H' (StpP.of s' g'.wf.sub) rfl
  | rt w e1 =>
    have := isP_eq hf
    subst this
    intro v σ' S' H' F' Fw s' g' wf r _
    exact k _ S' H' (StpP.of s' g'.wf.sub) r.2
  | bk e1 => cases hf
theorem sim_fnR {t : TS} {b : MS} {n nl : Nat} {N : List Str} {vs : List V} {H : Hp} {Q : VK} {E : XK} (h : SimS κ fx0 t b) (hs : spR κ (fnR n nl b) vs H Q E) (hN : N.length = n + nl) : t { nx := fun _ H' => Q .non H', rt := Q } (L2.start N vs) H := by
  obtain ⟨S, us, w, e, rs, hf, k⟩ := hs
  unfold fnR at hf
  split at hf <;> try cases hf
  rename_i hl
  obtain ⟨f, h1, hf⟩ := bindS hf
  have hN : N.length = vs.length + nl := by rw [hN, ← rs.len, hl]
  have g := gd_start (nl := nl) (N := N) ⟨e, by simp, fun a ha => by simp at ha⟩ (RepOs.pure_ (H := H) rs) hN
  refine h.run g h1 _ ?_
  cases f with
  | nx e1 => cases hf
  | rt w' e1 =>
    cases hf
    intro v σ' S' H' F' Fw s' g' wf r _
    exact k _ S' H' Fw (s'.less fun a ha => by simp [ha]) ⟨wf.sub, (List.nodup_append.mp wf.nd).2.1, fun a ha => wf.out a (by simp [ha])⟩ r
  | bk e1 => cases hf
theorem slot0 {σ : L2.St} {S H : Hp} {F : List Addr} {env : Env} {w : Ow} (g : Gd κ σ S H F env) (h : atS env 0 = some w) : ∃ v F1, σ[0]? = some (some v) ∧ RepO κ S H w v F1 ∧ WF S H F1 ∧ ∀ a ∈ F1, a ∈ F := by
  obtain ⟨s, A, B, C, h1, rfl, ⟨v, rfl, h3⟩, _⟩ := g.env.get (atS_eq h)
  have sb : ∀ a ∈ B, a ∈ A ++ B ++ C := fun a ha => by simp [ha]
  exact ⟨v, B, h1, h3, ⟨g.wf.sub, (List.nodup_append.mp (List.nodup_append.mp g.wf.nd).1).2.1, fun a ha => g.wf.out a (sb a ha)⟩, sb⟩
theorem start0 {N : List Str} {v0 : V} {vs : List V} : (L2.start N (v0 :: vs))[0]? = some (some v0) := rfl
theorem sim_fnI {t : TS} {b : MS} {n nl : Nat} {N : List Str} {vs : List V} {H : Hp} {Q : VK} {E : XK} (h : SimS κ fx1 t b) (hs : spI κ (fnI n nl b) vs H Q E) (hN : N.length = n + nl) : t { nx := fun _ H' => Q .non H', rt := Q } (L2.start N vs) H := by
  obtain ⟨S, F, w, us, v0, vs', u, w', rfl, wf, rw', rs, hf, k⟩ := hs
  unfold fnI at hf
  split at hf <;> try cases hf
  rename_i hl
  obtain ⟨f, h1, hf⟩ := bindS hf
  have hN : N.length = (v0 :: vs').length + nl := by rw [hN, List.length_cons, ← rs.len, hl]
  have g := gd_start (nl := nl) (N := N) (ws := w :: us.map .p) (vs := v0 :: vs') (F := F) wf ⟨v0, vs', F, [], rfl, by simp, rw', RepOs.pure_ rs⟩ hN
  refine h.run g h1 _ ?_
  cases f with
  | nx e1 =>
    obtain ⟨w2, h2, hf⟩ := bindS hf
    cases hf
    intro σ' S' H' F' s' g' f'
    obtain ⟨v, F1, q1, q2, q3, q4⟩ := slot0 g' h2
    have := (f'.2 0 rfl).symm.trans q1
    rw [start0] at this
    cases this
    exact k _ S' H' F1 (s'.less q4) q3 q2 rfl
  | rt r e1 =>
    obtain ⟨u', h3, hf⟩ := bindS hf
    obtain ⟨w2, h2, hf⟩ := bindS hf
    cases hf
    have := isP_eq h3
    subst this
    intro x σ' S' H' F' Fw s' g' wf' r' f'
    obtain ⟨v, F1, q1, q2, q3, q4⟩ := slot0 g' h2
    have := (f'.2 0 rfl).symm.trans q1
    rw [start0] at this
    cases this
    exact k _ S' H' F1 (s'.less fun a ha => by simp [q4 a ha]) q3 q2 r'.2
  | bk e1 => cases hf
theorem sim_fnIR {t : TS} {b : MS} {n nl : Nat} {N : List Str} {vs : List V} {H : Hp} {Q : VK} {E : XK} (h : SimS κ fx1 t b) (hs : spIR κ (fnIR n nl b) vs H Q E) (hN : N.length = n + nl) : t { nx := fun _ H' => Q .non H', rt := Q } (L2.start N vs) H := by
  obtain ⟨S, F, w, us, v0, vs', u, w', rfl, wf, rw', rs, hf, k⟩ := hs
  unfold fnIR at hf
  split at hf <;> try cases hf
  rename_i hl
  obtain ⟨f, h1, hf⟩ := bindS hf
  have hN : N.length = (v0 :: vs').length + nl := by rw [hN, List.length_cons, ← rs.len, hl]
  have g := gd_start (nl := nl) (N := N) (ws := w :: us.map .p) (vs := v0 :: vs') (F := F) wf ⟨v0, vs', F, [], rfl, by simp, rw', RepOs.pure_ rs⟩ hN
  refine h.run g h1 _ ?_
  cases f with
  | nx e1 => cases hf
  | rt r e1 =>
    obtain ⟨w2, h2, hf⟩ := bindS hf
    cases hf
    intro x σ' S' H' F' Fw s' g' wf' r' f'
    obtain ⟨v, F1, q1, q2, q3, q4⟩ := slot0 g' h2
    have := (f'.2 0 rfl).symm.trans q1
    rw [start0] at this
    cases this
    refine k _ S' H' F1 Fw (s'.less fun a ha => ?_) ⟨wf'.sub, List.nodup_append.mpr ⟨q3.nd, (List.nodup_append.mp wf'.nd).2.1, fun a ha b hb => (List.nodup_append.mp wf'.nd).2.2 a (q4 a ha) b hb⟩, fun a ha => ?_⟩ q2 r'
    · rcases List.mem_append.mp ha with ha | ha
      · simp [q4 a ha]
      · simp [ha]
    · rcases List.mem_append.mp ha with ha | ha
      · exact q3.out a ha
      · exact wf'.out a (by simp [ha])
  | bk e1 => cases hf
theorem len_fnP {b : MS} {n nl : Nat} {vs : List V} {H : Hp} {Q : VK} {E : XK} (hs : spP κ (fnP n nl b) vs H Q E) : vs.length = n := by
  obtain ⟨S, us, u, e, rs, hf, k⟩ := hs
  unfold fnP at hf
  split at hf
  · rename_i hl
    rw [← rs.len, hl]
  · cases hf
theorem len_fnR {b : MS} {n nl : Nat} {vs : List V} {H : Hp} {Q : VK} {E : XK} (hs : spR κ (fnR n nl b) vs H Q E) : vs.length = n := by
  obtain ⟨S, us, u, e, rs, hf, k⟩ := hs
  unfold fnR at hf
  split at hf
  · rename_i hl
    rw [← rs.len, hl]
  · cases hf
theorem len_fnI {b : MS} {n nl : Nat} {vs : List V} {H : Hp} {Q : VK} {E : XK} (hs : spI κ (fnI n nl b) vs H Q E) : vs.length = n := by
  obtain ⟨S, F, w, us, v0, vs', u, w', rfl, wf, rw', rs, hf, k⟩ := hs
  unfold fnI at hf
  split at hf
  · rename_i hl
    rw [List.length_cons, ← rs.len, hl]
  · cases hf
theorem len_fnIR {b : MS} {n nl : Nat} {vs : List V} {H : Hp} {Q : VK} {E : XK} (hs : spIR κ (fnIR n nl b) vs H Q E) : vs.length = n := by
  obtain ⟨S, F, w, us, v0, vs', u, w', rfl, wf, rw', rs, hf, k⟩ := hs
  unfold fnIR at hf
  split at hf
  · rename_i hl
    rw [List.length_cons, ← rs.len, hl]
  · cases hf
/-! fields by their class -/
def fldC (c : String) (f : Str) : U → Option U
  | .obj c' ns us => if c' = c then (ixF f ns).bind fun j => us[j]? else none
  | _ => none
theorem simE_fldC {K : PySem.W.Frag} {c : String} {f : Str} (T : Cls K (κ c) ∧ NoAttr K (κ c) f) {t : TE} {m : M U} (h : SimE κ ρ t m) : SimE κ ρ (tFld K t f) (m1 (fldC c f) m) := by
  constructor
  intro σ S H F env g u env' e Q k
  obtain ⟨⟨x, e1⟩, h1, e⟩ := bindS e
  obtain ⟨z, h2, e⟩ := bindS e
  cases e
  refine h.run g h1 _ fun v S1 H1 F1 s1 g1 r => ?_
  dsimp only at h2
  cases x <;> try cases h2
  obtain ⟨a, dx, vs, rfl, ha, hl, rs⟩ := r
  dsimp only [fldC] at h2
  split at h2
  · rename_i hc
    subst hc
    obtain ⟨j, hj, h2⟩ := bindS h2
    obtain ⟨v, hv, rv⟩ := rs.get h2
    exact ⟨a, _, dx, _, v, rfl, g1.wf.sub _ _ ha, T.1, T.2, by rw [zip_get hj hl]; exact hv, k _ S1 H1 F1 s1 g1 rv⟩
  · cases h2
/-- a field of an owned object -/
def fldO (c : String) (f : Str) : Ow → Option U
  | .o c' ns ws => if c' = c then (ixF f ns).bind fun j => (ws[j]?).bind fun w => isP w else none
  | _ => none
def mFldV (i : Nat) (c : String) (f : Str) : M U := fun env => (atS env i).bind fun w => (fldO c f w).bind fun u => some (u, env)
theorem fldO_rep {S H : Hp} {c : String} {f : Str} : ∀ {w : Ow} {v : V} {F : List Addr} {u : U}, RepO κ S H w v F → fldO c f w = some u → ∃ a dx fs x, v = .ref a ∧ H a = some (.ins (κ c) dx fs) ∧ fs.lookup f = some x ∧ Rep κ S u x
  | .o c' ns ws, v, F, u, r, h => by
    dsimp only [fldO] at h
    split at h
    · rename_i hc
      obtain ⟨j, hj, h⟩ := bindS h
      obtain ⟨w2, h2, h3⟩ := bindS h
      have := isP_eq h3
      subst this
      obtain ⟨a, dx, vs, F', rfl, ha, _, hl, rfl, rs⟩ := r
      obtain ⟨x, _, _, _, hx, _, ⟨_, rx⟩, _⟩ := rs.get h2
      exact ⟨a, dx, _, x, rfl, by rw [← hc]; exact ha, by rw [zip_get hj hl]; exact hx, rx⟩
    · cases h
  | .p _, _, _, _, _, h => by cases h
  | .l _, _, _, _, _, h => by cases h
  | .d _ _, _, _, _, _, h => by cases h
theorem simE_fldV {K : PySem.W.Frag} {i : Nat} {c : String} {f : Str} (T : Cls K (κ c) ∧ NoAttr K (κ c) f) : SimE κ ρ (tFld K (tVar i) f) (mFldV i c f) := by
  constructor
  intro σ S H F env g u env' e Q k
  obtain ⟨w, h1, e⟩ := bindS e
  obtain ⟨u', h2, e⟩ := bindS e
  cases e
  obtain ⟨v, hv, loc⟩ := loc_root g (atS_eq h1)
  obtain ⟨F1, F2, F3, rfl, r0, _⟩ := loc
  obtain ⟨a, dx, fs, x, rfl, ha, hx, rx⟩ := fldO_rep r0 h2
  exact ⟨_, hv, a, _, dx, _, x, rfl, ha, T.1, T.2, hx, k _ S H _ (StpQ.refl S H _ env) g rx⟩
/-- self.f = e -/
def putN (f : Str) (w : Ow) : List Str → List Ow → List Str × List Ow
  | n :: ns, x :: ws => if n = f then (n :: ns, w :: ws) else let r := putN f w ns ws; (n :: r.1, x :: r.2)
  | _, _ => ([f], [w])
def sFldV (i : Nat) (c : String) (f : Str) (m : M Ow) : MS := fun env => (m env).bind fun x => (atS x.2 i).bind fun w => match w with
  | .o c' ns ws => if c' = c ∧ ns.length < 1000 ∧ ixF f ns = none then some (.nx (x.2.set i (some (.o c (ns ++ [f]) (ws ++ [x.1]))))) else none
  | _ => none
theorem putF_new {f : Str} {v : V} : ∀ {ns : List Str} {vs : List V}, ixF f ns = none → ns.length = vs.length → putF f v (ns.zip vs) = (ns ++ [f]).zip (vs ++ [v])
  | [], [], _, _ => rfl
  | n :: ns, x :: vs, h, hl => by
    unfold ixF at h
    by_cases hn : n = f
    · rw [if_pos hn] at h
      cases h
    · rw [if_neg hn] at h
      show (if n = f then _ else _) = _
      rw [if_neg hn]
      exact congrArg (fun z => (n, x) :: z) (putF_new (by simpa using h) (by simpa using hl))
  | [], _ :: _, _, hl => by simp at hl
  | _ :: _, [], _, hl => by simp at hl
theorem sim_fldV {K : PySem.W.Frag} {fx : Nat → Bool} {i : Nat} {c : String} {f : Str} (T : Cls K (κ c) ∧ NoAttr K (κ c) f) {t : TE} {m : M Ow} (h : SimO κ t m) : SimS κ fx (sFld K (tVar i) t f) (sFldV i c f m) := by
  constructor
  intro σ S H F env g fl e D k
  obtain ⟨⟨x, e1⟩, h1, e⟩ := bindS e
  obtain ⟨w, h2, e⟩ := bindS e
  cases w <;> try cases e
  rename_i c' ns ws
  dsimp only at e
  split at e
  · rename_i hc
    obtain ⟨rfl, hn, hx⟩ := hc
    cases e
    refine h.run g h1 _ fun v S1 H1 F1 Fw s1 g1 wf r => ?_
    obtain ⟨v0, F0, F2, hv0, g0, r0, nd, mem⟩ := g1.hide (atS_eq h2)
    obtain ⟨a, dx, vs, F', rfl, ha, hk, hl, rfl, rs⟩ := r0
    refine ⟨_, hv0, a, _, dx, _, rfl, ha, T.1, T.2, by rw [List.length_zip, ← hl]; simpa using hn, ?_⟩
    rw [putF_new hx hl]
    -- where all stands
    have ina : a ∈ F1 := (mem a).mp (by simp)
    have naFw : a ∉ Fw := fun z => (List.nodup_append.mp wf.nd).2.2 a ina a z rfl
    have naF' : a ∉ F' := (List.nodup_cons.mp (List.nodup_append.mp nd).2.1).1
    have naF0 : a ∉ F0 := fun z => (List.nodup_append.mp nd).2.2 a z a (by simp) rfl
    have hk' : ∀ b, b ≠ a → upd H1 a (.ins (κ c') dx ((ns ++ [f]).zip (vs ++ [v]))) b = H1 b := fun b hb => upd_ne hb
    have stp : Stp κ S1 H1 (F1 ++ Fw) S1 (upd H1 a (.ins (κ c') dx ((ns ++ [f]).zip (vs ++ [v])))) (F1 ++ Fw) := ⟨fun b o hb hh => by rw [upd_ne fun z => hb (by subst z; simp [ina])]; exact hh, fun b hb => by
      by_cases z : b = a
      · subst z
        rw [upd_same] at hb
        cases hb
      · rw [upd_ne z] at hb
        exact hb, fun _ _ h => h, fun _ _ h => .inl h, fun _ h => .inl h⟩
    have sub2 : Same S1 (upd H1 a (.ins (κ c') dx ((ns ++ [f]).zip (vs ++ [v])))) := fun b o hb => by
      rw [upd_ne fun z => by
        subst z
        rw [g1.wf.out b ina] at hb
        cases hb]
      exact g1.wf.sub b o hb
    have g2 : Gd κ σ S1 (upd H1 a (.ins (κ c') dx ((ns ++ [f]).zip (vs ++ [v])))) F0 (e1.set i none) := ⟨⟨sub2, g0.wf.nd, g0.wf.out⟩, g0.env.mono (fun _ _ h => h) fun b hb => hk' b fun z => naF0 (z ▸ hb)⟩
    have rs2 : RepOs κ S1 (upd H1 a (.ins (κ c') dx ((ns ++ [f]).zip (vs ++ [v])))) (ws ++ [x]) (vs ++ [v]) (F' ++ Fw) := RepOs.app (RepOs.mono (fun _ _ h => h) ws (fun b hb => hk' b fun z => naF' (z ▸ hb)) rs) ⟨v, [], Fw, [], rfl, by simp, RepO.mono (fun _ _ h => h) x (fun b hb => hk' b fun z => naFw (z ▸ hb)) r, rfl, rfl⟩
    have ro : RepO κ S1 (upd H1 a (.ins (κ c') dx ((ns ++ [f]).zip (vs ++ [v])))) (.o c' (ns ++ [f]) (ws ++ [x])) (.ref a) (a :: (F' ++ Fw)) := ⟨a, dx, _, F' ++ Fw, rfl, upd_same, hk, by simp [hl], rfl, rs2⟩
    have nd2 : (F0 ++ (a :: (F' ++ Fw))).Nodup := by
      obtain ⟨w1, w2, w3⟩ := List.nodup_append.mp wf.nd
      have : (F0 ++ (a :: F')) ++ Fw = F0 ++ (a :: (F' ++ Fw)) := by simp
      rw [← this]
      exact List.nodup_append.mpr ⟨nd, w2, fun b hb d hd => w3 b ((mem b).mp hb) d hd⟩
    have wf2 : WF S1 (upd H1 a (.ins (κ c') dx ((ns ++ [f]).zip (vs ++ [v])))) (F0 ++ (a :: (F' ++ Fw))) := ⟨sub2, nd2, fun b hb => wf.out b (by
      simp only [List.mem_append, List.mem_cons] at hb ⊢
      rcases hb with hb | hb | hb | hb
      · exact .inl ((mem b).mp (by simp [hb]))
      · exact .inl ((mem b).mp (by simp [hb]))
      · exact .inl ((mem b).mp (by simp [hb]))
      · exact .inr hb)⟩
    obtain ⟨F3, g3, hs3⟩ := g2.put2 wf2 ro i
    rw [set_id hv0, List.set_set] at g3
    refine k σ S1 _ F3 ((s1.trans stp).less fun b hb => ?_) g3 (Fix.refl fx σ)
    have := hs3 b hb
    simp only [List.mem_append, List.mem_cons] at this ⊢
    rcases this with hb | hb | hb | hb
    · exact .inl ((mem b).mp (by simp [hb]))
    · exact .inl ((mem b).mp (by simp [hb]))
    · exact .inl ((mem b).mp (by simp [hb]))
    · exact .inr hb
  · cases e
/-! slices -/
def mPart : Option (M U) → M (Option Int)
  | none => fun env => some (none, env)
  | some m => fun env => (m env).bind fun x => (isI x.1).bind fun i => some (some i, x.2)
def mSl (f : U → Option Int → Option Int → Option U) (m : M U) (lo hi : Option (M U)) : M U := fun env => (m env).bind fun x => (mPart lo x.2).bind fun l => (mPart hi l.2).bind fun h => (f x.1 l.1 h.1).bind fun z => some (z, h.2)
def rSl (κ : String → Addr) (f : U → Option Int → Option Int → Option U) : V → Option Int → Option Int → Hp → VK → Prop := fun x lo hi H Q => ∃ S a u, Same S H ∧ Rep κ S a x ∧ f a lo hi = some u ∧ ∀ v S' H', StpP κ S H S' H' → Rep κ S' u v → Q v H'
structure SimPt (κ : String → Addr) (ρ : Bool) (t : TO) (m : Option (M U)) : Prop where
  run : ∀ {σ : L2.St} {S H : Hp} {F : List Addr} {env : Env}, Gd κ σ S H F env → ∀ {o : Option Int} {env' : Env}, mPart m env = some (o, env') → ∀ Q : Option Int → Hp → Prop,
  (∀ S' H' F', StpQ κ ρ S H F env S' H' F' env' → Gd κ σ S' H' F' env' → Q o H') → t σ H Q
theorem simPt_none : SimPt κ ρ tNoPart none := by
  constructor
  intro σ S H F env g o env' e Q k
  cases e
  exact k S H F (StpQ.refl S H F env) g
theorem simPt_some {t : TE} {m : M U} (h : SimE κ ρ t m) : SimPt κ ρ (tPart t) (some m) := by
  constructor
  intro σ S H F env g o env' e Q k
  obtain ⟨⟨x, e1⟩, h1, e⟩ := bindS e
  obtain ⟨i, h2, e⟩ := bindS e
  cases e
  have := isI_eq h2
  dsimp only at this
  subst this
  refine h.run g h1 _ fun v S1 H1 F1 s1 g1 r => ⟨i, r, k S1 H1 F1 s1 g1⟩
theorem simE_sl {f : U → Option Int → Option Int → Option U} {t : TE} {m : M U} {tl th : TO} {ml mh : Option (M U)} (h : SimE κ ρ t m) (hl : SimPt κ ρ tl ml) (hh : SimPt κ ρ th mh) : SimE κ ρ (tSl (rSl κ f) t tl th) (mSl f m ml mh) := by
  constructor
  intro σ S H F env g u env' e Q k
  obtain ⟨⟨x, e1⟩, h1, e⟩ := bindS e
  obtain ⟨⟨l, e2⟩, h2, e⟩ := bindS e
  obtain ⟨⟨hi, e3⟩, h3, e⟩ := bindS e
  obtain ⟨z, h4, e⟩ := bindS e
  cases e
  refine h.run g h1 _ fun v S1 H1 F1 s1 g1 r => hl.run g1 h2 _ fun S2 H2 F2 s2 g2 => hh.run g2 h3 _ fun S3 H3 F3 s3 g3 => ?_
  exact ⟨S3, x, u, g3.wf.sub, Rep.mono (s2.sub.trans s3.sub) x r, h4, fun v' S' H' p r' => k v' S' H' F3 (((s1.trans s2).trans s3).trans p.stq) (g3.pure_ p) r'⟩
theorem cut_reps {S : Hp} {us : List U} {vs : List V} (r : Reps κ S us vs) (lo hi : Option Int) : Reps κ S (cutU us lo hi) (cutV vs lo hi) := by
  unfold cutU cutV
  rw [← r.len]
  exact (r.drop _).take _
end
end UL
set_option Elab.async false
set_option linter.all false
set_option maxRecDepth 100000
set_option maxHeartbeats 2000000
/-! several things at once; walks, further -/
namespace UL
open PySem PySem.Spec PyProof.Rows L2 LV
/-- arguments, some of them owned -/
structure SimAO (κ : String → Addr) (n : Nat) (t : TA) (m : M (List Ow)) : Prop where
  len : ∀ {env ws env'}, m env = some (ws, env') → ws.length = n
  run : ∀ {σ : L2.St} {S H : Hp} {F : List Addr} {env : Env}, Gd κ σ S H F env → ∀ {ws : List Ow} {env' : Env}, m env = some (ws, env') → ∀ Q : List V → Hp → Prop,
    (∀ vs S' H' F' Fw, Stp κ S H F S' H' (F' ++ Fw) → Gd κ σ S' H' F' env' → WF S' H' (F' ++ Fw) → RepOs κ S' H' ws vs Fw → Q vs H') → t σ H Q
def oNil : M (List Ow) := fun env => some ([], env)
def oCons (a : M Ow) (r : M (List Ow)) : M (List Ow) := fun env => (a env).bind fun x => (r x.2).bind fun y => some (x.1 :: y.1, y.2)
section
variable {κ : String → Addr} {ρ : Bool} {fx : Nat → Bool} {K : PySem.W.Frag}
theorem simAO_nil : SimAO κ 0 tNil oNil := ⟨fun e => by cases e; rfl, fun {σ S H F env} g {ws env'} e Q k => by
  cases e
  exact k [] S H F [] (by rw [List.append_nil]; exact Stp.refl S H F) g (by rw [List.append_nil]; exact g.wf) ⟨rfl, rfl⟩⟩
theorem simAO_cons {n : Nat} {ta : TE} {ma : M Ow} {tr : TA} {mr : M (List Ow)} (ha : SimO κ ta ma) (hr : SimAO κ n tr mr) : SimAO κ (n + 1) (tCons ta tr) (oCons ma mr) := by
  constructor
  · intro env ws env' e
    obtain ⟨⟨x, e1⟩, h1, e⟩ := bindS e
    obtain ⟨⟨y, e2⟩, h2, e⟩ := bindS e
    cases e
    simp [hr.len h2]
  · intro σ S H F env g ws env' e Q k
    obtain ⟨⟨x, e1⟩, h1, e⟩ := bindS e
    obtain ⟨⟨y, e2⟩, h2, e⟩ := bindS e
    cases e
    refine ha.run g h1 _ fun v S1 H1 F1 Fw s1 g1 wf r => hr.run g1 h2 _ fun vs S2 H2 F2 Fv s2 g2 wf2 rs => ?_
    -- the first stands apart from the steps behind it
    have ap : ∀ a ∈ Fw, H2 a = H1 a ∧ a ∉ F2 ++ Fv ∧ S2 a = none := fun a ha => by
      obtain ⟨o, ho, nx⟩ := RepO.foot x r a ha
      have na : a ∉ F1 := fun z => (List.nodup_append.mp wf.nd).2.2 a z a ha rfl
      obtain ⟨q1, q2, q3⟩ := s2.apart wf2.sub ho na (wf.out a (by simp [ha])) nx
      exact ⟨q1.trans ho.symm, q2, q3⟩
    have st : Stp κ S1 H1 (F1 ++ Fw) S2 H2 (F2 ++ (Fw ++ Fv)) := ⟨fun b o hb h => s2.keep b o (fun z => hb (by simp [z])) h, s2.trk, s2.sub, fun b o h => by
      rcases s2.new b o h with z | z | z | z
      · exact .inl z
      · exact .inr (.inl z)
      · exact .inr (.inr (.inl z))
      · exact .inr (.inr (.inr (by simp [z]))), fun a ha => by
      simp only [List.mem_append] at ha
      rcases ha with ha | ha | ha
      · exact (s2.foot a (by simp [ha])).imp (fun z => by simp [z]) id
      · exact .inl (by simp [ha])
      · exact (s2.foot a (by simp [ha])).imp (fun z => by simp [z]) id⟩
    obtain ⟨n1, n2, n3⟩ := List.nodup_append.mp wf2.nd
    refine k _ S2 H2 F2 (Fw ++ Fv) (s1.trans st) g2 ⟨wf2.sub, List.nodup_append.mpr ⟨n1, List.nodup_append.mpr ⟨(List.nodup_append.mp wf.nd).2.1, n2, fun a ha b hb z => ?_⟩, fun a ha b hb z => ?_⟩, fun a ha => ?_⟩ ⟨v, vs, Fw, Fv, rfl, rfl, RepO.mono s2.sub x (fun a ha => (ap a ha).1) r, rs⟩
    · subst z
      exact (ap a ha).2.1 (by simp [hb])
    · subst z
      rcases List.mem_append.mp hb with hb | hb
      · exact (ap a hb).2.1 (by simp [ha])
      · exact n3 a ha a hb rfl
    · simp only [List.mem_append] at ha
      rcases ha with ha | ha | ha
      · exact wf2.out a (by simp [ha])
      · exact (ap a ha).2.2
      · exact wf2.out a (by simp [ha])
def sParO (i j : Nat) (a : M (List Ow)) : MS := fun env => (a env).bind fun x => match x.1 with
  | [u, v] => some (.nx ((x.2.set i (some u)).set j (some v)))
  | _ => none
def sPar3O (i j l : Nat) (a : M (List Ow)) : MS := fun env => (a env).bind fun x => match x.1 with
  | [u, v, w] => some (.nx (((x.2.set i (some u)).set j (some v)).set l (some w)))
  | _ => none
/-- a first thing to its slot, others left -/
theorem put_one {σ : L2.St} {S H : Hp} {F Fu Fv : List Addr} {env : Env} (g : Gd κ σ S H F env) (wf : WF S H (F ++ (Fu ++ Fv))) {w : Ow} {v : V} (r : RepO κ S H w v Fu) (i : Nat) :
    ∃ F', Gd κ (σ.set i (some v)) S H F' (env.set i (some w)) ∧ WF S H (F' ++ Fv) ∧ ∀ a ∈ F', a ∈ F ++ Fu := by
  have e : F ++ (Fu ++ Fv) = (F ++ Fu) ++ Fv := by simp
  rw [e] at wf
  obtain ⟨F', g1, hs⟩ := g.put2 wf.left r i
  obtain ⟨n1, n2, n3⟩ := List.nodup_append.mp wf.nd
  exact ⟨F', g1, ⟨wf.sub, List.nodup_append.mpr ⟨g1.wf.nd, n2, fun a ha b hb => n3 a (hs a ha) b hb⟩, fun a ha => by
    rcases List.mem_append.mp ha with ha | ha
    · exact g1.wf.out a ha
    · exact wf.out a (by simp [ha])⟩, hs⟩
theorem sim_parO {i j : Nat} {t : TA} {m : M (List Ow)} (h : SimAO κ 2 t m) (hi : fx i = false := by rfl) (hj : fx j = false := by rfl) : SimS κ fx (tPar i j t) (sParO i j m) := by
  constructor
  intro σ S H F env gd fl e D k
  obtain ⟨⟨x, e1⟩, h1, e⟩ := bindS e
  have hn := h.len h1
  obtain ⟨u, v, rfl⟩ : ∃ u v, x = [u, v] := by
    match x, hn with
    | [u, v], _ => exact ⟨u, v, rfl⟩
  refine h.run gd h1 _ fun vs S1 H1 F1 Fw s1 g1 wf r => ?_
  obtain ⟨a, _, A, B, rfl, rfl, ra, b, _, A', B', rfl, rfl, rb, rfl, rfl⟩ := r
  cases (Option.some.inj e)
  obtain ⟨F2, g2, wf2, h2⟩ := put_one g1 wf ra i
  obtain ⟨F3, g3, _, h3⟩ := put_one g2 wf2 rb j
  refine ⟨a, b, rfl, k _ S1 H1 F3 (s1.less fun z hz => ?_) g3 ((Fix.set hi).trans (Fix.set hj))⟩
  have := h3 z hz
  simp only [List.mem_append] at this ⊢
  rcases this with z1 | z1
  · have := h2 z z1
    simp only [List.mem_append] at this
    rcases this with z2 | z2 <;> simp [z2]
  · simp [z1]
theorem sim_par3O {i j l : Nat} {t : TA} {m : M (List Ow)} (h : SimAO κ 3 t m) (hi : fx i = false := by rfl) (hj : fx j = false := by rfl) (hl : fx l = false := by rfl) : SimS κ fx (tPar3 i j l t) (sPar3O i j l m) := by
  constructor
  intro σ S H F env gd fl e D k
  obtain ⟨⟨x, e1⟩, h1, e⟩ := bindS e
  have hn := h.len h1
  obtain ⟨u, v, w, rfl⟩ : ∃ u v w, x = [u, v, w] := by
    match x, hn with
    | [u, v, w], _ => exact ⟨u, v, w, rfl⟩
  refine h.run gd h1 _ fun vs S1 H1 F1 Fw s1 g1 wf r => ?_
  obtain ⟨a, _, A, B, rfl, rfl, ra, b, _, A', B', rfl, rfl, rb, c, _, A2, B2, rfl, rfl, rc, rfl, rfl⟩ := r
  cases (Option.some.inj e)
  obtain ⟨F2, g2, wf2, h2⟩ := put_one g1 wf ra i
  obtain ⟨F3, g3, wf3, h3⟩ := put_one g2 wf2 rb j
  obtain ⟨F4, g4, _, h4⟩ := put_one g3 wf3 rc l
  refine ⟨a, b, c, rfl, k _ S1 H1 F4 (s1.less fun z hz => ?_) g4 (((Fix.set hi).trans (Fix.set hj)).trans (Fix.set hl))⟩
  have := h4 z hz
  simp only [List.mem_append] at this ⊢
  rcases this with z1 | z1
  · have := h3 z z1
    simp only [List.mem_append] at this
    rcases this with z2 | z2
    · have := h2 z z2
      simp only [List.mem_append] at this
      rcases this with z3 | z3 <;> simp [z3]
    · simp [z2]
  · simp [z1]
/-- list(x) that is owned -/
def seq1 : List U → Option (List U)
  | [u] => seqU u
  | _ => none
theorem seq1_eq {x us : List U} (h : seq1 x = some us) : ∃ u, x = [u] ∧ (u = .lst us ∨ u = .tup us) := by
  cases x with
  | nil => cases h
  | cons u r =>
    cases r with
    | cons _ _ => cases h
    | nil =>
      refine ⟨u, rfl, ?_⟩
      cases u <;> first
        | (cases h; exact .inl rfl)
        | (cases h; exact .inr rfl)
        | cases h
def mListO (a : M (List U)) : M Ow := fun env => (a env).bind fun x => (seq1 x.1).bind fun us => some (.l (us.map .p), x.2)
theorem simO_list {n : Nat} {t : TA} {m : M (List U)} (h : SimA κ false n t m) : SimO κ (tCB (Evl.rListS K) t) (mListO m) := by
  constructor
  intro σ S H F env g w env' e Q k
  obtain ⟨⟨x, e1⟩, h1, e⟩ := bindS e
  obtain ⟨us, h2, e⟩ := bindS e
  cases e
  refine h.run g h1 _ fun vs S1 H1 F1 s1 g1 r => ?_
  obtain ⟨u, hx, hu⟩ := seq1_eq h2
  dsimp only at hx
  subst hx
  obtain ⟨v, _, rfl, r, rfl⟩ := r
  have : ∃ a ys, v = .ref a ∧ (SqL K H1 a ys ∨ SqT K H1 a ys) ∧ Reps κ S1 us ys := by
    rcases hu with rfl | rfl
    · obtain ⟨a, ys, rfl, ha, ry⟩ := r
      exact ⟨a, ys, rfl, .inl (SqL.of (g1.wf.sub _ _ ha)), ry⟩
    · obtain ⟨a, ys, rfl, ha, ry⟩ := r
      exact ⟨a, ys, rfl, .inr (SqT.of (g1.wf.sub _ _ ha)), ry⟩
  obtain ⟨a, ys, rfl, ha, ry⟩ := this
  refine ⟨a, ys, rfl, ha, fun l hl => ?_⟩
  obtain ⟨a1, a2, a3⟩ := new_owned (o := .lst ys) g1 hl
  exact k _ _ _ F1 [l] (s1.stp.trans a1) a2 a3 ⟨l, ys, [], rfl, upd_same, rfl, RepOs.pure_ ry⟩
/-- for over an owned list, the body keeping its slot -/
theorem sim_forV2 {i : Nat} {g : TG} {mg : MG} {t : TS} {m : MS} (hg : SimG κ (fun j => j == i || fx j) g mg) (h : SimS κ (fun j => j == i || fx j) t m) : SimS κ fx (tFor (iList K (tVar i)) g t) (sForV i mg m) := by
  constructor
  intro σ S H F env gd fl e D k
  refine (sim_forV (fx := fun j => j == i || fx j) (by simp) hg h).run gd e D ?_
  have fw : ∀ {σ'}, Fix (fun j => j == i || fx j) σ σ' → Fix fx σ σ' := fun f => ⟨f.1, fun j hj => f.2 j (by simp [hj])⟩
  cases fl with
  | nx e => exact fun σ' S' H' F' s' g' f => k σ' S' H' F' s' g' (fw f)
  | bk e => exact fun σ' S' H' F' s' g' f => k σ' S' H' F' s' g' (fw f)
  | rt w e => exact fun v σ' S' H' F' Fw s' g' wf r f => k v σ' S' H' F' Fw s' g' wf r (fw f)
/-- xs != [] -/
def mNeNilV (i : Nat) : M U := fun env => match env[i]? with
  | some (some (.l ws)) => some (.bl (!ws.isEmpty), env)
  | _ => none
/-- enumerate of a list or a tuple -/
def mEnumS (a : M (List U)) : M (List U) := fun env => (a env).bind fun x => (seq1 x.1).bind fun us => some (enumU us, x.2)
theorem none_spP {vs : List V} {H : Hp} {Q : VK} {E : XK} (h : spP κ (fun _ => none) vs H Q E) : False := by
  obtain ⟨_, _, _, _, _, h, _⟩ := h
  cases h
/-- range with a step -/
def mRng3 (a : M (List U)) : M (List U) := fun env => (a env).bind fun x => match x.1 with
  | [.int i, .int j, .int c] => if c = -1 ∧ -(2 ^ 60) ≤ i ∧ i ≤ 2 ^ 60 ∧ -(2 ^ 60) ≤ j ∧ j ≤ 2 ^ 60 then some ((List.range (i - j).toNat).map fun (k : Nat) => .int (i + (k : Nat) * c), x.2) else none
  | _ => none
end
end UL
namespace LM
/-! fractions as pairs -/
def rwh (o u : Int) : Int := if u < 0 then -(o.gcd u : Int) else (o.gcd u : Int)
def rO (o u : Int) : Int := o.fdiv (rwh o u)
def rD (o u : Int) : Int := u.fdiv (rwh o u)
def Red (o u : Int) : Prop := 0 < u ∧ o.gcd u = 1
theorem gcd_step (a b : Int) : b.gcd (a.fmod b) = a.gcd b := by
  have h : a.fmod b = a + (-(a.fdiv b)) * b := by
    have := Int.mul_fdiv_add_fmod a b
    have e : a.fdiv b * b = b * a.fdiv b := Int.mul_comm _ _
    rw [Int.neg_mul, e]
    omega
  rw [h, Int.gcd_add_mul_right_right, Int.gcd_comm]
theorem fmod_lt (a b : Int) (h : b ≠ 0) : (a.fmod b).natAbs < b.natAbs := by
  rcases Int.lt_or_gt_of_ne h with h1 | h1
  · have q1 : b < a.fmod b := by
      have := Int.fmod_eq_emod (a := a) (b := b)
      have e1 := Int.emod_nonneg a h
      have e2 := Int.emod_lt_of_neg a h1
      by_cases hd : 0 ≤ b ∨ b ∣ a
      · rw [if_pos hd] at this
        omega
      · rw [if_neg hd] at this
        have e3 : a % b ≠ 0 := fun z => hd (.inr (Int.dvd_of_emod_eq_zero z))
        omega
    have q2 : a.fmod b ≤ 0 := by
      have := Int.fmod_eq_emod (a := a) (b := b)
      have e2 := Int.emod_lt_of_neg a h1
      by_cases hd : 0 ≤ b ∨ b ∣ a
      · rw [if_pos hd] at this
        have e3 : a % b = 0 := Int.emod_eq_zero_of_dvd (hd.resolve_left (by omega))
        omega
      · rw [if_neg hd] at this
        omega
    omega
  · have q1 := Int.fmod_nonneg_of_pos a h1
    have q2 := Int.fmod_lt_of_pos a h1
    omega
theorem gcd_pos {o u : Int} (h : u ≠ 0) : 0 < o.gcd u := Int.gcd_pos_of_ne_zero_right o h
theorem rwh_ne {o u : Int} (h : u ≠ 0) : rwh o u ≠ 0 := by
  have := gcd_pos (o := o) h
  unfold rwh
  split <;> omega
theorem rwh_dvd_o (o u : Int) : rwh o u ∣ o := by
  unfold rwh
  split
  · exact Int.neg_dvd.mpr (Int.gcd_dvd_left o u)
  · exact Int.gcd_dvd_left o u
theorem rwh_dvd_u (o u : Int) : rwh o u ∣ u := by
  unfold rwh
  split
  · exact Int.neg_dvd.mpr (Int.gcd_dvd_right o u)
  · exact Int.gcd_dvd_right o u
theorem fdiv_dvd {a b : Int} (h : b ∣ a) : a.fdiv b = a / b := by
  rw [Int.fdiv_eq_ediv_of_dvd h]
theorem rO_mul (o u : Int) : rO o u * rwh o u = o := by
  unfold rO
  rw [fdiv_dvd (rwh_dvd_o o u)]
  exact Int.ediv_mul_cancel (rwh_dvd_o o u)
theorem rD_mul (o u : Int) : rD o u * rwh o u = u := by
  unfold rD
  rw [fdiv_dvd (rwh_dvd_u o u)]
  exact Int.ediv_mul_cancel (rwh_dvd_u o u)
/-- what such a pair is, it is by these -/
theorem red_unique {o u x y w : Int} (hu : u ≠ 0) (hr : Red x y) (h1 : x * w = o) (h2 : y * w = u) : rO o u = x ∧ rD o u = y := by
  have hw : w ≠ 0 := fun z => by
    rw [z, Int.mul_zero] at h2
    omega
  have hg : o.gcd u = w.natAbs := by
    rw [← h1, ← h2, Int.gcd_mul_right, hr.2, Nat.one_mul]
  have hs : rwh o u = w := by
    unfold rwh
    rw [hg]
    have hy := hr.1
    by_cases hneg : w < 0
    · have : u < 0 := by
        rw [← h2]
        exact Int.mul_neg_of_pos_of_neg hy hneg
      rw [if_pos this]
      omega
    · have : ¬ u < 0 := by
        have : 0 < y * w := Int.mul_pos hy (by omega)
        omega
      rw [if_neg this]
      omega
  unfold rO rD
  rw [hs]
  constructor
  · rw [← h1]
    exact Int.mul_fdiv_cancel x hw
  · rw [← h2]
    exact Int.mul_fdiv_cancel y hw
theorem red_of {o u : Int} (hu : u ≠ 0) : Red (rO o u) (rD o u) := by
  have hg := gcd_pos (o := o) hu
  have e := Int.gcd_ediv_gcd_ediv_gcd (i := o) (j := u) hg
  have hgd := Int.gcd_dvd_right o u
  unfold rO rD
  rw [fdiv_dvd (rwh_dvd_o o u), fdiv_dvd (rwh_dvd_u o u)]
  by_cases hneg : u < 0
  · have hw : rwh o u = -(o.gcd u : Int) := by
      unfold rwh
      rw [if_pos hneg]
    rw [hw, Int.ediv_neg, Int.ediv_neg]
    refine ⟨?_, ?_⟩
    · have : u / (o.gcd u : Int) < 0 := Int.ediv_neg_of_neg_of_pos hneg (by omega)
      omega
    · rw [Int.gcd_neg, Int.neg_gcd]
      exact e
  · have hw : rwh o u = (o.gcd u : Int) := by
      unfold rwh
      rw [if_neg hneg]
    rw [hw]
    refine ⟨?_, e⟩
    exact Int.ediv_pos_of_pos_of_dvd (by omega) (by omega) hgd
theorem red_self {o u : Int} (h : Red o u) : rO o u = o ∧ rD o u = u :=
  red_unique (w := 1) (by have := h.1; omega) h (Int.mul_one o) (Int.mul_one u)
theorem red_scale {o u s : Int} (h : Red o u) (hs : s ≠ 0) : rO (o * s) (u * s) = o ∧ rD (o * s) (u * s) = u :=
  red_unique (w := s) (by
    have := h.1
    exact Int.mul_ne_zero (by omega) hs) h rfl rfl
theorem red_one (o : Int) : Red o 1 := ⟨by decide, by simp⟩
theorem red_neg {o u : Int} (h : Red o u) : Red (-o) u := ⟨h.1, by rw [Int.neg_gcd]; exact h.2⟩
/-! bounds -/
theorem abs_rO {o u : Int} (hu : u ≠ 0) : (rO o u).natAbs ≤ o.natAbs := by
  have e := rO_mul o u
  have hw := rwh_ne (o := o) hu
  have : (rO o u).natAbs * (rwh o u).natAbs = o.natAbs := by rw [← Int.natAbs_mul, e]
  have hp : 0 < (rwh o u).natAbs := by omega
  rw [← this]
  exact Nat.le_mul_of_pos_right _ hp
theorem abs_rD {o u : Int} (hu : u ≠ 0) : (rD o u).natAbs ≤ u.natAbs := by
  have e := rD_mul o u
  have hw := rwh_ne (o := o) hu
  have : (rD o u).natAbs * (rwh o u).natAbs = u.natAbs := by rw [← Int.natAbs_mul, e]
  have hp : 0 < (rwh o u).natAbs := by omega
  rw [← this]
  exact Nat.le_mul_of_pos_right _ hp
theorem abs_rwh {o u : Int} (hu : u ≠ 0) : (rwh o u).natAbs ≤ u.natAbs := by
  have e := rD_mul o u
  have hw : rD o u ≠ 0 := by
    have := (red_of (o := o) hu).1
    omega
  have : (rD o u).natAbs * (rwh o u).natAbs = u.natAbs := by rw [← Int.natAbs_mul, e]
  have hp : 0 < (rD o u).natAbs := by omega
  rw [← this]
  exact Nat.le_mul_of_pos_left _ hp
end LM
set_option Elab.async false
set_option linter.all false
set_option maxRecDepth 100000
set_option maxHeartbeats 4000000
namespace LW
open PySem PySem.Spec PyProof.Rows L2 LV
def top (i : Nat) : Stmt := PySem.Challenge.pw_surelevels_k12_lines_joined.main.body.getD i (.Pass ⟨0, 0, 0, 0⟩)
end LW
set_option Elab.async false
set_option linter.all false
set_option maxRecDepth 100000
set_option maxHeartbeats 4000000
namespace LW
open PySem PySem.Spec PyProof.Rows L2 LV LM
/-! the class Exact -/
structure XC (K : PySem.W.Frag) (mg : Str → Option Value) (C : Addr) : Prop extends Bt mg where
  cl : Cls K C
  nO : NoAttr K C "over"
  nU : NoAttr K C "under"
  own : OwnC K C
  mgC : mg "Exact" = some (.ref C)
  ha : PySem.W.findIn K (.ref C) "__class__" = some (some (.builtin "object.__class__"))
  hn : PySem.W.specialIn K (.builtin "object.__class__") "__get__" = some (some (.builtin "getset_descriptor.__get__"))
  htk : PySem.W.takesIn K (.builtin "object.__class__") = some true
  hm : PySem.W.mroIn K C (.type "object") = some true
  kXI : PySem.W.kitOne K (.ref C) (.type "int") = some false
  kXB : PySem.W.kitOne K (.ref C) (.type "bool") = some false
  kXL : PySem.W.kitOne K (.ref C) (.type "list") = some false
  kXT : PySem.W.kitOne K (.ref C) (.type "tuple") = some false
  kIX : PySem.W.kitOne K (.type "int") (.ref C) = some false
  kLX : PySem.W.kitOne K (.type "list") (.ref C) = some false
  kTX : PySem.W.kitOne K (.type "tuple") (.ref C) = some false
  f_radd : ∃ g, PySem.W.findIn K (.ref C) "__radd__" = some (some (.ref g))
  f_rsub : ∃ g, PySem.W.findIn K (.ref C) "__rsub__" = some (some (.ref g))
  f_rmul : ∃ g, PySem.W.findIn K (.ref C) "__rmul__" = some (some (.ref g))
def exF (o u : Int) : List (Str × V) := [("over", .int o), ("under", .int u)]
/-- v is an Exact over o under u -/
def IsX (C : Addr) (H : Hp) (v : V) (o u : Int) : Prop := ∃ x dx, v = .ref x ∧ H x = some (.ins C dx (exF o u))
theorem IsX.same {C : Addr} {H H1 : Hp} {v : V} {o u : Int} (e : Same H H1) (h : IsX C H v o u) : IsX C H1 v o u := by
  obtain ⟨x, dx, rfl, h⟩ := h
  exact ⟨x, dx, rfl, e _ _ h⟩
theorem IsX.but {K : PySem.W.Frag} {a C : Addr} {H H1 : Hp} {v : V} {o u : Int} (e : Bus a H H1) (s : Stt K H a) (h : IsX C H v o u) : IsX C H1 v o u := by
  obtain ⟨x, dx, rfl, h⟩ := h
  exact ⟨x, dx, rfl, e.get s h rfl⟩
/-- v is a number: an int or an Exact -/
def IsN (C : Addr) (H : Hp) (v : V) (o u : Int) : Prop := (v = .int o ∧ u = 1) ∨ IsX C H v o u
theorem IsN.same {C : Addr} {H H1 : Hp} {v : V} {o u : Int} (e : Same H H1) (h : IsN C H v o u) : IsN C H1 v o u := h.imp id (IsX.same e)
theorem IsN.num {C : Addr} {H : Hp} {v : V} {o u : Int} (h : IsN C H v o u) : NumV C H v := by
  rcases h with ⟨rfl, _⟩ | ⟨x, dx, rfl, h⟩
  · exact .inl ⟨_, rfl⟩
  · exact .inr ⟨x, dx, _, rfl, h⟩
abbrev Big (i : Int) : Prop := i.natAbs < 2 ^ 8500
theorem big_ne {i : Int} (h : Big i) : i.natAbs.log2 < 9000 := Nat.lt_of_lt_of_le (PySem.Flt.log2_lt_of (by decide) h) (by decide)
theorem mulB {i j : Int} (h : Big i) (h' : Big j) : IntMulOk i j := (wide_mul h h' (by decide) (by decide) (by decide)).ok
abbrev Sm (i : Int) : Prop := i.natAbs < 2 ^ 4000
theorem Sm.big {i : Int} (h : Sm i) : Big i := Nat.lt_of_lt_of_le h (Nat.pow_le_pow_right (by decide) (by decide))
theorem smul {i j : Int} (h : Sm i) (h' : Sm j) : IntMulOk i j := mulB h.big h'.big
theorem big_mul {i j : Int} (h : Sm i) (h' : Sm j) : Big (i * j) := by
  have q := wide_lt h h'
  exact Nat.lt_of_lt_of_le q (Nat.pow_le_pow_right (by decide) (by decide))
theorem kII (K : PySem.W.Frag) : PySem.W.kitOne K (.type "int") (.type "int") = some true := rfl
theorem kIB (K : PySem.W.Frag) : PySem.W.kitOne K (.type "int") (.type "bool") = some false := by kernel_rfl
section
variable {P : Program} {w : World} {K : PySem.W.Frag} {mg : Str → Option Value} {base : Heap} {C : Addr}
/-! is_integer -/
def spInt (K : PySem.W.Frag) : Sp := fun vs H Q _ => ∃ (v : V) (t : Value) (b c : Bool), vs = [v] ∧ TyX K H v t ∧ PySem.W.kitOne K t (.type "int") = some b ∧ PySem.W.kitOne K t (.type "bool") = some c ∧ Q (.bl (b && !c)) H
abbrev s_is_integer : Stmt := top 8
abbrev N_is_integer : List Str := ["thing"]
theorem sc_is_integer : FnScope N_is_integer ["thing"] (defScope s_is_integer) := ⟨rfl, rfl, rfl, by decide +kernel, rfl, by decide +kernel, by decide +kernel⟩
-- slots: 0 thing
theorem ok_is_integer {f : Addr} {fd : FuncData} (F : FunD K "is_integer" "is_integer" (defArgs s_is_integer) (defBody s_is_integer) (defScope s_is_integer) [] [] f fd) (T : Bt mg) : FnOk P w K mg base CX0 1 f fd ["thing"] (spInt K) := by
  refine F.ok sc_is_integer (fun vs H Q E h => ?_) (fun cdv A outer s H vs Q E hr h => ?_)
  · obtain ⟨v, t, b, c, rfl, ht, hb, hc, k⟩ := h
    rfl
  · obtain ⟨v, t, b, c, rfl, ht, hb, hc, k⟩ := h
    refine ⟨_, PSs.nox (pss_one (ps_ret (pe_and (pe_callB call_isi rfl T.isinstance (by decide +kernel) (pa_cons (pv 0) (pa_cons (pe_bltn (v := .ty "int") rfl T.int (by decide +kernel) rfl) pa_nil))) (pe_one (pe_not (pe_callB call_isi rfl T.isinstance (by decide +kernel) (pa_cons (pv 0) (pa_cons (pe_bltn (v := .ty "bool") rfl T.bool (by decide +kernel) rfl) pa_nil)))))))), ?_⟩
    refine ⟨_, rfl, _, _, t, _, b, rfl, .ty "int", ht, hb, b, rfl, ?_⟩
    cases b with
    | false => exact k
    | true => exact ⟨_, rfl, _, _, t, _, c, rfl, .ty "bool", ht, hc, c, rfl, k⟩
theorem int_yes {H : Hp} {Q : VK} {E : XK} {i : Int} (q : Q (.bl true) H) : spInt K [.int i] H Q E := ⟨_, _, true, false, rfl, .base (.int i), kII K, kIB K, q⟩
/-! common -/
def spGcd : Sp := fun vs H Q _ => ∃ a b : Int, vs = [.int a, .int b] ∧ Q (.int (a.gcd b : Int)) H
abbrev s_common : Stmt := top 10
abbrev N_common : List Str := ["a", "b"]
theorem sc_common : FnScope N_common ["a", "b"] (defScope s_common) := ⟨rfl, rfl, rfl, by decide +kernel, rfl, by decide +kernel, by decide +kernel⟩
-- slots: 0 a, 1 b
theorem ok_common {f : Addr} {fd : FuncData} (F : FunD K "common" "common" (defArgs s_common) (defBody s_common) (defScope s_common) [] [] f fd) (T : Bt mg) : FnOk P w K mg base CX0 1 f fd ["a", "b"] spGcd := by
  refine F.ok sc_common (fun vs H Q E h => ?_) (fun cdv A outer s H vs Q E hr h => ?_)
  · obtain ⟨a, b, rfl, k⟩ := h
    rfl
  · obtain ⟨a, b, rfl, k⟩ := h
    refine ⟨_, PSs.nox (pss_cons (ps_while PassesOwn.never (pt_cmpR op_ne (pv 1) pe_int (nomark _)) (pss_one (ps_par (i := 0) (j := 1) rfl sc_common.nd rfl rfl (by decide) rfl rfl (pa_cons (pv 1) (pa_cons (pe_op op_modN (pv 0) (pv 1)) pa_nil)) rfl)))
      (pss_one (ps_ret (pe_ifExp (pt_cmpR op_gt (pv 0) pe_int (nomark _)) (pv 0) (pe_un un_neg (pv 0)))))), ?_⟩
    refine ⟨fun m σ H' => ∃ x y : Int, σ = [some (.int x), some (.int y)] ∧ H' = H ∧ m = y.natAbs ∧ x.gcd y = a.gcd b, ⟨_, a, b, rfl, rfl, rfl, rfl⟩, ?_⟩
    rintro m σ H' ⟨x, y, rfl, rfl, rfl, hg⟩
    refine ⟨_, rfl, rfl, _, rfl, ?_⟩
    by_cases hy : y = 0
    · subst hy
      refine iteF ?_
      rw [Int.gcd_zero_right] at hg
      refine ⟨_, rfl, _, _, rfl, rfl, _, rfl, ?_⟩
      refine ite2 (fun hc => ?_) (fun hc => ?_)
      · have h0 : 0 < x := of_decide_eq_true hc
        refine ⟨_, rfl, ?_⟩
        have e : x = (a.gcd b : Int) := by omega
        rw [e]
        exact k
      · have h0 : ¬ 0 < x := fun z => hc (decide_eq_true z)
        refine ⟨_, rfl, _, rfl, ?_⟩
        have e : -x = (a.gcd b : Int) := by omega
        show Q (.int (-x)) _
        rw [e]
        exact k
    · have e : (!decide (V.int y = V.int 0)) = true := by simp [hy]
      rw [e]
      refine iteT ⟨fun σ' H'' => σ' = [some (.int y), some (.int (x.fmod y))] ∧ H'' = H', fun σ' H'' ⟨h1, h2⟩ => ⟨_, fmod_lt x y hy, y, _, h1, h2, rfl, (gcd_step x y).trans hg⟩, ?_⟩
      exact ⟨_, rfl, _, rfl, _, rfl, _, _, rfl, rfl, hy, _, _, rfl, rfl, rfl⟩
/-! Exact(over, under) -/
def spInit (C : Addr) : Sp := fun vs H Q _ => ∃ (p dx : Addr) (o u : Int), vs = [.ref p, .int o, .int u] ∧ H p = some (.ins C dx []) ∧ u ≠ 0 ∧ Big u ∧ ∀ H', But p H H' → H' p = some (.ins C dx (exF (rO o u) (rD o u))) → Q .non H'
abbrev s_Exact___init__ : Stmt := inClass (top 11) 0
abbrev N_Exact___init__ : List Str := ["self", "over", "under", "part", "whole"]
theorem sc_Exact___init__ : FnScope N_Exact___init__ ["self", "over", "under"] (defScope s_Exact___init__) := ⟨rfl, rfl, rfl, by decide +kernel, rfl, by decide +kernel, by decide +kernel⟩
-- slots: 0 self, 1 over, 2 under, 3 part, 4 whole
theorem ok_Exact___init__ {f : Addr} {fd : FuncData} (F : FunD K "__init__" "Exact.__init__" (defArgs s_Exact___init__) (defBody s_Exact___init__) (defScope s_Exact___init__) [.int 1] [] f fd) (T : XC K mg C) (c_is_integer : C8.Cal P w K mg base 1 "is_integer" (spInt K) []) (c_common : C8.Cal P w K mg base 1 "common" spGcd []) : FnOk P w K mg base CX0 2 f fd ["self", "over", "under"] (spInit C) := by
  refine F.ok sc_Exact___init__ (fun vs H Q E h => ?_) (fun cdv A outer s H vs Q E hr h => ?_)
  · obtain ⟨p, dx, o, u, rfl, hp, hu, hub, k⟩ := h
    rfl
  · obtain ⟨p, dx, o, u, rfl, hp, hu, hub, k⟩ := h
    refine ⟨_, PSs.nox (pss_cons (ps_for PassesOwn.never rfl (pi_tup (pe_tup (pa_cons (pv 1) (pa_cons (pv 2) pa_nil)))) (pg_name (i := 3) sc_Exact___init__.nd rfl (Or.inl rfl)) (pss_one (ps_if (pt_not (pt_val (C8.pe_c c_is_integer hr (by decide) rfl (pa_cons (pv 3) pa_nil)))) (pss_one ps_never) pss_nil)))
      (pss_cons (ps_if (pt_cmpR op_eq (pv 2) pe_int (nomark _)) (pss_one ps_never) pss_nil)
      (pss_cons (ps_set (i := 4) sc_Exact___init__.nd rfl (Or.inl rfl) (C8.pe_c c_common hr (by decide) rfl (pa_cons (pv 1) (pa_cons (pv 2) pa_nil))))
      (Evl.pss_cut (ps_if (pt_cmpR op_lt (pv 2) pe_int (nomark _)) (pss_one (ps_set (i := 4) sc_Exact___init__.nd rfl (Or.inl rfl) (pe_un un_neg (pv 4)))) pss_nil)
      (pss_cons (ps_fld (pv 0) (pe_op op_fdivG (pv 1) (pv 4)) rfl)
      (pss_one (ps_fld (pv 0) (pe_op op_fdivG (pv 2) (pv 4)) rfl))))))), ?_⟩
    refine ⟨_, rfl, _, rfl, by show 2 ≤ sizeLine; decide, fun t n1 => ?_⟩
    generalize q1 : upd H t _ = H1
    have h1 := nAt q1
    have e1 := nSm q1 n1
    refine ⟨t, rfl, ⟨_, SqT.of h1⟩, ?_⟩
    refine for_it (walk_tup (xs := [.int o, .int u])) (fun i σ H2 => ∃ x, σ = [some (.ref p), some (.int o), some (.int u), x, none] ∧ H2 = H1) ⟨_, rfl, rfl⟩ (fun i σ H2 _ ⟨_, _, e⟩ => by rw [e]; exact SqT.of h1) ?_ ?_
    · rintro i x σ H2 H3 hi ⟨x3, rfl, rfl⟩ ⟨rfl, hx⟩
      obtain ⟨z, rfl⟩ : ∃ z, x = .int z := by
        rcases i with _ | _ | i
        · exact ⟨_, (Option.some.inj hx).symm⟩
        · exact ⟨_, (Option.some.inj hx).symm⟩
        · exact absurd hi (by simp)
      exact ⟨_, rfl, _, _, true, false, rfl, .base (.int z), kII K, kIB K, _, rfl, iteF ⟨_, rfl, rfl⟩⟩
    rintro σ H2 ⟨x3, rfl, rfl⟩
    refine ⟨_, rfl, rfl, _, rfl, ?_⟩
    have e0 : decide (V.int u = V.int 0) = false := by simp [hu]
    rw [e0]
    refine iteF ⟨_, rfl, _, rfl, o, u, rfl, ?_⟩
    refine ⟨fun σ H3 => σ = [some (.ref p), some (.int o), some (.int u), x3, some (.int (rwh o u))] ∧ H3 = H2, ?_, ?_⟩
    · refine ⟨_, rfl, _, _, rfl, rfl, _, rfl, ?_⟩
      refine ite2 (fun hc => ?_) (fun hc => ?_)
      · have h0 : u < 0 := of_decide_eq_true hc
        refine ⟨_, rfl, _, rfl, ?_, rfl⟩
        have e : rwh o u = -(o.gcd u : Int) := by unfold rwh; rw [if_pos h0]
        rw [e]
        rfl
      · have h0 : ¬ u < 0 := fun z => hc (decide_eq_true z)
        refine ⟨?_, rfl⟩
        have e : rwh o u = (o.gcd u : Int) := by unfold rwh; rw [if_neg h0]
        rw [e]
        rfl
    rintro σ H3 ⟨rfl, rfl⟩
    have hw : rwh o u ≠ 0 ∧ (rwh o u).natAbs.log2 < 9000 := ⟨rwh_ne hu, big_ne (Nat.lt_of_le_of_lt (abs_rwh hu) hub)⟩
    have hp1 := e1 _ _ hp
    refine ⟨_, rfl, _, rfl, _, _, rfl, rfl, hw, _, rfl, p, C, dx, _, rfl, hp1, T.cl, T.nO, (by show 0 < 1000; decide), ?_⟩
    refine ⟨_, rfl, _, rfl, _, _, rfl, rfl, hw, _, rfl, p, C, dx, _, rfl, upd_same, T.cl, T.nU, (by show 1 < 1000; decide), ?_⟩
    refine k _ ((Same.but e1).trans (((But.refl p _).upd).upd)) ?_
    rw [upd_same]
    rfl
/-- what Exact(o, u) makes -/
theorem mkX {H : Hp} {o u : Int} {Q : VK} {E : XK} (hu : u ≠ 0) (hub : Big u) (k : ∀ v H', Same H H' → IsX C H' v (rO o u) (rD o u) → Q v H') :
    ∀ x dx : Addr, H x = none → H dx = none → dx ≠ x → spInit C [.ref x, .int o, .int u] (upd (upd H dx (.own x)) x (.ins C dx [])) (fun v H2 => v = .non ∧ Q (.ref x) H2) E := by
  intro x dx nx nd ne
  refine ⟨x, dx, o, u, rfl, upd_same, hu, hub, fun H' e h => ⟨rfl, k _ _ (fun b ob hb => ?_) ⟨x, dx, rfl, h⟩⟩⟩
  have n1 := ne_of_none hb nx
  refine e b ob n1 ?_
  rw [upd_ne n1, upd_ne (ne_of_none hb nd)]
  exact hb
/-! part_of -/
def spPart (C : Addr) : Sp := fun vs H Q _ => ∃ (v : V) (o u : Int), vs = [v] ∧ IsN C H v o u ∧ ∀ v' H', Same H H' → IsX C H' v' o u → Q v' H'
theorem tyX {H : Hp} {x dx : Addr} {fs : List (Str × V)} (T : XC K mg C) (h : H x = some (.ins C dx fs)) : TyX K H (.ref x) (.ref C) := .base (.ins h T.cl T.ha T.hn T.htk T.hm)
theorem kXX (K : PySem.W.Frag) (C : Addr) : PySem.W.kitOne K (.ref C) (.ref C) = some true := by
  unfold PySem.W.kitOne
  rw [if_pos (by simp)]
abbrev s_part_of : Stmt := top 12
abbrev N_part_of : List Str := ["other"]
theorem sc_part_of : FnScope N_part_of ["other"] (defScope s_part_of) := ⟨rfl, rfl, rfl, by decide +kernel, rfl, by decide +kernel, by decide +kernel⟩
-- slots: 0 other
theorem ok_part_of {f : Addr} {fd : FuncData} (F : FunD K "part_of" "part_of" (defArgs s_part_of) (defBody s_part_of) (defScope s_part_of) [] [] f fd) (T : XC K mg C) (c_is_integer : C8.Cal P w K mg base 1 "is_integer" (spInt K) []) (c_Exact : C8.Mak P w K mg base 2 "Exact" C (spInit C) [.int 1]) : FnOk P w K mg base CX0 4 f fd ["other"] (spPart C) := by
  refine F.ok sc_part_of (fun vs H Q E h => ?_) (fun cdv A outer s H vs Q E hr h => ?_)
  · obtain ⟨v, o, u, rfl, hv, k⟩ := h
    rfl
  · obtain ⟨v, o, u, rfl, hv, k⟩ := h
    refine ⟨_, PSs.nox (pss_cons (ps_if (pt_val (pe_callB call_isi rfl T.isinstance (by decide +kernel) (pa_cons (pv 0) (pa_cons (pe_glob (v := .ref C) rfl T.mgC rfl) pa_nil)))) (pss_one (ps_ret (pv 0))) pss_nil)
      (pss_cons (ps_if (pt_not (pt_val (C8.pe_c c_is_integer hr (by decide) rfl (pa_cons (pv 0) pa_nil)))) (pss_one ps_never) pss_nil)
      (pss_one (ps_ret (C8.pe_mk c_Exact hr (by decide) rfl (pa_cons (pv 0) pa_nil)))))), ?_⟩
    rcases hv with ⟨rfl, rfl⟩ | ⟨x, dx, rfl, hx⟩
    · refine ⟨_, rfl, _, _, _, _, _, rfl, .own C, .base (.int o), T.kIX, false, rfl, iteF ?_⟩
      refine ⟨_, rfl, _, _, true, false, rfl, .base (.int o), kII K, kIB K, _, rfl, iteF ?_⟩
      refine ⟨_, rfl, fun x dx nx nd ne => mkX (by decide) (by decide) (fun v' H' e hx => k v' H' e ?_) x dx nx nd ne⟩
      obtain ⟨e1, e2⟩ := red_self (red_one o)
      rw [e1, e2] at hx
      exact hx
    · exact ⟨_, rfl, _, _, _, _, _, rfl, .own C, tyX T hx, kXX K C, true, rfl, iteT ⟨_, rfl, k _ _ (Same.refl H) ⟨x, dx, rfl, hx⟩⟩⟩
end
end LW
set_option Elab.async false
set_option linter.all false
set_option maxRecDepth 100000
set_option maxHeartbeats 4000000
namespace LW
open PySem PySem.Spec PyProof.Rows L2 LV LM
def spBin (C : Addr) (f g : Int → Int → Int → Int → Int) : Sp := fun vs H Q _ => ∃ (x y : V) (o u p q : Int), vs = [x, y] ∧ IsX C H x o u ∧ IsN C H y p q ∧ Sm o ∧ Sm u ∧ Sm p ∧ Sm q ∧ u ≠ 0 ∧ q ≠ 0 ∧
  ∀ v H', Same H H' → IsX C H' v (rO (f o u p q) (g o u p q)) (rD (f o u p q) (g o u p q)) → Q v H'
abbrev spAdd (C : Addr) : Sp := spBin C (fun o u p q => o * q + p * u) (fun _ u _ q => u * q)
abbrev spSub (C : Addr) : Sp := spBin C (fun o u p q => o * q - p * u) (fun _ u _ q => u * q)
abbrev spMul (C : Addr) : Sp := spBin C (fun o _ p _ => o * p) (fun _ u _ q => u * q)
abbrev spRadd (C : Addr) : Sp := spBin C (fun o u p q => p * u + o * q) (fun _ u _ q => q * u)
abbrev spRsub (C : Addr) : Sp := spBin C (fun o u p q => p * u - o * q) (fun _ u _ q => q * u)
abbrev spRmul (C : Addr) : Sp := spBin C (fun o _ p _ => p * o) (fun _ u _ q => q * u)
section
variable {P : Program} {w : World} {K : PySem.W.Frag} {mg : Str → Option Value} {base : Heap} {C : Addr}
abbrev s_Exact___add__ : Stmt := inClass (top 11) 1
abbrev N_Exact___add__ : List Str := ["self", "other", "b"]
theorem sc_Exact___add__ : FnScope N_Exact___add__ ["self", "other"] (defScope s_Exact___add__) := ⟨rfl, rfl, rfl, by decide +kernel, rfl, by decide +kernel, by decide +kernel⟩
-- slots: 0 self, 1 other, 2 b
theorem ok_Exact___add__ {f : Addr} {fd : FuncData} (F : FunD K "__add__" "Exact.__add__" (defArgs s_Exact___add__) (defBody s_Exact___add__) (defScope s_Exact___add__) [] [] f fd) (T : XC K mg C) (c_part_of : C8.Cal P w K mg base 4 "part_of" (spPart C) []) (c_Exact : C8.Mak P w K mg base 2 "Exact" C (spInit C) []) : FnOk P w K mg base CX0 5 f fd ["self", "other"] (spAdd C) := by
  refine F.ok sc_Exact___add__ (fun vs H Q E h => ?_) (fun cdv A outer s H vs Q E hr h => ?_)
  · obtain ⟨x, y, o, u, p, q, rfl, hx, hy, so, su, sp, sq, hu, hq, k⟩ := h
    rfl
  · obtain ⟨x, y, o, u, p, q, rfl, hx, hy, so, su, sp, sq, hu, hq, k⟩ := h
    refine ⟨_, PSs.nox (pss_cons (ps_set (i := 2) sc_Exact___add__.nd rfl (Or.inl rfl) (C8.pe_c c_part_of hr (by decide) rfl (pa_cons (pv 1) pa_nil)))
      (pss_one (ps_ret (C8.pe_mk c_Exact hr (by decide) rfl (pa_cons (pe_op op_add (pe_op op_mulG (pe_fld (pv 0) rfl) (pe_fld (pv 2) rfl)) (pe_op op_mulG (pe_fld (pv 2) rfl) (pe_fld (pv 0) rfl))) (pa_cons (pe_op op_mulG (pe_fld (pv 0) rfl) (pe_fld (pv 2) rfl)) pa_nil)))))), ?_⟩
    refine ⟨_, rfl, y, p, q, rfl, hy, fun b H1 e1 hb => ?_⟩
    obtain ⟨xa, xd, rfl, hx1⟩ := hx.same e1
    obtain ⟨ba, bd, rfl, hb⟩ := hb
    refine ⟨_, rfl, xa, C, xd, _, _, rfl, hx1, T.cl, T.nO, rfl, _, rfl, ba, C, bd, _, _, rfl, hb, T.cl, T.nU, rfl, _, _, rfl, rfl, smul so sq, _, rfl, ba, C, bd, _, _, rfl, hb, T.cl, T.nO, rfl, _, rfl, xa, C, xd, _, _, rfl, hx1, T.cl, T.nU, rfl, _, _, rfl, rfl, smul sp su, _, _, rfl, rfl, _, rfl, xa, C, xd, _, _, rfl, hx1, T.cl, T.nU, rfl, _, rfl, ba, C, bd, _, _, rfl, hb, T.cl, T.nU, rfl, _, _, rfl, rfl, smul su sq, fun n dn nx nd ne => mkX (Int.mul_ne_zero hu hq) (big_mul su sq) (fun v H' e hv => k v H' (e1.trans e) hv) n dn nx nd ne⟩
abbrev s_Exact___sub__ : Stmt := inClass (top 11) 3
abbrev N_Exact___sub__ : List Str := ["self", "other", "b"]
theorem sc_Exact___sub__ : FnScope N_Exact___sub__ ["self", "other"] (defScope s_Exact___sub__) := ⟨rfl, rfl, rfl, by decide +kernel, rfl, by decide +kernel, by decide +kernel⟩
-- slots: 0 self, 1 other, 2 b
theorem ok_Exact___sub__ {f : Addr} {fd : FuncData} (F : FunD K "__sub__" "Exact.__sub__" (defArgs s_Exact___sub__) (defBody s_Exact___sub__) (defScope s_Exact___sub__) [] [] f fd) (T : XC K mg C) (c_part_of : C8.Cal P w K mg base 4 "part_of" (spPart C) []) (c_Exact : C8.Mak P w K mg base 2 "Exact" C (spInit C) []) : FnOk P w K mg base CX0 5 f fd ["self", "other"] (spSub C) := by
  refine F.ok sc_Exact___sub__ (fun vs H Q E h => ?_) (fun cdv A outer s H vs Q E hr h => ?_)
  · obtain ⟨x, y, o, u, p, q, rfl, hx, hy, so, su, sp, sq, hu, hq, k⟩ := h
    rfl
  · obtain ⟨x, y, o, u, p, q, rfl, hx, hy, so, su, sp, sq, hu, hq, k⟩ := h
    refine ⟨_, PSs.nox (pss_cons (ps_set (i := 2) sc_Exact___sub__.nd rfl (Or.inl rfl) (C8.pe_c c_part_of hr (by decide) rfl (pa_cons (pv 1) pa_nil)))
      (pss_one (ps_ret (C8.pe_mk c_Exact hr (by decide) rfl (pa_cons (pe_op op_sub (pe_op op_mulG (pe_fld (pv 0) rfl) (pe_fld (pv 2) rfl)) (pe_op op_mulG (pe_fld (pv 2) rfl) (pe_fld (pv 0) rfl))) (pa_cons (pe_op op_mulG (pe_fld (pv 0) rfl) (pe_fld (pv 2) rfl)) pa_nil)))))), ?_⟩
    refine ⟨_, rfl, y, p, q, rfl, hy, fun b H1 e1 hb => ?_⟩
    obtain ⟨xa, xd, rfl, hx1⟩ := hx.same e1
    obtain ⟨ba, bd, rfl, hb⟩ := hb
    refine ⟨_, rfl, xa, C, xd, _, _, rfl, hx1, T.cl, T.nO, rfl, _, rfl, ba, C, bd, _, _, rfl, hb, T.cl, T.nU, rfl, _, _, rfl, rfl, smul so sq, _, rfl, ba, C, bd, _, _, rfl, hb, T.cl, T.nO, rfl, _, rfl, xa, C, xd, _, _, rfl, hx1, T.cl, T.nU, rfl, _, _, rfl, rfl, smul sp su, _, _, rfl, rfl, _, rfl, xa, C, xd, _, _, rfl, hx1, T.cl, T.nU, rfl, _, rfl, ba, C, bd, _, _, rfl, hb, T.cl, T.nU, rfl, _, _, rfl, rfl, smul su sq, fun n dn nx nd ne => mkX (Int.mul_ne_zero hu hq) (big_mul su sq) (fun v H' e hv => k v H' (e1.trans e) hv) n dn nx nd ne⟩
abbrev s_Exact___mul__ : Stmt := inClass (top 11) 5
abbrev N_Exact___mul__ : List Str := ["self", "other", "b"]
theorem sc_Exact___mul__ : FnScope N_Exact___mul__ ["self", "other"] (defScope s_Exact___mul__) := ⟨rfl, rfl, rfl, by decide +kernel, rfl, by decide +kernel, by decide +kernel⟩
-- slots: 0 self, 1 other, 2 b
theorem ok_Exact___mul__ {f : Addr} {fd : FuncData} (F : FunD K "__mul__" "Exact.__mul__" (defArgs s_Exact___mul__) (defBody s_Exact___mul__) (defScope s_Exact___mul__) [] [] f fd) (T : XC K mg C) (c_part_of : C8.Cal P w K mg base 4 "part_of" (spPart C) []) (c_Exact : C8.Mak P w K mg base 2 "Exact" C (spInit C) []) : FnOk P w K mg base CX0 5 f fd ["self", "other"] (spMul C) := by
  refine F.ok sc_Exact___mul__ (fun vs H Q E h => ?_) (fun cdv A outer s H vs Q E hr h => ?_)
  · obtain ⟨x, y, o, u, p, q, rfl, hx, hy, so, su, sp, sq, hu, hq, k⟩ := h
    rfl
  · obtain ⟨x, y, o, u, p, q, rfl, hx, hy, so, su, sp, sq, hu, hq, k⟩ := h
    refine ⟨_, PSs.nox (pss_cons (ps_set (i := 2) sc_Exact___mul__.nd rfl (Or.inl rfl) (C8.pe_c c_part_of hr (by decide) rfl (pa_cons (pv 1) pa_nil)))
      (pss_one (ps_ret (C8.pe_mk c_Exact hr (by decide) rfl (pa_cons (pe_op op_mulG (pe_fld (pv 0) rfl) (pe_fld (pv 2) rfl)) (pa_cons (pe_op op_mulG (pe_fld (pv 0) rfl) (pe_fld (pv 2) rfl)) pa_nil)))))), ?_⟩
    refine ⟨_, rfl, y, p, q, rfl, hy, fun b H1 e1 hb => ?_⟩
    obtain ⟨xa, xd, rfl, hx1⟩ := hx.same e1
    obtain ⟨ba, bd, rfl, hb⟩ := hb
    refine ⟨_, rfl, xa, C, xd, _, _, rfl, hx1, T.cl, T.nO, rfl, _, rfl, ba, C, bd, _, _, rfl, hb, T.cl, T.nO, rfl, _, _, rfl, rfl, smul so sp, _, rfl, xa, C, xd, _, _, rfl, hx1, T.cl, T.nU, rfl, _, rfl, ba, C, bd, _, _, rfl, hb, T.cl, T.nU, rfl, _, _, rfl, rfl, smul su sq, fun n dn nx nd ne => mkX (Int.mul_ne_zero hu hq) (big_mul su sq) (fun v H' e hv => k v H' (e1.trans e) hv) n dn nx nd ne⟩
abbrev s_Exact___radd__ : Stmt := inClass (top 11) 2
abbrev N_Exact___radd__ : List Str := ["self", "other"]
theorem sc_Exact___radd__ : FnScope N_Exact___radd__ ["self", "other"] (defScope s_Exact___radd__) := ⟨rfl, rfl, rfl, by decide +kernel, rfl, by decide +kernel, by decide +kernel⟩
-- slots: 0 self, 1 other
theorem ok_Exact___radd__ {f : Addr} {fd : FuncData} (F : FunD K "__radd__" "Exact.__radd__" (defArgs s_Exact___radd__) (defBody s_Exact___radd__) (defScope s_Exact___radd__) [] [] f fd) (T : XC K mg C) (c_part_of : C8.Cal P w K mg base 4 "part_of" (spPart C) []) (m__add__ : ∀ X : Cx, X.prog = P → X.w = w → X.K = K → X.mg = mg → X.base = base → OwnM X 5 C "__add__" (spAdd C)) : FnOk P w K mg base CX0 6 f fd ["self", "other"] (spRadd C) := by
  refine F.ok sc_Exact___radd__ (fun vs H Q E h => ?_) (fun cdv A outer s H vs Q E hr h => ?_)
  · obtain ⟨x, y, o, u, p, q, rfl, hx, hy, so, su, sp, sq, hu, hq, k⟩ := h
    rfl
  · obtain ⟨x, y, o, u, p, q, rfl, hx, hy, so, su, sp, sq, hu, hq, k⟩ := h
    refine ⟨_, PSs.nox (pss_one (ps_ret (pe_op (op_addL (m__add__ _ rfl rfl rfl rfl rfl) T.f_radd.choose_spec T.own (hr.mono (by decide))) (C8.pe_c c_part_of hr (by decide) rfl (pa_cons (pv 1) pa_nil)) (pv 0)))), ?_⟩
    refine ⟨_, rfl, y, p, q, rfl, hy, fun b H1 e1 hb => ?_⟩
    obtain ⟨ba, bd, rfl, hb⟩ := hb
    exact ⟨_, rfl, ba, bd, _, rfl, hb, (IsN.num (.inr (hx.same e1))), _, _, p, q, o, u, rfl, ⟨ba, bd, rfl, hb⟩, .inr (hx.same e1), sp, sq, so, su, hq, hu, fun v H' e hv => k v H' (e1.trans e) hv⟩
abbrev s_Exact___rsub__ : Stmt := inClass (top 11) 4
abbrev N_Exact___rsub__ : List Str := ["self", "other"]
theorem sc_Exact___rsub__ : FnScope N_Exact___rsub__ ["self", "other"] (defScope s_Exact___rsub__) := ⟨rfl, rfl, rfl, by decide +kernel, rfl, by decide +kernel, by decide +kernel⟩
-- slots: 0 self, 1 other
theorem ok_Exact___rsub__ {f : Addr} {fd : FuncData} (F : FunD K "__rsub__" "Exact.__rsub__" (defArgs s_Exact___rsub__) (defBody s_Exact___rsub__) (defScope s_Exact___rsub__) [] [] f fd) (T : XC K mg C) (c_part_of : C8.Cal P w K mg base 4 "part_of" (spPart C) []) (m__sub__ : ∀ X : Cx, X.prog = P → X.w = w → X.K = K → X.mg = mg → X.base = base → OwnM X 5 C "__sub__" (spSub C)) : FnOk P w K mg base CX0 6 f fd ["self", "other"] (spRsub C) := by
  refine F.ok sc_Exact___rsub__ (fun vs H Q E h => ?_) (fun cdv A outer s H vs Q E hr h => ?_)
  · obtain ⟨x, y, o, u, p, q, rfl, hx, hy, so, su, sp, sq, hu, hq, k⟩ := h
    rfl
  · obtain ⟨x, y, o, u, p, q, rfl, hx, hy, so, su, sp, sq, hu, hq, k⟩ := h
    refine ⟨_, PSs.nox (pss_one (ps_ret (pe_op (op_subL (m__sub__ _ rfl rfl rfl rfl rfl) T.f_rsub.choose_spec T.own (hr.mono (by decide))) (C8.pe_c c_part_of hr (by decide) rfl (pa_cons (pv 1) pa_nil)) (pv 0)))), ?_⟩
    refine ⟨_, rfl, y, p, q, rfl, hy, fun b H1 e1 hb => ?_⟩
    obtain ⟨ba, bd, rfl, hb⟩ := hb
    exact ⟨_, rfl, ba, bd, _, rfl, hb, (IsN.num (.inr (hx.same e1))), _, _, p, q, o, u, rfl, ⟨ba, bd, rfl, hb⟩, .inr (hx.same e1), sp, sq, so, su, hq, hu, fun v H' e hv => k v H' (e1.trans e) hv⟩
abbrev s_Exact___rmul__ : Stmt := inClass (top 11) 6
abbrev N_Exact___rmul__ : List Str := ["self", "other"]
theorem sc_Exact___rmul__ : FnScope N_Exact___rmul__ ["self", "other"] (defScope s_Exact___rmul__) := ⟨rfl, rfl, rfl, by decide +kernel, rfl, by decide +kernel, by decide +kernel⟩
-- slots: 0 self, 1 other
theorem ok_Exact___rmul__ {f : Addr} {fd : FuncData} (F : FunD K "__rmul__" "Exact.__rmul__" (defArgs s_Exact___rmul__) (defBody s_Exact___rmul__) (defScope s_Exact___rmul__) [] [] f fd) (T : XC K mg C) (c_part_of : C8.Cal P w K mg base 4 "part_of" (spPart C) []) (m__mul__ : ∀ X : Cx, X.prog = P → X.w = w → X.K = K → X.mg = mg → X.base = base → OwnM X 5 C "__mul__" (spMul C)) : FnOk P w K mg base CX0 6 f fd ["self", "other"] (spRmul C) := by
  refine F.ok sc_Exact___rmul__ (fun vs H Q E h => ?_) (fun cdv A outer s H vs Q E hr h => ?_)
  · obtain ⟨x, y, o, u, p, q, rfl, hx, hy, so, su, sp, sq, hu, hq, k⟩ := h
    rfl
  · obtain ⟨x, y, o, u, p, q, rfl, hx, hy, so, su, sp, sq, hu, hq, k⟩ := h
    refine ⟨_, PSs.nox (pss_one (ps_ret (pe_op (op_mulL (m__mul__ _ rfl rfl rfl rfl rfl) T.f_rmul.choose_spec T.own (hr.mono (by decide))) (C8.pe_c c_part_of hr (by decide) rfl (pa_cons (pv 1) pa_nil)) (pv 0)))), ?_⟩
    refine ⟨_, rfl, y, p, q, rfl, hy, fun b H1 e1 hb => ?_⟩
    obtain ⟨ba, bd, rfl, hb⟩ := hb
    exact ⟨_, rfl, ba, bd, _, rfl, hb, (IsN.num (.inr (hx.same e1))), _, _, p, q, o, u, rfl, ⟨ba, bd, rfl, hb⟩, .inr (hx.same e1), sp, sq, so, su, hq, hu, fun v H' e hv => k v H' (e1.trans e) hv⟩
/-- a.by(b), b not nought -/
def spBy (C : Addr) : Sp := fun vs H Q _ => ∃ (x y : V) (o u p q : Int), vs = [x, y] ∧ IsX C H x o u ∧ IsN C H y p q ∧ Sm o ∧ Sm u ∧ Sm p ∧ Sm q ∧ u ≠ 0 ∧ p ≠ 0 ∧
  ∀ v H', Same H H' → IsX C H' v (rO (o * q) (u * p)) (rD (o * q) (u * p)) → Q v H'
abbrev s_Exact_by : Stmt := inClass (top 11) 7
abbrev N_Exact_by : List Str := ["self", "other", "b"]
theorem sc_Exact_by : FnScope N_Exact_by ["self", "other"] (defScope s_Exact_by) := ⟨rfl, rfl, rfl, by decide +kernel, rfl, by decide +kernel, by decide +kernel⟩
-- slots: 0 self, 1 other, 2 b
theorem ok_Exact_by {f : Addr} {fd : FuncData} (F : FunD K "by" "Exact.by" (defArgs s_Exact_by) (defBody s_Exact_by) (defScope s_Exact_by) [] [] f fd) (T : XC K mg C) (c_part_of : C8.Cal P w K mg base 4 "part_of" (spPart C) []) (c_Exact : C8.Mak P w K mg base 2 "Exact" C (spInit C) []) : FnOk P w K mg base CX0 5 f fd ["self", "other"] (spBy C) := by
  refine F.ok sc_Exact_by (fun vs H Q E h => ?_) (fun cdv A outer s H vs Q E hr h => ?_)
  · obtain ⟨x, y, o, u, p, q, rfl, hx, hy, so, su, sp, sq, hu, hp, k⟩ := h
    rfl
  · obtain ⟨x, y, o, u, p, q, rfl, hx, hy, so, su, sp, sq, hu, hp, k⟩ := h
    refine ⟨_, PSs.nox (pss_cons (ps_set (i := 2) sc_Exact_by.nd rfl (Or.inl rfl) (C8.pe_c c_part_of hr (by decide) rfl (pa_cons (pv 1) pa_nil)))
      (pss_cons (ps_if (pt_cmpR op_eq (pe_fld (pv 2) rfl) pe_int (nomark _)) (pss_one ps_never) pss_nil)
      (pss_one (ps_ret (C8.pe_mk c_Exact hr (by decide) rfl (pa_cons (pe_op op_mulG (pe_fld (pv 0) rfl) (pe_fld (pv 2) rfl)) (pa_cons (pe_op op_mulG (pe_fld (pv 0) rfl) (pe_fld (pv 2) rfl)) pa_nil))))))), ?_⟩
    refine ⟨_, rfl, y, p, q, rfl, hy, fun b H1 e1 hb => ?_⟩
    obtain ⟨xa, xd, rfl, hx1⟩ := hx.same e1
    obtain ⟨ba, bd, rfl, hb⟩ := hb
    have e0 : decide (V.int p = V.int 0) = false := by simp [hp]
    refine ⟨_, rfl, ba, C, bd, _, _, rfl, hb, T.cl, T.nO, rfl, rfl, _, rfl, ?_⟩
    rw [e0]
    refine iteF ⟨_, rfl, xa, C, xd, _, _, rfl, hx1, T.cl, T.nO, rfl, _, rfl, ba, C, bd, _, _, rfl, hb, T.cl, T.nU, rfl, _, _, rfl, rfl, smul so sq, _, rfl, xa, C, xd, _, _, rfl, hx1, T.cl, T.nU, rfl, _, rfl, ba, C, bd, _, _, rfl, hb, T.cl, T.nO, rfl, _, _, rfl, rfl, smul su sp, fun n dn nx nd ne => mkX (Int.mul_ne_zero hu hp) (big_mul su sp) (fun v H' e hv => k v H' (e1.trans e) hv) n dn nx nd ne⟩
def spNeg (C : Addr) : Sp := fun vs H Q _ => ∃ (x : V) (o u : Int), vs = [x] ∧ IsX C H x o u ∧ Sm u ∧ u ≠ 0 ∧ ∀ v H', Same H H' → IsX C H' v (rO (-o) u) (rD (-o) u) → Q v H'
abbrev s_Exact___neg__ : Stmt := inClass (top 11) 8
abbrev N_Exact___neg__ : List Str := ["self"]
theorem sc_Exact___neg__ : FnScope N_Exact___neg__ ["self"] (defScope s_Exact___neg__) := ⟨rfl, rfl, rfl, by decide +kernel, rfl, by decide +kernel, by decide +kernel⟩
-- slots: 0 self
theorem ok_Exact___neg__ {f : Addr} {fd : FuncData} (F : FunD K "__neg__" "Exact.__neg__" (defArgs s_Exact___neg__) (defBody s_Exact___neg__) (defScope s_Exact___neg__) [] [] f fd) (T : XC K mg C) (c_Exact : C8.Mak P w K mg base 2 "Exact" C (spInit C) []) : FnOk P w K mg base CX0 5 f fd ["self"] (spNeg C) := by
  refine F.ok sc_Exact___neg__ (fun vs H Q E h => ?_) (fun cdv A outer s H vs Q E hr h => ?_)
  · obtain ⟨x, o, u, rfl, hx, su, hu, k⟩ := h
    rfl
  · obtain ⟨x, o, u, rfl, hx, su, hu, k⟩ := h
    refine ⟨_, PSs.nox (pss_one (ps_ret (C8.pe_mk c_Exact hr (by decide) rfl (pa_cons (pe_un un_neg (pe_fld (pv 0) rfl)) (pa_cons (pe_fld (pv 0) rfl) pa_nil))))), ?_⟩
    obtain ⟨xa, xd, rfl, hx1⟩ := hx
    exact ⟨_, rfl, xa, C, xd, _, _, rfl, hx1, T.cl, T.nO, rfl, _, rfl, _, rfl, xa, C, xd, _, _, rfl, hx1, T.cl, T.nU, rfl, fun n dn nx nd ne => mkX hu su.big (fun v H' e hv => k v H' e hv) n dn nx nd ne⟩
/-- a number as results are told -/
def TN (C : Addr) (H : Hp) (v : V) (o u : Int) : Prop := (u = 1 ∧ v = .int o) ∨ (u ≠ 1 ∧ IsX C H v o u)
theorem TN.same {H H1 : Hp} {v : V} {o u : Int} (e : Same H H1) (h : TN C H v o u) : TN C H1 v o u := h.imp id fun ⟨n, x⟩ => ⟨n, x.same e⟩
def spPlain (C : Addr) : Sp := fun vs H Q _ => ∃ (y : V) (p q : Int), vs = [y] ∧ IsN C H y p q ∧ ∀ v H', Same H H' → TN C H' v p q → Q v H'
abbrev s_plain : Stmt := top 13
abbrev N_plain : List Str := ["number", "found"]
theorem sc_plain : FnScope N_plain ["number"] (defScope s_plain) := ⟨rfl, rfl, rfl, by decide +kernel, rfl, by decide +kernel, by decide +kernel⟩
-- slots: 0 number, 1 found
theorem ok_plain {f : Addr} {fd : FuncData} (F : FunD K "plain" "plain" (defArgs s_plain) (defBody s_plain) (defScope s_plain) [] [] f fd) (T : XC K mg C) (c_part_of : C8.Cal P w K mg base 4 "part_of" (spPart C) []) : FnOk P w K mg base CX0 5 f fd ["number"] (spPlain C) := by
  refine F.ok sc_plain (fun vs H Q E h => ?_) (fun cdv A outer s H vs Q E hr h => ?_)
  · obtain ⟨y, p, q, rfl, hy, k⟩ := h
    rfl
  · obtain ⟨y, p, q, rfl, hy, k⟩ := h
    refine ⟨_, PSs.nox (pss_cons (ps_set (i := 1) sc_plain.nd rfl (Or.inl rfl) (C8.pe_c c_part_of hr (by decide) rfl (pa_cons (pv 0) pa_nil)))
      (pss_one (ps_ret (pe_ifExp (pt_cmpR op_eq (pe_fld (pv 1) rfl) pe_int (nomark _)) (pe_fld (pv 1) rfl) (pv 1))))), ?_⟩
    refine ⟨_, rfl, y, p, q, rfl, hy, fun b H1 e1 hb => ?_⟩
    obtain ⟨ba, bd, rfl, hb⟩ := hb
    refine ⟨_, rfl, ba, C, bd, _, _, rfl, hb, T.cl, T.nU, rfl, rfl, _, rfl, ?_⟩
    refine ite2 (fun hc => ?_) (fun hc => ?_)
    · have h1 : q = 1 := by simpa using hc
      exact ⟨_, rfl, ba, C, bd, _, _, rfl, hb, T.cl, T.nO, rfl, k _ _ e1 (.inl ⟨h1, rfl⟩)⟩
    · have h1 : q ≠ 1 := by simpa using hc
      exact ⟨_, rfl, k _ _ e1 (.inr ⟨h1, ba, bd, rfl, hb⟩)⟩
end
end LW
set_option Elab.async false
set_option linter.all false
set_option maxRecDepth 100000
set_option maxHeartbeats 4000000
namespace LW
open PySem PySem.Spec PyProof.Rows L2 LV LM
abbrev typs : List String := ["NoneType", "bool", "int", "str", "list", "dict", "tuple"]
/-- the class Exact beside all kinds of objects -/
structure XE (K : PySem.W.Frag) (mg : Str → Option Value) (C : Addr) : Prop extends XC K mg C where
  kT : ∀ t ∈ typs, PySem.W.kitOne K (.type t) (.ref C) = some false ∧ PySem.W.subIn K (.type t) (.ref C) = some false ∧ PySem.W.subIn K (.ref C) (.type t) = some false
  ne : PySem.W.findIn K (.ref C) "__ne__" = some (some (.builtin "object.__ne__"))
section
variable {P : Program} {w : World} {K : PySem.W.Frag} {mg : Str → Option Value} {base : Heap} {C : Addr}
/-! is_number -/
def spNum (K : PySem.W.Frag) (C : Addr) : Sp := fun vs H Q _ => ∃ (v : V) (t : Value) (b c d : Bool), vs = [v] ∧ TyX K H v t ∧ PySem.W.kitOne K t (.type "int") = some b ∧ PySem.W.kitOne K t (.type "bool") = some c ∧ PySem.W.kitOne K t (.ref C) = some d ∧ Q (.bl ((b && !c) || d)) H
abbrev s_is_number : Stmt := top 9
abbrev N_is_number : List Str := ["thing"]
theorem sc_is_number : FnScope N_is_number ["thing"] (defScope s_is_number) := ⟨rfl, rfl, rfl, by decide +kernel, rfl, by decide +kernel, by decide +kernel⟩
-- slots: 0 thing
theorem ok_is_number {f : Addr} {fd : FuncData} (F : FunD K "is_number" "is_number" (defArgs s_is_number) (defBody s_is_number) (defScope s_is_number) [] [] f fd) (T : XC K mg C) (c_is_integer : C8.Cal P w K mg base 1 "is_integer" (spInt K) []) : FnOk P w K mg base CX0 2 f fd ["thing"] (spNum K C) := by
  refine F.ok sc_is_number (fun vs H Q E h => ?_) (fun cdv A outer s H vs Q E hr h => ?_)
  · obtain ⟨v, t, b, c, d, rfl, ht, hb, hc, hd, k⟩ := h
    rfl
  · obtain ⟨v, t, b, c, d, rfl, ht, hb, hc, hd, k⟩ := h
    refine ⟨_, PSs.nox (pss_one (ps_ret (pe_or (C8.pe_c c_is_integer hr (by decide) rfl (pa_cons (pv 0) pa_nil)) (pe_one (pe_callB call_isi rfl T.isinstance (by decide +kernel) (pa_cons (pv 0) (pa_cons (pe_glob (v := .ref C) rfl T.mgC rfl) pa_nil))))))), ?_⟩
    refine ⟨_, rfl, _, t, b, c, rfl, ht, hb, hc, _, rfl, ?_⟩
    cases e : (b && !c) with
    | true =>
      rw [e] at k
      exact k
    | false =>
      rw [e, Bool.false_or] at k
      exact ⟨_, rfl, _, _, t, _, d, rfl, .own C, ht, hd, k⟩
/-- whether a thing is a number, by its type -/
def NumB (K : PySem.W.Frag) (C : Addr) (H : Hp) (v : V) (r : Bool) : Prop := ∃ (t : Value) (b c d : Bool), TyX K H v t ∧ PySem.W.kitOne K t (.type "int") = some b ∧ PySem.W.kitOne K t (.type "bool") = some c ∧ PySem.W.kitOne K t (.ref C) = some d ∧ r = ((b && !c) || d)
theorem NumB.sp {H : Hp} {v : V} {r : Bool} {Q : VK} {E : XK} (h : NumB K C H v r) (q : Q (.bl r) H) : spNum K C [v] H Q E := by
  obtain ⟨t, b, c, d, h1, h2, h3, h4, rfl⟩ := h
  exact ⟨v, t, b, c, d, rfl, h1, h2, h3, h4, q⟩
theorem IsN.numB {H : Hp} {v : V} {o u : Int} (T : XC K mg C) (h : IsN C H v o u) : NumB K C H v true := by
  rcases h with ⟨rfl, _⟩ | ⟨x, dx, rfl, h⟩
  · exact ⟨_, true, false, false, .base (.int o), kII K, kIB K, T.kIX, rfl⟩
  · exact ⟨_, false, false, true, tyX T h, T.kXI, T.kXB, kXX K C, rfl⟩
theorem IsN.notF {H : Hp} {v : V} {o u : Int} (T : XC K mg C) (h : IsN C H v o u) : NotF K C H v := by
  rcases h with ⟨rfl, _⟩ | ⟨x, dx, rfl, h⟩
  · refine ⟨_, .base (.int o), ?_⟩
    unfold PySem.W.notFirst
    rw [T.own.subI]
    rfl
  · refine ⟨_, tyX T h, ?_⟩
    unfold PySem.W.notFirst
    simp
/-! order -/
def spCmp (C : Addr) (r : Int → Int → Int → Int → Bool) : Sp := fun vs H Q _ => ∃ (x y : V) (o u p q : Int), vs = [x, y] ∧ IsX C H x o u ∧ IsN C H y p q ∧ Sm o ∧ Sm u ∧ Sm p ∧ Sm q ∧ ∀ H', Same H H' → Q (.bl (r o u p q)) H'
abbrev spLt (C : Addr) : Sp := spCmp C fun o u p q => decide (o * q < p * u)
abbrev spLe (C : Addr) : Sp := spCmp C fun o u p q => decide (o * q ≤ p * u)
abbrev spGt (C : Addr) : Sp := spCmp C fun o u p q => decide (p * u < o * q)
abbrev spGe (C : Addr) : Sp := spCmp C fun o u p q => decide (p * u ≤ o * q)
abbrev s_Exact___lt__ : Stmt := inClass (top 11) 10
abbrev N_Exact___lt__ : List Str := ["self", "other", "b"]
theorem sc_Exact___lt__ : FnScope N_Exact___lt__ ["self", "other"] (defScope s_Exact___lt__) := ⟨rfl, rfl, rfl, by decide +kernel, rfl, by decide +kernel, by decide +kernel⟩
-- slots: 0 self, 1 other, 2 b
theorem ok_Exact___lt__ {f : Addr} {fd : FuncData} (F : FunD K "__lt__" "Exact.__lt__" (defArgs s_Exact___lt__) (defBody s_Exact___lt__) (defScope s_Exact___lt__) [] [] f fd) (T : XC K mg C) (c_part_of : C8.Cal P w K mg base 4 "part_of" (spPart C) []) : FnOk P w K mg base CX0 5 f fd ["self", "other"] (spLt C) := by
  refine F.ok sc_Exact___lt__ (fun vs H Q E h => ?_) (fun cdv A outer s H vs Q E hr h => ?_)
  · obtain ⟨x, y, o, u, p, q, rfl, hx, hy, so, su, sp, sq, k⟩ := h
    rfl
  · obtain ⟨x, y, o, u, p, q, rfl, hx, hy, so, su, sp, sq, k⟩ := h
    refine ⟨_, PSs.nox (pss_cons (ps_set (i := 2) sc_Exact___lt__.nd rfl (Or.inl rfl) (C8.pe_c c_part_of hr (by decide) rfl (pa_cons (pv 1) pa_nil)))
      (pss_one (ps_ret (pe_cmpR op_lt (pe_op op_mulG (pe_fld (pv 0) rfl) (pe_fld (pv 2) rfl)) (pe_op op_mulG (pe_fld (pv 2) rfl) (pe_fld (pv 0) rfl)) (nomark _))))), ?_⟩
    refine ⟨_, rfl, y, p, q, rfl, hy, fun b H1 e1 hb => ?_⟩
    obtain ⟨xa, xd, rfl, hx1⟩ := hx.same e1
    obtain ⟨ba, bd, rfl, hb⟩ := hb
    exact ⟨_, rfl, xa, C, xd, _, _, rfl, hx1, T.cl, T.nO, rfl, _, rfl, ba, C, bd, _, _, rfl, hb, T.cl, T.nU, rfl, _, _, rfl, rfl, smul so sq, _, rfl, ba, C, bd, _, _, rfl, hb, T.cl, T.nO, rfl, _, rfl, xa, C, xd, _, _, rfl, hx1, T.cl, T.nU, rfl, _, _, rfl, rfl, smul sp su, _, _, rfl, rfl, k _ e1⟩
abbrev s_Exact___le__ : Stmt := inClass (top 11) 11
abbrev N_Exact___le__ : List Str := ["self", "other", "b"]
theorem sc_Exact___le__ : FnScope N_Exact___le__ ["self", "other"] (defScope s_Exact___le__) := ⟨rfl, rfl, rfl, by decide +kernel, rfl, by decide +kernel, by decide +kernel⟩
-- slots: 0 self, 1 other, 2 b
theorem ok_Exact___le__ {f : Addr} {fd : FuncData} (F : FunD K "__le__" "Exact.__le__" (defArgs s_Exact___le__) (defBody s_Exact___le__) (defScope s_Exact___le__) [] [] f fd) (T : XC K mg C) (c_part_of : C8.Cal P w K mg base 4 "part_of" (spPart C) []) : FnOk P w K mg base CX0 5 f fd ["self", "other"] (spLe C) := by
  refine F.ok sc_Exact___le__ (fun vs H Q E h => ?_) (fun cdv A outer s H vs Q E hr h => ?_)
  · obtain ⟨x, y, o, u, p, q, rfl, hx, hy, so, su, sp, sq, k⟩ := h
    rfl
  · obtain ⟨x, y, o, u, p, q, rfl, hx, hy, so, su, sp, sq, k⟩ := h
    refine ⟨_, PSs.nox (pss_cons (ps_set (i := 2) sc_Exact___le__.nd rfl (Or.inl rfl) (C8.pe_c c_part_of hr (by decide) rfl (pa_cons (pv 1) pa_nil)))
      (pss_one (ps_ret (pe_cmpR op_le (pe_op op_mulG (pe_fld (pv 0) rfl) (pe_fld (pv 2) rfl)) (pe_op op_mulG (pe_fld (pv 2) rfl) (pe_fld (pv 0) rfl)) (nomark _))))), ?_⟩
    refine ⟨_, rfl, y, p, q, rfl, hy, fun b H1 e1 hb => ?_⟩
    obtain ⟨xa, xd, rfl, hx1⟩ := hx.same e1
    obtain ⟨ba, bd, rfl, hb⟩ := hb
    exact ⟨_, rfl, xa, C, xd, _, _, rfl, hx1, T.cl, T.nO, rfl, _, rfl, ba, C, bd, _, _, rfl, hb, T.cl, T.nU, rfl, _, _, rfl, rfl, smul so sq, _, rfl, ba, C, bd, _, _, rfl, hb, T.cl, T.nO, rfl, _, rfl, xa, C, xd, _, _, rfl, hx1, T.cl, T.nU, rfl, _, _, rfl, rfl, smul sp su, _, _, rfl, rfl, k _ e1⟩
abbrev s_Exact___gt__ : Stmt := inClass (top 11) 12
abbrev N_Exact___gt__ : List Str := ["self", "other", "b"]
theorem sc_Exact___gt__ : FnScope N_Exact___gt__ ["self", "other"] (defScope s_Exact___gt__) := ⟨rfl, rfl, rfl, by decide +kernel, rfl, by decide +kernel, by decide +kernel⟩
-- slots: 0 self, 1 other, 2 b
theorem ok_Exact___gt__ {f : Addr} {fd : FuncData} (F : FunD K "__gt__" "Exact.__gt__" (defArgs s_Exact___gt__) (defBody s_Exact___gt__) (defScope s_Exact___gt__) [] [] f fd) (T : XC K mg C) (c_part_of : C8.Cal P w K mg base 4 "part_of" (spPart C) []) : FnOk P w K mg base CX0 5 f fd ["self", "other"] (spGt C) := by
  refine F.ok sc_Exact___gt__ (fun vs H Q E h => ?_) (fun cdv A outer s H vs Q E hr h => ?_)
  · obtain ⟨x, y, o, u, p, q, rfl, hx, hy, so, su, sp, sq, k⟩ := h
    rfl
  · obtain ⟨x, y, o, u, p, q, rfl, hx, hy, so, su, sp, sq, k⟩ := h
    refine ⟨_, PSs.nox (pss_cons (ps_set (i := 2) sc_Exact___gt__.nd rfl (Or.inl rfl) (C8.pe_c c_part_of hr (by decide) rfl (pa_cons (pv 1) pa_nil)))
      (pss_one (ps_ret (pe_cmpR op_gt (pe_op op_mulG (pe_fld (pv 0) rfl) (pe_fld (pv 2) rfl)) (pe_op op_mulG (pe_fld (pv 2) rfl) (pe_fld (pv 0) rfl)) (nomark _))))), ?_⟩
    refine ⟨_, rfl, y, p, q, rfl, hy, fun b H1 e1 hb => ?_⟩
    obtain ⟨xa, xd, rfl, hx1⟩ := hx.same e1
    obtain ⟨ba, bd, rfl, hb⟩ := hb
    exact ⟨_, rfl, xa, C, xd, _, _, rfl, hx1, T.cl, T.nO, rfl, _, rfl, ba, C, bd, _, _, rfl, hb, T.cl, T.nU, rfl, _, _, rfl, rfl, smul so sq, _, rfl, ba, C, bd, _, _, rfl, hb, T.cl, T.nO, rfl, _, rfl, xa, C, xd, _, _, rfl, hx1, T.cl, T.nU, rfl, _, _, rfl, rfl, smul sp su, _, _, rfl, rfl, k _ e1⟩
abbrev s_Exact___ge__ : Stmt := inClass (top 11) 13
abbrev N_Exact___ge__ : List Str := ["self", "other", "b"]
theorem sc_Exact___ge__ : FnScope N_Exact___ge__ ["self", "other"] (defScope s_Exact___ge__) := ⟨rfl, rfl, rfl, by decide +kernel, rfl, by decide +kernel, by decide +kernel⟩
-- slots: 0 self, 1 other, 2 b
theorem ok_Exact___ge__ {f : Addr} {fd : FuncData} (F : FunD K "__ge__" "Exact.__ge__" (defArgs s_Exact___ge__) (defBody s_Exact___ge__) (defScope s_Exact___ge__) [] [] f fd) (T : XC K mg C) (c_part_of : C8.Cal P w K mg base 4 "part_of" (spPart C) []) : FnOk P w K mg base CX0 5 f fd ["self", "other"] (spGe C) := by
  refine F.ok sc_Exact___ge__ (fun vs H Q E h => ?_) (fun cdv A outer s H vs Q E hr h => ?_)
  · obtain ⟨x, y, o, u, p, q, rfl, hx, hy, so, su, sp, sq, k⟩ := h
    rfl
  · obtain ⟨x, y, o, u, p, q, rfl, hx, hy, so, su, sp, sq, k⟩ := h
    refine ⟨_, PSs.nox (pss_cons (ps_set (i := 2) sc_Exact___ge__.nd rfl (Or.inl rfl) (C8.pe_c c_part_of hr (by decide) rfl (pa_cons (pv 1) pa_nil)))
      (pss_one (ps_ret (pe_cmpR op_ge (pe_op op_mulG (pe_fld (pv 0) rfl) (pe_fld (pv 2) rfl)) (pe_op op_mulG (pe_fld (pv 2) rfl) (pe_fld (pv 0) rfl)) (nomark _))))), ?_⟩
    refine ⟨_, rfl, y, p, q, rfl, hy, fun b H1 e1 hb => ?_⟩
    obtain ⟨xa, xd, rfl, hx1⟩ := hx.same e1
    obtain ⟨ba, bd, rfl, hb⟩ := hb
    exact ⟨_, rfl, xa, C, xd, _, _, rfl, hx1, T.cl, T.nO, rfl, _, rfl, ba, C, bd, _, _, rfl, hb, T.cl, T.nU, rfl, _, _, rfl, rfl, smul so sq, _, rfl, ba, C, bd, _, _, rfl, hb, T.cl, T.nO, rfl, _, rfl, xa, C, xd, _, _, rfl, hx1, T.cl, T.nU, rfl, _, _, rfl, rfl, smul sp su, _, _, rfl, rfl, k _ e1⟩
/-! equality: with a number by value, else False -/
def spEqX (K : PySem.W.Frag) (C : Addr) : Sp := fun vs H Q _ => ∃ (x y : V) (o u : Int), vs = [x, y] ∧ IsX C H x o u ∧
  ((∃ p q, IsN C H y p q ∧ ∀ H', Same H H' → Q (.bl (decide (o = p) && decide (u = q))) H') ∨ (NumB K C H y false ∧ ∀ H', Same H H' → Q (.bl false) H'))
abbrev s_Exact___eq__ : Stmt := inClass (top 11) 9
abbrev N_Exact___eq__ : List Str := ["self", "other", "b"]
theorem sc_Exact___eq__ : FnScope N_Exact___eq__ ["self", "other"] (defScope s_Exact___eq__) := ⟨rfl, rfl, rfl, by decide +kernel, rfl, by decide +kernel, by decide +kernel⟩
-- slots: 0 self, 1 other, 2 b
theorem ok_Exact___eq__ {f : Addr} {fd : FuncData} (F : FunD K "__eq__" "Exact.__eq__" (defArgs s_Exact___eq__) (defBody s_Exact___eq__) (defScope s_Exact___eq__) [] [] f fd) (T : XC K mg C) (c_part_of : C8.Cal P w K mg base 4 "part_of" (spPart C) []) (c_is_number : C8.Cal P w K mg base 2 "is_number" (spNum K C) []) : FnOk P w K mg base CX0 5 f fd ["self", "other"] (spEqX K C) := by
  refine F.ok sc_Exact___eq__ (fun vs H Q E h => ?_) (fun cdv A outer s H vs Q E hr h => ?_)
  · obtain ⟨x, y, o, u, rfl, hx, hy⟩ := h
    rfl
  · obtain ⟨x, y, o, u, rfl, hx, hy⟩ := h
    refine ⟨_, PSs.nox (pss_cons (ps_if (pt_not (pt_val (C8.pe_c c_is_number hr (by decide) rfl (pa_cons (pv 1) pa_nil)))) (pss_one (ps_ret pe_bl)) pss_nil)
      (pss_cons (ps_set (i := 2) sc_Exact___eq__.nd rfl (Or.inl rfl) (C8.pe_c c_part_of hr (by decide) rfl (pa_cons (pv 1) pa_nil)))
      (pss_one (ps_ret (pe_and (pe_cmpR op_eq (pe_fld (pv 0) rfl) (pe_fld (pv 2) rfl) (nomark _)) (pe_one (pe_cmpR op_eq (pe_fld (pv 0) rfl) (pe_fld (pv 2) rfl) (nomark _)))))))), ?_⟩
    rcases hy with ⟨p, q, hy, k⟩ | ⟨hy, k⟩
    · obtain ⟨t, b, c, d, h1, h2, h3, h4, h5⟩ := hy.numB T
      refine ⟨_, rfl, _, t, b, c, d, rfl, h1, h2, h3, h4, _, rfl, ?_⟩
      rw [← h5]
      refine iteF ⟨_, rfl, y, p, q, rfl, hy, fun b H1 e1 hb => ?_⟩
      obtain ⟨xa, xd, rfl, hx1⟩ := hx.same e1
      obtain ⟨ba, bd, rfl, hb⟩ := hb
      refine ⟨_, rfl, xa, C, xd, _, _, rfl, hx1, T.cl, T.nO, rfl, _, rfl, ba, C, bd, _, _, rfl, hb, T.cl, T.nO, rfl, rfl, _, rfl, ?_⟩
      by_cases ho : o = p
      · have z : decide (V.int o = V.int p) = true := by simp [ho]
        rw [z]
        refine iteT ⟨_, rfl, xa, C, xd, _, _, rfl, hx1, T.cl, T.nU, rfl, _, rfl, ba, C, bd, _, _, rfl, hb, T.cl, T.nU, rfl, rfl, ?_⟩
        have z2 : decide (V.int u = V.int q) = (decide (o = p) && decide (u = q)) := by simp [ho]
        rw [z2]
        exact k _ e1
      · have z : decide (V.int o = V.int p) = false := by simp [ho]
        rw [z]
        refine iteF ?_
        have z2 : false = (decide (o = p) && decide (u = q)) := by simp [ho]
        rw [z2]
        exact k _ e1
    · obtain ⟨t, b, c, d, h1, h2, h3, h4, h5⟩ := hy
      refine ⟨_, rfl, _, t, b, c, d, rfl, h1, h2, h3, h4, _, rfl, ?_⟩
      rw [← h5]
      exact iteT (k _ (Same.refl H))
end
end LW
namespace LM
/-! fractions by their value -/
theorem red_rat (q : Rat) : Red q.num q.den := ⟨by have := q.den_pos; omega, by
  have := q.reduced
  unfold Nat.Coprime at this
  exact this⟩
theorem red_same {o u p q : Int} (h1 : Red o u) (h2 : Red p q) (h : o * q = p * u) : o = p ∧ u = q := by
  have a := red_scale h1 (s := q) (by have := h2.1; omega)
  have b := red_scale h2 (s := u) (by have := h1.1; omega)
  rw [h, Int.mul_comm u q] at a
  exact ⟨a.1.symm.trans b.1, a.2.symm.trans b.2⟩
theorem rat_of {o u : Int} (hu : u ≠ 0) : rO o u = (Rat.divInt o u).num ∧ rD o u = ((Rat.divInt o u).den : Int) := by
  refine red_same (red_of hu) (red_rat _) ?_
  generalize hq : Rat.divInt o u = q
  have hd : (q.den : Int) ≠ 0 := by have := q.den_pos; omega
  have e := (Rat.divInt_eq_divInt_iff hu hd).mp (hq.trans (Rat.num_divInt_den q).symm)
  have e1 := rO_mul o u
  have e2 := rD_mul o u
  have hw := rwh_ne (o := o) hu
  refine Int.eq_of_mul_eq_mul_right hw ?_
  calc rO o u * q.den * rwh o u = (rO o u * rwh o u) * q.den := by rw [Int.mul_right_comm]
    _ = o * q.den := by rw [e1]
    _ = q.num * u := e
    _ = q.num * (rD o u * rwh o u) := by rw [e2]
    _ = q.num * rD o u * rwh o u := by rw [Int.mul_assoc]
theorem den0 (q : Rat) : (q.den : Int) ≠ 0 := by have := q.den_pos; omega
theorem q_add (a b : Rat) : Rat.divInt (a.num * b.den + b.num * a.den) (a.den * b.den) = a + b := by
  rw [← Rat.divInt_add_divInt _ _ (den0 a) (den0 b), Rat.num_divInt_den, Rat.num_divInt_den]
theorem q_sub (a b : Rat) : Rat.divInt (a.num * b.den - b.num * a.den) (a.den * b.den) = a - b := by
  rw [← Rat.divInt_sub_divInt _ _ (den0 a) (den0 b), Rat.num_divInt_den, Rat.num_divInt_den]
theorem q_mul (a b : Rat) : Rat.divInt (a.num * b.num) (a.den * b.den) = a * b := by
  rw [← Rat.divInt_mul_divInt, Rat.num_divInt_den, Rat.num_divInt_den]
theorem q_div (a b : Rat) : Rat.divInt (a.num * b.den) (a.den * b.num) = a / b := by
  rw [← Rat.divInt_mul_divInt, Rat.num_divInt_den, Rat.div_def]
  congr 1
  rw [← Rat.inv_divInt, Rat.num_divInt_den]
theorem q_neg (a : Rat) : Rat.divInt (-a.num) a.den = -a := by
  rw [← Rat.neg_divInt, Rat.num_divInt_den]
theorem num0 {a : Rat} (h : a ≠ 0) : a.num ≠ 0 := fun z => h (Rat.num_eq_zero.mp z)
/-! sizes -/
def Ht (n : Nat) (q : Rat) : Prop := q.num.natAbs < 2 ^ n ∧ q.den < 2 ^ n
theorem Ht.mono {n m : Nat} {q : Rat} (h : Ht n q) (l : n ≤ m) : Ht m q := ⟨Nat.lt_of_lt_of_le h.1 (Nat.pow_le_pow_right (by decide) l), Nat.lt_of_lt_of_le h.2 (Nat.pow_le_pow_right (by decide) l)⟩
theorem ht_div {o u : Int} {n : Nat} (hu : u ≠ 0) (h1 : o.natAbs < 2 ^ n) (h2 : u.natAbs < 2 ^ n) : Ht n (Rat.divInt o u) := by
  obtain ⟨e1, e2⟩ := rat_of (o := o) hu
  have b1 := abs_rO (o := o) hu
  have b2 := abs_rD (o := o) hu
  rw [e1] at b1
  rw [e2] at b2
  exact ⟨by omega, by omega⟩
theorem mul_lt2 {a b n m : Nat} (h1 : a < 2 ^ n) (h2 : b < 2 ^ m) : a * b < 2 ^ (n + m) := by
  rw [Nat.pow_add]
  rcases Nat.eq_zero_or_pos b with rfl | hb
  · rw [Nat.mul_zero]
    exact Nat.mul_pos (Nat.two_pow_pos n) (Nat.two_pow_pos m)
  · exact Nat.mul_lt_mul_of_lt_of_le h1 (Nat.le_of_lt h2) (by omega)
theorem Ht.add {a b : Rat} {n m : Nat} (h1 : Ht n a) (h2 : Ht m b) : Ht (n + m + 1) (a + b) := by
  rw [← q_add]
  have x1 := mul_lt2 h1.1 h2.2
  have x2 := mul_lt2 h2.1 h1.2
  have x3 := mul_lt2 h1.2 h2.2
  rw [Nat.add_comm m n] at x2
  have e : 2 ^ (n + m + 1) = 2 ^ (n + m) + 2 ^ (n + m) := by rw [Nat.pow_succ]; omega
  refine ht_div (Int.mul_ne_zero (den0 a) (den0 b)) ?_ ?_
  · have y1 : (a.num * b.den).natAbs = a.num.natAbs * b.den := by rw [Int.natAbs_mul]; rfl
    have y2 : (b.num * a.den).natAbs = b.num.natAbs * a.den := by rw [Int.natAbs_mul]; rfl
    have := Int.natAbs_add_le (a.num * b.den) (b.num * a.den)
    omega
  · have y1 : ((a.den : Int) * b.den).natAbs = a.den * b.den := by rw [Int.natAbs_mul]; rfl
    omega
theorem Ht.neg {a : Rat} {n : Nat} (h : Ht n a) : Ht n (-a) := by
  refine ⟨?_, ?_⟩
  · rw [Rat.neg_num, Int.natAbs_neg]; exact h.1
  · rw [Rat.neg_den]; exact h.2
theorem Ht.sub {a b : Rat} {n m : Nat} (h1 : Ht n a) (h2 : Ht m b) : Ht (n + m + 1) (a - b) := by
  rw [Rat.sub_eq_add_neg]
  exact h1.add h2.neg
theorem Ht.mul {a b : Rat} {n m : Nat} (h1 : Ht n a) (h2 : Ht m b) : Ht (n + m) (a * b) := by
  rw [← q_mul]
  have x1 := mul_lt2 h1.1 h2.1
  have x3 := mul_lt2 h1.2 h2.2
  refine ht_div (Int.mul_ne_zero (den0 a) (den0 b)) ?_ ?_
  · rw [Int.natAbs_mul]; exact x1
  · rw [Int.natAbs_mul]; exact x3
theorem Ht.div {a b : Rat} {n m : Nat} (h1 : Ht n a) (h2 : Ht m b) (hb : b ≠ 0) : Ht (n + m) (a / b) := by
  rw [← q_div]
  have x1 := mul_lt2 h1.1 h2.2
  have x3 := mul_lt2 h1.2 h2.1
  refine ht_div (Int.mul_ne_zero (den0 a) (num0 hb)) ?_ ?_
  · rw [Int.natAbs_mul]; exact x1
  · rw [Int.natAbs_mul]; exact x3
/-! two lists, item by item -/
def All2 {α β : Type _} (R : α → β → Prop) : List α → List β → Prop
  | [], [] => True
  | a :: as, b :: bs => R a b ∧ All2 R as bs
  | _, _ => False
section
variable {α β : Type _} {R S : α → β → Prop}
theorem All2.imp (h : ∀ a b, R a b → S a b) : ∀ {as : List α} {bs : List β}, All2 R as bs → All2 S as bs
  | [], [], _ => trivial
  | _ :: _, _ :: _, x => ⟨h _ _ x.1, All2.imp h x.2⟩
  | [], _ :: _, x => x.elim
  | _ :: _, [], x => x.elim
theorem All2.len : ∀ {as : List α} {bs : List β}, All2 R as bs → as.length = bs.length
  | [], [], _ => rfl
  | _ :: _, _ :: _, x => congrArg Nat.succ (All2.len x.2)
  | [], _ :: _, x => x.elim
  | _ :: _, [], x => x.elim
theorem All2.app : ∀ {as : List α} {bs : List β} {cs : List α} {ds : List β}, All2 R as bs → All2 R cs ds → All2 R (as ++ cs) (bs ++ ds)
  | [], [], _, _, _, y => y
  | _ :: _, _ :: _, _, _, x, y => ⟨x.1, All2.app x.2 y⟩
  | [], _ :: _, _, _, x, _ => x.elim
  | _ :: _, [], _, _, x, _ => x.elim
theorem All2.snoc {as : List α} {bs : List β} {a : α} {b : β} (h : All2 R as bs) (r : R a b) : All2 R (as ++ [a]) (bs ++ [b]) := h.app ⟨r, trivial⟩
theorem All2.get : ∀ {as : List α} {bs : List β} {i : Nat} {a : α}, All2 R as bs → as[i]? = some a → ∃ b, bs[i]? = some b ∧ R a b
  | _ :: _, b :: _, 0, _, x, h => by
    simp only [List.getElem?_cons_zero, Option.some.injEq] at h
    exact ⟨b, rfl, h ▸ x.1⟩
  | _ :: _, _ :: _, i + 1, _, x, h => by
    simp only [List.getElem?_cons_succ] at h ⊢
    exact All2.get x.2 h
  | [], [], _, _, _, h => by simp at h
  | [], _ :: _, _, _, x, _ => x.elim
  | _ :: _, [], _, _, x, _ => x.elim
theorem All2.at : ∀ {as : List α} {bs : List β} {i : Nat} {b : β}, All2 R as bs → bs[i]? = some b → ∃ a, as[i]? = some a ∧ R a b
  | a :: _, _ :: _, 0, _, x, h => by
    simp only [List.getElem?_cons_zero, Option.some.injEq] at h
    exact ⟨a, rfl, h ▸ x.1⟩
  | _ :: _, _ :: _, i + 1, _, x, h => by
    simp only [List.getElem?_cons_succ] at h ⊢
    exact All2.at x.2 h
  | [], [], _, _, _, h => by simp at h
  | [], _ :: _, _, _, x, _ => x.elim
  | _ :: _, [], _, _, x, _ => x.elim
theorem All2.take : ∀ {as : List α} {bs : List β} (n : Nat), All2 R as bs → All2 R (as.take n) (bs.take n)
  | [], [], n, _ => by simp [All2]
  | _ :: _, _ :: _, 0, _ => by simp [All2]
  | _ :: _, _ :: _, n + 1, x => ⟨x.1, All2.take n x.2⟩
  | [], _ :: _, _, x => x.elim
  | _ :: _, [], _, x => x.elim
theorem All2.dropLast {as : List α} {bs : List β} (h : All2 R as bs) : All2 R as.dropLast bs.dropLast := by
  rw [List.dropLast_eq_take, List.dropLast_eq_take, h.len]
  exact h.take _
theorem All2.map {γ : Type _} {f : γ → α} {g : γ → β} (h : ∀ c, R (f c) (g c)) : ∀ cs : List γ, All2 R (cs.map f) (cs.map g)
  | [] => trivial
  | _ :: cs => ⟨h _, All2.map h cs⟩
theorem All2.split : ∀ {as : List α} {bs cs : List β}, All2 R as (bs ++ cs) → ∃ a1 a2, as = a1 ++ a2 ∧ All2 R a1 bs ∧ All2 R a2 cs
  | as, [], cs, h => ⟨[], as, rfl, trivial, h⟩
  | a :: as, b :: bs, cs, h => by
    obtain ⟨a1, a2, e, h1, h2⟩ := All2.split (bs := bs) h.2
    exact ⟨a :: a1, a2, by rw [e]; rfl, ⟨h.1, h1⟩, h2⟩
  | [], _ :: _, _, h => h.elim
theorem All2.one {as : List α} {b : β} (h : All2 R as [b]) : ∃ a, as = [a] ∧ R a b := by
  match as, h with
  | [a], h => exact ⟨a, rfl, h.1⟩
theorem All2.two {as : List α} {b c : β} (h : All2 R as [b, c]) : ∃ a d, as = [a, d] ∧ R a b ∧ R d c := by
  match as, h with
  | [a, d], h => exact ⟨a, d, rfl, h.1, h.2.1⟩
theorem All2.drop : ∀ {as : List α} {bs : List β} (n : Nat), All2 R as bs → All2 R (as.drop n) (bs.drop n)
  | [], [], n, _ => by simp [All2]
  | _ :: _, _ :: _, 0, h => h
  | _ :: _, _ :: _, n + 1, h => All2.drop n h.2
  | [], _ :: _, _, h => h.elim
  | _ :: _, [], _, h => h.elim
theorem All2.of_get : ∀ {as : List α} {bs : List β}, as.length = bs.length → (∀ (i : Nat) a b, as[i]? = some a → bs[i]? = some b → R a b) → All2 R as bs
  | [], [], _, _ => trivial
  | a :: as, b :: bs, l, h => ⟨h 0 a b rfl rfl, All2.of_get (by simpa using l) fun i x y hx hy => h (i + 1) x y (by simpa using hx) (by simpa using hy)⟩
  | [], _ :: _, l, _ => by simp at l
  | _ :: _, [], l, _ => by simp at l
end
end LM
set_option Elab.async false
set_option linter.all false
set_option maxRecDepth 100000
set_option maxHeartbeats 4000000
namespace LW
open PySem PySem.Spec PyProof.Rows L2 LV LM
theorem Sm.le {i : Int} (h : i.natAbs ≤ 10 ^ 38) : Sm i := Nat.lt_of_le_of_lt h (Nat.lt_of_lt_of_le (show 10 ^ 38 < 2 ^ 127 by decide) (Nat.pow_le_pow_right (by decide) (by decide)))
section
variable {P : Program} {w : World} {K : PySem.W.Frag} {mg : Str → Option Value} {base : Heap} {C : Addr}
/-! readings of comparisons -/
section
variable {H : Hp} {vx vy : V} {o u p q : Int} {Q : VK} {r r' : Int → Int → Int → Int → Bool}
theorem cmpB (T : XC K mg C) (hx : IsX C H vx o u) (hy : IsN C H vy p q) (so : Sm o) (su : Sm u) (sp : Sm p) (sq : Sm q) (k : ∀ H', Same H H' → Q (.bl (r o u p q)) H') : rCmpL K C (spCmp C r) vx vy H Q := by
  obtain ⟨xa, xd, rfl, hx'⟩ := id hx
  exact ⟨xa, xd, _, rfl, hx', hy.notF T, _, _, o, u, p, q, rfl, hx, hy, so, su, sp, sq, k⟩
theorem cmpR (T : XC K mg C) (hr : ∀ o u p q, r p q o u = r' o u p q) (hx : IsX C H vx o u) (hy : IsN C H vy p q) (so : Sm o) (su : Sm u) (sp : Sm p) (sq : Sm q) (k : ∀ H', Same H H' → Q (.bl (r' o u p q)) H') :
    rCmpL K C (spCmp C r) vy vx H Q ∨ rCmpRI C (spCmp C r') vy vx H Q := by
  rcases id hy with ⟨rfl, rfl⟩ | hy'
  · obtain ⟨xa, xd, rfl, hx'⟩ := id hx
    exact .inr ⟨_, xa, xd, _, rfl, rfl, hx', _, _, o, u, p, 1, rfl, hx, hy, so, su, sp, sq, k⟩
  · exact .inl (cmpB T hy' (.inr hx) sp sq so su fun H' e => by rw [hr]; exact k H' e)
theorem eqB (T : XC K mg C) (hx : IsX C H vx o u) (hy : IsN C H vy p q) (k : ∀ H', Same H H' → Q (.bl (decide (o = p) && decide (u = q))) H') : rCmpL K C (spEqX K C) vx vy H Q := by
  obtain ⟨xa, xd, rfl, hx'⟩ := id hx
  exact ⟨xa, xd, _, rfl, hx', hy.notF T, _, _, o, u, rfl, hx, .inl ⟨p, q, hy, k⟩⟩
theorem eqR (T : XE K mg C) (hx : IsX C H vx o u) (hy : IsN C H vy p q) (k : ∀ H', Same H H' → Q (.bl (decide (o = p) && decide (u = q))) H') : rCmpL K C (spEqX K C) vy vx H Q ∨ rCmpR K C (spEqX K C) vy vx H Q := by
  rcases id hy with ⟨rfl, rfl⟩ | hy'
  · obtain ⟨xa, xd, rfl, hx'⟩ := id hx
    exact .inr ⟨xa, xd, _, "int", rfl, hx', .int p, T.own.subC, _, _, o, u, rfl, hx, .inl ⟨p, 1, hy, k⟩⟩
  · refine .inl (eqB T.toXC hy' (.inr hx) fun H' e => ?_)
    have z : (decide (p = o) && decide (q = u)) = (decide (o = p) && decide (u = q)) := by
      rw [show decide (p = o) = decide (o = p) from decide_eq_decide.mpr eq_comm, show decide (q = u) = decide (u = q) from decide_eq_decide.mpr eq_comm]
    rw [z]
    exact k H' e
theorem neB (T : XC K mg C) (hx : IsX C H vx o u) (hy : IsN C H vy p q) (k : ∀ H', Same H H' → Q (.bl (!(decide (o = p) && decide (u = q)))) H') : rNeL K C (spEqX K C) vx vy H Q := by
  obtain ⟨xa, xd, rfl, hx'⟩ := id hx
  exact ⟨xa, xd, _, rfl, hx', hy.notF T, _, _, o, u, rfl, hx, .inl ⟨p, q, hy, fun H' e => ⟨_, rfl, k H' e⟩⟩⟩
/-- an object that is no number -/
structure OthK (K : PySem.W.Frag) (C : Addr) (H : Hp) (v : V) : Prop where
  nb : NumB K C H v false
  nf : NotF K C H v
  lf : ∃ T, Lft K H v T ∧ PySem.W.subIn K (.ref C) (.type T) = some false
theorem eqO (hx : IsX C H vx o u) (hy : OthK K C H vy) (k : ∀ H', Same H H' → Q (.bl false) H') : rCmpL K C (spEqX K C) vx vy H Q := by
  obtain ⟨xa, xd, rfl, hx'⟩ := id hx
  exact ⟨xa, xd, _, rfl, hx', hy.nf, _, _, o, u, rfl, hx, .inr ⟨hy.nb, k⟩⟩
theorem neO (hx : IsX C H vx o u) (hy : OthK K C H vy) (k : ∀ H', Same H H' → Q (.bl true) H') : rNeL K C (spEqX K C) vx vy H Q := by
  obtain ⟨xa, xd, rfl, hx'⟩ := id hx
  exact ⟨xa, xd, _, rfl, hx', hy.nf, _, _, o, u, rfl, hx, .inr ⟨hy.nb, fun H' e => ⟨_, rfl, k H' e⟩⟩⟩
theorem eqOR (hx : IsX C H vx o u) (hy : OthK K C H vy) (k : ∀ H', Same H H' → Q (.bl false) H') : rCmpR K C (spEqX K C) vy vx H Q := by
  obtain ⟨xa, xd, rfl, hx'⟩ := id hx
  obtain ⟨t, h1, h2⟩ := hy.lf
  exact ⟨xa, xd, _, t, rfl, hx', h1, h2, _, _, o, u, rfl, hx, .inr ⟨hy.nb, k⟩⟩
theorem oth_of {v : V} {t : String} {b c : Bool} (T : XE K mg C) (ht : t ∈ typs) (h1 : TyX K H v (.type t)) (h2 : Lft K H v t) (h3 : PySem.W.kitOne K (.type t) (.type "int") = some b) (h4 : PySem.W.kitOne K (.type t) (.type "bool") = some c) (h5 : (b && !c) = false) : OthK K C H v := by
  obtain ⟨k1, k2, k3⟩ := T.kT t ht
  refine ⟨⟨_, b, c, false, h1, h3, h4, k1, by rw [h5]; rfl⟩, ⟨_, h1, ?_⟩, t, h2, k3⟩
  unfold PySem.W.notFirst
  rw [k2]
  simp
theorem oth_non (T : XE K mg C) : OthK K C H .non := oth_of T (b := false) (c := false) (by simp [typs]) (.base .non) .non (by kernel_rfl) (by kernel_rfl) rfl
theorem oth_bl (T : XE K mg C) (z : Bool) : OthK K C H (.bl z) := oth_of T (b := true) (c := true) (by simp [typs]) (.base (.bl z)) (.bl z) (by kernel_rfl) (by kernel_rfl) rfl
theorem oth_str (T : XE K mg C) (z : Str) : OthK K C H (.str z) := oth_of T (b := false) (c := false) (by simp [typs]) (.base (.str z)) (.str z) (by kernel_rfl) (by kernel_rfl) rfl
theorem oth_lst (T : XE K mg C) {a : Addr} {xs : List V} (h : H a = some (.lst xs)) : OthK K C H (.ref a) := oth_of T (b := false) (c := false) (by simp [typs]) (.base (.lst h)) (.lst h) (by kernel_rfl) (by kernel_rfl) rfl
theorem oth_tup (T : XE K mg C) {a : Addr} {xs : List V} (h : H a = some (.tup xs)) : OthK K C H (.ref a) := oth_of T (b := false) (c := false) (by simp [typs]) (.base (.tup h)) (.tup h) (by kernel_rfl) (by kernel_rfl) rfl
theorem oth_dK (T : XE K mg C) {a : Addr} {kvs : List (Key × V)} (h : H a = some (.dK kvs)) : OthK K C H (.ref a) := oth_of T (b := false) (c := false) (by simp [typs]) (.base (.dK h)) (.dK h) (by kernel_rfl) (by kernel_rfl) rfl
end
end
/-! numbers by their value -/
abbrev IsQ (C : Addr) (H : Hp) (v : V) (q : Rat) : Prop := IsX C H v q.num q.den
abbrev NumQ (C : Addr) (H : Hp) (v : V) (q : Rat) : Prop := IsN C H v q.num q.den
abbrev TQ (C : Addr) (H : Hp) (v : V) (q : Rat) : Prop := TN C H v q.num q.den
theorem smN {q : Rat} (h : Ht 4000 q) : Sm q.num := h.1
theorem smD {q : Rat} (h : Ht 4000 q) : Sm (q.den : Int) := by
  show ((q.den : Int)).natAbs < _
  rw [Int.natAbs_natCast]
  exact h.2
theorem TN.num {C : Addr} {H : Hp} {v : V} {o u : Int} (h : TN C H v o u) : IsN C H v o u := by
  rcases h with ⟨e, rfl⟩ | ⟨_, h⟩
  · exact .inl ⟨rfl, e⟩
  · exact .inr h
section
variable {P : Program} {w : World} {K : PySem.W.Frag} {mg : Str → Option Value} {base : Heap} {C : Addr} {H : Hp} {x y : V} {a b : Rat} {Q : VK} {E : XK}
theorem toQ {v : V} {o u : Int} {q : Rat} (hu : u ≠ 0) (e : Rat.divInt o u = q) (h : IsX C H v (rO o u) (rD o u)) : IsQ C H v q := by
  obtain ⟨e1, e2⟩ := rat_of (o := o) hu
  rw [e1, e2, e] at h
  exact h
theorem addQ (hx : IsQ C H x a) (hy : NumQ C H y b) (ha : Ht 4000 a) (hb : Ht 4000 b) (k : ∀ v H', Same H H' → IsQ C H' v (a + b) → Q v H') : rOwnL C (spAdd C) x y H Q := by
  obtain ⟨xa, xd, rfl, hx'⟩ := id hx
  exact ⟨xa, xd, _, rfl, hx', hy.num, _, _, _, _, _, _, rfl, hx, hy, smN ha, smD ha, smN hb, smD hb, den0 a, den0 b, fun v H' e h => k v H' e (toQ (Int.mul_ne_zero (den0 a) (den0 b)) (q_add a b) h)⟩
theorem subQ (hx : IsQ C H x a) (hy : NumQ C H y b) (ha : Ht 4000 a) (hb : Ht 4000 b) (k : ∀ v H', Same H H' → IsQ C H' v (a - b) → Q v H') : rOwnL C (spSub C) x y H Q := by
  obtain ⟨xa, xd, rfl, hx'⟩ := id hx
  exact ⟨xa, xd, _, rfl, hx', hy.num, _, _, _, _, _, _, rfl, hx, hy, smN ha, smD ha, smN hb, smD hb, den0 a, den0 b, fun v H' e h => k v H' e (toQ (Int.mul_ne_zero (den0 a) (den0 b)) (q_sub a b) h)⟩
theorem mulQ (hx : IsQ C H x a) (hy : NumQ C H y b) (ha : Ht 4000 a) (hb : Ht 4000 b) (k : ∀ v H', Same H H' → IsQ C H' v (a * b) → Q v H') : rOwnL C (spMul C) x y H Q := by
  obtain ⟨xa, xd, rfl, hx'⟩ := id hx
  exact ⟨xa, xd, _, rfl, hx', hy.num, _, _, _, _, _, _, rfl, hx, hy, smN ha, smD ha, smN hb, smD hb, den0 a, den0 b, fun v H' e h => k v H' e (toQ (Int.mul_ne_zero (den0 a) (den0 b)) (q_mul a b) h)⟩
theorem byQ (hx : IsQ C H x a) (hy : NumQ C H y b) (ha : Ht 4000 a) (hb : Ht 4000 b) (h0 : b ≠ 0) (k : ∀ v H', Same H H' → IsQ C H' v (a / b) → Q v H') : spBy C [x, y] H Q E :=
  ⟨_, _, _, _, _, _, rfl, hx, hy, smN ha, smD ha, smN hb, smD hb, den0 a, num0 h0, fun v H' e h => k v H' e (toQ (Int.mul_ne_zero (den0 a) (num0 h0)) (q_div a b) h)⟩
theorem negQ (hx : IsQ C H x a) (ha : Ht 4000 a) (k : ∀ v H', Same H H' → IsQ C H' v (-a) → Q v H') : spNeg C [x] H Q E :=
  ⟨_, _, _, rfl, hx, smD ha, den0 a, fun v H' e h => k v H' e (toQ (den0 a) (q_neg a) h)⟩
theorem partQ (hy : NumQ C H y b) (k : ∀ v H', Same H H' → IsQ C H' v b → Q v H') : spPart C [y] H Q E := ⟨y, _, _, rfl, hy, k⟩
theorem plainQ (hy : NumQ C H y b) (k : ∀ v H', Same H H' → TQ C H' v b → Q v H') : spPlain C [y] H Q E := ⟨y, _, _, rfl, hy, k⟩
theorem dLt (a b : Rat) : decide (a.num * b.den < b.num * a.den) = decide (a < b) := decide_eq_decide.mpr (Rat.lt_iff a b).symm
theorem dLe (a b : Rat) : decide (a.num * b.den ≤ b.num * a.den) = decide (a ≤ b) := decide_eq_decide.mpr (Rat.le_iff a b).symm
theorem dEq (a b : Rat) : (decide (a.num = b.num) && decide ((a.den : Int) = b.den)) = decide (a = b) := by
  rw [← Bool.decide_and]
  refine decide_eq_decide.mpr ⟨fun h => Rat.ext h.1 (Int.ofNat.inj h.2), fun h => by rw [h]; exact ⟨rfl, rfl⟩⟩
theorem ltQ (T : XC K mg C) (hx : IsQ C H x a) (hy : NumQ C H y b) (ha : Ht 4000 a) (hb : Ht 4000 b) (k : ∀ H', Same H H' → Q (.bl (decide (a < b))) H') : rCmpL K C (spLt C) x y H Q :=
  cmpB T hx hy (smN ha) (smD ha) (smN hb) (smD hb) fun H' e => by
    rw [dLt]
    exact k H' e
theorem leQ (T : XC K mg C) (hx : IsQ C H x a) (hy : NumQ C H y b) (ha : Ht 4000 a) (hb : Ht 4000 b) (k : ∀ H', Same H H' → Q (.bl (decide (a ≤ b))) H') : rCmpL K C (spLe C) x y H Q :=
  cmpB T hx hy (smN ha) (smD ha) (smN hb) (smD hb) fun H' e => by
    rw [dLe]
    exact k H' e
theorem gtQ (T : XC K mg C) (hx : IsQ C H x a) (hy : NumQ C H y b) (ha : Ht 4000 a) (hb : Ht 4000 b) (k : ∀ H', Same H H' → Q (.bl (decide (b < a))) H') : rCmpL K C (spGt C) x y H Q :=
  cmpB T hx hy (smN ha) (smD ha) (smN hb) (smD hb) fun H' e => by
    rw [dLt]
    exact k H' e
theorem geQ (T : XC K mg C) (hx : IsQ C H x a) (hy : NumQ C H y b) (ha : Ht 4000 a) (hb : Ht 4000 b) (k : ∀ H', Same H H' → Q (.bl (decide (b ≤ a))) H') : rCmpL K C (spGe C) x y H Q :=
  cmpB T hx hy (smN ha) (smD ha) (smN hb) (smD hb) fun H' e => by
    rw [dLe]
    exact k H' e
theorem eqQ (T : XC K mg C) (hx : IsQ C H x a) (hy : NumQ C H y b) (k : ∀ H', Same H H' → Q (.bl (decide (a = b))) H') : rCmpL K C (spEqX K C) x y H Q :=
  eqB T hx hy fun H' e => by
    rw [dEq]
    exact k H' e
end
end LW
set_option Elab.async false
set_option linter.all false
set_option maxRecDepth 100000
set_option maxHeartbeats 4000000
namespace LW
open PySem PySem.Spec PyProof.Rows L2 LV LM UL
/-! operators on pure values -/
abbrev Std (X : Cx) (P : Program) (w : World) (K : PySem.W.Frag) (mg : Str → Option Value) (base : Heap) : Prop := X.prog = P ∧ X.w = w ∧ X.K = K ∧ X.mg = mg ∧ X.base = base
/-- the operators of Exact -/
structure UX (P : Program) (w : World) (K : PySem.W.Frag) (mg : Str → Option Value) (base : Heap) (κ : String → Addr) : Prop where
  T : XE K mg (κ "Exact")
  add : ∀ X, Std X P w K mg base → OwnM X 5 (κ "Exact") "__add__" (spAdd (κ "Exact"))
  sub : ∀ X, Std X P w K mg base → OwnM X 5 (κ "Exact") "__sub__" (spSub (κ "Exact"))
  mul : ∀ X, Std X P w K mg base → OwnM X 5 (κ "Exact") "__mul__" (spMul (κ "Exact"))
  radd : ∀ X, Std X P w K mg base → OwnM X 6 (κ "Exact") "__radd__" (spRadd (κ "Exact"))
  rsub : ∀ X, Std X P w K mg base → OwnM X 6 (κ "Exact") "__rsub__" (spRsub (κ "Exact"))
  rmul : ∀ X, Std X P w K mg base → OwnM X 6 (κ "Exact") "__rmul__" (spRmul (κ "Exact"))
  neg : ∀ X, Std X P w K mg base → OwnM X 5 (κ "Exact") "__neg__" (spNeg (κ "Exact"))
  lt : ∀ X, Std X P w K mg base → OwnM X 5 (κ "Exact") "__lt__" (spLt (κ "Exact"))
  le : ∀ X, Std X P w K mg base → OwnM X 5 (κ "Exact") "__le__" (spLe (κ "Exact"))
  gt : ∀ X, Std X P w K mg base → OwnM X 5 (κ "Exact") "__gt__" (spGt (κ "Exact"))
  ge : ∀ X, Std X P w K mg base → OwnM X 5 (κ "Exact") "__ge__" (spGe (κ "Exact"))
  eq : ∀ X, Std X P w K mg base → OwnM X 5 (κ "Exact") "__eq__" (spEqX K (κ "Exact"))
section
variable {P : Program} {w : World} {K : PySem.W.Frag} {mg : Str → Option Value} {base : Heap} {κ : String → Addr}
theorem smQ_ht {r : Rat} (h : smQ r = true) : Ht 4000 r := by
  unfold smQ at h
  simp only [Bool.and_eq_true, decide_eq_true_eq] at h
  exact h
theorem okQ_eq {a b : Rat} {x u : U} (h : okQ a b x = some u) : Ht 4000 a ∧ Ht 4000 b ∧ u = x := by
  unfold okQ at h
  split at h
  · rename_i hh
    rw [Bool.and_eq_true] at hh
    cases h
    exact ⟨smQ_ht hh.1, smQ_ht hh.2, rfl⟩
  · cases h
/-- a new Exact is of the region -/
theorem qStep {S H H' : Hp} {v : V} {r : Rat} (e : Same S H) (e' : Same H H') (h : IsQ (κ "Exact") H' v r) : ∃ S', StpP κ S H S' H' ∧ Rep κ S' (.q r) v := by
  obtain ⟨x, dx, rfl, hx⟩ := h
  have hS : Same S fun b => if b = x then H' b else S b := fun b o hb => by
    show (if b = x then H' b else S b) = some o
    by_cases z : b = x
    · rw [if_pos z]
      exact e' b o (e b o hb)
    · rw [if_neg z]
      exact hb
  refine ⟨fun b => if b = x then H' b else S b, ⟨e', hS, fun b o hb => ?_, fun b o hb => ?_⟩, x, dx, rfl, (if_pos rfl).trans hx⟩
  · have hb : (if b = x then H' b else S b) = some o := hb
    by_cases z : b = x
    · rw [if_pos z] at hb
      exact hb
    · rw [if_neg z] at hb
      exact e' b o (e b o hb)
  · have hb : (if b = x then H' b else S b) = some o := hb
    by_cases z : b = x
    · rw [if_pos z, z, hx] at hb
      exact .inr (.inr ⟨dx, _, (Option.some.inj hb).symm⟩)
    · rw [if_neg z] at hb
      exact .inl hb
theorem repQ {S H : Hp} {v : V} {r : Rat} (e : Same S H) (h : Rep κ S (.q r) v) : IsQ (κ "Exact") H v r := by
  obtain ⟨x, dx, rfl, hx⟩ := h
  exact ⟨x, dx, rfl, e _ _ hx⟩
theorem repI {C : Addr} {H : Hp} (i : Int) : NumQ C H (.int i) (i : Rat) := .inl ⟨by rw [Rat.num_intCast], by rw [Rat.den_intCast]; rfl⟩
theorem stay {S H : Hp} (e : Same S H) : StpP κ S H S H := StpP.refl e
theorem stay' {S H H' : Hp} (e : Same S H) (e' : Same H H') : StpP κ S H S H' := ⟨e', fun _ _ h => h, e.trans e', fun _ _ h => .inl h⟩
/-! the other way round: an int on the left -/
section
variable {C : Addr} {H : Hp} {y : V} {i : Int} {b : Rat} {Q : VK} {E : XK}
theorem raddQ (hy : IsQ C H y b) (ha : Ht 4000 (i : Rat)) (hb : Ht 4000 b) (k : ∀ v H', Same H H' → IsQ C H' v (i + b) → Q v H') : rOwnR C (spRadd C) (.int i) y H Q := by
  obtain ⟨ya, yd, rfl, hy'⟩ := id hy
  refine ⟨i, ya, yd, _, rfl, rfl, hy', _, _, _, _, _, _, rfl, hy, repI i, smN hb, smD hb, smN ha, smD ha, den0 b, den0 _, fun v H' e h => k v H' e (toQ (Int.mul_ne_zero (den0 _) (den0 b)) ?_ h)⟩
  exact q_add (i : Rat) b
theorem rsubQ (hy : IsQ C H y b) (ha : Ht 4000 (i : Rat)) (hb : Ht 4000 b) (k : ∀ v H', Same H H' → IsQ C H' v (i - b) → Q v H') : rOwnR C (spRsub C) (.int i) y H Q := by
  obtain ⟨ya, yd, rfl, hy'⟩ := id hy
  refine ⟨i, ya, yd, _, rfl, rfl, hy', _, _, _, _, _, _, rfl, hy, repI i, smN hb, smD hb, smN ha, smD ha, den0 b, den0 _, fun v H' e h => k v H' e (toQ (Int.mul_ne_zero (den0 _) (den0 b)) ?_ h)⟩
  exact q_sub (i : Rat) b
theorem rmulQ (hy : IsQ C H y b) (ha : Ht 4000 (i : Rat)) (hb : Ht 4000 b) (k : ∀ v H', Same H H' → IsQ C H' v (i * b) → Q v H') : rOwnR C (spRmul C) (.int i) y H Q := by
  obtain ⟨ya, yd, rfl, hy'⟩ := id hy
  refine ⟨i, ya, yd, _, rfl, rfl, hy', _, _, _, _, _, _, rfl, hy, repI i, smN hb, smD hb, smN ha, smD ha, den0 b, den0 _, fun v H' e h => k v H' e (toQ (Int.mul_ne_zero (den0 _) (den0 b)) ?_ h)⟩
  exact q_mul (i : Rat) b
end
theorem op_addU (B : UX P w K mg base κ) {X : Cx} (hX : Std X P w K mg base) {j : Nat} (hr : Room j X.A) (hj : 6 ≤ j := by decide) : OpR X (binaryOp .Add) (r2 κ addU) := by
  obtain ⟨rfl, rfl, rfl, rfl, rfl⟩ := hX
  have hX : Std X X.prog X.w X.K X.mg X.base := ⟨rfl, rfl, rfl, rfl, rfl⟩
  intro pins s σ H x y v u Q I rx ry h
  obtain ⟨S, a, b, c, e, ra, rb, hf, k⟩ := h
  have q : ∀ {v H' r}, Same H H' → IsQ (κ "Exact") H' v r → c = .q r → Q v H' := fun e' h hc => by
    subst hc
    obtain ⟨S', p, r⟩ := qStep e e' h
    exact k _ S' _ p r
  cases a <;> cases b <;> try cases hf
  · cases ra
    cases rb
    exact op_add pins s σ H _ _ v u Q I rx ry ⟨_, _, rfl, rfl, k _ S H (stay e) rfl⟩
  · obtain ⟨h1, h2, rfl⟩ := okQ_eq hf
    cases ra
    exact op_addR (B.add X hX) (B.radd X hX) B.T.own (hr.mono hj) pins s σ H _ y v u Q I rx ry (raddQ (repQ e rb) h1 h2 fun v H' e' h => q e' h rfl)
  · rename_i z1 z2
    dsimp only [addU] at hf
    split at hf
    · rename_i hz
      cases hf
      cases ra
      cases rb
      exact op_add_str pins s σ H _ _ v u Q I rx ry ⟨z1, z2, rfl, rfl, hz, k _ S H (stay e) rfl⟩
    · cases hf
  · obtain ⟨h1, h2, rfl⟩ := okQ_eq hf
    cases rb
    exact op_addL (B.add X hX) B.T.f_radd.choose_spec B.T.own (hr.mono (by omega)) pins s σ H x _ v u Q I rx ry (addQ (repQ e ra) (repI _) h1 h2 fun v H' e' h => q e' h rfl)
  · obtain ⟨h1, h2, rfl⟩ := okQ_eq hf
    exact op_addL (B.add X hX) B.T.f_radd.choose_spec B.T.own (hr.mono (by omega)) pins s σ H x y v u Q I rx ry (addQ (repQ e ra) (.inr (repQ e rb)) h1 h2 fun v H' e' h => q e' h rfl)
  · rename_i us ws
    dsimp only [addU] at hf
    split at hf
    · rename_i hz
      cases hf
      obtain ⟨p, xs, rfl, hp, r1⟩ := ra
      obtain ⟨p', ys, rfl, hp', r2⟩ := rb
      refine op_cat pins s σ H _ _ v u Q I rx ry ⟨p, p', xs, ys, rfl, rfl, e _ _ hp, e _ _ hp', by rw [← r1.len, ← r2.len]; exact hz, fun l hl => ?_⟩
      have st : StpP κ S H (upd S l (.lst (xs ++ ys))) (upd H l (.lst (xs ++ ys))) := StpP.new1 e hl
      exact k _ _ _ st ⟨l, _, rfl, upd_same, Reps.mono st.sub _ (r1.app r2)⟩
    · cases hf
  · rename_i us ws
    dsimp only [addU] at hf
    split at hf
    · rename_i hz
      cases hf
      obtain ⟨p, xs, rfl, hp, r1⟩ := ra
      obtain ⟨p', ys, rfl, hp', r2⟩ := rb
      refine op_catA pins s σ H _ _ v u Q I rx ry ⟨p, p', xs, ys, rfl, rfl, SqT.of (e _ _ hp), SqT.of (e _ _ hp'), by rw [← r1.len, ← r2.len]; exact hz, fun h0 => ?_, fun h0 h1 => ?_, fun h0 h1 l hl => ?_⟩
      · subst h0
        have : us = [] := List.length_eq_zero_iff.mp (by rw [r1.len]; rfl)
        subst this
        exact k _ S H (stay e) ⟨p', ys, rfl, hp', r2⟩
      · subst h1
        have : ws = [] := List.length_eq_zero_iff.mp (by rw [r2.len]; rfl)
        subst this
        exact k _ S H (stay e) ⟨p, xs, rfl, hp, by rw [List.append_nil]; exact r1⟩
      · have st : StpP κ S H (upd S l (.tup (xs ++ ys))) (upd H l (.tup (xs ++ ys))) := StpP.new1 e hl
        exact k _ _ _ st ⟨l, _, rfl, upd_same, Reps.mono st.sub _ (r1.app r2)⟩
    · cases hf
theorem op_subU (B : UX P w K mg base κ) {X : Cx} (hX : Std X P w K mg base) {j : Nat} (hr : Room j X.A) (hj : 6 ≤ j := by decide) : OpR X (binaryOp .Sub) (r2 κ subU) := by
  obtain ⟨rfl, rfl, rfl, rfl, rfl⟩ := hX
  have hX : Std X X.prog X.w X.K X.mg X.base := ⟨rfl, rfl, rfl, rfl, rfl⟩
  intro pins s σ H x y v u Q I rx ry h
  obtain ⟨S, a, b, c, e, ra, rb, hf, k⟩ := h
  have q : ∀ {v H' r}, Same H H' → IsQ (κ "Exact") H' v r → c = .q r → Q v H' := fun e' h hc => by
    subst hc
    obtain ⟨S', p, r⟩ := qStep e e' h
    exact k _ S' _ p r
  cases a <;> cases b <;> try cases hf
  · cases ra
    cases rb
    exact op_sub pins s σ H _ _ v u Q I rx ry ⟨_, _, rfl, rfl, k _ S H (stay e) rfl⟩
  · obtain ⟨h1, h2, rfl⟩ := okQ_eq hf
    cases ra
    exact op_subR (B.sub X hX) (B.rsub X hX) B.T.own (hr.mono hj) pins s σ H _ y v u Q I rx ry (rsubQ (repQ e rb) h1 h2 fun v H' e' h => q e' h rfl)
  · obtain ⟨h1, h2, rfl⟩ := okQ_eq hf
    cases rb
    exact op_subL (B.sub X hX) B.T.f_rsub.choose_spec B.T.own (hr.mono (by omega)) pins s σ H x _ v u Q I rx ry (subQ (repQ e ra) (repI _) h1 h2 fun v H' e' h => q e' h rfl)
  · obtain ⟨h1, h2, rfl⟩ := okQ_eq hf
    exact op_subL (B.sub X hX) B.T.f_rsub.choose_spec B.T.own (hr.mono (by omega)) pins s σ H x y v u Q I rx ry (subQ (repQ e ra) (.inr (repQ e rb)) h1 h2 fun v H' e' h => q e' h rfl)
theorem bigI_mul {i j : Int} (h : mulOk i j = true) : IntMulOk i j := by
  unfold mulOk at h
  rw [Bool.or_eq_true, Bool.or_eq_true, Bool.and_eq_true] at h
  rcases h with (h | h) | h
  · have := of_decide_eq_true h
    exact .of_left (intBits_le_64 (by omega) (by omega))
  · have := of_decide_eq_true h
    exact .of_right (intBits_le_64 (by omega) (by omega))
  · exact mulB (of_decide_eq_true h.1) (of_decide_eq_true h.2)
theorem op_mulU (B : UX P w K mg base κ) {X : Cx} (hX : Std X P w K mg base) {j : Nat} (hr : Room j X.A) (hj : 6 ≤ j := by decide) : OpR X (binaryOp .Mult) (r2 κ mulU) := by
  obtain ⟨rfl, rfl, rfl, rfl, rfl⟩ := hX
  have hX : Std X X.prog X.w X.K X.mg X.base := ⟨rfl, rfl, rfl, rfl, rfl⟩
  intro pins s σ H x y v u Q I rx ry h
  obtain ⟨S, a, b, c, e, ra, rb, hf, k⟩ := h
  have q : ∀ {v H' r}, Same H H' → IsQ (κ "Exact") H' v r → c = .q r → Q v H' := fun e' h hc => by
    subst hc
    obtain ⟨S', p, r⟩ := qStep e e' h
    exact k _ S' _ p r
  cases a <;> cases b <;> try cases hf
  · dsimp only [mulU] at hf
    split at hf
    · rename_i hz
      cases hf
      cases ra
      cases rb
      exact op_mulG pins s σ H _ _ v u Q I rx ry ⟨_, _, rfl, rfl, bigI_mul hz, k _ S H (stay e) rfl⟩
    · cases hf
  · obtain ⟨h1, h2, rfl⟩ := okQ_eq hf
    cases ra
    exact op_mulR (B.mul X hX) (B.rmul X hX) B.T.own (hr.mono hj) pins s σ H _ y v u Q I rx ry (rmulQ (repQ e rb) h1 h2 fun v H' e' h => q e' h rfl)
  · obtain ⟨h1, h2, rfl⟩ := okQ_eq hf
    cases rb
    exact op_mulL (B.mul X hX) B.T.f_rmul.choose_spec B.T.own (hr.mono (by omega)) pins s σ H x _ v u Q I rx ry (mulQ (repQ e ra) (repI _) h1 h2 fun v H' e' h => q e' h rfl)
  · obtain ⟨h1, h2, rfl⟩ := okQ_eq hf
    exact op_mulL (B.mul X hX) B.T.f_rmul.choose_spec B.T.own (hr.mono (by omega)) pins s σ H x y v u Q I rx ry (mulQ (repQ e ra) (.inr (repQ e rb)) h1 h2 fun v H' e' h => q e' h rfl)
/-! operators of ints alone -/
theorem op_fdivU {X : Cx} : OpR X (binaryOp .FloorDiv) (r2 κ fdivU) := by
  intro pins s σ H x y v u Q I rx ry h
  obtain ⟨S, a, b, c, e, ra, rb, hf, k⟩ := h
  cases a <;> cases b <;> try cases hf
  dsimp only [fdivU] at hf
  split at hf
  · rename_i hz
    cases hf
    cases ra
    cases rb
    exact op_fdivG pins s σ H _ _ v u Q I rx ry ⟨_, _, rfl, rfl, hz, k _ S H (stay e) rfl⟩
  · cases hf
theorem op_modU {X : Cx} : OpR X (binaryOp .Mod) (r2 κ modU) := by
  intro pins s σ H x y v u Q I rx ry h
  obtain ⟨S, a, b, c, e, ra, rb, hf, k⟩ := h
  cases a <;> cases b <;> try cases hf
  dsimp only [modU] at hf
  split at hf
  · rename_i hz
    cases hf
    cases ra
    cases rb
    exact op_modN pins s σ H _ _ v u Q I rx ry ⟨_, _, rfl, rfl, hz, k _ S H (stay e) rfl⟩
  · cases hf
theorem op_powU {X : Cx} : OpR X (binaryOp .Pow) (r2 κ powU) := by
  intro pins s σ H x y v u Q I rx ry h
  obtain ⟨S, a, b, c, e, ra, rb, hf, k⟩ := h
  cases a <;> cases b <;> try cases hf
  dsimp only [powU] at hf
  split at hf
  · rename_i hz
    cases hf
    cases ra
    cases rb
    exact op_pow pins s σ H _ _ v u Q I rx ry ⟨_, _, rfl, rfl, hz, k _ S H (stay e) rfl⟩
  · cases hf
end
end LW
set_option Elab.async false
set_option linter.all false
set_option maxRecDepth 100000
set_option maxHeartbeats 4000000
namespace LW
open PySem PySem.Spec PyProof.Rows L2 LV LM UL
/-! comparisons, subscripts, built-ins on pure values -/
section
variable {P : Program} {w : World} {K : PySem.W.Frag} {mg : Str → Option Value} {base : Heap} {κ : String → Addr}
section
variable {C : Addr} {H : Hp} {y : V} {i : Int} {b : Rat} {Q : VK}
theorem ltRQ (hy : IsQ C H y b) (ha : Ht 4000 (i : Rat)) (hb : Ht 4000 b) (k : ∀ H', Same H H' → Q (.bl (decide ((i : Rat) < b))) H') : rCmpRI C (spGt C) (.int i) y H Q := by
  obtain ⟨ya, yd, rfl, hy'⟩ := id hy
  refine ⟨i, ya, yd, _, rfl, rfl, hy', _, _, _, _, _, _, rfl, hy, repI i, smN hb, smD hb, smN ha, smD ha, fun H' e => ?_⟩
  dsimp only
  rw [dLt]
  exact k H' e
theorem leRQ (hy : IsQ C H y b) (ha : Ht 4000 (i : Rat)) (hb : Ht 4000 b) (k : ∀ H', Same H H' → Q (.bl (decide ((i : Rat) ≤ b))) H') : rCmpRI C (spGe C) (.int i) y H Q := by
  obtain ⟨ya, yd, rfl, hy'⟩ := id hy
  refine ⟨i, ya, yd, _, rfl, rfl, hy', _, _, _, _, _, _, rfl, hy, repI i, smN hb, smD hb, smN ha, smD ha, fun H' e => ?_⟩
  dsimp only
  rw [dLe]
  exact k H' e
theorem gtRQ (hy : IsQ C H y b) (ha : Ht 4000 (i : Rat)) (hb : Ht 4000 b) (k : ∀ H', Same H H' → Q (.bl (decide (b < (i : Rat)))) H') : rCmpRI C (spLt C) (.int i) y H Q := by
  obtain ⟨ya, yd, rfl, hy'⟩ := id hy
  refine ⟨i, ya, yd, _, rfl, rfl, hy', _, _, _, _, _, _, rfl, hy, repI i, smN hb, smD hb, smN ha, smD ha, fun H' e => ?_⟩
  dsimp only
  rw [dLt]
  exact k H' e
theorem geRQ (hy : IsQ C H y b) (ha : Ht 4000 (i : Rat)) (hb : Ht 4000 b) (k : ∀ H', Same H H' → Q (.bl (decide (b ≤ (i : Rat)))) H') : rCmpRI C (spLe C) (.int i) y H Q := by
  obtain ⟨ya, yd, rfl, hy'⟩ := id hy
  refine ⟨i, ya, yd, _, rfl, rfl, hy', _, _, _, _, _, _, rfl, hy, repI i, smN hb, smD hb, smN ha, smD ha, fun H' e => ?_⟩
  dsimp only
  rw [dLe]
  exact k H' e
end
theorem op_ltU (B : UX P w K mg base κ) {X : Cx} (hX : Std X P w K mg base) {j : Nat} (hr : Room j X.A) (hj : 6 ≤ j := by decide) : OpR X (compareOp .Lt) (r2 κ ltU) := by
  obtain ⟨rfl, rfl, rfl, rfl, rfl⟩ := hX
  have hX : Std X X.prog X.w X.K X.mg X.base := ⟨rfl, rfl, rfl, rfl, rfl⟩
  intro pins s σ H x y v u Q I rx ry h
  obtain ⟨S, a, b, c, e, ra, rb, hf, k⟩ := h
  cases a <;> cases b <;> try cases hf
  · cases ra
    cases rb
    exact op_lt pins s σ H _ _ v u Q I rx ry ⟨_, _, rfl, rfl, k _ S H (stay e) rfl⟩
  · obtain ⟨h1, h2, rfl⟩ := okQ_eq hf
    cases ra
    exact op_ltR (B.gt X hX) B.T.own (hr.mono (by omega)) pins s σ H _ y v u Q I rx ry (ltRQ (repQ e rb) h1 h2 fun H' e' => k _ S H' (stay' e e') rfl)
  · obtain ⟨h1, h2, rfl⟩ := okQ_eq hf
    cases rb
    exact op_ltL (B.lt X hX) (hr.mono (by omega)) pins s σ H x _ v u Q I rx ry (ltQ B.T.toXC (repQ e ra) (repI _) h1 h2 fun H' e' => k _ S H' (stay' e e') rfl)
  · obtain ⟨h1, h2, rfl⟩ := okQ_eq hf
    exact op_ltL (B.lt X hX) (hr.mono (by omega)) pins s σ H x y v u Q I rx ry (ltQ B.T.toXC (repQ e ra) (.inr (repQ e rb)) h1 h2 fun H' e' => k _ S H' (stay' e e') rfl)
theorem op_leU (B : UX P w K mg base κ) {X : Cx} (hX : Std X P w K mg base) {j : Nat} (hr : Room j X.A) (hj : 6 ≤ j := by decide) : OpR X (compareOp .LtE) (r2 κ leU) := by
  obtain ⟨rfl, rfl, rfl, rfl, rfl⟩ := hX
  have hX : Std X X.prog X.w X.K X.mg X.base := ⟨rfl, rfl, rfl, rfl, rfl⟩
  intro pins s σ H x y v u Q I rx ry h
  obtain ⟨S, a, b, c, e, ra, rb, hf, k⟩ := h
  cases a <;> cases b <;> try cases hf
  · cases ra
    cases rb
    exact op_le pins s σ H _ _ v u Q I rx ry ⟨_, _, rfl, rfl, k _ S H (stay e) rfl⟩
  · obtain ⟨h1, h2, rfl⟩ := okQ_eq hf
    cases ra
    exact op_leR (B.ge X hX) B.T.own (hr.mono (by omega)) pins s σ H _ y v u Q I rx ry (leRQ (repQ e rb) h1 h2 fun H' e' => k _ S H' (stay' e e') rfl)
  · obtain ⟨h1, h2, rfl⟩ := okQ_eq hf
    cases rb
    exact op_leL (B.le X hX) (hr.mono (by omega)) pins s σ H x _ v u Q I rx ry (leQ B.T.toXC (repQ e ra) (repI _) h1 h2 fun H' e' => k _ S H' (stay' e e') rfl)
  · obtain ⟨h1, h2, rfl⟩ := okQ_eq hf
    exact op_leL (B.le X hX) (hr.mono (by omega)) pins s σ H x y v u Q I rx ry (leQ B.T.toXC (repQ e ra) (.inr (repQ e rb)) h1 h2 fun H' e' => k _ S H' (stay' e e') rfl)
theorem op_gtU (B : UX P w K mg base κ) {X : Cx} (hX : Std X P w K mg base) {j : Nat} (hr : Room j X.A) (hj : 6 ≤ j := by decide) : OpR X (compareOp .Gt) (r2 κ gtU) := by
  obtain ⟨rfl, rfl, rfl, rfl, rfl⟩ := hX
  have hX : Std X X.prog X.w X.K X.mg X.base := ⟨rfl, rfl, rfl, rfl, rfl⟩
  intro pins s σ H x y v u Q I rx ry h
  obtain ⟨S, a, b, c, e, ra, rb, hf, k⟩ := h
  cases a <;> cases b <;> try cases hf
  · cases ra
    cases rb
    exact op_gt pins s σ H _ _ v u Q I rx ry ⟨_, _, rfl, rfl, k _ S H (stay e) rfl⟩
  · obtain ⟨h1, h2, rfl⟩ := okQ_eq hf
    cases ra
    exact op_gtR (B.lt X hX) B.T.own (hr.mono (by omega)) pins s σ H _ y v u Q I rx ry (gtRQ (repQ e rb) h1 h2 fun H' e' => k _ S H' (stay' e e') rfl)
  · obtain ⟨h1, h2, rfl⟩ := okQ_eq hf
    cases rb
    exact op_gtL (B.gt X hX) (hr.mono (by omega)) pins s σ H x _ v u Q I rx ry (gtQ B.T.toXC (repQ e ra) (repI _) h1 h2 fun H' e' => k _ S H' (stay' e e') rfl)
  · obtain ⟨h1, h2, rfl⟩ := okQ_eq hf
    exact op_gtL (B.gt X hX) (hr.mono (by omega)) pins s σ H x y v u Q I rx ry (gtQ B.T.toXC (repQ e ra) (.inr (repQ e rb)) h1 h2 fun H' e' => k _ S H' (stay' e e') rfl)
theorem op_geU (B : UX P w K mg base κ) {X : Cx} (hX : Std X P w K mg base) {j : Nat} (hr : Room j X.A) (hj : 6 ≤ j := by decide) : OpR X (compareOp .GtE) (r2 κ geU) := by
  obtain ⟨rfl, rfl, rfl, rfl, rfl⟩ := hX
  have hX : Std X X.prog X.w X.K X.mg X.base := ⟨rfl, rfl, rfl, rfl, rfl⟩
  intro pins s σ H x y v u Q I rx ry h
  obtain ⟨S, a, b, c, e, ra, rb, hf, k⟩ := h
  cases a <;> cases b <;> try cases hf
  · cases ra
    cases rb
    exact op_ge pins s σ H _ _ v u Q I rx ry ⟨_, _, rfl, rfl, k _ S H (stay e) rfl⟩
  · obtain ⟨h1, h2, rfl⟩ := okQ_eq hf
    cases ra
    exact op_geR (B.le X hX) B.T.own (hr.mono (by omega)) pins s σ H _ y v u Q I rx ry (geRQ (repQ e rb) h1 h2 fun H' e' => k _ S H' (stay' e e') rfl)
  · obtain ⟨h1, h2, rfl⟩ := okQ_eq hf
    cases rb
    exact op_geL (B.ge X hX) (hr.mono (by omega)) pins s σ H x _ v u Q I rx ry (geQ B.T.toXC (repQ e ra) (repI _) h1 h2 fun H' e' => k _ S H' (stay' e e') rfl)
  · obtain ⟨h1, h2, rfl⟩ := okQ_eq hf
    exact op_geL (B.ge X hX) (hr.mono (by omega)) pins s σ H x y v u Q I rx ry (geQ B.T.toXC (repQ e ra) (.inr (repQ e rb)) h1 h2 fun H' e' => k _ S H' (stay' e e') rfl)
/-! subscripts -/
theorem atI_reps {S : Hp} {us : List U} {vs : List V} {i : Int} {u : U} (r : Reps κ S us vs) (h : atI us i = some u) : ∃ v, atI vs i = some v ∧ Rep κ S u v := by
  obtain ⟨n, h1, h2⟩ := bindS (show (ixN us.length i).bind (fun n => us[n]?) = some u from h)
  obtain ⟨v, hv, rv⟩ := r.get h2
  refine ⟨v, ?_, rv⟩
  show (ixN vs.length i).bind _ = _
  rw [← r.len, h1]
  exact hv
theorem ix_U {X : Cx} : IxR X (r2 κ ixU) := by
  intro value slice pins s σ H x y v u Q I rx ry h hs
  obtain ⟨S, a, b, c, e, ra, rb, hf, k⟩ := h
  cases a <;> cases b <;> try cases hf
  · rename_i z i
    dsimp only [ixU] at hf
    split at hf
    · rename_i hz
      obtain ⟨ch, hc, hf⟩ := bindS hf
      cases hf
      cases ra
      cases rb
      exact ix_str value slice pins s σ H _ _ v u Q I rx ry ⟨z, i, ch, rfl, rfl, hz, hc, k _ S H (stay e) rfl⟩ hs
    · cases hf
  · rename_i us i
    obtain ⟨p, xs, rfl, hp, r1⟩ := ra
    cases rb
    obtain ⟨x, hx, rx'⟩ := atI_reps r1 hf
    exact ix_list value slice pins s σ H _ _ v u Q I rx ry ⟨p, xs, i, x, rfl, rfl, SqL.of (e _ _ hp), hx, k _ S H (stay e) rx'⟩ hs
  · rename_i us i
    obtain ⟨p, xs, rfl, hp, r1⟩ := ra
    cases rb
    obtain ⟨x, hx, rx'⟩ := atI_reps r1 hf
    exact ix_tup value slice pins s σ H _ _ v u Q I rx ry ⟨p, xs, i, x, rfl, rfl, SqT.of (e _ _ hp), hx, k _ S H (stay e) rx'⟩ hs
/-! built-ins -/
theorem cr_of {X : Cx} {f : Value} {r r' : List V → Hp → VK → Prop} (h : CallR X f r) (hi : ∀ xs H Q, r' xs H Q → r xs H Q) : CallR X f r' := fun pins s σ H xs us Q I rv q => h pins s σ H xs us Q I rv (hi xs H Q q)
theorem call_lenU {X : Cx} : CallR X (.builtin "len") (rP κ lenU) := cr_of call_len_seq fun xs H Q h => by
  obtain ⟨S, us, u, e, rs, hf, k⟩ := h
  unfold lenU at hf
  split at hf <;> try cases hf
  · obtain ⟨v, _, rfl, ⟨a, ys, rfl, ha, ry⟩, rfl⟩ := rs
    exact ⟨a, ys, rfl, .inl (SqL.of (e _ _ ha)), k _ S H (stay e) (by rw [ry.len]; rfl)⟩
  · obtain ⟨v, _, rfl, ⟨a, ys, rfl, ha, ry⟩, rfl⟩ := rs
    exact ⟨a, ys, rfl, .inr (SqT.of (e _ _ ha)), k _ S H (stay e) (by rw [ry.len]; rfl)⟩
theorem call_intU {X : Cx} : CallR X (.type "int") (rP κ intU) := cr_of call_int1 fun xs H Q h => by
  obtain ⟨S, us, u, e, rs, hf, k⟩ := h
  unfold intU at hf
  split at hf <;> try cases hf
  · obtain ⟨v, _, rfl, rfl, rfl⟩ := rs
    exact .inl ⟨_, rfl, k _ S H (stay e) rfl⟩
  · obtain ⟨v, _, rfl, rfl, rfl⟩ := rs
    exact .inr ⟨_, rfl, k _ S H (stay e) rfl⟩
theorem call_listU {X : Cx} : CallR X (.type "list") (rP κ listU) := cr_of call_list_of fun xs H Q h => by
  obtain ⟨S, us, u, e, rs, hf, k⟩ := h
  unfold listU at hf
  split at hf <;> try cases hf
  · obtain ⟨v, _, rfl, ⟨a, ys, rfl, ha, ry⟩, rfl⟩ := rs
    refine ⟨a, ys, rfl, .inl (SqL.of (e _ _ ha)), fun l hl => ?_⟩
    have st : StpP κ S H (upd S l (.lst ys)) (upd H l (.lst ys)) := StpP.new1 e hl
    exact k _ _ _ st ⟨l, _, rfl, upd_same, Reps.mono st.sub _ ry⟩
  · obtain ⟨v, _, rfl, ⟨a, ys, rfl, ha, ry⟩, rfl⟩ := rs
    refine ⟨a, ys, rfl, .inr (SqT.of (e _ _ ha)), fun l hl => ?_⟩
    have st : StpP κ S H (upd S l (.lst ys)) (upd H l (.lst ys)) := StpP.new1 e hl
    exact k _ _ _ st ⟨l, _, rfl, upd_same, Reps.mono st.sub _ ry⟩
theorem call_tupU {X : Cx} : CallR X (.type "tuple") (rP κ tupU) := cr_of call_tuple_of fun xs H Q h => by
  obtain ⟨S, us, u, e, rs, hf, k⟩ := h
  unfold tupU at hf
  split at hf <;> try cases hf
  · obtain ⟨v, _, rfl, ⟨a, ys, rfl, ha, ry⟩, rfl⟩ := rs
    refine ⟨a, ys, rfl, .inl ⟨SqL.of (e _ _ ha), fun l hl => ?_⟩⟩
    have st : StpP κ S H (upd S l (.tup ys)) (upd H l (.tup ys)) := StpP.new1 e hl
    exact k _ _ _ st ⟨l, _, rfl, upd_same, Reps.mono st.sub _ ry⟩
  · obtain ⟨v, _, rfl, ⟨a, ys, rfl, ha, ry⟩, rfl⟩ := rs
    exact ⟨a, ys, rfl, .inr ⟨SqT.of (e _ _ ha), k _ S H (stay e) ⟨a, ys, rfl, ha, ry⟩⟩⟩
theorem allB_reps {S : Hp} : ∀ {us : List U} {bs : List Bool} {vs : List V}, allB us = some bs → Reps κ S us vs → vs = bs.map V.bl
  | [], bs, vs, h, r => by
    cases h
    exact r
  | u :: us, bs, vs, h, r => by
    obtain ⟨b, h1, h⟩ := bindS h
    obtain ⟨bs', h2, h⟩ := bindS h
    cases h
    obtain ⟨v, vs', rfl, r1, r2⟩ := r
    rw [isB_rep h1 r1, allB_reps h2 r2]
    rfl
theorem call_allU {X : Cx} (hc : X.calm = true) : CallR X (.builtin "all") (rP κ allU) := cr_of (cr_all hc) fun xs H Q h => by
  obtain ⟨S, us, u, e, rs, hf, k⟩ := h
  unfold allU at hf
  split at hf <;> try cases hf
  obtain ⟨bs, h1, hf⟩ := bindS hf
  cases hf
  obtain ⟨v, _, rfl, ⟨a, ys, rfl, ha, ry⟩, rfl⟩ := rs
  have := allB_reps h1 ry
  subst this
  exact ⟨a, bs, rfl, SqL.of (e _ _ ha), k _ S H (stay e) rfl⟩
theorem call_anyU {X : Cx} (hc : X.calm = true) : CallR X (.builtin "any") (rP κ anyU) := cr_of (cr_any hc) fun xs H Q h => by
  obtain ⟨S, us, u, e, rs, hf, k⟩ := h
  unfold anyU at hf
  split at hf <;> try cases hf
  obtain ⟨bs, h1, hf⟩ := bindS hf
  cases hf
  obtain ⟨v, _, rfl, ⟨a, ys, rfl, ha, ry⟩, rfl⟩ := rs
  have := allB_reps h1 ry
  subst this
  exact ⟨a, bs, rfl, SqL.of (e _ _ ha), k _ S H (stay e) rfl⟩
end
end LW
set_option Elab.async false
set_option linter.all false
set_option maxRecDepth 100000
set_option maxHeartbeats 4000000
namespace LW
open PySem PySem.Spec PyProof.Rows L2 LV LM UL
/-! == of pure values -/
section
variable {X : Cx} {n : Nat} {C : Addr} {sp : Sp}
theorem eqBool_r {prog : Program} {w : World} {A : Around} {E : Value → Shared → Prop} {s : Shared} {a : Value} {l : Addr} {Q : Bool → Shared → Prop} (hne : (a == .ref l) = false) (h : wpAny (model prog w) A (richCompare .Eq a (.ref l)) (fun v s' => ∃ r, v = .bool r ∧ Q r s') E s) : wpAny (model prog w) A (eqBool a (.ref l)) Q E s := by
  unfold eqBool
  refine wpAny_holding ?_
  refine wpAny_ite_split (fun hab => absurd hab (by rw [hne]; exact Bool.false_ne_true)) (fun _ => ?_)
  have go : wpAny (model prog w) A (richCompare .Eq a (.ref l) >>= truthOfDropped) Q E s := by
    refine wpAny_bind (wpAny_mono h (fun v s' hv => ?_) fun _ _ x => x)
    obtain ⟨r, rfl, q⟩ := hv
    exact wpAny_truthy_bool q
  cases a <;> exact go
theorem eqBool_l {prog : Program} {w : World} {A : Around} {E : Value → Shared → Prop} {s : Shared} {b : Value} {l : Addr} {Q : Bool → Shared → Prop} (hne : (Value.ref l == b) = false) (h : wpAny (model prog w) A (richCompare .Eq (.ref l) b) (fun v s' => ∃ r, v = .bool r ∧ Q r s') E s) : wpAny (model prog w) A (eqBool (.ref l) b) Q E s := by
  unfold eqBool
  refine wpAny_holding ?_
  refine wpAny_ite_split (fun hab => absurd hab (by rw [hne]; exact Bool.false_ne_true)) (fun _ => ?_)
  refine wpAny_bind (wpAny_mono h (fun v s' hv => ?_) fun _ _ x => x)
  obtain ⟨r, rfl, q⟩ := hv
  exact wpAny_truthy_bool q
/-- a method that tells a bool runs within -/
theorem runSub {A : Around} {f : Addr} {fd : FuncData} {ps : List Str} {pins : List (Addr × Obj)} {σ : L2.St} {H : Hp} {s : Shared} {us : List Value} {vs : List V} {b : Bool} (sb : Sub X n A) (F : FnOk X.prog X.w X.K X.mg X.base CX0 n f fd ps sp) (hbd : Binds X.K fd ps [])
    (I : Inv X pins σ H s) (r2 : Vals vs us) (hsp : sp vs H (fun v H'' => v = .bl b ∧ Ext H H'') E0) : wpAny (model X.prog X.w) A (call (.ref f) us) (PySem.W.CmpBack fun r s' => r = .bool b ∧ ∃ H', Inv X pins σ H' s' ∧ Ext H H') X.xe s := by
  have e0 : Env0 X.prog X.w X.K X.mg X.base A X.stack s H := by
    have e := I.env0
    exact ⟨by rw [sb.fr]; exact e.frames, e.mod, e.bs, e.bsz, e.funs, e.frf, e.hok, e.bare⟩
  have hl := F.len _ _ _ _ hsp
  refine wpAny_call (codeAny_mono (F.run A X.stack s H ⟨us, []⟩ us vs _ E0 sb.room e0 (by
    have := hbd s us I.kIn (by rw [List.append_nil, ← r2.length]; exact hl)
    simpa using this) r2 hsp) fun r s' hq => ?_)
  cases r with
  | error e => exact (show False from hq).elim
  | ok fl =>
    cases fl with
    | ret w =>
      obtain ⟨z, H', I', rz, ez, ex⟩ := I.after hq
      subst ez
      cases rz
      exact ⟨rfl, H', I', ex⟩
    | next => exact False.elim hq
    | brk => exact False.elim hq
    | cont => exact False.elim hq
theorem rcB_L (M : OwnM X n C "__eq__" sp) {A : Around} {pins : List (Addr × Obj)} {s : Shared} {σ : L2.St} {H : Hp} {x y : V} {u v : Value} {b : Bool} (sb : Sub X n A) (I : Inv X pins σ H s) (rx : RelV x u) (ry : RelV y v)
    (h : rCmpL X.K C sp x y H (fun v H'' => v = .bl b ∧ Ext H H'')) : wpAny (model X.prog X.w) A (richCompare .Eq u v) (fun r s' => r = .bool b ∧ ∃ H', Inv X pins σ H' s' ∧ Ext H H') X.xe s := by
  obtain ⟨a, dx, fs, rfl, ha, ⟨t, ht, hn⟩, q⟩ := h
  obtain ⟨f, fd, ps, hs, hf, F, hb⟩ := M.ex
  cases rx
  obtain ⟨mA, J, _⟩ := ins_get I.hok ha
  obtain ⟨od, J, _⟩ := J.look
  obtain ⟨m, hF⟩ := I.fr
  obtain ⟨PP, kt, hP, _⟩ := kit_of I ry ht
  have r2 : Vals [V.ref a, y] [Value.ref a, v] := .cons rfl (.cons ry .nil)
  exact PySem.W.cmp_K (op := .Eq) sb.room.units0 hF I.ok.mod.kin J (kt.ty _ _ I.kIn hP) hn hs hf (runSub sb F hb I r2 q)
theorem rcB_R (M : OwnM X n C "__eq__" sp) {A : Around} {pins : List (Addr × Obj)} {s : Shared} {σ : L2.St} {H : Hp} {x y : V} {v u : Value} {bb : Bool} (sb : Sub X n A) (I : Inv X pins σ H s) (rx : RelV x v) (ry : RelV y u)
    (h : rCmpR X.K C sp x y H (fun v H'' => v = .bl bb ∧ Ext H H'')) : wpAny (model X.prog X.w) A (richCompare .Eq v u) (fun r s' => r = .bool bb ∧ ∃ H', Inv X pins σ H' s' ∧ Ext H H') X.xe s := by
  obtain ⟨b, dy, gs, T, rfl, hb', hx, hsub, q⟩ := h
  obtain ⟨f, fd, ps, hs, hf, FM, hb⟩ := M.ex
  cases ry
  obtain ⟨mA, J, _⟩ := ins_get I.hok hb'
  obtain ⟨od, J, _⟩ := J.look
  obtain ⟨m, hF⟩ := I.fr
  have r2 : Vals [V.ref b, x] [Value.ref b, v] := .cons rfl (.cons rx .nil)
  have run := runSub sb FM hb I r2 q
  cases hx with
  | non =>
    cases rx
    exact cmpRefl sb.room.units0 hF I.ok.mod.kin J (PySem.W.Looks.of_pure rfl) rfl hsub (fun Q' q' => tryC (T := "NoneType") (show s.TypeIs Value.none "NoneType" from rfl) F.slot_NoneType_eq F.entry_NoneType_eq (F.args_NoneType_eq_2 _ _) (fun A' Q2 q2 => niNoneEq J.1 q2) q') hs hf run
  | bl z =>
    cases rx
    exact cmpRefl sb.room.units0 hF I.ok.mod.kin J (PySem.W.Looks.of_pure rfl) rfl hsub (fun Q' q' => tryC (T := "bool") (show s.TypeIs (Value.bool z) "bool" from rfl) F.slot_bool_eq F.entry_int_eq (F.args_int_eq_2 _ _) (fun A' Q2 q2 => niBoolEq J.1 q2) q') hs hf run
  | int i =>
    obtain ⟨t, rfl⟩ := rx
    exact cmpRefl sb.room.units0 hF I.ok.mod.kin J (PySem.W.Looks.of_pure rfl) rfl hsub (fun Q' q' => tryC (T := "int") (typeIs_int s i t) F.slot_int_eq F.entry_int_eq (F.args_int_eq_2 _ _) (fun A' Q2 q2 => niBin J.1 q2) q') hs hf run
  | str z =>
    obtain ⟨t, rfl⟩ := rx
    exact cmpRefl sb.room.units0 hF I.ok.mod.kin J (PySem.W.Looks.of_pure rfl) rfl hsub (fun Q' q' => tryC (T := "str") (show s.TypeIs (Value.str z t) "str" from rfl) F.slot_str_eq F.entry_str_eq (F.args_str_eq_2 _ _) (fun A' Q2 q2 => niStrEq J.1 q2) q') hs hf run
  | lst h =>
    obtain ⟨PP, kt, hP, _⟩ := kit_of I rx (TyX.base (TyOf.lst h))
    cases rx
    obtain ⟨_, _, n, _, h1⟩ := (show ObjOk X.prog X.w H s.heap _ (.lst _) from I.hok _ _ h)
    exact cmpRefl sb.room.units0 hF I.ok.mod.kin J (kt.ty _ _ I.kIn hP) rfl hsub (fun Q' q' => tryC (T := "list") ⟨_, h1, rfl⟩ F.slot_list_eq F.entry_list_eq (F.args_list_eq_2 _ _) (fun A' Q2 q2 => niListEq I.kIn hsub J.1 q2) q') hs hf run
  | tup h =>
    obtain ⟨PP, kt, hP, _⟩ := kit_of I rx (TyX.base (TyOf.tup h))
    cases rx
    obtain ⟨_, _, _, o, h1, h2, _⟩ := (show ObjOk X.prog X.w H s.heap _ (.tup _) from I.hok _ _ h)
    exact cmpRefl sb.room.units0 hF I.ok.mod.kin J (kt.ty _ _ I.kIn hP) rfl hsub (fun Q' q' => tryC (T := "tuple") ⟨o, h1, h2⟩ F.slot_tuple_eq F.entry_tuple_eq (F.args_tuple_eq_2 _ _) (fun A' Q2 q2 => niTupEq I.kIn hsub J.1 q2) q') hs hf run
  | dK h =>
    obtain ⟨PP, kt, hP, _⟩ := kit_of I rx (TyX.base (TyOf.dK h))
    cases rx
    obtain ⟨_, _, vs, _, o, es, ep, h1, h2, _⟩ := (show ObjOk X.prog X.w H s.heap _ (.dK _) from I.hok _ _ h)
    exact cmpRefl sb.room.units0 hF I.ok.mod.kin J (kt.ty _ _ I.kIn hP) rfl hsub (fun Q' q' => tryC (T := "dict") ⟨o, h1, h2.1⟩ F.slot_dict_eq F.entry_dict_eq (F.args_dict_eq_2 _ _) (fun A' Q2 q2 => niDictEq I.kIn hsub J.1 q2) q') hs hf run
end
end LW
set_option Elab.async false
set_option linter.all false
set_option maxRecDepth 100000
set_option maxHeartbeats 4000000
namespace LW
open PySem PySem.Spec PyProof.Rows L2 LV LM UL
section
variable {P : Program} {w : World} {K : PySem.W.Frag} {mg : Str → Option Value} {base : Heap} {κ : String → Addr}
def DF (κ : String → Addr) : EqvB := fun x y b H => ∃ S a c, Same S H ∧ Rep κ S a x ∧ Rep κ S c y ∧ eqF a c = some b
theorem rat_of_parts {a c : Rat} (h : UL.exF a.num a.den = UL.exF c.num c.den) : a = c := by
  unfold UL.exF at h
  injection h with h1 h2
  injection h2 with h2 _
  injection h1 with _ h1
  injection h2 with _ h2
  injection h1 with h1
  injection h2 with h2
  exact Rat.ext h1 (Int.ofNat.inj h2)
def othU : U → Bool
  | .non => true | .bl _ => true | .str _ => true | .lst _ => true | .tup _ => true | .dic _ _ => true | _ => false
/-- what stands beside an Exact and is no number -/
theorem oth_rep (T : XE K mg (κ "Exact")) {S H : Hp} {u : U} {v : V} (e : Same S H) (r : Rep κ S u v) (h : othU u = true) : OthK K (κ "Exact") H v := by
  cases u <;> try cases h
  · cases r
    exact oth_non T
  · cases r
    exact oth_bl T _
  · cases r
    exact oth_str T _
  · obtain ⟨a, vs, rfl, ha, _⟩ := r
    exact oth_lst T (e _ _ ha)
  · obtain ⟨a, vs, rfl, ha, _⟩ := r
    exact oth_tup T (e _ _ ha)
  · obtain ⟨a, vs, rfl, ha, _⟩ := r
    exact oth_dK T (e _ _ ha)
theorem eqB_F (B : UX P w K mg base κ) {X : Cx} (hX : Std X P w K mg base) : EqB X 5 (DF κ) := by
  obtain ⟨rfl, rfl, rfl, rfl, rfl⟩ := hX
  have hX : Std X X.prog X.w X.K X.mg X.base := ⟨rfl, rfl, rfl, rfl, rfl⟩
  intro A pins s σ H x y u v b sb I rx ry d
  obtain ⟨S, a, c, e, ra, rc, hf⟩ := d
  have flat : ∀ b', b = b' → flatV x = true → flatV y = true → eqV x y = b' → wpAny (model X.prog X.w) A (eqBool u v) (fun r s' => r = b ∧ ∃ H', L2.Inv X pins σ H' s' ∧ Ext H H') X.xe s := fun b' hb f1 f2 h => by
    subst hb
    exact eqAt_V rx ry f1 f2 X.prog X.w X.xe _ ⟨h, H, I, Ext.rfl'⟩
  -- an Exact to the left
  have left : ∀ {r : Rat}, Rep κ S (.q r) x → (∀ l, x = .ref l → y ≠ .ref l) → rCmpL X.K (κ "Exact") (spEqX X.K (κ "Exact")) x y H (fun v H'' => v = .bl b ∧ Ext H H'') → wpAny (model X.prog X.w) A (eqBool u v) (fun r s' => r = b ∧ ∃ H', L2.Inv X pins σ H' s' ∧ Ext H H') X.xe s := fun rq ne h => by
    obtain ⟨l, dx, rfl, hl⟩ := rq
    have z := rcB_L (B.eq X hX) sb I rx ry h
    cases rx
    refine eqBool_l (Bool.eq_false_iff.mpr fun hb => ?_) (wpAny_mono z (fun r s' q => ⟨b, q.1, rfl, q.2⟩) fun _ _ x => x)
    have := eq_of_beq hb
    subst this
    cases y <;> first
      | (cases ry; exact ne l rfl rfl)
      | (obtain ⟨_, z⟩ := ry; cases z)
      | cases ry
  have right : ∀ {r : Rat}, Rep κ S (.q r) y → (∀ l, x ≠ .ref l ∨ y ≠ .ref l) → rCmpR X.K (κ "Exact") (spEqX X.K (κ "Exact")) x y H (fun v H'' => v = .bl b ∧ Ext H H'') → wpAny (model X.prog X.w) A (eqBool u v) (fun r s' => r = b ∧ ∃ H', L2.Inv X pins σ H' s' ∧ Ext H H') X.xe s := fun rq ne h => by
    obtain ⟨l, dx, rfl, hl⟩ := rq
    have z := rcB_R (B.eq X hX) sb I rx ry h
    cases ry
    refine eqBool_r (Bool.eq_false_iff.mpr fun hb => ?_) (wpAny_mono z (fun r s' q => ⟨b, q.1, rfl, q.2⟩) fun _ _ x => x)
    have := eq_of_beq hb
    subst this
    cases x <;> first
      | (cases rx; rcases ne l with z | z <;> exact z rfl)
      | (obtain ⟨_, z⟩ := rx; cases z)
      | cases rx
  have oth : ∀ {uu : U} {vv : V}, Rep κ S uu vv → othU uu = true → OthK X.K (κ "Exact") H vv := fun r h => oth_rep B.T e r h
  -- an Exact and another thing stand apart
  have ne1 : ∀ {r : Rat} {uu : U} {v1 v2 : V} {l : Addr}, Rep κ S (.q r) v1 → Rep κ S uu v2 → (∀ q, uu ≠ .q q) → κ "Exact" = κ "Exact" → v1 = .ref l → v2 ≠ .ref l ∨ ∃ c ns us, uu = .obj c ns us := fun {r uu v1 v2 l} r1 r2 hu _ h1 => by
    obtain ⟨l', dx, rfl, hl⟩ := r1
    cases h1
    cases uu <;> first
      | (left; have r2 : v2 = _ := r2; rw [r2]; intro z; cases z)
      | exact absurd rfl (hu _)
      | (left; obtain ⟨a, vs, rfl, ha, _⟩ := r2; intro z; cases z; rw [hl] at ha; cases ha)
      | exact .inr ⟨_, _, _, rfl⟩
  cases a <;> cases c <;> try cases hf
  case non.non => exact flat _ rfl (by rw [show x = V.non from ra]; rfl) (by rw [show y = V.non from rc]; rfl) (by rw [show x = V.non from ra, show y = V.non from rc]; rfl)
  case non.bl => exact flat _ rfl (by rw [show x = V.non from ra]; rfl) (by rw [show y = V.bl _ from rc]; rfl) (by rw [show x = V.non from ra, show y = V.bl _ from rc]; rfl)
  case non.int => exact flat _ rfl (by rw [show x = V.non from ra]; rfl) (by rw [show y = V.int _ from rc]; rfl) (by rw [show x = V.non from ra, show y = V.int _ from rc]; rfl)
  case non.str => exact flat _ rfl (by rw [show x = V.non from ra]; rfl) (by rw [show y = V.str _ from rc]; rfl) (by rw [show x = V.non from ra, show y = V.str _ from rc]; rfl)
  case bl.non => exact flat _ rfl (by rw [show x = V.bl _ from ra]; rfl) (by rw [show y = V.non from rc]; rfl) (by rw [show x = V.bl _ from ra, show y = V.non from rc]; rfl)
  case bl.bl => exact flat _ rfl (by rw [show x = V.bl _ from ra]; rfl) (by rw [show y = V.bl _ from rc]; rfl) (by rw [show x = V.bl _ from ra, show y = V.bl _ from rc]; rfl)
  case bl.str => exact flat _ rfl (by rw [show x = V.bl _ from ra]; rfl) (by rw [show y = V.str _ from rc]; rfl) (by rw [show x = V.bl _ from ra, show y = V.str _ from rc]; rfl)
  case int.non => exact flat _ rfl (by rw [show x = V.int _ from ra]; rfl) (by rw [show y = V.non from rc]; rfl) (by rw [show x = V.int _ from ra, show y = V.non from rc]; rfl)
  case int.int => exact flat _ rfl (by rw [show x = V.int _ from ra]; rfl) (by rw [show y = V.int _ from rc]; rfl) (by rw [show x = V.int _ from ra, show y = V.int _ from rc]; rfl)
  case int.str => exact flat _ rfl (by rw [show x = V.int _ from ra]; rfl) (by rw [show y = V.str _ from rc]; rfl) (by rw [show x = V.int _ from ra, show y = V.str _ from rc]; rfl)
  case str.non => exact flat _ rfl (by rw [show x = V.str _ from ra]; rfl) (by rw [show y = V.non from rc]; rfl) (by rw [show x = V.str _ from ra, show y = V.non from rc]; rfl)
  case str.bl => exact flat _ rfl (by rw [show x = V.str _ from ra]; rfl) (by rw [show y = V.bl _ from rc]; rfl) (by rw [show x = V.str _ from ra, show y = V.bl _ from rc]; rfl)
  case str.int => exact flat _ rfl (by rw [show x = V.str _ from ra]; rfl) (by rw [show y = V.int _ from rc]; rfl) (by rw [show x = V.str _ from ra, show y = V.int _ from rc]; rfl)
  case str.str => exact flat _ rfl (by rw [show x = V.str _ from ra]; rfl) (by rw [show y = V.str _ from rc]; rfl) (by rw [show x = V.str _ from ra, show y = V.str _ from rc]; show (_ == _) = decide _; rw [Bool.eq_iff_iff]; simp)
  case q.q r1 r2 =>
    by_cases hxy : x = y
    · subst hxy
      obtain ⟨l, dx, rfl, hl⟩ := ra
      obtain ⟨l', dx', hz, hl'⟩ := rc
      cases hz
      rw [hl] at hl'
      injection hl' with hl'
      injection hl' with _ _ hl'
      have := rat_of_parts hl'
      subst this
      cases rx
      cases ry
      exact SeqAt.EqAt.same (A := A) (s := s) (.ref l) X.prog X.w X.xe _ ⟨by simp, H, I, Ext.rfl'⟩
    · exact left ra (fun l h1 h2 => hxy (h1.trans h2.symm)) (eqQ B.T.toXC (repQ e ra) (.inr (repQ e rc)) fun H' e' => ⟨rfl, e'⟩)
  case q.int r1 i =>
    have : y = .int i := rc
    subst this
    exact left ra (fun l h1 h2 => by cases h2) (eqQ B.T.toXC (repQ e ra) (repI i) fun H' e' => ⟨rfl, e'⟩)
  case int.q i r1 =>
    have : x = .int i := ra
    subst this
    refine right rc (fun l => .inl (fun z => by cases z)) ?_
    obtain ⟨xa, xd, rfl, hx'⟩ := id (repQ e rc)
    refine ⟨xa, xd, _, "int", rfl, hx', .int i, B.T.own.subC, _, _, r1.num, r1.den, rfl, repQ e rc, .inl ⟨_, _, repI i, fun H' e' => ⟨?_, e'⟩⟩⟩
    rw [dEq]
    congr 1
    exact decide_eq_decide.mpr eq_comm
  case q.non => exact left ra (fun l h1 h2 => by rcases ne1 ra rc (by intro q z; cases z) rfl h1 with z | ⟨_, _, _, z⟩; exact z h2; cases z) (eqO (repQ e ra) (oth rc rfl) fun H' e' => ⟨rfl, e'⟩)
  case q.bl => exact left ra (fun l h1 h2 => by rcases ne1 ra rc (by intro q z; cases z) rfl h1 with z | ⟨_, _, _, z⟩; exact z h2; cases z) (eqO (repQ e ra) (oth rc rfl) fun H' e' => ⟨rfl, e'⟩)
  case q.str => exact left ra (fun l h1 h2 => by rcases ne1 ra rc (by intro q z; cases z) rfl h1 with z | ⟨_, _, _, z⟩; exact z h2; cases z) (eqO (repQ e ra) (oth rc rfl) fun H' e' => ⟨rfl, e'⟩)
  case q.lst => exact left ra (fun l h1 h2 => by rcases ne1 ra rc (by intro q z; cases z) rfl h1 with z | ⟨_, _, _, z⟩; exact z h2; cases z) (eqO (repQ e ra) (oth rc rfl) fun H' e' => ⟨rfl, e'⟩)
  case q.tup => exact left ra (fun l h1 h2 => by rcases ne1 ra rc (by intro q z; cases z) rfl h1 with z | ⟨_, _, _, z⟩; exact z h2; cases z) (eqO (repQ e ra) (oth rc rfl) fun H' e' => ⟨rfl, e'⟩)
  case q.dic => exact left ra (fun l h1 h2 => by rcases ne1 ra rc (by intro q z; cases z) rfl h1 with z | ⟨_, _, _, z⟩; exact z h2; cases z) (eqO (repQ e ra) (oth rc rfl) fun H' e' => ⟨rfl, e'⟩)
  all_goals exact right rc (fun l => by
    by_cases h1 : y = .ref l
    · rcases ne1 rc ra (by intro q z; cases z) rfl h1 with z | ⟨_, _, _, z⟩
      · exact .inl z
      · cases z
    · exact .inr h1) (eqOR (repQ e rc) (oth ra rfl) fun H' e' => ⟨rfl, e'⟩)
end
end LW
set_option Elab.async false
set_option linter.all false
set_option maxRecDepth 100000
set_option maxHeartbeats 4000000
namespace LW
open PySem PySem.Spec PyProof.Rows L2 LV LM UL
section
variable {P : Program} {w : World} {K : PySem.W.Frag} {mg : Str → Option Value} {base : Heap} {κ : String → Addr}
def DN (κ : String → Addr) (n : Nat) : EqvB := fun x y b H => ∃ S a c, Same S H ∧ Rep κ S a x ∧ Rep κ S c y ∧ eqN n a c = some b
theorem eqN_flat {n : Nat} {a c : U} (h1 : ∀ us ws, ¬ (a = .lst us ∧ c = .lst ws)) (h2 : ∀ us ws, ¬ (a = .tup us ∧ c = .tup ws)) : eqN n a c = eqF a c := by
  cases n with
  | zero => rfl
  | succ n =>
    cases a <;> cases c <;> first
      | rfl
      | exact absurd ⟨rfl, rfl⟩ (h1 _ _)
      | exact absurd ⟨rfl, rfl⟩ (h2 _ _)
theorem allEq_f {f : U → U → Option Bool} : ∀ {us ws : List U} {b : Bool}, allEq f us ws = some b → us.length = ws.length ∧ ∃ g : Nat → Bool, (∀ i x y, us[i]? = some x → ws[i]? = some y → f x y = some (g i)) ∧ b = (List.range us.length).all g
  | [], [], b, h => by
    cases h
    exact ⟨rfl, fun _ => true, fun i x y h => by simp at h, rfl⟩
  | x :: us, y :: ws, b, h => by
    obtain ⟨b1, h1, h⟩ := bindS h
    obtain ⟨b2, h2, h⟩ := bindS h
    cases h
    obtain ⟨hl, g, hg, rfl⟩ := allEq_f h2
    refine ⟨by simp [hl], fun i => match i with | 0 => b1 | i + 1 => g i, fun i p q hp hq => ?_, ?_⟩
    · cases i with
      | zero =>
        simp at hp hq
        subst hp hq
        exact h1
      | succ i => exact hg i p q (by simpa using hp) (by simpa using hq)
    · rw [List.length_cons, List.range_succ_eq_map, List.all_cons, List.all_map]
      rfl
theorem q_apart {S : Hp} {r : Rat} {u : U} {v : V} (rq : Rep κ S (.q r) v) (ru : Rep κ S u v) (h : othU u = true ∨ ∃ i, u = .int i) : False := by
  obtain ⟨l, dx, rfl, hl⟩ := rq
  cases u with
  | non => cases (show V.ref l = .non from ru)
  | bl b => cases (show V.ref l = .bl b from ru)
  | int i => cases (show V.ref l = .int i from ru)
  | str z => cases (show V.ref l = .str z from ru)
  | lst us =>
    obtain ⟨l', vs, hz, hl', _⟩ := ru
    cases hz
    rw [hl] at hl'
    cases hl'
  | tup us =>
    obtain ⟨l', vs, hz, hl', _⟩ := ru
    cases hz
    rw [hl] at hl'
    cases hl'
  | dic ks us =>
    obtain ⟨l', vs, hz, hl', _⟩ := ru
    cases hz
    rw [hl] at hl'
    cases hl'
  | q x =>
    rcases h with h | ⟨i, h⟩
    · cases h
    · cases h
  | obj c ns us =>
    rcases h with h | ⟨i, h⟩
    · cases h
    · cases h
theorem eqF_self {S : Hp} {a c : U} {v : V} {b : Bool} (ra : Rep κ S a v) (rc : Rep κ S c v) (h : eqF a c = some b) : b = true := by
  cases a <;> cases c <;> try cases h
  case q.q r1 r2 =>
    obtain ⟨l, dx, rfl, hl⟩ := ra
    obtain ⟨l', dx', hz, hl'⟩ := rc
    cases hz
    rw [hl] at hl'
    injection hl' with hl'
    injection hl' with _ _ hl'
    have := rat_of_parts hl'
    subst this
    simp
  all_goals first
    | exact (q_apart ra rc (.inl rfl)).elim
    | exact (q_apart rc ra (.inl rfl)).elim
    | exact (q_apart ra rc (.inr ⟨_, rfl⟩)).elim
    | exact (q_apart rc ra (.inr ⟨_, rfl⟩)).elim
    | rfl
    | (have ra : v = _ := ra; have rc : v = _ := rc; rw [ra] at rc; cases rc; simp)
    | (have ra : v = _ := ra; have rc : v = _ := rc; rw [ra] at rc; cases rc)
theorem eqN_self {S : Hp} : ∀ (n : Nat) {a c : U} {v : V} {b : Bool}, Rep κ S a v → Rep κ S c v → eqN n a c = some b → b = true
  | 0, a, c, v, b, ra, rc, h => eqF_self ra rc h
  | n + 1, a, c, v, b, ra, rc, h => by
    have go : ∀ {us ws : List U} {vs : List V} {b : Bool}, Reps κ S us vs → Reps κ S ws vs → allEq (eqN n) us ws = some b → b = true := by
      intro us ws vs b r1 r2 h
      obtain ⟨hl, g, hg, rfl⟩ := allEq_f h
      rw [List.all_eq_true]
      intro i hi
      have hi : i < us.length := by simpa using hi
      have q1 : us[i]? = some us[i] := by simp [hi]
      have hi2 : i < ws.length := by omega
      have q2 : ws[i]? = some ws[i] := by simp [hi2]
      obtain ⟨v1, hv1, rv1⟩ := r1.get q1
      obtain ⟨v2, hv2, rv2⟩ := r2.get q2
      rw [hv1] at hv2
      cases hv2
      exact eqN_self n rv1 rv2 (hg i _ _ q1 q2)
    by_cases hL : ∃ us ws, a = .lst us ∧ c = .lst ws
    · obtain ⟨us, ws, rfl, rfl⟩ := hL
      obtain ⟨l, vs, rfl, hl, r1⟩ := ra
      obtain ⟨l', vs', hz, hl', r2⟩ := rc
      cases hz
      rw [hl] at hl'
      cases hl'
      dsimp only [eqN] at h
      rw [if_pos (by rw [r1.len, r2.len])] at h
      exact go r1 r2 h
    · by_cases hT : ∃ us ws, a = .tup us ∧ c = .tup ws
      · obtain ⟨us, ws, rfl, rfl⟩ := hT
        obtain ⟨l, vs, rfl, hl, r1⟩ := ra
        obtain ⟨l', vs', hz, hl', r2⟩ := rc
        cases hz
        rw [hl] at hl'
        cases hl'
        dsimp only [eqN] at h
        rw [if_pos (by rw [r1.len, r2.len])] at h
        exact go r1 r2 h
      · rw [eqN_flat (fun us ws z => hL ⟨us, ws, z⟩) (fun us ws z => hT ⟨us, ws, z⟩)] at h
        exact eqF_self ra rc h
theorem same_self {S S' H : Hp} (e : Same S H) (e' : Same S' H) : ∃ T : Hp, Same S T ∧ Same S' T := ⟨H, e, e'⟩
theorem mon_DN (n : Nat) : MonB (DN κ n) := fun x y b H H' e d => by
  obtain ⟨S, a, c, e', r1, r2, h⟩ := d
  exact ⟨S, a, c, e'.trans e, r1, r2, h⟩
theorem rfl_DN (n : Nat) : RflB (DN κ n) := fun x b H d => by
  obtain ⟨S, a, c, e', r1, r2, h⟩ := d
  exact eqN_self n r1 r2 h
theorem eqB_up {X : Cx} {n m : Nat} {D : EqvB} (h : EqB X n D) (hm : n ≤ m) : EqB X m D := fun A pins s σ H x y u v b sb I rx ry d => h A pins s σ H x y u v b (sb.mono hm) I rx ry d
theorem prs_of {S H : Hp} {n : Nat} {us ws : List U} {vs xs : List V} {g : Nat → Bool} (e : Same S H) (r1 : Reps κ S us vs) (r2 : Reps κ S ws xs) (hl : us.length = ws.length) (hg : ∀ i x y, us[i]? = some x → ws[i]? = some y → eqN n x y = some (g i)) : PrsB (DN κ n) vs xs g H := by
  refine ⟨by rw [← r1.len, ← r2.len, hl], fun i x y hx hy => ?_⟩
  obtain ⟨u, hu, ru⟩ := r1.at_ hx
  obtain ⟨w, hw, rw'⟩ := r2.at_ hy
  exact ⟨S, u, w, e, ru, rw', hg i u w hu hw⟩
/-- lists and tuples, by their items -/
theorem dl_of {S H : Hp} {n : Nat} {us ws : List U} {x y : V} {b : Bool} (e : Same S H) (ra : Rep κ S (.lst us) x) (rc : Rep κ S (.lst ws) y) (h : eqN (n + 1) (.lst us) (.lst ws) = some b) : DLstB (DN κ n) x y b H := by
  obtain ⟨l, vs, rfl, hl, r1⟩ := ra
  obtain ⟨l', xs, rfl, hl', r2⟩ := rc
  dsimp only [eqN] at h
  refine ⟨l, l', vs, xs, rfl, rfl, e _ _ hl, e _ _ hl', ?_⟩
  split at h
  · obtain ⟨hq, g, hg, rfl⟩ := allEq_f h
    exact .inr ⟨g, prs_of e r1 r2 hq hg, by rw [r1.len]⟩
  · rename_i hq
    cases h
    exact .inl ⟨by rw [← r1.len, ← r2.len]; exact hq, rfl⟩
theorem dt_of {S H : Hp} {n : Nat} {us ws : List U} {x y : V} {b : Bool} (e : Same S H) (ra : Rep κ S (.tup us) x) (rc : Rep κ S (.tup ws) y) (h : eqN (n + 1) (.tup us) (.tup ws) = some b) : DTupB (DN κ n) x y b H := by
  obtain ⟨l, vs, rfl, hl, r1⟩ := ra
  obtain ⟨l', xs, rfl, hl', r2⟩ := rc
  dsimp only [eqN] at h
  refine ⟨l, l', vs, xs, rfl, rfl, e _ _ hl, e _ _ hl', ?_⟩
  split at h
  · obtain ⟨hq, g, hg, rfl⟩ := allEq_f h
    exact ⟨g, prs_of e r1 r2 hq hg, by rw [r1.len]⟩
  · cases h
theorem eqB_N (B : UX P w K mg base κ) {X : Cx} (hX : Std X P w K mg base) : ∀ n : Nat, EqB X (n + 5) (DN κ n)
  | 0 => eqB_F B hX
  | n + 1 => by
    have ih := eqB_N B hX n
    have EL : EqB X (n + 5 + 1) (DLstB (DN κ n)) := (rcB_lst (mon_DN n) ih).eqB (rflB_lst (rfl_DN n)) fun _ _ _ _ d => let ⟨a, b, _, _, hx, hy, _⟩ := d; ⟨a, b, hx, hy⟩
    have ET : EqB X (n + 5 + 1) (DTupB (DN κ n)) := eqB_tup (mon_DN n) (rfl_DN n) ih
    intro A pins s σ H x y u v b sb I rx ry d
    have sb' : Sub X (n + 5 + 1) A := sb.mono (by omega)
    obtain ⟨S, a, c, e, ra, rc, h⟩ := d
    by_cases hL : ∃ us ws, a = .lst us ∧ c = .lst ws
    · obtain ⟨us, ws, rfl, rfl⟩ := hL
      exact EL A pins s σ H x y u v b sb' I rx ry (dl_of e ra rc h)
    · by_cases hT : ∃ us ws, a = .tup us ∧ c = .tup ws
      · obtain ⟨us, ws, rfl, rfl⟩ := hT
        exact ET A pins s σ H x y u v b sb' I rx ry (dt_of e ra rc h)
      · rw [eqN_flat (fun us ws z => hL ⟨us, ws, z⟩) (fun us ws z => hT ⟨us, ws, z⟩)] at h
        exact eqB_up (eqB_F B hX) (by omega) A pins s σ H x y u v b sb I rx ry ⟨S, a, c, e, ra, rc, h⟩
/-- x == y at the top, flat things -/
theorem eqF_run (B : UX P w K mg base κ) {X : Cx} (hX : Std X P w K mg base) {j : Nat} (hr : Room j X.A) (hj : 5 ≤ j) {pins : List (Addr × Obj)} {s : Shared} {σ : L2.St} {S H : Hp} {x y : V} {v u : Value} {Q : VK} (I : Inv X pins σ H s) (rx : RelV x v) (ry : RelV y u) {a c : U} {b : Bool} (e : Same S H) (ra : Rep κ S a x) (rc : Rep κ S c y) (hf : eqF a c = some b)
    (k : ∀ H', Same H H' → Q (.bl b) H') : wpAny (model X.prog X.w) X.A (compareOp .Eq v u) (EP X pins σ Q) X.xe s := by
  obtain ⟨rfl, rfl, rfl, rfl, rfl⟩ := hX
  have hX : Std X X.prog X.w X.K X.mg X.base := ⟨rfl, rfl, rfl, rfl, rfl⟩
  have k0 : Q (.bl b) H := k H (fun _ _ h => h)
  have flat : scal x y = true → decide (x = y) = b → wpAny (model X.prog X.w) X.A (compareOp .Eq v u) (EP X pins σ Q) X.xe s := fun h1 h2 => op_eq pins s σ H x y v u Q I rx ry ⟨h1, by rw [h2]; exact k0⟩
  have oth : ∀ {uu : U} {vv : V}, Rep κ S uu vv → othU uu = true → OthK X.K (κ "Exact") H vv := fun r h => oth_rep B.T e r h
  have left : ∀ {r : Rat}, Rep κ S (.q r) x → othU c = true → b = false → wpAny (model X.prog X.w) X.A (compareOp .Eq v u) (EP X pins σ Q) X.xe s := fun rq ho hb => op_eqL (B.eq X hX) (hr.mono hj) pins s σ H x y v u Q I rx ry (eqO (repQ e rq) (oth rc ho) fun H' e' => by
    have := k H' e'
    rw [hb] at this
    exact this)
  have right : ∀ {r : Rat}, Rep κ S (.q r) y → othU a = true → b = false → wpAny (model X.prog X.w) X.A (compareOp .Eq v u) (EP X pins σ Q) X.xe s := fun rq ho hb => op_eqR (B.eq X hX) (hr.mono hj) pins s σ H x y v u Q I rx ry (eqOR (repQ e rq) (oth ra ho) fun H' e' => by
    have := k H' e'
    rw [hb] at this
    exact this)
  cases a <;> cases c <;> try cases hf
  case q.q => exact op_eqL (B.eq X hX) (hr.mono hj) pins s σ H x y v u Q I rx ry (eqQ B.T.toXC (repQ e ra) (.inr (repQ e rc)) k)
  case q.int r1 i =>
    have : y = .int i := rc
    subst this
    exact op_eqL (B.eq X hX) (hr.mono hj) pins s σ H x _ v u Q I rx ry (eqQ B.T.toXC (repQ e ra) (repI i) k)
  case int.q i r1 =>
    have : x = .int i := ra
    subst this
    obtain ⟨xa, xd, rfl, hx'⟩ := id (repQ e rc)
    refine op_eqR (B.eq X hX) (hr.mono hj) pins s σ H _ _ v u Q I rx ry ⟨xa, xd, _, "int", rfl, hx', .int i, B.T.own.subC, _, _, r1.num, r1.den, rfl, repQ e rc, .inl ⟨_, _, repI i, fun H' e' => ?_⟩⟩
    rw [dEq, show decide (r1 = (i : Rat)) = decide ((i : Rat) = r1) from decide_eq_decide.mpr eq_comm]
    exact k H' e'
  all_goals first
    | exact left ra rfl rfl
    | exact right rc rfl rfl
    | (have ra : x = _ := ra; have rc : y = _ := rc; subst ra; subst rc; exact flat rfl (by first | rfl | simp))
theorem op_eqU (B : UX P w K mg base κ) {X : Cx} (hX : Std X P w K mg base) {j : Nat} (hr : Room j X.A) (n : Nat) (hj : n + 5 ≤ j := by decide) : OpR X (compareOp .Eq) (r2 κ (eqU n)) := by
  intro pins s σ H x y v u Q I rx ry h
  obtain ⟨S, a, c, z, e, ra, rc, hf, k⟩ := h
  obtain ⟨b, hb, hz⟩ := bindS hf
  cases hz
  have k' : ∀ H', Same H H' → Q (.bl b) H' := fun H' e' => k _ S H' (stay' e e') rfl
  by_cases hL : ∃ us ws, a = .lst us ∧ c = .lst ws
  · obtain ⟨us, ws, rfl, rfl⟩ := hL
    cases n with
    | zero => cases hb
    | succ n => exact op_eqB (rcB_lst (mon_DN n) (eqB_N B hX n)) (hr.mono (by omega)) pins s σ H x y v u Q I rx ry ⟨b, dl_of e ra rc hb, k'⟩
  · by_cases hT : ∃ us ws, a = .tup us ∧ c = .tup ws
    · obtain ⟨us, ws, rfl, rfl⟩ := hT
      cases n with
      | zero => cases hb
      | succ n => exact op_eqB (rcB_tup (mon_DN n) (eqB_N B hX n)) (hr.mono (by omega)) pins s σ H x y v u Q I rx ry ⟨b, dt_of e ra rc hb, k'⟩
    · rw [eqN_flat (fun us ws z => hL ⟨us, ws, z⟩) (fun us ws z => hT ⟨us, ws, z⟩)] at hb
      exact eqF_run B hX hr (by omega) I rx ry e ra rc hb k'
end
end LW
set_option Elab.async false
set_option linter.all false
set_option maxRecDepth 100000
set_option maxHeartbeats 4000000
namespace LW
open PySem PySem.Spec PyProof.Rows L2 LV LM UL
section
variable {P : Program} {w : World} {K : PySem.W.Frag} {mg : Str → Option Value} {base : Heap} {κ : String → Addr} {ρ : Bool} {E : XK}
/-! != -/
mutual
theorem dp_of {S H : Hp} (e : Same S H) : ∀ (u : U) {v : V} {d : PyData}, Rep κ S u v → toD u = some d → Dp K H v d
  | .non, _, _, r, h => by
    cases h
    have : _ = V.non := r
    subst this
    exact .non
  | .bl b, _, _, r, h => by
    cases h
    have : _ = V.bl b := r
    subst this
    exact .bl b
  | .int i, _, _, r, h => by
    cases h
    have : _ = V.int i := r
    subst this
    exact .int i
  | .str z, _, _, r, h => by
    cases h
    have : _ = V.str z := r
    subst this
    exact .str z
  | .lst us, _, _, r, h => by
    obtain ⟨ds, h1, h⟩ := bindS h
    cases h
    obtain ⟨a, vs, rfl, ha, rs⟩ := r
    exact .lst (SqL.of (e _ _ ha)) (dps_of e us rs h1)
  | .tup us, _, _, r, h => by
    obtain ⟨ds, h1, h⟩ := bindS h
    cases h
    obtain ⟨a, vs, rfl, ha, rs⟩ := r
    exact .tup (SqT.of (e _ _ ha)) (dps_of e us rs h1)
  | .q _, _, _, _, h => by cases h
  | .obj _ _ _, _, _, _, h => by cases h
  | .dic _ _, _, _, _, h => by cases h
theorem dps_of {S H : Hp} (e : Same S H) : ∀ (us : List U) {vs : List V} {ds : List PyData}, Reps κ S us vs → toDs us = some ds → DpAll K H vs ds
  | [], _, _, r, h => by
    cases h
    have : _ = [] := r
    subst this
    exact .nil
  | u :: us, _, _, r, h => by
    obtain ⟨d, h1, h⟩ := bindS h
    obtain ⟨ds, h2, h⟩ := bindS h
    cases h
    obtain ⟨v, vs, rfl, r1, r2⟩ := r
    exact .cons (dp_of e u r1 h1) (dps_of e us r2 h2)
end
theorem op_neU (B : UX P w K mg base κ) {X : Cx} (hX : Std X P w K mg base) {j : Nat} (hr : Room j X.A) (hu : X.A.units + 64 < cLine) (hj : 6 ≤ j := by decide) : OpR X (compareOp .NotEq) (r2 κ neU) := by
  obtain ⟨rfl, rfl, rfl, rfl, rfl⟩ := hX
  have hX : Std X X.prog X.w X.K X.mg X.base := ⟨rfl, rfl, rfl, rfl, rfl⟩
  intro pins s σ H x y v u Q I rx ry h
  obtain ⟨S, a, b, c, e, ra, rb, hf, k⟩ := h
  have q : ∀ r, (∃ w1, Rep κ S (.q w1) x) → rNeL X.K (κ "Exact") (spEqX X.K (κ "Exact")) x y H (fun v H' => v = .bl r ∧ Same H H') → c = .bl r → wpAny (model X.prog X.w) X.A (compareOp .NotEq v u) (EP X pins σ Q) X.xe s := fun r _ h hc => by
    subst hc
    refine op_neL (B.eq X hX) B.T.ne B.T.hm (hr.mono hj) pins s σ H x y v u Q I rx ry ?_
    obtain ⟨l, dx, fs, h1, h2, h3, h4⟩ := h
    have mono : ∀ {Q1 Q2 : VK}, (∀ v H', Q1 v H' → Q2 v H') → spEqX X.K (κ "Exact") [x, y] H Q1 E0 → spEqX X.K (κ "Exact") [x, y] H Q2 E0 := fun {Q1 Q2} hm h => by
      obtain ⟨x', y', o, u, e1, e2, e3⟩ := h
      exact ⟨x', y', o, u, e1, e2, e3.imp (fun ⟨p, q, z1, z2⟩ => ⟨p, q, z1, fun H' e => hm _ _ (z2 H' e)⟩) fun ⟨z1, z2⟩ => ⟨z1, fun H' e => hm _ _ (z2 H' e)⟩⟩
    refine ⟨l, dx, fs, h1, h2, h3, mono (fun v H' ⟨bb, hb, hq, hs⟩ => ⟨bb, hb, ?_⟩) h4⟩
    rw [hq]
    exact k _ S H' (stay' e hs) rfl
  have dat : ∀ {d e' : PyData}, toD a = some d → toD b = some e' → SeqAt.shaped d = true → SeqAt.shaped e' = true → c = .bl (!PyData.eqv d e') → wpAny (model X.prog X.w) X.A (compareOp .NotEq v u) (EP X pins σ Q) X.xe s := fun h1 h2 h3 h4 hc => by
    subst hc
    exact op_neD hu pins s σ H x y v u Q I rx ry ⟨_, _, dp_of e a ra h1, dp_of e b rb h2, h3, h4, k _ S H (stay e) rfl⟩
  unfold neU at hf
  split at hf
  · cases hf
    obtain ⟨l, vs, rfl, hl, r1⟩ := ra
    obtain ⟨l', vs', rfl, hl', r2⟩ := rb
    have : vs' = [] := r2
    subst this
    refine op_neNil hr.units0 pins s σ H _ _ v u Q I rx ry ⟨l, l', vs, rfl, rfl, e _ _ hl, e _ _ hl', ?_⟩
    rename_i us
    have : decide (vs = []) = us.isEmpty := by
      have := r1.len
      cases us <;> cases vs <;> simp at this <;> rfl
    rw [this]
    exact k _ S H (stay e) rfl
  · cases hf
    exact q _ ⟨_, ra⟩ (neB B.T.toXC (repQ e ra) (.inr (repQ e rb)) fun H' e' => ⟨rfl, e'⟩) (by rw [dEq])
  · cases hf
    rename_i r1 i
    have : y = .int i := rb
    subst this
    exact q _ ⟨_, ra⟩ (neB B.T.toXC (repQ e ra) (repI i) fun H' e' => ⟨rfl, e'⟩) (by rw [dEq])
  · cases hf
    exact q _ ⟨_, ra⟩ (neO (repQ e ra) (oth_rep B.T e rb rfl) fun H' e' => ⟨rfl, e'⟩) rfl
  · cases hf
    exact q _ ⟨_, ra⟩ (neO (repQ e ra) (oth_rep B.T e rb rfl) fun H' e' => ⟨rfl, e'⟩) rfl
  · cases hf
    exact q _ ⟨_, ra⟩ (neO (repQ e ra) (oth_rep B.T e rb rfl) fun H' e' => ⟨rfl, e'⟩) rfl
  · obtain ⟨d, h1, hf⟩ := bindS hf
    obtain ⟨e', h2, hf⟩ := bindS hf
    split at hf
    · rename_i hz
      rw [Bool.and_eq_true] at hz
      cases hf
      exact dat h1 h2 hz.1 hz.2 rfl
    · cases hf
/-! own classes -/
structure OC (K : PySem.W.Frag) (C : Addr) : Prop where
  cl : Cls K C
  ha : PySem.W.findIn K (.ref C) "__class__" = some (some (.builtin "object.__class__"))
  hm : PySem.W.mroIn K C (.type "object") = some true
  kT : ∀ t ∈ typs, PySem.W.kitOne K (.type t) (.ref C) = some false ∧ PySem.W.kitOne K (.ref C) (.type t) = some false
/-- the classes of the text -/
structure CW (K : PySem.W.Frag) (κ : String → Addr) (cs : List String) : Prop where
  oc : ∀ c ∈ cs, OC K (κ c)
  two : ∀ c ∈ cs, ∀ c' ∈ cs, PySem.W.kitOne K (.ref (κ c)) (.ref (κ c')) = some (decide (c = c'))
  ex : "Exact" ∈ cs
  nb : ∀ c ∈ cs, c ∉ typs
  hn : PySem.W.specialIn K (.builtin "object.__class__") "__get__" = some (some (.builtin "getset_descriptor.__get__"))
  htk : PySem.W.takesIn K (.builtin "object.__class__") = some true
def tyV1 (κ : String → Addr) (u : U) : Value := match u with
  | .q _ => .ref (κ "Exact")
  | .obj c _ _ => .ref (κ c)
  | u => .type (tyU u)
theorem tyX_of {cs : List String} (W : CW K κ cs) {S H : Hp} (e : Same S H) {u : U} {v : V} (hk : kwn cs u = true) (r : Rep κ S u v) : TyX K H v (tyV1 κ u) := by
  cases u with
  | non => rw [show v = .non from r]; exact .base .non
  | bl b => rw [show v = .bl b from r]; exact .base (.bl b)
  | int i => rw [show v = .int i from r]; exact .base (.int i)
  | str z => rw [show v = .str z from r]; exact .base (.str z)
  | q x =>
    obtain ⟨a, dx, rfl, ha⟩ := r
    have o := W.oc _ W.ex
    exact .base (.ins (e _ _ ha) o.cl o.ha W.hn W.htk o.hm)
  | lst us => obtain ⟨a, vs, rfl, ha, _⟩ := r; exact .base (.lst (e _ _ ha))
  | tup us => obtain ⟨a, vs, rfl, ha, _⟩ := r; exact .base (.tup (e _ _ ha))
  | dic ks us => obtain ⟨a, vs, rfl, ha, _⟩ := r; exact .base (.dK (e _ _ ha))
  | obj c ns us =>
    obtain ⟨a, dx, vs, rfl, ha, _⟩ := r
    have o := W.oc c (by simpa [kwn] using hk)
    exact .base (.ins (e _ _ ha) o.cl o.ha W.hn W.htk o.hm)
/-- the classes that are asked for: built-in ones, own ones -/
def clV (κ : String → Addr) (cs : List String) (T : String) : V := if cs.contains T then .ref (κ T) else .ty T
def clU (κ : String → Addr) (cs : List String) (T : String) : Value := if cs.contains T then .ref (κ T) else .type T
theorem clsV (cs : List String) (T : String) : ClsV (clV κ cs T) (clU κ cs T) := by
  unfold clV clU
  split
  · exact .own _
  · exact .ty _
theorem kit_typs : ∀ t ∈ typs, ∀ T ∈ typs, kitB t T = some (isiN T t) := by decide +kernel
theorem kit_of1 {cs : List String} (W : CW K κ cs) {u : U} (hk : kwn cs u = true) {T : String} (hT : T ∈ cs ∨ T ∈ typs) : PySem.W.kitOne K (tyV1 κ u) (clU κ cs T) = some (isiN T (tyU u)) := by
  -- the value's class: built-in or own
  have val : (∃ t ∈ typs, tyV1 κ u = .type t ∧ tyU u = t) ∨ ∃ c ∈ cs, tyV1 κ u = .ref (κ c) ∧ tyU u = c := by
    cases u with
    | non => exact .inl ⟨_, by simp [typs, tyU], rfl, rfl⟩
    | bl b => exact .inl ⟨_, by simp [typs, tyU], rfl, rfl⟩
    | int i => exact .inl ⟨_, by simp [typs, tyU], rfl, rfl⟩
    | str z => exact .inl ⟨_, by simp [typs, tyU], rfl, rfl⟩
    | q x => exact .inr ⟨"Exact", W.ex, rfl, rfl⟩
    | lst us => exact .inl ⟨_, by simp [typs, tyU], rfl, rfl⟩
    | tup us => exact .inl ⟨_, by simp [typs, tyU], rfl, rfl⟩
    | dic ks us => exact .inl ⟨_, by simp [typs, tyU], rfl, rfl⟩
    | obj c ns us => exact .inr ⟨c, by simpa [kwn] using hk, rfl, rfl⟩
  have nt : ∀ c ∈ cs, c ≠ "int" ∧ c ≠ "bool" := fun c hc => ⟨fun z => W.nb c hc (by rw [z]; simp [typs]), fun z => W.nb c hc (by rw [z]; simp [typs])⟩
  rcases hT with hT | hT
  · have e : clU κ cs T = .ref (κ T) := if_pos (by simpa using hT)
    rw [e]
    have i0 : ∀ t, isiN T t = decide (t = T) := fun t => by simp [isiN, (nt T hT).1]
    rcases val with ⟨t, ht, h1, h2⟩ | ⟨c, hc, h1, h2⟩
    · rw [h1, h2, i0, (((W.oc T hT).kT t ht)).1]
      have : ¬ t = T := fun z => W.nb T hT (z ▸ ht)
      rw [decide_eq_false this]
    · rw [h1, h2, i0, W.two c hc T hT]
  · have nc : ¬ cs.contains T = true := fun z => W.nb T (by simpa using z) hT
    have e : clU κ cs T = .type T := if_neg nc
    rw [e]
    rcases val with ⟨t, ht, h1, h2⟩ | ⟨c, hc, h1, h2⟩
    · rw [h1, h2]
      exact kit_ty (kit_typs t ht T hT)
    · rw [h1, h2, (((W.oc c hc).kT T hT)).2]
      have n1 : ¬ c = T := fun z => W.nb c hc (z ▸ hT)
      simp [isiN, n1, (nt c hc).2]
theorem simE_isi {cs : List String} (W : CW K κ cs) {T : String} (hT : T ∈ cs ∨ T ∈ typs) {t : TE} {m : M U} (h : SimE κ ρ t m) {cv : V} (hc : cv = clV κ cs T) : SimE κ ρ (tCB (rIsi K) (tCons t (tCons (tC cv) tNil))) (m1 (isiU cs T) m) := by
  subst hc
  constructor
  intro σ S H F env g u env' e Q k
  obtain ⟨⟨x, e1⟩, h1, e⟩ := bindS e
  obtain ⟨z, h2, e⟩ := bindS e
  cases e
  refine h.run g h1 _ fun v S1 H1 F1 s1 g1 r => ?_
  unfold isiU at h2
  split at h2
  · rename_i hk
    cases h2
    exact ⟨v, _, _, _, _, rfl, clsV cs T, tyX_of W g1.wf.sub hk r, kit_of1 W hk hT, k _ S1 H1 F1 s1 g1 rfl⟩
  · cases h2
/-- isinstance(x, (T1, T2)) -/
theorem simE_isi2 {cs : List String} (W : CW K κ cs) {T1 T2 : String} (hT1 : T1 ∈ cs ∨ T1 ∈ typs) (hT2 : T2 ∈ cs ∨ T2 ∈ typs) {t : TE} {m : M U} (h : SimE κ ρ t m) {c1 c2 : V} (hc1 : c1 = clV κ cs T1) (hc2 : c2 = clV κ cs T2) :
    SimE κ ρ (tCB (rIsiT K) (tCons t (tCons (tTup (tCons (tC c1) (tCons (tC c2) tNil))) tNil))) (m1 (isiA cs [T1, T2]) m) := by
  subst hc1
  subst hc2
  constructor
  intro σ S H F env g u env' e Q k
  obtain ⟨⟨x, e1⟩, h1, e⟩ := bindS e
  obtain ⟨z, h2, e⟩ := bindS e
  cases e
  refine h.run g h1 _ fun v S1 H1 F1 s1 g1 r => ⟨by show 2 ≤ sizeLine; decide, fun p hp => ?_⟩
  unfold isiA at h2
  split at h2
  · rename_i hk
    cases h2
    have st : StpP κ S1 H1 S1 (upd H1 p (.tup [clV κ cs T1, clV κ cs T2])) := stay' g1.wf.sub (Same.new hp)
    refine ⟨v, p, _, _, _, _, rfl, upd_same, .cons (clsV cs T1) (.cons (clsV cs T2) .nil), tyX_of W st.in_ hk r, kitAny_cons (kit_of1 W hk hT1) (fun h0 => kitAny_cons (kit_of1 W hk hT2) (fun h0' => ?_) (fun h0' => ?_)) (fun h0 => ?_), k _ S1 _ F1 (s1.trans st.stq) (g1.pure_ st) rfl⟩
    · rw [show ([T1, T2].any fun T => isiN T (tyU x)) = false by simp [h0, h0']]
      rfl
    · simp [h0']
    · simp [h0]
  · cases h2
/-- isinstance(x, (T1, .., T4)) -/
theorem simE_isi4 {cs : List String} (W : CW K κ cs) {T1 T2 T3 T4 : String} (hT1 : T1 ∈ cs ∨ T1 ∈ typs) (hT2 : T2 ∈ cs ∨ T2 ∈ typs) (hT3 : T3 ∈ cs ∨ T3 ∈ typs) (hT4 : T4 ∈ cs ∨ T4 ∈ typs) {t : TE} {m : M U} (h : SimE κ ρ t m) {c1 c2 c3 c4 : V} (hc1 : c1 = clV κ cs T1) (hc2 : c2 = clV κ cs T2) (hc3 : c3 = clV κ cs T3) (hc4 : c4 = clV κ cs T4) :
    SimE κ ρ (tCB (rIsiT K) (tCons t (tCons (tTup (tCons (tC c1) (tCons (tC c2) (tCons (tC c3) (tCons (tC c4) tNil))))) tNil))) (m1 (isiA cs [T1, T2, T3, T4]) m) := by
  subst hc1 hc2 hc3 hc4
  constructor
  intro σ S H F env g u env' e Q k
  obtain ⟨⟨x, e1⟩, h1, e⟩ := bindS e
  obtain ⟨z, h2, e⟩ := bindS e
  cases e
  refine h.run g h1 _ fun v S1 H1 F1 s1 g1 r => ⟨by show 4 ≤ sizeLine; decide, fun p hp => ?_⟩
  unfold isiA at h2
  split at h2
  · rename_i hk
    cases h2
    have st : StpP κ S1 H1 S1 (upd H1 p (.tup [clV κ cs T1, clV κ cs T2, clV κ cs T3, clV κ cs T4])) := stay' g1.wf.sub (Same.new hp)
    refine ⟨v, p, _, _, _, _, rfl, upd_same, .cons (clsV cs T1) (.cons (clsV cs T2) (.cons (clsV cs T3) (.cons (clsV cs T4) .nil))), tyX_of W st.in_ hk r, kitAny_cons (kit_of1 W hk hT1) (fun h0 => kitAny_cons (kit_of1 W hk hT2) (fun h1 => kitAny_cons (kit_of1 W hk hT3) (fun h2 => kitAny_cons (kit_of1 W hk hT4) (fun h3 => ?_) (fun h3 => ?_)) (fun h2 => ?_)) (fun h1 => ?_)) (fun h0 => ?_), k _ S1 _ F1 (s1.trans st.stq) (g1.pure_ st) rfl⟩
    · rw [show ([T1, T2, T3, T4].any fun T => isiN T (tyU x)) = false by simp [h0, h1, h2, h3]]
      rfl
    · simp [h3]
    · simp [h2]
    · simp [h1]
    · simp [h0]
  · cases h2
end
end LW
set_option Elab.async false
set_option linter.all false
set_option maxRecDepth 100000
set_option maxHeartbeats 4000000
namespace LW
open PySem PySem.Spec PyProof.Rows L2 LV LM UL
section
variable {P : Program} {w : World} {K : PySem.W.Frag} {mg : Str → Option Value} {base : Heap} {κ : String → Addr} {ρ : Bool} {E : XK}
theorem cal_imp {k : Nat} {x : Str} {sp sp' : Sp} {dvs : List V} (c : C8.Cal P w K mg base k x sp dvs) (h : ∀ vs H Q E, sp' vs H Q E → sp vs H Q E) : C8.Cal P w K mg base k x sp' dvs := by
  obtain ⟨f, fd, ps, ds, F, h1, h2, h3, h4⟩ := c.ex
  exact ⟨f, fd, ps, ds, F.imp h, h1, h2, h3, h4⟩
theorem met_imp {k : Nat} {C : Addr} {x : Str} {sp sp' : Sp} {dvs : List V} (c : C8.Met P w K mg base k C x sp dvs) (h : ∀ vs H Q E, sp' vs H Q E → sp vs H Q E) : C8.Met P w K mg base k C x sp' dvs := by
  obtain ⟨f, fd, ps, ds, c1, c2, F, h1, h2⟩ := c.ex
  exact ⟨f, fd, ps, ds, c1, c2, F.imp h, h1, h2⟩
theorem int_imp {cs : List String} (W : CW K κ cs) (vs : List V) (H : Hp) (Q : VK) (E : XK) (h : spP κ (isIntF cs) vs H Q E) : spInt K vs H Q E := by
  obtain ⟨S, us, u, e, rs, hf, k⟩ := h
  unfold isIntF at hf
  split at hf
  · split at hf
    · rename_i x hk
      cases hf
      obtain ⟨v, _, rfl, r, rfl⟩ := rs
      have k1 := kit_of1 W hk (T := "int") (.inr (by simp [typs]))
      have k2 := kit_of1 W hk (T := "bool") (.inr (by simp [typs]))
      have n1 : clU κ cs "int" = .type "int" := if_neg (fun z => W.nb "int" (by simpa using z) (by simp [typs]))
      have n2 : clU κ cs "bool" = .type "bool" := if_neg (fun z => W.nb "bool" (by simpa using z) (by simp [typs]))
      rw [n1] at k1
      rw [n2] at k2
      exact ⟨v, _, _, _, rfl, tyX_of W e hk r, k1, k2, k _ S H (stay e) rfl⟩
    · cases hf
  · cases hf
theorem num_imp {cs : List String} (W : CW K κ cs) (vs : List V) (H : Hp) (Q : VK) (E : XK) (h : spP κ (isNumF cs) vs H Q E) : spNum K (κ "Exact") vs H Q E := by
  obtain ⟨S, us, u, e, rs, hf, k⟩ := h
  unfold isNumF at hf
  split at hf
  · split at hf
    · rename_i x hk
      cases hf
      obtain ⟨v, _, rfl, r, rfl⟩ := rs
      have k1 := kit_of1 W hk (T := "int") (.inr (by simp [typs]))
      have k2 := kit_of1 W hk (T := "bool") (.inr (by simp [typs]))
      have k3 := kit_of1 W hk (T := "Exact") (.inl W.ex)
      have n1 : clU κ cs "int" = .type "int" := if_neg (fun z => W.nb "int" (by simpa using z) (by simp [typs]))
      have n2 : clU κ cs "bool" = .type "bool" := if_neg (fun z => W.nb "bool" (by simpa using z) (by simp [typs]))
      have n3 : clU κ cs "Exact" = .ref (κ "Exact") := if_pos (by simpa using W.ex)
      rw [n1] at k1
      rw [n2] at k2
      rw [n3] at k3
      exact ⟨v, _, _, _, _, rfl, tyX_of W e hk r, k1, k2, k3, k _ S H (stay e) rfl⟩
    · cases hf
  · cases hf
theorem part_imp (vs : List V) (H : Hp) (Q : VK) (E : XK) (h : spP κ partF vs H Q E) : spPart (κ "Exact") vs H Q E := by
  obtain ⟨S, us, u, e, rs, hf, k⟩ := h
  unfold partF at hf
  split at hf <;> try cases hf
  · rename_i i
    obtain ⟨v, _, rfl, r, rfl⟩ := rs
    have : v = .int i := r
    subst this
    refine partQ (repI i) fun v H' e' h => ?_
    obtain ⟨S', p, r⟩ := qStep e e' h
    exact k v S' H' p r
  · obtain ⟨v, _, rfl, r, rfl⟩ := rs
    refine partQ (.inr (repQ e r)) fun v H' e' h => ?_
    obtain ⟨S', p, r⟩ := qStep e e' h
    exact k v S' H' p r
theorem plain_imp (vs : List V) (H : Hp) (Q : VK) (E : XK) (h : spP κ plainF vs H Q E) : spPlain (κ "Exact") vs H Q E := by
  obtain ⟨S, us, u, e, rs, hf, k⟩ := h
  unfold plainF at hf
  split at hf <;> try cases hf
  · rename_i i
    obtain ⟨v, _, rfl, r, rfl⟩ := rs
    have : v = .int i := r
    subst this
    refine plainQ (repI i) fun v H' e' h => ?_
    rcases h with ⟨_, rfl⟩ | ⟨n, _⟩
    · rw [Rat.num_intCast]
      exact k _ S H' (stay' e e') rfl
    · exact absurd (by rw [Rat.den_intCast]; rfl) n
  · rename_i q
    obtain ⟨v, _, rfl, r, rfl⟩ := rs
    refine plainQ (.inr (repQ e r)) fun v H' e' h => ?_
    rcases h with ⟨h1, rfl⟩ | ⟨n, h⟩
    · have : q.den = 1 := by exact_mod_cast h1
      rw [if_pos this] at k
      exact k _ S H' (stay' e e') rfl
    · have : ¬ q.den = 1 := fun z => n (by rw [z]; rfl)
      rw [if_neg this] at k
      obtain ⟨S', p, r⟩ := qStep e e' h
      exact k v S' H' p r
theorem by_imp (vs : List V) (H : Hp) (Q : VK) (E : XK) (h : spP κ byF vs H Q E) : spBy (κ "Exact") vs H Q E := by
  obtain ⟨S, us, u, e, rs, hf, k⟩ := h
  unfold byF at hf
  split at hf <;> try cases hf
  · split at hf
    · rename_i h0
      obtain ⟨h1, h2, rfl⟩ := okQ_eq hf
      obtain ⟨v, _, rfl, r, v2, _, rfl, r2, rfl⟩ := rs
      refine byQ (repQ e r) (.inr (repQ e r2)) h1 h2 h0 fun v H' e' h => ?_
      obtain ⟨S', p, r⟩ := qStep e e' h
      exact k v S' H' p r
    · cases hf
  · split at hf
    · rename_i j h0
      obtain ⟨h1, h2, rfl⟩ := okQ_eq hf
      obtain ⟨v, _, rfl, r, v2, _, rfl, r2, rfl⟩ := rs
      have : v2 = .int j := r2
      subst this
      refine byQ (repQ e r) (repI j) h1 h2 (fun z => h0 (by exact_mod_cast z)) fun v H' e' h => ?_
      obtain ⟨S', p, r⟩ := qStep e e' h
      exact k v S' H' p r
    · cases hf
/-- Exact(o, u) -/
theorem simE_mkX {n : Nat} {t : TA} {m : M (List U)} (h : SimA κ ρ n t m) (hn : n = 2) : SimE κ ρ (tMake (κ "Exact") (spInit (κ "Exact")) [] E t) (mN mkF m) := by
  constructor
  intro σ S H F env g u env' e Q k
  obtain ⟨⟨x, e1⟩, h1, e⟩ := bindS e
  obtain ⟨z, h2, e⟩ := bindS e
  cases e
  have hl := h.len h1
  refine h.run g h1 _ fun vs S1 H1 F1 s1 g1 r => ?_
  dsimp only at h2
  unfold mkF at h2
  split at h2
  · split at h2
    · rename_i hz
      cases h2
      obtain ⟨v1, _, rfl, r1, v2, _, rfl, r2, rfl⟩ := r
      have r1 : v1 = .int _ := r1
      subst r1
      have r2 : v2 = .int _ := r2
      subst r2
      refine mkX hz.1 (of_decide_eq_true hz.2) fun v H' e' hx => ?_
      obtain ⟨S', p, r⟩ := qStep g1.wf.sub e' (toQ hz.1 rfl hx)
      exact k v S' H' F1 (s1.trans p.stq) (g1.pure_ p) r
    · cases h2
  · simp at hl
    omega
  · cases h2
theorem divInt1 (o : Int) : Rat.divInt o 1 = (o : Rat) := by
  have := Rat.num_divInt_den (o : Rat)
  rw [Rat.num_intCast, Rat.den_intCast] at this
  exact this
/-- Exact(o) -/
theorem simE_mkX1 {n : Nat} {t : TA} {m : M (List U)} (h : SimA κ ρ n t m) (hn : n = 1) : SimE κ ρ (tMake (κ "Exact") (spInit (κ "Exact")) [.int 1] E t) (mN mkF m) := by
  constructor
  intro σ S H F env g u env' e Q k
  obtain ⟨⟨x, e1⟩, h1, e⟩ := bindS e
  obtain ⟨z, h2, e⟩ := bindS e
  cases e
  have hl := h.len h1
  refine h.run g h1 _ fun vs S1 H1 F1 s1 g1 r => ?_
  dsimp only at h2
  unfold mkF at h2
  split at h2
  · simp at hl
    omega
  · cases h2
    obtain ⟨v1, _, rfl, r1, rfl⟩ := r
    have r1 : v1 = .int _ := r1
    subst r1
    refine mkX (by decide) (by decide) fun v H' e' hx => ?_
    obtain ⟨S', p, r⟩ := qStep g1.wf.sub e' (toQ (by decide) (divInt1 _) hx)
    exact k v S' H' F1 (s1.trans p.stq) (g1.pure_ p) r
  · cases h2
theorem un_negU (B : UX P w K mg base κ) {X : Cx} (hX : Std X P w K mg base) {j : Nat} (hr : Room j X.A) (hj : 5 ≤ j := by decide) : UnR X (unaryOp .USub) (r1 κ negU) := by
  intro pins s σ H x v Q I rx h
  obtain ⟨S, a, c, e, ra, hf, k⟩ := h
  cases a <;> try cases hf
  · rename_i i
    have : x = .int i := ra
    subst this
    exact un_neg pins s σ H _ v Q I rx ⟨i, rfl, k _ S H (stay e) rfl⟩
  · rename_i q
    dsimp only [negU] at hf
    split at hf
    · rename_i hz
      cases hf
      obtain ⟨l, dx, rfl, hl⟩ := id ra
      refine un_own (B.neg X hX) (hr.mono hj) pins s σ H _ v Q I rx ⟨l, dx, _, rfl, e _ _ hl, negQ (repQ e ra) (smQ_ht hz) fun v H' e' h => ?_⟩
      obtain ⟨S', p, r⟩ := qStep e e' h
      exact k v S' H' p r
    · cases hf
/-- ints alone -/
theorem un_negI {X : Cx} : UnR X (unaryOp .USub) (r1 κ fun u => (isI u).bind fun i => some (.int (-i))) := by
  intro pins s σ H x v Q I rx h
  obtain ⟨S, a, c, e, ra, hf, k⟩ := h
  obtain ⟨i, h1, hf⟩ := bindS hf
  cases hf
  have := isI_eq h1
  subst this
  have : x = .int i := ra
  subst this
  exact un_neg pins s σ H _ v Q I rx ⟨i, rfl, k _ S H (stay e) rfl⟩
theorem sl_U {X : Cx} : SlR X (rSl κ slU) := by
  intro pins s σ H x v vl vu lo hi sl Q I rx hs pl pu h
  obtain ⟨S, a, u, e, ra, hf, k⟩ := h
  cases a <;> try cases hf
  · obtain ⟨l, vs, rfl, hl, r⟩ := ra
    refine sl_list pins s σ H _ v vl vu lo hi sl Q I rx hs pl pu ⟨l, vs, rfl, SqL.of (e _ _ hl), fun p hp => ?_⟩
    have st : StpP κ S H (upd S p (.lst (cutV vs lo hi))) (upd H p (.lst (cutV vs lo hi))) := StpP.new1 e hp
    exact k _ _ _ st ⟨p, _, rfl, upd_same, Reps.mono st.sub _ (cut_reps r lo hi)⟩
  · obtain ⟨l, vs, rfl, hl, r⟩ := ra
    refine sl_tupA pins s σ H _ v vl vu lo hi sl Q I rx hs pl pu ⟨l, vs, rfl, SqT.of (e _ _ hl), fun hw => ?_, fun _ p hp => ?_⟩
    · have : cutV vs lo hi = vs := by
        unfold cutV
        rw [hw.1, hw.2]
        simp
      exact k _ S H (stay e) ⟨l, vs, rfl, hl, by rw [← this]; exact cut_reps r lo hi⟩
    · have st : StpP κ S H (upd S p (.tup (cutV vs lo hi))) (upd H p (.tup (cutV vs lo hi))) := StpP.new1 e hp
      exact k _ _ _ st ⟨p, _, rfl, upd_same, Reps.mono st.sub _ (cut_reps r lo hi)⟩
theorem ip_addU {X : Cx} : PIp X .Add (r2 κ addI) := by
  have h := ip_add (X := X)
  intro pins s σ H x y v u Q I rx ry q
  obtain ⟨S, a, b, c, e, ra, rb, hf, k⟩ := q
  obtain ⟨i, h1, hf⟩ := bindS hf
  obtain ⟨j, h2, hf⟩ := bindS hf
  cases hf
  have := isI_eq h1
  subst this
  have := isI_eq h2
  subst this
  have : x = .int i := ra
  subst this
  have : y = .int j := rb
  subst this
  exact h pins s σ H _ _ v u Q I rx ry ⟨i, j, rfl, rfl, k _ S H (stay e) rfl⟩
end
end LW
set_option Elab.async false
set_option linter.all false
set_option maxRecDepth 100000
set_option maxHeartbeats 4000000
namespace LW
open PySem PySem.Spec PyProof.Rows L2 LV LM UL
/-- names of built-ins that the text leaves as they are -/
abbrev bltN : List Str := ["len", "int", "enumerate", "isinstance", "zip", "all", "range", "list", "tuple", "bool", "any", "sorted", "dict", "str", "reversed", "repr", "iter"]
/-- what a def's walk leans on -/
structure En (P : Program) (w : World) (K : PySem.W.Frag) (mg : Str → Option Value) (base : Heap) (κ : String → Addr) (cs : List String) : Prop where
  B : UX P w K mg base κ
  W : CW K κ cs
  free : ∀ x ∈ bltN, mg x = none
  gx : mg "Exact" = some (.ref (κ "Exact"))
section
variable {P : Program} {w : World} {K : PySem.W.Frag} {mg : Str → Option Value} {base : Heap} {κ : String → Addr} {ρ : Bool} {E : XK} {fx : Nat → Bool}
theorem mt_insertR {X : Cx} : MtR X "list.insert" rInsert := mt_insert
theorem call_lenS {X : Cx} : CallR X (.builtin "len") (Evl.rLenS X.K) := call_len_seq
theorem call_listS {X : Cx} : CallR X (.type "list") (Evl.rListS X.K) := call_list_of
/-- xs != [], xs owned -/
theorem simE_neNilV {i : Nat} : SimE κ ρ (tOp rNeNil (tVar i) (tLst tNil)) (mNeNilV i) := by
  constructor
  intro σ S H F env g u env' e Q k
  unfold mNeNilV at e
  split at e
  · rename_i ws hw
    cases e
    obtain ⟨v, hv, loc⟩ := loc_root g hw
    obtain ⟨a, vs, F', rfl, ha, rs, _, up⟩ := loc.upd g
    refine ⟨_, hv, by show 0 ≤ sizeLine; decide, fun p hp => ?_⟩
    have st : StpP κ S H S (upd H p (.lst [])) := stay' g.wf.sub (Same.new hp)
    refine ⟨a, p, vs, rfl, rfl, st.keep _ _ ha, upd_same, ?_⟩
    have : decide (vs = []) = ws.isEmpty := by
      have := rs.len
      cases ws <;> cases vs <;> simp at this <;> rfl
    rw [this]
    exact k _ S _ F st.stq (g.pure_ st) rfl
  · cases e
/-! in -/
theorem flat_rep {S : Hp} {u : U} {v : V} (r : Rep κ S u v) (h : flatU u = true) : flatV v = true := by
  cases u <;> try cases h
  all_goals
    have r : v = _ := r
    rw [r]
    rfl
theorem eqFl_rep {S : Hp} {a b : U} {x y : V} (ra : Rep κ S a x) (rb : Rep κ S b y) (ha : flatU a = true) (hb : flatU b = true) : eqV x y = eqFl a b := by
  cases a <;> try cases ha
  all_goals
    cases b <;> try cases hb
    all_goals
      have ra : x = _ := ra
      have rb : y = _ := rb
      rw [ra, rb]
      rfl
theorem any_rep {S : Hp} {x : U} {v : V} (rx : Rep κ S x v) (hx : flatU x = true) : ∀ {us : List U} {vs : List V}, Reps κ S us vs → us.all flatU = true → inV v vs = us.any (fun u => eqFl u x) ∧ vs.all flatV = true
  | [], vs, r, _ => by
    have : vs = [] := r
    subst this
    exact ⟨rfl, rfl⟩
  | u :: us, vs, r, h => by
    obtain ⟨y, ys, rfl, r1, r2⟩ := r
    rw [List.all_cons, Bool.and_eq_true] at h
    obtain ⟨i1, i2⟩ := any_rep rx hx r2 h.2
    refine ⟨?_, by rw [List.all_cons, flat_rep r1 h.1, i2]; rfl⟩
    show (eqV y v || inV v ys) = _
    rw [i1, eqFl_rep r1 rx h.1 hx]
    rfl
theorem seqU_eq {y : U} {us : List U} (h : seqU y = some us) : y = .lst us ∨ y = .tup us := by
  cases y <;> first
    | (cases h; exact .inl rfl)
    | (cases h; exact .inr rfl)
    | cases h
theorem seq_rep {S H : Hp} (e : Same S H) {y : U} {us : List U} {v : V} (h : seqU y = some us) (r : Rep κ S y v) : ∃ p xs, v = .ref p ∧ (SqL K H p xs ∨ SqT K H p xs) ∧ Reps κ S us xs := by
  rcases seqU_eq h with rfl | rfl
  · obtain ⟨p, xs, rfl, hp, rs⟩ := r
    exact ⟨p, xs, rfl, .inl (SqL.of (e _ _ hp)), rs⟩
  · obtain ⟨p, xs, rfl, hp, rs⟩ := r
    exact ⟨p, xs, rfl, .inr (SqT.of (e _ _ hp)), rs⟩
theorem op_inU {X : Cx} : OpR X (compareOp .In) (r2 κ inU) := by
  intro pins s σ H x y v u Q I rx ry h
  obtain ⟨S, a, b, c, e, ra, rb, hf, k⟩ := h
  obtain ⟨us, h1, hf⟩ := bindS hf
  split at hf
  · rename_i hz
    rw [Bool.and_eq_true] at hz
    cases hf
    obtain ⟨p, xs, rfl, hp, rs⟩ := seq_rep (K := X.K) e h1 rb
    obtain ⟨i1, i2⟩ := any_rep ra hz.1 rs hz.2
    refine op_in_seq pins s σ H x _ v u Q I rx ry ⟨p, xs, rfl, hp, flat_rep ra hz.1, i2, ?_⟩
    rw [i1]
    exact k _ S H (stay e) rfl
  · cases hf
theorem op_notInU {X : Cx} : OpR X (compareOp .NotIn) (r2 κ notInU) := by
  intro pins s σ H x y v u Q I rx ry h
  obtain ⟨S, a, b, c, e, ra, rb, hf, k⟩ := h
  obtain ⟨us, h1, hf⟩ := bindS hf
  split at hf
  · rename_i hz
    rw [Bool.and_eq_true] at hz
    cases hf
    obtain ⟨p, xs, rfl, hp, rs⟩ := seq_rep (K := X.K) e h1 rb
    obtain ⟨i1, i2⟩ := any_rep ra hz.1 rs hz.2
    refine op_notIn_seq pins s σ H x _ v u Q I rx ry ⟨p, xs, rfl, hp, flat_rep ra hz.1, i2, ?_⟩
    rw [i1]
    exact k _ S H (stay e) rfl
  · cases hf
/-! enumerate of a list or a tuple -/
theorem itOk_enumT {a : Addr} {S A : Hp} {us : List U} {vs : List V} (h : A a = some (.tup vs)) (r : Reps κ S us vs) : ItOk κ (IteT K a) S A (enumU us) := by
  have wk := walk_enumT (K := K) (a := a) (xs := vs)
  have hl := enumU_len us
  refine ⟨fun i H hi q => wk.goes i H (by rw [← r.len, ← hl]; exact hi) (SqT.of (q _ _ h)), fun H q => by rw [hl, r.len]; exact wk.stops H (SqT.of (q _ _ h)), fun i H x H' S1 u hu e0 e1 e2 y => ?_⟩
  have hi : i < vs.length := by
    rw [← r.len, ← hl]
    exact (List.getElem?_eq_some_iff.mp hu).1
  obtain ⟨T, p, z, rfl, hT, rfl, h1, h2⟩ := wk.yields i H x H' hi (SqT.of (e0 _ _ h)) y
  obtain ⟨w, hw, rfl⟩ := enumU_get hu
  obtain ⟨v, hv, rv⟩ := r.get hw
  have h2 : vs[i]? = some z := h2
  rw [h2] at hv
  cases hv
  cases h1
  exact pair_rep e2 hT rfl (Rep.mono e1 w rv)
theorem simI_enumS {n : Nat} {t : TA} {m : M (List U)} (h : SimA κ ρ n t m) : SimI κ ρ (iOr (iEnum K t) (iEnumT K t)) (mEnumS m) := by
  constructor
  intro σ S H F env gd items env' e R k
  obtain ⟨⟨x, e1⟩, h1, e⟩ := bindS e
  obtain ⟨us, h2, e⟩ := bindS e
  cases e
  obtain ⟨u, hx, hu⟩ := seq1_eq h2
  dsimp only at hx
  subst hx
  rcases hu with rfl | rfl
  · refine .inl (h.run gd h1 _ fun vs S1 H1 F1 s1 g1 r => ?_)
    obtain ⟨v, _, rfl, ⟨a, ws, rfl, ha, rs⟩, rfl⟩ := r
    exact ⟨a, ws, rfl, SqL.of (g1.wf.sub _ _ ha), k _ S1 H1 F1 s1 g1 (itOk_enum ha rs)⟩
  · refine .inr (h.run gd h1 _ fun vs S1 H1 F1 s1 g1 r => ?_)
    obtain ⟨v, _, rfl, ⟨a, ws, rfl, ha, rs⟩, rfl⟩ := r
    exact ⟨a, ws, rfl, SqT.of (g1.wf.sub _ _ ha), k _ S1 H1 F1 s1 g1 (itOk_enumT ha rs)⟩
theorem pi_enumS {X : Cx} {e : Expr} {ta : TA} {p pos tpos : Pos} {elts : List Expr} {kk : Nat} (hg : Gl X "enumerate") (hm : X.mg "enumerate" = none) (ha : PA X [e] ta) (hs : starEach [e] X.env = [(false, eval e X.env)] := by rfl) :
    PI X (.Tuple elts kk tpos) (.Call (.Name "enumerate" p) [e] [] pos) (iOr (iEnum X.K ta) (iEnumT X.K ta)) := pi_or (pi_enum hg hm ha hs) (pi_enumT hg hm ha hs)
end
end LW
set_option Elab.async false
set_option linter.all false
set_option maxRecDepth 100000
set_option maxHeartbeats 4000000
namespace LW
open PySem PySem.Spec PyProof.Rows L2 LV LM UL
section
variable {P : Program} {w : World} {K : PySem.W.Frag} {mg : Str → Option Value} {base : Heap} {κ : String → Addr} {ρ : Bool} {E : XK} {cs : List String}
theorem cl_blt (W : CW K κ cs) {T : String} (h : T ∈ typs) : V.ty T = clV κ cs T := (if_neg fun z => W.nb T (by simpa using z) h).symm
theorem cl_own {c : String} (h : c ∈ cs) : V.ref (κ c) = clV κ cs c := (if_pos (by simpa using h)).symm
theorem isO_rep {c : String} {S : Hp} {u : U} {v : V} (h : isO c u = true) (r : Rep κ S u v) : ∃ a dx fs, v = .ref a ∧ S a = some (.ins (κ c) dx fs) := by
  cases u <;> try cases h
  rename_i c' ns us
  have : c' = c := by simpa [isO] using h
  subst this
  obtain ⟨a, dx, vs, rfl, ha, _⟩ := r
  exact ⟨a, dx, _, rfl, ha⟩
theorem notF_own (W : CW K κ cs) {c : String} (hc : c ∈ cs) {H : Hp} {a dx : Addr} {fs : List (Str × V)} (h : H a = some (.ins (κ c) dx fs)) : NotF K (κ c) H (.ref a) := by
  have o := W.oc c hc
  exact ⟨.ref (κ c), .base (.ins h o.cl o.ha W.hn W.htk o.hm), by simp [PySem.W.notFirst]⟩
theorem op_eqO {c : String} {f : List U → Option U} {k : Nat} {X : Cx} (W : CW X.K κ cs) (hc : c ∈ cs) (M : OwnM X k (κ c) "__eq__" (spP κ f)) (hr : Room k X.A) : OpR X (compareOp .Eq) (r2 κ (eqOb c f)) := by
  intro pins s σ H x y v u Q I rx ry h
  obtain ⟨S, a, b, z, e, ra, rb, hf, k'⟩ := h
  unfold eqOb at hf
  split at hf
  · rename_i hz
    rw [Bool.and_eq_true] at hz
    obtain ⟨p, dx, fs, rfl, hp⟩ := isO_rep hz.1 ra
    obtain ⟨p', dx', fs', rfl, hp'⟩ := isO_rep hz.2 rb
    exact op_eqL M hr pins s σ H _ _ v u Q I rx ry ⟨p, dx, fs, rfl, e _ _ hp, notF_own W hc (e _ _ hp'), S, [a, b], z, e, ⟨_, _, rfl, ra, _, _, rfl, rb, rfl⟩, hf, k'⟩
  · cases hf
theorem op_neO {c : String} {f : List U → Option U} {k : Nat} {X : Cx} (W : CW X.K κ cs) (hc : c ∈ cs) (M : OwnM X k (κ c) "__eq__" (spP κ f)) (hr : Room (k + 1) X.A) (hn : PySem.W.findIn X.K (.ref (κ c)) "__ne__" = some (some (.builtin "object.__ne__"))) : OpR X (compareOp .NotEq) (r2 κ (neOb c f)) := by
  intro pins s σ H x y v u Q I rx ry h
  obtain ⟨S, a, b, z, e, ra, rb, hf, k'⟩ := h
  unfold neOb at hf
  split at hf
  · rename_i hz
    rw [Bool.and_eq_true] at hz
    obtain ⟨r, h1, hf⟩ := bindS hf
    obtain ⟨t, h2, hf⟩ := bindS hf
    cases hf
    obtain ⟨p, dx, fs, rfl, hp⟩ := isO_rep hz.1 ra
    obtain ⟨p', dx', fs', rfl, hp'⟩ := isO_rep hz.2 rb
    refine op_neL M hn (W.oc c hc).hm hr pins s σ H _ _ v u Q I rx ry ⟨p, dx, fs, rfl, e _ _ hp, notF_own W hc (e _ _ hp'), S, [a, b], r, e, ⟨_, _, rfl, ra, _, _, rfl, rb, rfl⟩, h1, fun v' S' H' pp r' => ⟨t, isB_rep h2 r', k' _ S' H' pp rfl⟩⟩
  · cases hf
theorem op_isBU {X : Cx} : OpR X (compareOp .Is) (r2 κ isBU) := by
  intro pins s σ H x y v u Q I rx ry h
  obtain ⟨S, a, b, z, e, ra, rb, hf, k⟩ := h
  obtain ⟨p, h1, hf⟩ := bindS hf
  obtain ⟨q, h2, hf⟩ := bindS hf
  cases hf
  exact op_isBl pins s σ H x y v u Q I rx ry ⟨p, q, isB_rep h1 ra, isB_rep h2 rb, k _ S H (stay e) rfl⟩
theorem op_notBU {X : Cx} : OpR X (compareOp .IsNot) (r2 κ notBU) := by
  intro pins s σ H x y v u Q I rx ry h
  obtain ⟨S, a, b, z, e, ra, rb, hf, k⟩ := h
  obtain ⟨p, h1, hf⟩ := bindS hf
  obtain ⟨q, h2, hf⟩ := bindS hf
  cases hf
  exact op_notBl pins s σ H x y v u Q I rx ry ⟨p, q, isB_rep h1 ra, isB_rep h2 rb, k _ S H (stay e) rfl⟩
end
end LW
set_option Elab.async false
set_option linter.all false
set_option maxRecDepth 100000
set_option maxHeartbeats 4000000
namespace LW
open PySem PySem.Spec PyProof.Rows L2 LV LM UL
/-! rules that name the written part, told by its own name (in a comprehension the context is a bound one) -/
section
variable {X : Cx} {K : PySem.W.Frag}
theorem pe_fldK {e : Expr} {f : Str} {pos : Pos} {ta : TE} (h : X.K = K) (he : PE X e ta) (hb : attributeBase e f X.env (eval e X.env) = eval e X.env) : PE X (.Attribute e f pos) (tFld K ta f) := by
  subst h
  exact pe_fld he hb
theorem ix_listK (h : X.K = K) : IxR X (rIxL K) := by
  subst h
  exact ix_list
theorem call_isiK1 (h : X.K = K) : CallR X (.builtin "isinstance") (rIsi K) := by
  subst h
  exact call_isi
theorem call_isiTK (h : X.K = K) : CallR X (.builtin "isinstance") (rIsiT K) := by
  subst h
  exact call_isiT
theorem call_lenSK (h : X.K = K) : CallR X (.builtin "len") (Evl.rLenS K) := by
  subst h
  exact call_lenS
theorem call_listSK (h : X.K = K) : CallR X (.type "list") (Evl.rListS K) := by
  subst h
  exact call_listS
theorem pi_listK {tg l : Expr} {tl : TE} (h : X.K = K) (hl : PE X l tl) : PI X tg l (iList K tl) := by
  subst h
  exact pi_list hl
theorem pi_seqK {tg l : Expr} {tl : TE} (h : X.K = K) (hl : PE X l tl) : PI X tg l (iOr (iList K tl) (iTup K tl)) := by
  subst h
  exact pi_seq hl
theorem pi_enumSK {e : Expr} {ta : TA} {p pos tpos : Pos} {elts : List Expr} {kk : Nat} (h : X.K = K) (hg : Gl X "enumerate") (hm : X.mg "enumerate" = none) (ha : PA X [e] ta) (hs : starEach [e] X.env = [(false, eval e X.env)] := by rfl) :
    PI X (.Tuple elts kk tpos) (.Call (.Name "enumerate" p) [e] [] pos) (iOr (iEnum K ta) (iEnumT K ta)) := by
  subst h
  exact pi_enumS hg hm ha hs
theorem pi_zipK {e e2 : Expr} {ta : TA} {p pos tpos : Pos} {elts : List Expr} {kk : Nat} (h : X.K = K) (hg : Gl X "zip") (hm : X.mg "zip" = none) (ha : PA X [e, e2] ta)
    (hs : starEach [e, e2] X.env = (false, eval e X.env) :: starEach [e2] X.env := by rfl) (hpl : (backTo pos (starEach [e2] X.env)).any (·.1) = false := by rfl) :
    PI X (.Tuple elts kk tpos) (.Call (.Name "zip" p) [e, e2] [] pos) (iZip K ta) := by
  subst h
  exact pi_zip hg hm ha hs hpl
end
end LW
set_option Elab.async false
set_option linter.all false
set_option maxRecDepth 100000
set_option maxHeartbeats 4000000
namespace LW
open PySem PySem.Spec PyProof.Rows L2 LV LM UL
/-! the law's own def: its first statement makes the draw state of the script -/
section
variable {P : Program} {w : World} {K : PySem.W.Frag} {mg : Str → Option Value} {base : Heap} {κ : String → Addr} {cs : List String}
def spFr (K : PySem.W.Frag) : Sp := fun vs H Q _ => ∃ (a : Addr) (ns : List Int), vs = [.ref a] ∧ SqL K H a (ns.map V.int) ∧ ns.length ≤ 63 ∧
  ∀ p c H', H c = none → H p = none → p ≠ c → Same H H' → H' c = some (.lst (ns.map V.int)) → H' p = some (.lst [.ref c, .int 0, .int 0, .bl false]) → (∀ b, b ≠ p → b ≠ c → H' b = H b) → Q (.ref p) H'
abbrev s__law_fresh : Stmt := top 26
abbrev N__law_fresh : List Str := ["_law_script"]
theorem sc__law_fresh : FnScope N__law_fresh ["_law_script"] (defScope s__law_fresh) := ⟨rfl, rfl, rfl, by decide +kernel, rfl, by decide +kernel, by decide +kernel⟩
-- slots: 0 _law_script
theorem ok__law_fresh {f : Addr} {fd : FuncData} (F : FunD K "_law_fresh" "_law_fresh" (defArgs s__law_fresh) (defBody s__law_fresh) (defScope s__law_fresh) [] [] f fd) : FnOk P w K mg base CX0 1 f fd ["_law_script"] (spFr K) := by
  refine F.ok sc__law_fresh (fun vs H Q E h => ?_) (fun cdv A outer s H vs Q E hr h => ?_)
  · obtain ⟨a, ns, rfl, hS, hl, k⟩ := h
    rfl
  · obtain ⟨a, ns, rfl, hS, hl, k⟩ := h
    refine ⟨_, PSs.nox (pss_one (ps_ret (pe_lst (pa_cons (pe_slice sl_list (pv 0) po_none (po_some pe_int)) (pa_cons pe_int (pa_cons pe_int (pa_cons pe_bl pa_nil))))))), ?_⟩
    refine ⟨_, rfl, _, rfl, a, _, rfl, hS, fun c n1 => ?_⟩
    generalize q1 : upd H c _ = H1
    have h1 := nAt q1
    have e1 := nSm q1 n1
    refine ⟨by show 4 ≤ sizeLine; decide, fun p n2 => ?_⟩
    generalize q2 : upd H1 p _ = H2
    have h2 := nAt q2
    have e2 := nSm q2 n2
    have e : cutV (ns.map V.int) none (some 63) = ns.map V.int := by
      have hz : (ns.map V.int).length ≤ 63 := by rw [List.length_map]; exact hl
      unfold cutV
      rw [HT.sIx_none, show (some (63 : Int)) = some ((63 : Nat) : Int) from rfl, HT.sIx_nat, List.drop_zero, List.take_of_length_le]
      omega
    rw [e] at h1
    refine k p c H2 n1 (none_of_same e1 n2) (fun z => ?_) (e1.trans e2) (e2 _ _ h1) h2 fun b hp hc => ?_
    · subst z
      rw [h1] at n2
      cases n2
    · rw [← q2, upd_ne hp, ← q1, upd_ne hc]
/-- the draw state of a script -/
def st0 (ns : List Int) : Ow := .l [.p (.lst (ns.map .int)), .p (.int 0), .p (.int 0), .p (.bl false)]
def spLw (K : PySem.W.Frag) (nl i : Nat) (b : MS) : Sp := fun vs H Q _ => ∃ (a : Addr) (ns : List Int) (e : UL.Env), vs = [.ref a] ∧ SqL K H a (ns.map V.int) ∧ ns.length ≤ 63 ∧ b ((none :: List.replicate nl none).set i (some (st0 ns))) = some (.rt (.p (.bl true)) e) ∧ ∀ H', Q (.bl true) H'
theorem reps_ints {S : Hp} : ∀ ns : List Int, Reps κ S (ns.map .int) (ns.map V.int)
  | [] => rfl
  | n :: ns => ⟨_, _, rfl, rfl, reps_ints ns⟩
theorem sim_law {t2 : TS} {b : MS} {nl i : Nat} {N : List Str} {vs : List V} {H : Hp} {Q : VK} {E : XK} (h : SimS κ fx0 t2 b) (hs : spLw K nl i b vs H Q E) (hN : N.length = nl + 1) :
    tSeq (tAsg (tCall (spFr K) [] C8.E0 (tCons (tVar 0) tNil)) (gName i)) t2 { nx := fun _ H' => Q .non H', rt := Q } (L2.start N vs) H := by
  obtain ⟨a, ns, e, rfl, hS, hl, hb, k⟩ := hs
  refine ⟨_, rfl, a, ns, by rw [List.append_nil], hS, hl, fun p c H1 hc hp ne e1 h1 h2 h3 => ?_⟩
  -- the region: the cells alone
  let S : Hp := fun x => if x = c then some (.lst (ns.map V.int)) else none
  have hSc : S c = some (.lst (ns.map V.int)) := if_pos rfl
  have sub : Same S H1 := fun x o hx => by
    by_cases z : x = c
    · subst z
      rw [hSc] at hx
      cases hx
      exact h1
    · have : S x = none := if_neg z
      rw [this] at hx
      cases hx
  have rp : RepO κ S H1 (st0 ns) (.ref p) [p] := ⟨p, _, [], rfl, h2, rfl, RepOs.pure_ (us := [.lst (ns.map .int), .int 0, .int 0, .bl false]) ⟨_, _, rfl, ⟨c, _, rfl, hSc, reps_ints ns⟩, _, _, rfl, rfl, _, _, rfl, rfl, _, _, rfl, rfl, rfl⟩⟩
  have wf : WF S H1 ([] ++ [p]) := ⟨sub, by simp, fun x hx => by
    have : x = p := by simpa using hx
    subst this
    exact if_neg ne⟩
  have g0 : Gd κ (L2.start N [.ref a]) S H1 [] (none :: List.replicate nl none) := by
    refine ⟨⟨sub, by simp, fun x hx => by simp at hx⟩, ?_⟩
    unfold L2.start
    rw [show N.length - [V.ref a].length = nl by simp [hN]]
    exact ⟨[], [], rfl, rfl, envOk_nones nl⟩
  obtain ⟨F', g1, _⟩ := g0.put2 wf rp i
  exact h.run g1 hb _ fun v σ' S' H' F2 Fw s' g' wf' r _ => by
    have := r.2
    have hv : v = .bl true := this
    rw [hv]
    exact k H'
end
/-! what the head looks at -/
abbrev kap (K : PySem.W.Frag) : String → Addr := fun c => He.ga K (Str.ofString c)
def exU (K : PySem.W.Frag) (cs : List String) : Bool :=
  (cs.all fun c => (decide (PySem.W.findIn K (.ref (kap K c)) "__class__" = some (some (.builtin "object.__class__"))) && decide (PySem.W.mroIn K (kap K c) (.type "object") = some true)) &&
    (typs.all fun t => decide (PySem.W.kitOne K (.type t) (.ref (kap K c)) = some false) && decide (PySem.W.kitOne K (.ref (kap K c)) (.type t) = some false))) &&
  (cs.all fun c => cs.all fun c' => decide (PySem.W.kitOne K (.ref (kap K c)) (.ref (kap K c')) = some (decide (c = c')))) &&
  (decide (PySem.W.specialIn K (.builtin "object.__class__") "__get__" = some (some (.builtin "getset_descriptor.__get__"))) && decide (PySem.W.takesIn K (.builtin "object.__class__") = some true)) &&
  (cs.all fun c => decide (PySem.W.findIn K (.ref (kap K c)) "__ne__" = some (some (.builtin "object.__ne__")))) &&
  (cs.all fun c => decide (c = "Exact") || decide (kap K c ≠ kap K "Exact")) &&
  (PySem.W.selfFirst K (kap K "Exact") && (typs.all fun t => decide (PySem.W.subIn K (.type t) (.ref (kap K "Exact")) = some false) && decide (PySem.W.subIn K (.ref (kap K "Exact")) (.type t) = some false)))
section
variable {K : PySem.W.Frag} {mg : Str → Option Value} {cs : List String}
theorem exU_cw (h : exU K cs = true) (hc : ∀ c ∈ cs, Cls K (kap K c)) (ex : "Exact" ∈ cs) (nb : ∀ c ∈ cs, c ∉ typs) : CW K (kap K) cs := by
  unfold exU at h
  simp only [Bool.and_eq_true] at h
  obtain ⟨⟨⟨⟨⟨h1, h2⟩, h3⟩, h4⟩, h5⟩, h6⟩ := h
  rw [List.all_eq_true] at h1 h2
  refine ⟨fun c hcs => ?_, fun c hcs c' hcs' => ?_, ex, nb, of_decide_eq_true h3.1, of_decide_eq_true h3.2⟩
  · have q := h1 c hcs
    simp only [Bool.and_eq_true, decide_eq_true_eq] at q
    refine ⟨hc c hcs, q.1.1, q.1.2, fun t ht => ?_⟩
    have z := List.all_eq_true.mp q.2 t ht
    simp only [Bool.and_eq_true, decide_eq_true_eq] at z
    exact z
  · exact of_decide_eq_true (List.all_eq_true.mp (h2 c hcs) c' hcs')
theorem exU_ne (h : exU K cs = true) {c : String} (hc : c ∈ cs) : PySem.W.findIn K (.ref (kap K c)) "__ne__" = some (some (.builtin "object.__ne__")) := by
  unfold exU at h
  simp only [Bool.and_eq_true] at h
  obtain ⟨⟨⟨⟨⟨h1, h2⟩, h3⟩, h4⟩, h5⟩, h6⟩ := h
  exact of_decide_eq_true (List.all_eq_true.mp h4 c hc)
theorem exU_x (h : exU K cs = true) {c : String} (hc : c ∈ cs) (hx : c ≠ "Exact") : kap K c ≠ kap K "Exact" := by
  unfold exU at h
  simp only [Bool.and_eq_true] at h
  obtain ⟨⟨⟨⟨⟨h1, h2⟩, h3⟩, h4⟩, h5⟩, h6⟩ := h
  have q := List.all_eq_true.mp h5 c hc
  rw [Bool.or_eq_true, decide_eq_true_eq, decide_eq_true_eq] at q
  exact q.resolve_left hx
theorem exU_xe (h : exU K cs = true) (ex : "Exact" ∈ cs) (fr : ∀ x ∈ bltN, mg x = none) (cl : Cls K (kap K "Exact")) (nO : NoAttr K (kap K "Exact") "over") (nU : NoAttr K (kap K "Exact") "under") (g : mg "Exact" = some (.ref (kap K "Exact")))
    (r1 : ∃ g, PySem.W.findIn K (.ref (kap K "Exact")) "__radd__" = some (some (.ref g))) (r2 : ∃ g, PySem.W.findIn K (.ref (kap K "Exact")) "__rsub__" = some (some (.ref g))) (r3 : ∃ g, PySem.W.findIn K (.ref (kap K "Exact")) "__rmul__" = some (some (.ref g))) : XE K mg (kap K "Exact") := by
  have ne := exU_ne h ex
  unfold exU at h
  simp only [Bool.and_eq_true] at h
  obtain ⟨⟨⟨⟨⟨h1, h2⟩, h3⟩, h4⟩, h5⟩, h6⟩ := h
  have q := List.all_eq_true.mp h1 "Exact" ex
  simp only [Bool.and_eq_true, decide_eq_true_eq] at q
  have kt : ∀ t ∈ typs, PySem.W.kitOne K (.type t) (.ref (kap K "Exact")) = some false ∧ PySem.W.kitOne K (.ref (kap K "Exact")) (.type t) = some false := fun t ht => by
    have z := List.all_eq_true.mp q.2 t ht
    simp only [Bool.and_eq_true, decide_eq_true_eq] at z
    exact z
  have st : ∀ t ∈ typs, PySem.W.subIn K (.type t) (.ref (kap K "Exact")) = some false ∧ PySem.W.subIn K (.ref (kap K "Exact")) (.type t) = some false := fun t ht => by
    have z := List.all_eq_true.mp h6.2 t ht
    simp only [Bool.and_eq_true, decide_eq_true_eq] at z
    exact z
  have f := fun (x : Str) (hx : x ∈ bltN) => fr x hx
  refine ⟨⟨⟨f _ (by simp [bltN]), f _ (by simp [bltN]), f _ (by simp [bltN]), f _ (by simp [bltN]), f _ (by simp [bltN]), f _ (by simp [bltN]), f _ (by simp [bltN]), f _ (by simp [bltN]), f _ (by simp [bltN]), f _ (by simp [bltN])⟩, cl, nO, nU, ⟨h6.1, (st "int" (by simp [typs])).1, (st "int" (by simp [typs])).2⟩, g, q.1.1, of_decide_eq_true h3.1, of_decide_eq_true h3.2, q.1.2, (kt "int" (by simp [typs])).2, (kt "bool" (by simp [typs])).2, (kt "list" (by simp [typs])).2, (kt "tuple" (by simp [typs])).2, (kt "int" (by simp [typs])).1, (kt "list" (by simp [typs])).1, (kt "tuple" (by simp [typs])).1, r1, r2, r3⟩, fun t ht => ⟨(kt t ht).1, st t ht⟩, ne⟩
end
end LW
set_option Elab.async false
set_option linter.all false
set_option maxRecDepth 100000
set_option maxHeartbeats 4000000
namespace UM
open PySem L2 UL
def b_is_list (cs : List String) : MS :=
  (sRet (mP (m1 (isiA cs ["list", "tuple"]) (mVar 0))))
def m_is_list (cs : List String) : List U → Option U := fnP 1 0 (b_is_list cs)
def b_slope (cs : List String) : MS :=
  (sRet (mP (mMeth "Exact" "by" byF (m2 subU (m2 ixU (mVar 1) (mC (.int 1))) (m2 ixU (mVar 0) (mC (.int 1)))) (mCons (m2 subU (m2 ixU (mVar 1) (mC (.int 0))) (m2 ixU (mVar 0) (mC (.int 0)))) mNil))))
def m_slope (cs : List String) : List U → Option U := fnP 2 0 (b_slope cs)
def b_height_at (cs : List String) : MS :=
  (sSeq (sSet 2 (mP (mC (.int 1))))
    (sSeq (whileO (mTest (m2 ltU (m2 ixU (m2 ixU (mVar 0) (mVar 2)) (mC (.int 0))) (mVar 1))) (sAug 2 addI (mC (.int 1))) fuel)
    (sSeq (sPar 3 4 (mCons (m2 ixU (mVar 0) (m2 subU (mVar 2) (mC (.int 1)))) (mCons (m2 ixU (mVar 0) (mVar 2)) mNil)))
    (sRet (mP (m2 addU (m2 ixU (mVar 3) (mC (.int 1))) (m2 mulU (mN (m_slope cs) (mCons (mVar 3) (mCons (mVar 4) mNil))) (m2 subU (mVar 1) (m2 ixU (mVar 3) (mC (.int 0)))))))))))
def m_height_at (cs : List String) : List U → Option U := fnP 2 3 (b_height_at cs)
def b_checked_points (cs : List String) : MS :=
  (sSeq (sIf (mOr (mNot (mTest (mN (m_is_list cs) (mCons (mVar 0) mNil)))) (mTest (m2 (eqU 0) (mN lenU (mCons (mVar 0) mNil)) (mC (.int 0))))) sNever sNext)
    (sSeq (sSet 1 (mLstO mNil))
    (sSeq (sFor (mEnumS (mCons (mVar 0) mNil)) (gT 2 (gsCons (gN 2) (gsCons (gN 3) gsNil))) (sSeq (sIf (mOr (mNot (mTest (mN (m_is_list cs) (mCons (mVar 3) mNil)))) (mOr (mTest (m2 neU (mN lenU (mCons (mVar 3) mNil)) (mC (.int 2)))) (mNot (mTest (mN allU (mCons (mLc [4] (mSeq (mVar 3)) (gN 4) mYes (mN (isNumF cs) (mCons (mVar 4) mNil))) mNil)))))) sNever sNext)
    (sSeq (sIf (mAnd (mTest (mNeNilV 1)) (mNot (mTest (m2 ltU (m2 ixU (mIxV 1 (m1 negU (mC (.int 1)))) (mC (.int 0))) (m2 ixU (mVar 3) (mC (.int 0))))))) sNever sNext)
    (sDrop (mAppV 1 (mTup (mCons (mN partF (mCons (m2 ixU (mVar 3) (mC (.int 0))) mNil)) (mCons (mN partF (mCons (m2 ixU (mVar 3) (mC (.int 1))) mNil)) mNil))))))))
    (sSeq (sIf (mTest (m2 (eqU 0) (mLenV 1) (mC (.int 1)))) sNever sNext)
    (sRet (mP (mFrz 1)))))))
def m_checked_points (cs : List String) : List U → Option U := fnP 1 4 (b_checked_points cs)
def b_bent (cs : List String) : MS :=
  (sSeq (sSet 1 (mLstO mNil))
    (sSeq (sFor (mSeq (mVar 0)) (gN 2) (sSeq (whileO (mAnd (mTest (m2 gtU (mLenV 1) (mC (.int 1)))) (mTest (m2 (eqU 0) (mN (m_slope cs) (mCons (mIxV 1 (m1 negU (mC (.int 2)))) (mCons (mIxV 1 (m1 negU (mC (.int 1)))) mNil))) (mN (m_slope cs) (mCons (mIxV 1 (m1 negU (mC (.int 1)))) (mCons (mVar 2) mNil)))))) (sDrop (mPopV 1)) fuel)
    (sDrop (mAppV 1 (mVar 2)))))
    (sRet (mP (mFrz 1)))))
def m_bent (cs : List String) : List U → Option U := fnP 1 2 (b_bent cs)
def b_Line___init__ (cs : List String) : MS :=
  (sFldV 0 "Line" "rows" (mP (mN (m_bent cs) (mCons (mN (m_checked_points cs) (mCons (mVar 1) mNil)) mNil))))
def m_Line___init__ (cs : List String) : Ow → List U → Option (U × Ow) := fnI 2 0 (b_Line___init__ cs)
def b_Line___eq__ (cs : List String) : MS :=
  (sRet (mP (mAndV (m1 (isiU cs "Line") (mVar 1)) (m2 (eqU 2) (m1 (fldC "Line" "rows") (mVar 0)) (m1 (fldC "Line" "rows") (mVar 1))))))
def m_Line___eq__ (cs : List String) : List U → Option U := fnP 2 0 (b_Line___eq__ cs)
def b_rows_beside (cs : List String) : MS :=
  (sSeq (sIf (mOr (mNot (mTest (m1 (isiU cs "Line") (mVar 1)))) (mOr (mTest (m2 neU (m2 ixU (m2 ixU (mVar 0) (mC (.int 0))) (mC (.int 0))) (m2 ixU (m2 ixU (m1 (fldC "Line" "rows") (mVar 1)) (mC (.int 0))) (mC (.int 0))))) (mTest (m2 neU (m2 ixU (m2 ixU (mVar 0) (m1 negU (mC (.int 1)))) (mC (.int 0))) (m2 ixU (m2 ixU (m1 (fldC "Line" "rows") (mVar 1)) (m1 negU (mC (.int 1)))) (mC (.int 0))))))) sNever sNext)
    (sRet (mP (m1 (fldC "Line" "rows") (mVar 1)))))
def m_rows_beside (cs : List String) : List U → Option U := fnP 2 0 (b_rows_beside cs)
def b_merged (cs : List String) : MS :=
  (sSeq (sPar3O 2 3 4 (oCons (mLstO mNil) (oCons (mP (mC (.int 0))) (oCons (mP (mC (.int 0))) oNil))))
    (sSeq (whileO (mOr (mTest (m2 ltU (mVar 3) (mN lenU (mCons (mVar 0) mNil)))) (mTest (m2 ltU (mVar 4) (mN lenU (mCons (mVar 1) mNil))))) (sSeq (sIf (mOr (mTest (m2 (eqU 0) (mVar 4) (mN lenU (mCons (mVar 1) mNil)))) (mAnd (mTest (m2 ltU (mVar 3) (mN lenU (mCons (mVar 0) mNil)))) (mTest (m2 ltU (m2 ixU (m2 ixU (mVar 0) (mVar 3)) (mC (.int 0))) (m2 ixU (m2 ixU (mVar 1) (mVar 4)) (mC (.int 0))))))) (sSet 5 (mP (m2 ixU (m2 ixU (mVar 0) (mVar 3)) (mC (.int 0))))) (sSet 5 (mP (m2 ixU (m2 ixU (mVar 1) (mVar 4)) (mC (.int 0))))))
    (sSeq (sAug 3 addI (mN intU (mCons (mAndV (m2 ltU (mVar 3) (mN lenU (mCons (mVar 0) mNil))) (m2 (eqU 0) (m2 ixU (m2 ixU (mVar 0) (mVar 3)) (mC (.int 0))) (mVar 5))) mNil)))
    (sSeq (sAug 4 addI (mN intU (mCons (mAndV (m2 ltU (mVar 4) (mN lenU (mCons (mVar 1) mNil))) (m2 (eqU 0) (m2 ixU (m2 ixU (mVar 1) (mVar 4)) (mC (.int 0))) (mVar 5))) mNil)))
    (sDrop (mAppV 2 (mVar 5)))))) fuel)
    (sRet (mP (mFrz 2)))))
def m_merged (cs : List String) : List U → Option U := fnP 2 4 (b_merged cs)
def b_chosen (cs : List String) : MS :=
  (sSeq (sParO 3 4 (oCons (mLstO mNil) (oCons (mP (mC .non)) oNil)))
    (sSeq (sFor (mSeq (mN (m_merged cs) (mCons (mVar 0) (mCons (mVar 1) mNil)))) (gN 5) (sSeq (sPar 6 7 (mCons (mN (m_height_at cs) (mCons (mVar 0) (mCons (mVar 5) mNil))) (mCons (mN (m_height_at cs) (mCons (mVar 1) (mCons (mVar 5) mNil))) mNil)))
    (sSeq (sSet 8 (mP (m2 subU (mVar 6) (mVar 7))))
    (sSeq (sIf (mAnd (mTest (mNotN (mVar 4))) (mTest (m2 ltU (m2 mulU (m2 ixU (mVar 4) (mC (.int 1))) (mVar 8)) (mC (.int 0))))) (sSeq (sSet 9 (mP (m2 addU (m2 ixU (mVar 4) (mC (.int 0))) (m2 mulU (m2 subU (mVar 5) (m2 ixU (mVar 4) (mC (.int 0)))) (mMeth "Exact" "by" byF (m2 ixU (mVar 4) (mC (.int 1))) (mCons (m2 subU (m2 ixU (mVar 4) (mC (.int 1))) (mVar 8)) mNil))))))
    (sDrop (mAppV 3 (mTup (mCons (mVar 9) (mCons (mN (m_height_at cs) (mCons (mVar 0) (mCons (mVar 9) mNil))) mNil)))))) sNext)
    (sSeq (sDrop (mAppV 3 (mTup (mCons (mVar 5) (mCons (mIf (mTest (m2 (eqU 0) (m2 gtU (mVar 8) (mC (.int 0))) (mVar 2))) (mVar 6) (mVar 7)) mNil)))))
    (sSet 4 (mP (mTup (mCons (mVar 5) (mCons (mVar 8) mNil))))))))))
    (sRet (mP (mFrz 3)))))
def m_chosen (cs : List String) : List U → Option U := fnP 3 7 (b_chosen cs)
def b_Line_is_below (cs : List String) : MS :=
  (sSeq (sSet 2 (mP (mN (m_rows_beside cs) (mCons (m1 (fldC "Line" "rows") (mVar 0)) (mCons (mVar 1) mNil)))))
    (sRet (mP (mN allU (mCons (mLc [3] (mSeq (mN (m_merged cs) (mCons (m1 (fldC "Line" "rows") (mVar 0)) (mCons (mVar 2) mNil)))) (gN 3) mYes (m2 leU (mN (m_height_at cs) (mCons (m1 (fldC "Line" "rows") (mVar 0)) (mCons (mVar 3) mNil))) (mN (m_height_at cs) (mCons (mVar 2) (mCons (mVar 3) mNil))))) mNil)))))
def m_Line_is_below (cs : List String) : List U → Option U := fnP 2 2 (b_Line_is_below cs)
def b_Line_lower (cs : List String) : MS :=
  (sRet (mP (mF (mMk "Line" (m_Line___init__ cs) (mCons (mN (m_chosen cs) (mCons (m1 (fldC "Line" "rows") (mVar 0)) (mCons (mN (m_rows_beside cs) (mCons (m1 (fldC "Line" "rows") (mVar 0)) (mCons (mVar 1) mNil))) (mCons (mC (.bl false)) mNil)))) mNil)))))
def m_Line_lower (cs : List String) : List U → Option U := fnP 2 0 (b_Line_lower cs)
def b_Line_upper (cs : List String) : MS :=
  (sRet (mP (mF (mMk "Line" (m_Line___init__ cs) (mCons (mN (m_chosen cs) (mCons (m1 (fldC "Line" "rows") (mVar 0)) (mCons (mN (m_rows_beside cs) (mCons (m1 (fldC "Line" "rows") (mVar 0)) (mCons (mVar 1) mNil))) (mCons (mC (.bl true)) mNil)))) mNil)))))
def m_Line_upper (cs : List String) : List U → Option U := fnP 2 0 (b_Line_upper cs)
end UM
set_option Elab.async false
set_option linter.all false
set_option maxRecDepth 100000
set_option maxHeartbeats 4000000
namespace LW
open PySem PySem.Spec PyProof.Rows L2 LV LM UL UM
section
variable {P : Program} {w : World} {K : PySem.W.Frag} {mg : Str → Option Value} {base : Heap} {κ : String → Addr} {cs : List String}
abbrev s_is_list : Stmt := top 15
abbrev N_is_list : List Str := ["thing"]
theorem sc_is_list : FnScope N_is_list ["thing"] (defScope s_is_list) := ⟨rfl, rfl, rfl, by decide +kernel, rfl, by decide +kernel, by decide +kernel⟩
theorem ok_is_list {f : Addr} {fd : FuncData} (F : FunD K "is_list" "is_list" (defArgs s_is_list) (defBody s_is_list) (defScope s_is_list) [] [] f fd) (T : En P w K mg base κ cs)  : FnOk P w K mg base CX0 2 f fd ["thing"] (spP κ (m_is_list cs)) := by
  refine F.ok sc_is_list (fun vs H Q E h => len_fnP h) (fun cdv A outer s H vs Q E hr h => ⟨_, PSs.nox (pss_one (ps_ret (pe_callB (call_isiTK (K := K) rfl) rfl (T.free "isinstance" (by decide +kernel)) (by decide +kernel) (pa_cons (pv 0) (pa_cons (pe_tup (pa_cons (pe_bltn (v := .ty "list") rfl (T.free "list" (by decide +kernel)) (by decide +kernel) rfl) (pa_cons (pe_bltn (v := .ty "tuple") rfl (T.free "tuple" (by decide +kernel)) (by decide +kernel) rfl) pa_nil))) pa_nil))))), ?_⟩)
  exact sim_fnP (b := b_is_list cs) (sim_ret (simO_p (simE_isi2 T.W (.inr (by decide)) (.inr (by decide)) (simE_var 0) (cl_blt T.W (by decide)) (cl_blt T.W (by decide))))) h rfl
abbrev s_slope : Stmt := top 18
abbrev N_slope : List Str := ["one", "other"]
theorem sc_slope : FnScope N_slope ["one", "other"] (defScope s_slope) := ⟨rfl, rfl, rfl, by decide +kernel, rfl, by decide +kernel, by decide +kernel⟩
theorem ok_slope {f : Addr} {fd : FuncData} (F : FunD K "slope" "slope" (defArgs s_slope) (defBody s_slope) (defScope s_slope) [] [] f fd) (T : En P w K mg base κ cs) (m_Exact_by : C8.Met P w K mg base 5 (κ "Exact") "by" (spP κ byF) []) : FnOk P w K mg base CX0 7 f fd ["one", "other"] (spP κ (m_slope cs)) := by
  refine F.ok sc_slope (fun vs H Q E h => len_fnP h) (fun cdv A outer s H vs Q E hr h => ⟨_, PSs.nox (pss_one (ps_ret (C8.pe_mt m_Exact_by hr (by decide) (pe_op (op_subU T.B ⟨rfl, rfl, rfl, rfl, rfl⟩ hr) (pe_ix (ix_U (κ := κ)) (pv 1) pe_int (fun _ _ => rfl)) (pe_ix (ix_U (κ := κ)) (pv 0) pe_int (fun _ _ => rfl))) (pa_cons (pe_op (op_subU T.B ⟨rfl, rfl, rfl, rfl, rfl⟩ hr) (pe_ix (ix_U (κ := κ)) (pv 1) pe_int (fun _ _ => rfl)) (pe_ix (ix_U (κ := κ)) (pv 0) pe_int (fun _ _ => rfl))) pa_nil)))), ?_⟩)
  exact sim_fnP (b := b_slope cs) (sim_ret (simO_p (simE_meth (simE_op (simE_op (simE_var 1) simE_int) (simE_op (simE_var 0) simE_int)) (simA_cons (simE_op (simE_op (simE_var 1) simE_int) (simE_op (simE_var 0) simE_int)) simA_nil)))) h rfl
abbrev s_height_at : Stmt := top 21
abbrev N_height_at : List Str := ["rows", "moment", "at", "one", "other"]
theorem sc_height_at : FnScope N_height_at ["rows", "moment"] (defScope s_height_at) := ⟨rfl, rfl, rfl, by decide +kernel, rfl, by decide +kernel, by decide +kernel⟩
theorem ok_height_at {f : Addr} {fd : FuncData} (F : FunD K "height_at" "height_at" (defArgs s_height_at) (defBody s_height_at) (defScope s_height_at) [] [] f fd) (T : En P w K mg base κ cs) (c_slope : C8.Cal P w K mg base 7 "slope" (spP κ (m_slope cs)) []) : FnOk P w K mg base CX0 8 f fd ["rows", "moment"] (spP κ (m_height_at cs)) := by
  refine F.ok sc_height_at (fun vs H Q E h => len_fnP h) (fun cdv A outer s H vs Q E hr h => ⟨_, PSs.nox (pss_cons (ps_set (i := 2) sc_height_at.nd rfl (Or.inl rfl) pe_int)
      (pss_cons (ps_while PassesOwn.never (pt_cmpR (op_ltU T.B ⟨rfl, rfl, rfl, rfl, rfl⟩ hr) (pe_ix (ix_U (κ := κ)) (pe_ix (ix_U (κ := κ)) (pv 0) (pv 2) (fun _ _ => rfl)) pe_int (fun _ _ => rfl)) (pv 1) (nomark _)) (pss_one (ps_aug (i := 2) sc_height_at.nd rfl (Or.inl rfl) pe_int (ip_addU (κ := κ)))))
      (pss_cons (ps_par (i := 3) (j := 4) rfl sc_height_at.nd rfl rfl (by decide) rfl rfl (pa_cons (pe_ix (ix_U (κ := κ)) (pv 0) (pe_op (op_subU T.B ⟨rfl, rfl, rfl, rfl, rfl⟩ hr) (pv 2) pe_int) (fun _ _ => rfl)) (pa_cons (pe_ix (ix_U (κ := κ)) (pv 0) (pv 2) (fun _ _ => rfl)) pa_nil)) rfl)
      (pss_one (ps_ret (pe_op (op_addU T.B ⟨rfl, rfl, rfl, rfl, rfl⟩ hr) (pe_ix (ix_U (κ := κ)) (pv 3) pe_int (fun _ _ => rfl)) (pe_op (op_mulU T.B ⟨rfl, rfl, rfl, rfl, rfl⟩ hr) (C8.pe_c c_slope hr (by decide) rfl (pa_cons (pv 3) (pa_cons (pv 4) pa_nil))) (pe_op (op_subU T.B ⟨rfl, rfl, rfl, rfl, rfl⟩ hr) (pv 1) (pe_ix (ix_U (κ := κ)) (pv 3) pe_int (fun _ _ => rfl)))))))))), ?_⟩)
  exact sim_fnP (b := b_height_at cs) (sim_seq (sim_set 2 (simO_p simE_int))
      (sim_seq (sim_while fuel (simT_test (simE_op (simE_op (simE_op (simE_var 0) (simE_var 2)) simE_int) (simE_var 1))) (sim_aug simE_int))
      (sim_seq (sim_par (simA_cons (simE_op (simE_var 0) (simE_op (simE_var 2) simE_int)) (simA_cons (simE_op (simE_var 0) (simE_var 2)) simA_nil)))
      (sim_ret (simO_p (simE_op (simE_op (simE_var 3) simE_int) (simE_op (simE_call (simA_cons (simE_var 3) (simA_cons (simE_var 4) simA_nil))) (simE_op (simE_var 1) (simE_op (simE_var 3) simE_int))))))))) h rfl
abbrev s_checked_points : Stmt := top 17
abbrev N_checked_points : List Str := ["points", "found", "index", "thing", "part"]
theorem sc_checked_points : FnScope N_checked_points ["points"] (defScope s_checked_points) := ⟨rfl, rfl, rfl, by decide +kernel, rfl, by decide +kernel, by decide +kernel⟩
theorem ok_checked_points {f : Addr} {fd : FuncData} (F : FunD K "checked_points" "checked_points" (defArgs s_checked_points) (defBody s_checked_points) (defScope s_checked_points) [] [] f fd) (T : En P w K mg base κ cs) (c_part_of : C8.Cal P w K mg base 4 "part_of" (spP κ partF) []) (c_is_number : C8.Cal P w K mg base 2 "is_number" (spP κ (isNumF cs)) []) (c_is_list : C8.Cal P w K mg base 2 "is_list" (spP κ (m_is_list cs)) []) : FnOk P w K mg base CX0 7 f fd ["points"] (spP κ (m_checked_points cs)) := by
  refine F.ok sc_checked_points (fun vs H Q E h => len_fnP h) (fun cdv A outer s H vs Q E hr h => ⟨_, PSs.nox (pss_cons (ps_if (PW.pt (pw_or (pt_not (pt_val (C8.pe_c c_is_list hr (by decide) rfl (pa_cons (pv 0) pa_nil)))) (pw_or1 (pt_cmpR (op_eqU T.B ⟨rfl, rfl, rfl, rfl, rfl⟩ hr 0) (pe_callB (call_lenU (κ := κ)) rfl (T.free "len" (by decide +kernel)) (by decide +kernel) (pa_cons (pv 0) pa_nil)) pe_int (nomark _))))) (pss_one ps_never) pss_nil)
      (pss_cons (ps_set (i := 1) sc_checked_points.nd rfl (Or.inl rfl) (pe_lst pa_nil))
      (pss_cons (ps_for PassesOwn.never rfl (pi_enumSK (K := K) rfl rfl (T.free "enumerate" (by decide +kernel)) (pa_cons (pv 0) pa_nil)) (pg_tup rfl (pgs_cons (pg_name (i := 2) sc_checked_points.nd rfl (Or.inl rfl)) (pgs_cons (pg_name (i := 3) sc_checked_points.nd rfl (Or.inl rfl)) pgs_nil))) (pss_cons (ps_if (PW.pt (pw_or (pt_not (pt_val (C8.pe_c c_is_list hr (by decide) rfl (pa_cons (pv 3) pa_nil)))) (pw_or (pt_cmpR (op_neU T.B ⟨rfl, rfl, rfl, rfl, rfl⟩ hr hr.units) (pe_callB (call_lenU (κ := κ)) rfl (T.free "len" (by decide +kernel)) (by decide +kernel) (pa_cons (pv 3) pa_nil)) pe_int (nomark _)) (pw_or1 (pt_not (pt_val (pe_callB (call_allU (κ := κ) rfl) rfl (T.free "all" (by decide +kernel)) (by decide +kernel) (pa_cons (pe_lc (own := [("part", 4)]) (g := (gName 4)) (tt := tYes) rfl sc_checked_points.nd (pi_seqK (K := K) rfl (pv 3)) (blkOk_by (N := N_checked_points) (sc := defScope s_checked_points) (by decide +kernel)) (fun _ _ _ _ _ => by exact (pg_name (i := 4) sc_checked_points.nd rfl (Or.inl rfl))) (fun _ _ _ _ _ => pts_nil) (fun _ _ _ _ _ => by exact (C8.pe_c c_is_number hr (by decide) rfl (pa_cons (pv 4) pa_nil)))) pa_nil)))))))) (pss_one ps_never) pss_nil)
      (pss_cons (ps_if (PW.pt (pw_and (pt_cmpR (op_neNil hr.units0) (pv 1) (pe_lst pa_nil) (nomark _)) (pw_and1 (pt_not (pt_cmpR (op_ltU T.B ⟨rfl, rfl, rfl, rfl, rfl⟩ hr) (pe_ix (ix_U (κ := κ)) (pe_ix (ix_listK (K := K) rfl) (pv 1) (pe_un (un_negU T.B ⟨rfl, rfl, rfl, rfl, rfl⟩ hr) pe_int) (fun _ _ => rfl)) pe_int (fun _ _ => rfl)) (pe_ix (ix_U (κ := κ)) (pv 3) pe_int (fun _ _ => rfl)) (nomark _)))))) (pss_one ps_never) pss_nil)
      (pss_one (ps_expr (pe_bm PySem.F.plainAttrs_list PySem.F.slot_list_append PySem.F.type_list_append mt_append (pv 1) (pa_cons (pe_tup (pa_cons (C8.pe_c c_part_of hr (by decide) rfl (pa_cons (pe_ix (ix_U (κ := κ)) (pv 3) pe_int (fun _ _ => rfl)) pa_nil)) (pa_cons (C8.pe_c c_part_of hr (by decide) rfl (pa_cons (pe_ix (ix_U (κ := κ)) (pv 3) pe_int (fun _ _ => rfl)) pa_nil)) pa_nil))) pa_nil)))))))
      (pss_cons (ps_if (pt_cmpR (op_eqU T.B ⟨rfl, rfl, rfl, rfl, rfl⟩ hr 0) (pe_callB (call_lenSK (K := K) rfl) rfl (T.free "len" (by decide +kernel)) (by decide +kernel) (pa_cons (pv 1) pa_nil)) pe_int (nomark _)) (pss_one ps_never) pss_nil)
      (pss_one (ps_ret (pv 1))))))), ?_⟩)
  exact sim_fnP (b := b_checked_points cs) (sim_seq (sim_if (simT_or (simT_not (simT_B (simE_call (simA_cons (simE_var 0) simA_nil)))) (simT_test (simE_op (simE_cb (simA_cons (simE_var 0) simA_nil)) simE_int))) sim_never sim_next)
      (sim_seq (sim_set 1 (simO_lst simA_nil))
      (sim_seq (sim_for (simI_enumS (simA_cons (simE_var 0) simA_nil)) (simG_tup (simGs_cons (simG_name 2) (simGs_cons (simG_name 3) simGs_nil))) (sim_seq (sim_if (simT_or (simT_not (simT_B (simE_call (simA_cons (simE_var 3) simA_nil)))) (simT_or (simT_test (simE_op (simE_cb (simA_cons (simE_var 3) simA_nil)) simE_int)) (simT_not (simT_B (simE_cb (simA_cons (simE_lc (vs := [4]) (simI_seq (simE_var 3)) (simG_name 4) simT_yes (simE_call (simA_cons (simE_var 4) simA_nil))) simA_nil)))))) sim_never sim_next)
      (sim_seq (sim_if (simT_and (simT_test simE_neNilV) (simT_not (simT_test (simE_op (simE_op (simE_ixV (simE_un simE_int)) simE_int) (simE_op (simE_var 3) simE_int))))) sim_never sim_next)
      (sim_drop (simE_appV (simE_tup (simA_cons (simE_call (simA_cons (simE_op (simE_var 3) simE_int) simA_nil)) (simA_cons (simE_call (simA_cons (simE_op (simE_var 3) simE_int) simA_nil)) simA_nil))))))))
      (sim_seq (sim_if (simT_test (simE_op simE_lenV simE_int)) sim_never sim_next)
      (sim_ret (simO_p (simE_frz 1))))))) h rfl
abbrev s_bent : Stmt := top 19
abbrev N_bent : List Str := ["points", "found", "point"]
theorem sc_bent : FnScope N_bent ["points"] (defScope s_bent) := ⟨rfl, rfl, rfl, by decide +kernel, rfl, by decide +kernel, by decide +kernel⟩
theorem ok_bent {f : Addr} {fd : FuncData} (F : FunD K "bent" "bent" (defArgs s_bent) (defBody s_bent) (defScope s_bent) [] [] f fd) (T : En P w K mg base κ cs) (c_slope : C8.Cal P w K mg base 7 "slope" (spP κ (m_slope cs)) []) : FnOk P w K mg base CX0 8 f fd ["points"] (spP κ (m_bent cs)) := by
  refine F.ok sc_bent (fun vs H Q E h => len_fnP h) (fun cdv A outer s H vs Q E hr h => ⟨_, PSs.nox (pss_cons (ps_set (i := 1) sc_bent.nd rfl (Or.inl rfl) (pe_lst pa_nil))
      (pss_cons (ps_for PassesOwn.never rfl (pi_seqK (K := K) rfl (pv 0)) (pg_name (i := 2) sc_bent.nd rfl (Or.inl rfl)) (pss_cons (ps_while PassesOwn.never (PW.pt (pw_and (pt_cmpR (op_gtU T.B ⟨rfl, rfl, rfl, rfl, rfl⟩ hr) (pe_callB (call_lenSK (K := K) rfl) rfl (T.free "len" (by decide +kernel)) (by decide +kernel) (pa_cons (pv 1) pa_nil)) pe_int (nomark _)) (pw_and1 (pt_cmpR (op_eqU T.B ⟨rfl, rfl, rfl, rfl, rfl⟩ hr 0) (C8.pe_c c_slope hr (by decide) rfl (pa_cons (pe_ix (ix_listK (K := K) rfl) (pv 1) (pe_un (un_negU T.B ⟨rfl, rfl, rfl, rfl, rfl⟩ hr) pe_int) (fun _ _ => rfl)) (pa_cons (pe_ix (ix_listK (K := K) rfl) (pv 1) (pe_un (un_negU T.B ⟨rfl, rfl, rfl, rfl, rfl⟩ hr) pe_int) (fun _ _ => rfl)) pa_nil))) (C8.pe_c c_slope hr (by decide) rfl (pa_cons (pe_ix (ix_listK (K := K) rfl) (pv 1) (pe_un (un_negU T.B ⟨rfl, rfl, rfl, rfl, rfl⟩ hr) pe_int) (fun _ _ => rfl)) (pa_cons (pv 2) pa_nil))) (nomark _))))) (pss_one (ps_expr (pe_bm0 PySem.F.plainAttrs_list PySem.F.slot_list_pop PySem.F.type_list_pop mt_pop (pv 1)))))
      (pss_one (ps_expr (pe_bm PySem.F.plainAttrs_list PySem.F.slot_list_append PySem.F.type_list_append mt_append (pv 1) (pa_cons (pv 2) pa_nil))))))
      (pss_one (ps_ret (pv 1))))), ?_⟩)
  exact sim_fnP (b := b_bent cs) (sim_seq (sim_set 1 (simO_lst simA_nil))
      (sim_seq (sim_for (simI_seq (simE_var 0)) (simG_name 2) (sim_seq (sim_while fuel (simT_and (simT_test (simE_op simE_lenV simE_int)) (simT_test (simE_op (simE_call (simA_cons (simE_ixV (simE_un simE_int)) (simA_cons (simE_ixV (simE_un simE_int)) simA_nil))) (simE_call (simA_cons (simE_ixV (simE_un simE_int)) (simA_cons (simE_var 2) simA_nil)))))) (sim_drop simE_popV))
      (sim_drop (simE_appV (simE_var 2)))))
      (sim_ret (simO_p (simE_frz 1))))) h rfl
abbrev s_Line___init__ : Stmt := inClass (top 20) 0
abbrev N_Line___init__ : List Str := ["self", "points"]
theorem sc_Line___init__ : FnScope N_Line___init__ ["self", "points"] (defScope s_Line___init__) := ⟨rfl, rfl, rfl, by decide +kernel, rfl, by decide +kernel, by decide +kernel⟩
theorem ok_Line___init__ {f : Addr} {fd : FuncData} (F : FunD K "__init__" "Line.__init__" (defArgs s_Line___init__) (defBody s_Line___init__) (defScope s_Line___init__) [] [] f fd) (T : En P w K mg base κ cs) (f_Line_rows : Cls K (κ "Line") ∧ NoAttr K (κ "Line") "rows") (c_bent : C8.Cal P w K mg base 8 "bent" (spP κ (m_bent cs)) []) (c_checked_points : C8.Cal P w K mg base 7 "checked_points" (spP κ (m_checked_points cs)) []) : FnOk P w K mg base CX0 9 f fd ["self", "points"] (spI κ (m_Line___init__ cs)) := by
  refine F.ok sc_Line___init__ (fun vs H Q E h => len_fnI h) (fun cdv A outer s H vs Q E hr h => ⟨_, PSs.nox (pss_one (ps_fld (pv 0) (C8.pe_c c_bent hr (by decide) rfl (pa_cons (C8.pe_c c_checked_points hr (by decide) rfl (pa_cons (pv 1) pa_nil)) pa_nil)) rfl)), ?_⟩)
  exact sim_fnI (b := b_Line___init__ cs) (sim_fldV f_Line_rows (simO_p (simE_call (simA_cons (simE_call (simA_cons (simE_var 1) simA_nil)) simA_nil)))) h rfl
abbrev s_Line___eq__ : Stmt := inClass (top 20) 1
abbrev N_Line___eq__ : List Str := ["self", "other"]
theorem sc_Line___eq__ : FnScope N_Line___eq__ ["self", "other"] (defScope s_Line___eq__) := ⟨rfl, rfl, rfl, by decide +kernel, rfl, by decide +kernel, by decide +kernel⟩
theorem ok_Line___eq__ {f : Addr} {fd : FuncData} (F : FunD K "__eq__" "Line.__eq__" (defArgs s_Line___eq__) (defBody s_Line___eq__) (defScope s_Line___eq__) [] [] f fd) (T : En P w K mg base κ cs) (f_Line_rows : Cls K (κ "Line") ∧ NoAttr K (κ "Line") "rows") (g_Line : mg "Line" = some (.ref (κ "Line"))) (i_Line : "Line" ∈ cs) : FnOk P w K mg base CX0 9 f fd ["self", "other"] (spP κ (m_Line___eq__ cs)) := by
  refine F.ok sc_Line___eq__ (fun vs H Q E h => len_fnP h) (fun cdv A outer s H vs Q E hr h => ⟨_, PSs.nox (pss_one (ps_ret (pe_and (pe_callB (call_isiK1 (K := K) rfl) rfl (T.free "isinstance" (by decide +kernel)) (by decide +kernel) (pa_cons (pv 1) (pa_cons (pe_glob (v := .ref (κ "Line")) rfl g_Line rfl) pa_nil))) (pe_one (pe_cmpR (op_eqU T.B ⟨rfl, rfl, rfl, rfl, rfl⟩ hr 2) (pe_fldK (K := K) rfl (pv 0) rfl) (pe_fldK (K := K) rfl (pv 1) rfl) (nomark _)))))), ?_⟩)
  exact sim_fnP (b := b_Line___eq__ cs) (sim_ret (simO_p (simE_andV (simE_isi T.W (.inl i_Line) (simE_var 1) (cl_own i_Line)) (simE_op (simE_fldC f_Line_rows (simE_var 0)) (simE_fldC f_Line_rows (simE_var 1)))))) h rfl
abbrev s_rows_beside : Stmt := top 22
abbrev N_rows_beside : List Str := ["rows", "thing"]
theorem sc_rows_beside : FnScope N_rows_beside ["rows", "thing"] (defScope s_rows_beside) := ⟨rfl, rfl, rfl, by decide +kernel, rfl, by decide +kernel, by decide +kernel⟩
theorem ok_rows_beside {f : Addr} {fd : FuncData} (F : FunD K "rows_beside" "rows_beside" (defArgs s_rows_beside) (defBody s_rows_beside) (defScope s_rows_beside) [] [] f fd) (T : En P w K mg base κ cs) (f_Line_rows : Cls K (κ "Line") ∧ NoAttr K (κ "Line") "rows") (g_Line : mg "Line" = some (.ref (κ "Line"))) (i_Line : "Line" ∈ cs) : FnOk P w K mg base CX0 7 f fd ["rows", "thing"] (spP κ (m_rows_beside cs)) := by
  refine F.ok sc_rows_beside (fun vs H Q E h => len_fnP h) (fun cdv A outer s H vs Q E hr h => ⟨_, PSs.nox (pss_cons (ps_if (PW.pt (pw_or (pt_not (pt_val (pe_callB (call_isiK1 (K := K) rfl) rfl (T.free "isinstance" (by decide +kernel)) (by decide +kernel) (pa_cons (pv 1) (pa_cons (pe_glob (v := .ref (κ "Line")) rfl g_Line rfl) pa_nil))))) (pw_or (pt_cmpR (op_neU T.B ⟨rfl, rfl, rfl, rfl, rfl⟩ hr hr.units) (pe_ix (ix_U (κ := κ)) (pe_ix (ix_U (κ := κ)) (pv 0) pe_int (fun _ _ => rfl)) pe_int (fun _ _ => rfl)) (pe_ix (ix_U (κ := κ)) (pe_ix (ix_U (κ := κ)) (pe_fldK (K := K) rfl (pv 1) rfl) pe_int (fun _ _ => rfl)) pe_int (fun _ _ => rfl)) (nomark _)) (pw_or1 (pt_cmpR (op_neU T.B ⟨rfl, rfl, rfl, rfl, rfl⟩ hr hr.units) (pe_ix (ix_U (κ := κ)) (pe_ix (ix_U (κ := κ)) (pv 0) (pe_un (un_negU T.B ⟨rfl, rfl, rfl, rfl, rfl⟩ hr) pe_int) (fun _ _ => rfl)) pe_int (fun _ _ => rfl)) (pe_ix (ix_U (κ := κ)) (pe_ix (ix_U (κ := κ)) (pe_fldK (K := K) rfl (pv 1) rfl) (pe_un (un_negU T.B ⟨rfl, rfl, rfl, rfl, rfl⟩ hr) pe_int) (fun _ _ => rfl)) pe_int (fun _ _ => rfl)) (nomark _)))))) (pss_one ps_never) pss_nil)
      (pss_one (ps_ret (pe_fldK (K := K) rfl (pv 1) rfl)))), ?_⟩)
  exact sim_fnP (b := b_rows_beside cs) (sim_seq (sim_if (simT_or (simT_not (simT_B (simE_isi T.W (.inl i_Line) (simE_var 1) (cl_own i_Line)))) (simT_or (simT_test (simE_op (simE_op (simE_op (simE_var 0) simE_int) simE_int) (simE_op (simE_op (simE_fldC f_Line_rows (simE_var 1)) simE_int) simE_int))) (simT_test (simE_op (simE_op (simE_op (simE_var 0) (simE_un simE_int)) simE_int) (simE_op (simE_op (simE_fldC f_Line_rows (simE_var 1)) (simE_un simE_int)) simE_int))))) sim_never sim_next)
      (sim_ret (simO_p (simE_fldC f_Line_rows (simE_var 1))))) h rfl
abbrev s_merged : Stmt := top 23
abbrev N_merged : List Str := ["one", "other", "found", "i", "j", "moment"]
theorem sc_merged : FnScope N_merged ["one", "other"] (defScope s_merged) := ⟨rfl, rfl, rfl, by decide +kernel, rfl, by decide +kernel, by decide +kernel⟩
theorem ok_merged {f : Addr} {fd : FuncData} (F : FunD K "merged" "merged" (defArgs s_merged) (defBody s_merged) (defScope s_merged) [] [] f fd) (T : En P w K mg base κ cs)  : FnOk P w K mg base CX0 7 f fd ["one", "other"] (spP κ (m_merged cs)) := by
  refine F.ok sc_merged (fun vs H Q E h => len_fnP h) (fun cdv A outer s H vs Q E hr h => ⟨_, PSs.nox (pss_cons (ps_par3 (i := 2) (j := 3) (l := 4) rfl sc_merged.nd rfl rfl rfl (by decide) (by decide) (by decide) rfl rfl rfl (pa_cons (pe_lst pa_nil) (pa_cons pe_int (pa_cons pe_int pa_nil))) rfl)
      (pss_cons (ps_while PassesOwn.never (PW.pt (pw_or (pt_cmpR (op_ltU T.B ⟨rfl, rfl, rfl, rfl, rfl⟩ hr) (pv 3) (pe_callB (call_lenU (κ := κ)) rfl (T.free "len" (by decide +kernel)) (by decide +kernel) (pa_cons (pv 0) pa_nil)) (nomark _)) (pw_or1 (pt_cmpR (op_ltU T.B ⟨rfl, rfl, rfl, rfl, rfl⟩ hr) (pv 4) (pe_callB (call_lenU (κ := κ)) rfl (T.free "len" (by decide +kernel)) (by decide +kernel) (pa_cons (pv 1) pa_nil)) (nomark _))))) (pss_cons (ps_if (PW.pt (pw_or (pt_cmpR (op_eqU T.B ⟨rfl, rfl, rfl, rfl, rfl⟩ hr 0) (pv 4) (pe_callB (call_lenU (κ := κ)) rfl (T.free "len" (by decide +kernel)) (by decide +kernel) (pa_cons (pv 1) pa_nil)) (nomark _)) (pw_or1 (PW.pt (pw_and (pt_cmpR (op_ltU T.B ⟨rfl, rfl, rfl, rfl, rfl⟩ hr) (pv 3) (pe_callB (call_lenU (κ := κ)) rfl (T.free "len" (by decide +kernel)) (by decide +kernel) (pa_cons (pv 0) pa_nil)) (nomark _)) (pw_and1 (pt_cmpR (op_ltU T.B ⟨rfl, rfl, rfl, rfl, rfl⟩ hr) (pe_ix (ix_U (κ := κ)) (pe_ix (ix_U (κ := κ)) (pv 0) (pv 3) (fun _ _ => rfl)) pe_int (fun _ _ => rfl)) (pe_ix (ix_U (κ := κ)) (pe_ix (ix_U (κ := κ)) (pv 1) (pv 4) (fun _ _ => rfl)) pe_int (fun _ _ => rfl)) (nomark _)))))))) (pss_one (ps_set (i := 5) sc_merged.nd rfl (Or.inl rfl) (pe_ix (ix_U (κ := κ)) (pe_ix (ix_U (κ := κ)) (pv 0) (pv 3) (fun _ _ => rfl)) pe_int (fun _ _ => rfl)))) (pss_one (ps_set (i := 5) sc_merged.nd rfl (Or.inl rfl) (pe_ix (ix_U (κ := κ)) (pe_ix (ix_U (κ := κ)) (pv 1) (pv 4) (fun _ _ => rfl)) pe_int (fun _ _ => rfl)))))
      (pss_cons (ps_aug (i := 3) sc_merged.nd rfl (Or.inl rfl) (pe_callTy (call_intU (κ := κ)) rfl (T.free "int" (by decide +kernel)) (by decide +kernel) (pa_cons (pe_and (pe_cmpR (op_ltU T.B ⟨rfl, rfl, rfl, rfl, rfl⟩ hr) (pv 3) (pe_callB (call_lenU (κ := κ)) rfl (T.free "len" (by decide +kernel)) (by decide +kernel) (pa_cons (pv 0) pa_nil)) (nomark _)) (pe_one (pe_cmpR (op_eqU T.B ⟨rfl, rfl, rfl, rfl, rfl⟩ hr 0) (pe_ix (ix_U (κ := κ)) (pe_ix (ix_U (κ := κ)) (pv 0) (pv 3) (fun _ _ => rfl)) pe_int (fun _ _ => rfl)) (pv 5) (nomark _)))) pa_nil)) (ip_addU (κ := κ)))
      (pss_cons (ps_aug (i := 4) sc_merged.nd rfl (Or.inl rfl) (pe_callTy (call_intU (κ := κ)) rfl (T.free "int" (by decide +kernel)) (by decide +kernel) (pa_cons (pe_and (pe_cmpR (op_ltU T.B ⟨rfl, rfl, rfl, rfl, rfl⟩ hr) (pv 4) (pe_callB (call_lenU (κ := κ)) rfl (T.free "len" (by decide +kernel)) (by decide +kernel) (pa_cons (pv 1) pa_nil)) (nomark _)) (pe_one (pe_cmpR (op_eqU T.B ⟨rfl, rfl, rfl, rfl, rfl⟩ hr 0) (pe_ix (ix_U (κ := κ)) (pe_ix (ix_U (κ := κ)) (pv 1) (pv 4) (fun _ _ => rfl)) pe_int (fun _ _ => rfl)) (pv 5) (nomark _)))) pa_nil)) (ip_addU (κ := κ)))
      (pss_one (ps_expr (pe_bm PySem.F.plainAttrs_list PySem.F.slot_list_append PySem.F.type_list_append mt_append (pv 2) (pa_cons (pv 5) pa_nil))))))))
      (pss_one (ps_ret (pv 2))))), ?_⟩)
  exact sim_fnP (b := b_merged cs) (sim_seq (sim_par3O (simAO_cons (simO_lst simA_nil) (simAO_cons (simO_p simE_int) (simAO_cons (simO_p simE_int) simAO_nil))))
      (sim_seq (sim_while fuel (simT_or (simT_test (simE_op (simE_var 3) (simE_cb (simA_cons (simE_var 0) simA_nil)))) (simT_test (simE_op (simE_var 4) (simE_cb (simA_cons (simE_var 1) simA_nil))))) (sim_seq (sim_if (simT_or (simT_test (simE_op (simE_var 4) (simE_cb (simA_cons (simE_var 1) simA_nil)))) (simT_and (simT_test (simE_op (simE_var 3) (simE_cb (simA_cons (simE_var 0) simA_nil)))) (simT_test (simE_op (simE_op (simE_op (simE_var 0) (simE_var 3)) simE_int) (simE_op (simE_op (simE_var 1) (simE_var 4)) simE_int))))) (sim_set 5 (simO_p (simE_op (simE_op (simE_var 0) (simE_var 3)) simE_int))) (sim_set 5 (simO_p (simE_op (simE_op (simE_var 1) (simE_var 4)) simE_int))))
      (sim_seq (sim_aug (simE_cb (simA_cons (simE_andV (simE_op (simE_var 3) (simE_cb (simA_cons (simE_var 0) simA_nil))) (simE_op (simE_op (simE_op (simE_var 0) (simE_var 3)) simE_int) (simE_var 5))) simA_nil)))
      (sim_seq (sim_aug (simE_cb (simA_cons (simE_andV (simE_op (simE_var 4) (simE_cb (simA_cons (simE_var 1) simA_nil))) (simE_op (simE_op (simE_op (simE_var 1) (simE_var 4)) simE_int) (simE_var 5))) simA_nil)))
      (sim_drop (simE_appV (simE_var 5)))))))
      (sim_ret (simO_p (simE_frz 2))))) h rfl
abbrev s_chosen : Stmt := top 24
abbrev N_chosen : List Str := ["one", "other", "is_greater", "found", "ahead", "moment", "first", "second", "gap", "middle"]
theorem sc_chosen : FnScope N_chosen ["one", "other", "is_greater"] (defScope s_chosen) := ⟨rfl, rfl, rfl, by decide +kernel, rfl, by decide +kernel, by decide +kernel⟩
theorem ok_chosen {f : Addr} {fd : FuncData} (F : FunD K "chosen" "chosen" (defArgs s_chosen) (defBody s_chosen) (defScope s_chosen) [] [] f fd) (T : En P w K mg base κ cs) (c_merged : C8.Cal P w K mg base 7 "merged" (spP κ (m_merged cs)) []) (c_height_at : C8.Cal P w K mg base 8 "height_at" (spP κ (m_height_at cs)) []) (m_Exact_by : C8.Met P w K mg base 5 (κ "Exact") "by" (spP κ byF) []) : FnOk P w K mg base CX0 9 f fd ["one", "other", "is_greater"] (spP κ (m_chosen cs)) := by
  refine F.ok sc_chosen (fun vs H Q E h => len_fnP h) (fun cdv A outer s H vs Q E hr h => ⟨_, PSs.nox (pss_cons (ps_par (i := 3) (j := 4) rfl sc_chosen.nd rfl rfl (by decide) rfl rfl (pa_cons (pe_lst pa_nil) (pa_cons pe_non pa_nil)) rfl)
      (pss_cons (ps_for PassesOwn.never rfl (pi_seqK (K := K) rfl (C8.pe_c c_merged hr (by decide) rfl (pa_cons (pv 0) (pa_cons (pv 1) pa_nil)))) (pg_name (i := 5) sc_chosen.nd rfl (Or.inl rfl)) (pss_cons (ps_par (i := 6) (j := 7) rfl sc_chosen.nd rfl rfl (by decide) rfl rfl (pa_cons (C8.pe_c c_height_at hr (by decide) rfl (pa_cons (pv 0) (pa_cons (pv 5) pa_nil))) (pa_cons (C8.pe_c c_height_at hr (by decide) rfl (pa_cons (pv 1) (pa_cons (pv 5) pa_nil))) pa_nil)) rfl)
      (pss_cons (ps_set (i := 8) sc_chosen.nd rfl (Or.inl rfl) (pe_op (op_subU T.B ⟨rfl, rfl, rfl, rfl, rfl⟩ hr) (pv 6) (pv 7)))
      (pss_cons (ps_if (PW.pt (pw_and (pt_cmp (pc_notN (pv 4))) (pw_and1 (pt_cmpR (op_ltU T.B ⟨rfl, rfl, rfl, rfl, rfl⟩ hr) (pe_op (op_mulU T.B ⟨rfl, rfl, rfl, rfl, rfl⟩ hr) (pe_ix (ix_U (κ := κ)) (pv 4) pe_int (fun _ _ => rfl)) (pv 8)) pe_int (nomark _))))) (pss_cons (ps_set (i := 9) sc_chosen.nd rfl (Or.inl rfl) (pe_op (op_addU T.B ⟨rfl, rfl, rfl, rfl, rfl⟩ hr) (pe_ix (ix_U (κ := κ)) (pv 4) pe_int (fun _ _ => rfl)) (pe_op (op_mulU T.B ⟨rfl, rfl, rfl, rfl, rfl⟩ hr) (pe_op (op_subU T.B ⟨rfl, rfl, rfl, rfl, rfl⟩ hr) (pv 5) (pe_ix (ix_U (κ := κ)) (pv 4) pe_int (fun _ _ => rfl))) (C8.pe_mt m_Exact_by hr (by decide) (pe_ix (ix_U (κ := κ)) (pv 4) pe_int (fun _ _ => rfl)) (pa_cons (pe_op (op_subU T.B ⟨rfl, rfl, rfl, rfl, rfl⟩ hr) (pe_ix (ix_U (κ := κ)) (pv 4) pe_int (fun _ _ => rfl)) (pv 8)) pa_nil)))))
      (pss_one (ps_expr (pe_bm PySem.F.plainAttrs_list PySem.F.slot_list_append PySem.F.type_list_append mt_append (pv 3) (pa_cons (pe_tup (pa_cons (pv 9) (pa_cons (C8.pe_c c_height_at hr (by decide) rfl (pa_cons (pv 0) (pa_cons (pv 9) pa_nil))) pa_nil))) pa_nil))))) pss_nil)
      (pss_cons (ps_expr (pe_bm PySem.F.plainAttrs_list PySem.F.slot_list_append PySem.F.type_list_append mt_append (pv 3) (pa_cons (pe_tup (pa_cons (pv 5) (pa_cons (pe_ifExp (pt_cmpR (op_eqU T.B ⟨rfl, rfl, rfl, rfl, rfl⟩ hr 0) (pe_cmpR (op_gtU T.B ⟨rfl, rfl, rfl, rfl, rfl⟩ hr) (pv 8) pe_int (nomark _)) (pv 2) (nomark _)) (pv 6) (pv 7)) pa_nil))) pa_nil)))
      (pss_one (ps_set (i := 4) sc_chosen.nd rfl (Or.inl rfl) (pe_tup (pa_cons (pv 5) (pa_cons (pv 8) pa_nil))))))))))
      (pss_one (ps_ret (pv 3))))), ?_⟩)
  exact sim_fnP (b := b_chosen cs) (sim_seq (sim_parO (simAO_cons (simO_lst simA_nil) (simAO_cons (simO_p simE_non) simAO_nil)))
      (sim_seq (sim_for (simI_seq (simE_call (simA_cons (simE_var 0) (simA_cons (simE_var 1) simA_nil)))) (simG_name 5) (sim_seq (sim_par (simA_cons (simE_call (simA_cons (simE_var 0) (simA_cons (simE_var 5) simA_nil))) (simA_cons (simE_call (simA_cons (simE_var 1) (simA_cons (simE_var 5) simA_nil))) simA_nil)))
      (sim_seq (sim_set 8 (simO_p (simE_op (simE_var 6) (simE_var 7))))
      (sim_seq (sim_if (simT_and (simT_B (simE_notN (simE_var 4))) (simT_test (simE_op (simE_op (simE_op (simE_var 4) simE_int) (simE_var 8)) simE_int))) (sim_seq (sim_set 9 (simO_p (simE_op (simE_op (simE_var 4) simE_int) (simE_op (simE_op (simE_var 5) (simE_op (simE_var 4) simE_int)) (simE_meth (simE_op (simE_var 4) simE_int) (simA_cons (simE_op (simE_op (simE_var 4) simE_int) (simE_var 8)) simA_nil))))))
      (sim_drop (simE_appV (simE_tup (simA_cons (simE_var 9) (simA_cons (simE_call (simA_cons (simE_var 0) (simA_cons (simE_var 9) simA_nil))) simA_nil)))))) sim_next)
      (sim_seq (sim_drop (simE_appV (simE_tup (simA_cons (simE_var 5) (simA_cons (simE_if (simT_test (simE_op (simE_op (simE_var 8) simE_int) (simE_var 2))) (simE_var 6) (simE_var 7)) simA_nil)))))
      (sim_set 4 (simO_p (simE_tup (simA_cons (simE_var 5) (simA_cons (simE_var 8) simA_nil))))))))))
      (sim_ret (simO_p (simE_frz 3))))) h rfl
abbrev s_Line_is_below : Stmt := inClass (top 20) 3
abbrev N_Line_is_below : List Str := ["self", "other", "rows", "one"]
theorem sc_Line_is_below : FnScope N_Line_is_below ["self", "other"] (defScope s_Line_is_below) := ⟨rfl, rfl, rfl, by decide +kernel, rfl, by decide +kernel, by decide +kernel⟩
theorem ok_Line_is_below {f : Addr} {fd : FuncData} (F : FunD K "is_below" "Line.is_below" (defArgs s_Line_is_below) (defBody s_Line_is_below) (defScope s_Line_is_below) [] [] f fd) (T : En P w K mg base κ cs) (c_merged : C8.Cal P w K mg base 7 "merged" (spP κ (m_merged cs)) []) (f_Line_rows : Cls K (κ "Line") ∧ NoAttr K (κ "Line") "rows") (c_height_at : C8.Cal P w K mg base 8 "height_at" (spP κ (m_height_at cs)) []) (c_rows_beside : C8.Cal P w K mg base 7 "rows_beside" (spP κ (m_rows_beside cs)) []) : FnOk P w K mg base CX0 9 f fd ["self", "other"] (spP κ (m_Line_is_below cs)) := by
  refine F.ok sc_Line_is_below (fun vs H Q E h => len_fnP h) (fun cdv A outer s H vs Q E hr h => ⟨_, PSs.nox (pss_cons (ps_set (i := 2) sc_Line_is_below.nd rfl (Or.inr rfl) (C8.pe_c c_rows_beside hr (by decide) rfl (pa_cons (pe_fldK (K := K) rfl (pv 0) rfl) (pa_cons (pv 1) pa_nil))))
      (pss_one (ps_ret (pe_callB (call_allU (κ := κ) rfl) rfl (T.free "all" (by decide +kernel)) (by decide +kernel) (pa_cons (pe_lc (own := [("one", 3)]) (g := (gName 3)) (tt := tYes) rfl sc_Line_is_below.nd (pi_seqK (K := K) rfl (C8.pe_c c_merged hr (by decide) rfl (pa_cons (pe_fldK (K := K) rfl (pv 0) rfl) (pa_cons (pv 2) pa_nil)))) (blkOk_by (N := N_Line_is_below) (sc := defScope s_Line_is_below) (by decide +kernel)) (fun _ _ _ _ _ => by exact (pg_name (i := 3) sc_Line_is_below.nd rfl (Or.inl rfl))) (fun _ _ _ _ _ => pts_nil) (fun _ _ _ _ _ => by exact (pe_cmpR (op_leU T.B ⟨rfl, rfl, rfl, rfl, rfl⟩ hr) (C8.pe_c c_height_at hr (by decide) rfl (pa_cons (pe_fldK (K := K) rfl (pv 0) rfl) (pa_cons (pv 3) pa_nil))) (C8.pe_c c_height_at hr (by decide) rfl (pa_cons (pv 2) (pa_cons (pv 3) pa_nil))) (nomark _)))) pa_nil))))), ?_⟩)
  exact sim_fnP (b := b_Line_is_below cs) (sim_seq (sim_set 2 (simO_p (simE_call (simA_cons (simE_fldC f_Line_rows (simE_var 0)) (simA_cons (simE_var 1) simA_nil)))))
      (sim_ret (simO_p (simE_cb (simA_cons (simE_lc (vs := [3]) (simI_seq (simE_call (simA_cons (simE_fldC f_Line_rows (simE_var 0)) (simA_cons (simE_var 2) simA_nil)))) (simG_name 3) simT_yes (simE_op (simE_call (simA_cons (simE_fldC f_Line_rows (simE_var 0)) (simA_cons (simE_var 3) simA_nil))) (simE_call (simA_cons (simE_var 2) (simA_cons (simE_var 3) simA_nil))))) simA_nil))))) h rfl
abbrev s_Line_lower : Stmt := inClass (top 20) 4
abbrev N_Line_lower : List Str := ["self", "other"]
theorem sc_Line_lower : FnScope N_Line_lower ["self", "other"] (defScope s_Line_lower) := ⟨rfl, rfl, rfl, by decide +kernel, rfl, by decide +kernel, by decide +kernel⟩
theorem ok_Line_lower {f : Addr} {fd : FuncData} (F : FunD K "lower" "Line.lower" (defArgs s_Line_lower) (defBody s_Line_lower) (defScope s_Line_lower) [] [] f fd) (T : En P w K mg base κ cs) (k_Line : C8.Mak P w K mg base 9 "Line" (κ "Line") (spI κ (m_Line___init__ cs)) []) (c_chosen : C8.Cal P w K mg base 9 "chosen" (spP κ (m_chosen cs)) []) (c_rows_beside : C8.Cal P w K mg base 7 "rows_beside" (spP κ (m_rows_beside cs)) []) (f_Line_rows : Cls K (κ "Line") ∧ NoAttr K (κ "Line") "rows") (x_Line : κ "Line" ≠ κ "Exact") : FnOk P w K mg base CX0 11 f fd ["self", "other"] (spP κ (m_Line_lower cs)) := by
  refine F.ok sc_Line_lower (fun vs H Q E h => len_fnP h) (fun cdv A outer s H vs Q E hr h => ⟨_, PSs.nox (pss_one (ps_ret (C8.pe_mk k_Line hr (by decide) rfl (pa_cons (C8.pe_c c_chosen hr (by decide) rfl (pa_cons (pe_fldK (K := K) rfl (pv 0) rfl) (pa_cons (C8.pe_c c_rows_beside hr (by decide) rfl (pa_cons (pe_fldK (K := K) rfl (pv 0) rfl) (pa_cons (pv 1) pa_nil))) (pa_cons pe_bl pa_nil)))) pa_nil)))), ?_⟩)
  exact sim_fnP (b := b_Line_lower cs) (sim_ret (simO_p (simE_f (simO_make x_Line (simA_cons (simE_call (simA_cons (simE_fldC f_Line_rows (simE_var 0)) (simA_cons (simE_call (simA_cons (simE_fldC f_Line_rows (simE_var 0)) (simA_cons (simE_var 1) simA_nil))) (simA_cons simE_bl simA_nil)))) simA_nil))))) h rfl
abbrev s_Line_upper : Stmt := inClass (top 20) 5
abbrev N_Line_upper : List Str := ["self", "other"]
theorem sc_Line_upper : FnScope N_Line_upper ["self", "other"] (defScope s_Line_upper) := ⟨rfl, rfl, rfl, by decide +kernel, rfl, by decide +kernel, by decide +kernel⟩
theorem ok_Line_upper {f : Addr} {fd : FuncData} (F : FunD K "upper" "Line.upper" (defArgs s_Line_upper) (defBody s_Line_upper) (defScope s_Line_upper) [] [] f fd) (T : En P w K mg base κ cs) (k_Line : C8.Mak P w K mg base 9 "Line" (κ "Line") (spI κ (m_Line___init__ cs)) []) (c_chosen : C8.Cal P w K mg base 9 "chosen" (spP κ (m_chosen cs)) []) (c_rows_beside : C8.Cal P w K mg base 7 "rows_beside" (spP κ (m_rows_beside cs)) []) (f_Line_rows : Cls K (κ "Line") ∧ NoAttr K (κ "Line") "rows") (x_Line : κ "Line" ≠ κ "Exact") : FnOk P w K mg base CX0 11 f fd ["self", "other"] (spP κ (m_Line_upper cs)) := by
  refine F.ok sc_Line_upper (fun vs H Q E h => len_fnP h) (fun cdv A outer s H vs Q E hr h => ⟨_, PSs.nox (pss_one (ps_ret (C8.pe_mk k_Line hr (by decide) rfl (pa_cons (C8.pe_c c_chosen hr (by decide) rfl (pa_cons (pe_fldK (K := K) rfl (pv 0) rfl) (pa_cons (C8.pe_c c_rows_beside hr (by decide) rfl (pa_cons (pe_fldK (K := K) rfl (pv 0) rfl) (pa_cons (pv 1) pa_nil))) (pa_cons pe_bl pa_nil)))) pa_nil)))), ?_⟩)
  exact sim_fnP (b := b_Line_upper cs) (sim_ret (simO_p (simE_f (simO_make x_Line (simA_cons (simE_call (simA_cons (simE_fldC f_Line_rows (simE_var 0)) (simA_cons (simE_call (simA_cons (simE_fldC f_Line_rows (simE_var 0)) (simA_cons (simE_var 1) simA_nil))) (simA_cons simE_bl simA_nil)))) simA_nil))))) h rfl
end
end LW
set_option Elab.async false
set_option linter.all false
set_option maxRecDepth 100000
set_option maxHeartbeats 4000000
namespace UM
open PySem L2 UL
def b__law_fill (cs : List String) : MS :=
  (sSeq (sPar 1 2 (mCons (mIxV 0 (mC (.int 0))) (mCons (mIxV 0 (mC (.int 1))) mNil)))
    (sSeq (sSet 3 (mP (m2 addU (m2 mulU (mC (.int 31)) (mVar 2)) (mC (.int 7)))))
    (sSeq (sIf (mTest (m2 gtU (mN lenU (mCons (mVar 1) mNil)) (mC (.int 0)))) (sSet 3 (mP (m2 addU (m2 mulU (mC (.int 104729)) (m2 fdivU (mVar 2) (mN lenU (mCons (mVar 1) mNil)))) (m2 ixU (mVar 1) (m2 modU (mN intU (mCons (mVar 2) mNil)) (mN lenU (mCons (mVar 1) mNil))))))) sNext)
    (sSeq (sSetV 0 (mC (.int 1)) (m2 addU (mVar 2) (mC (.int 1))))
    (sSeq (sSetV 0 (mC (.int 3)) (mOrV (m2 geU (mVar 2) (mN lenU (mCons (mVar 1) mNil))) (m2 ltU (mVar 3) (m2 powU (mC (.int 10)) (mC (.int 18))))))
    (sSeq (sSetV 0 (mC (.int 2)) (m2 subU (mVar 3) (m2 powU (mC (.int 10)) (mC (.int 18)))))
    (sIf (mTest (mIxV 0 (mC (.int 3)))) (sSeq (sSetV 0 (mC (.int 2)) (mC (.int 0)))
    (sFor (mEnumS (mCons (mTup (mCons (mC (.int 2147483647)) (mCons (mC (.int 2147483629)) (mCons (mC (.int 2147483587)) (mCons (mC (.int 2147483579)) (mCons (mC (.int 2147483563)) mNil)))))) mNil)) (gT 2 (gsCons (gN 4) (gsCons (gN 5) gsNil))) (sSeq (sSet 6 (mP (m2 modU (mN intU (mCons (m2 mulU (m2 addU (m2 addU (mVar 3) (m2 mulU (m2 mulU (mC (.int 10007)) (mVar 4)) (mVar 4))) (m2 mulU (mC (.int 101)) (mVar 4))) (m2 addU (mC (.int 48271)) (m2 mulU (mC (.int 2)) (mVar 4)))) mNil)) (mVar 5))))
    (sSetV 0 (mC (.int 2)) (m2 addU (m2 mulU (mIxV 0 (mC (.int 2))) (mVar 5)) (m2 modU (mN intU (mCons (m2 powU (mVar 6) (mC (.int 5))) mNil)) (mVar 5))))))) sNext)))))))
def m__law_fill (cs : List String) : Ow → List U → Option (U × Ow) := fnI 1 6 (b__law_fill cs)
def b__law_take (cs : List String) : MS :=
  (sSeq (sSet 2 (mP (mC (.int 0))))
    (sSeq (whileO (mAnd (mTest (m2 ltU (mVar 2) (mC (.int 64)))) (mOr (mTest (m2 (eqU 0) (mIxV 0 (mC (.int 2))) (mC (.int 0)))) (mAnd (mTest (mIxV 0 (mC (.int 3)))) (mTest (m2 ltU (mIxV 0 (mC (.int 2))) (m2 mulU (mVar 1) (mC (.int 4096)))))))) (sSeq (sDrop (mCallI 0 (m__law_fill cs) mNil))
    (sSeq (sAug 2 addI (mC (.int 1)))
    (sIf (mAnd (mTest (mIxV 0 (mC (.int 3)))) (mTest (m2 ltU (mIxV 0 (mC (.int 2))) (m2 mulU (mVar 1) (mC (.int 4096)))))) (sSetV 0 (mC (.int 2)) (m2 addU (mIxV 0 (mC (.int 2))) (m2 mulU (m2 mulU (mVar 1) (mC (.int 4096))) (m2 addU (mC (.int 1)) (m2 modU (mN intU (mCons (mIxV 0 (mC (.int 2))) mNil)) (mC (.int 4093))))))) sNext))) fuel)
    (sSeq (sSet 3 (mP (m2 modU (mN intU (mCons (mIxV 0 (mC (.int 2))) mNil)) (mVar 1))))
    (sSeq (sSetV 0 (mC (.int 2)) (m2 fdivU (mIxV 0 (mC (.int 2))) (mVar 1)))
    (sRet (mP (mVar 3)))))))
def m__law_take (cs : List String) : Ow → List U → Option (U × Ow) := fnI 2 2 (b__law_take cs)
def b__law_one (cs : List String) : MS :=
  (sRet (mP (m2 ixU (mVar 1) (mCallI 0 (m__law_take cs) (mCons (mN lenU (mCons (mVar 1) mNil)) mNil)))))
def m__law_one (cs : List String) : Ow → List U → Option (U × Ow) := fnI 2 0 (b__law_one cs)
end UM
set_option Elab.async false
set_option linter.all false
set_option maxRecDepth 100000
set_option maxHeartbeats 4000000
namespace LW
open PySem PySem.Spec PyProof.Rows L2 LV LM UL UM
section
variable {P : Program} {w : World} {K : PySem.W.Frag} {mg : Str → Option Value} {base : Heap} {κ : String → Addr} {cs : List String}
abbrev s__law_fill : Stmt := top 27
abbrev N__law_fill : List Str := ["_law_state", "_law_cells", "_law_nth", "_law_seed", "_law_k", "_law_prime", "_law_far"]
theorem sc__law_fill : FnScope N__law_fill ["_law_state"] (defScope s__law_fill) := ⟨rfl, rfl, rfl, by decide +kernel, rfl, by decide +kernel, by decide +kernel⟩
theorem ok__law_fill {f : Addr} {fd : FuncData} (F : FunD K "_law_fill" "_law_fill" (defArgs s__law_fill) (defBody s__law_fill) (defScope s__law_fill) [] [] f fd) (T : En P w K mg base κ cs)  : FnOk P w K mg base CX0 7 f fd ["_law_state"] (spI κ (m__law_fill cs)) := by
  refine F.ok sc__law_fill (fun vs H Q E h => len_fnI h) (fun cdv A outer s H vs Q E hr h => ⟨_, PSs.nox (pss_cons (ps_par (i := 1) (j := 2) rfl sc__law_fill.nd rfl rfl (by decide) rfl rfl (pa_cons (pe_ix (ix_listK (K := K) rfl) (pv 0) pe_int (fun _ _ => rfl)) (pa_cons (pe_ix (ix_listK (K := K) rfl) (pv 0) pe_int (fun _ _ => rfl)) pa_nil)) rfl)
      (pss_cons (ps_set (i := 3) sc__law_fill.nd rfl (Or.inl rfl) (pe_op (op_addU T.B ⟨rfl, rfl, rfl, rfl, rfl⟩ hr) (pe_op (op_mulU T.B ⟨rfl, rfl, rfl, rfl, rfl⟩ hr) pe_int (pv 2)) pe_int))
      (pss_cons (ps_if (pt_cmpR (op_gtU T.B ⟨rfl, rfl, rfl, rfl, rfl⟩ hr) (pe_callB (call_lenU (κ := κ)) rfl (T.free "len" (by decide +kernel)) (by decide +kernel) (pa_cons (pv 1) pa_nil)) pe_int (nomark _)) (pss_one (ps_set (i := 3) sc__law_fill.nd rfl (Or.inl rfl) (pe_op (op_addU T.B ⟨rfl, rfl, rfl, rfl, rfl⟩ hr) (pe_op (op_mulU T.B ⟨rfl, rfl, rfl, rfl, rfl⟩ hr) pe_int (pe_op (op_fdivU (κ := κ)) (pv 2) (pe_callB (call_lenU (κ := κ)) rfl (T.free "len" (by decide +kernel)) (by decide +kernel) (pa_cons (pv 1) pa_nil)))) (pe_ix (ix_U (κ := κ)) (pv 1) (pe_op (op_modU (κ := κ)) (pe_callTy (call_intU (κ := κ)) rfl (T.free "int" (by decide +kernel)) (by decide +kernel) (pa_cons (pv 2) pa_nil)) (pe_callB (call_lenU (κ := κ)) rfl (T.free "len" (by decide +kernel)) (by decide +kernel) (pa_cons (pv 1) pa_nil))) (fun _ _ => rfl))))) pss_nil)
      (pss_cons (ps_asg (pe_op (op_addU T.B ⟨rfl, rfl, rfl, rfl, rfl⟩ hr) (pv 2) pe_int) (pg_sub (pv 0) pe_int set_list))
      (pss_cons (ps_asg (pe_or (pe_cmpR (op_geU T.B ⟨rfl, rfl, rfl, rfl, rfl⟩ hr) (pv 2) (pe_callB (call_lenU (κ := κ)) rfl (T.free "len" (by decide +kernel)) (by decide +kernel) (pa_cons (pv 1) pa_nil)) (nomark _)) (pe_one (pe_cmpR (op_ltU T.B ⟨rfl, rfl, rfl, rfl, rfl⟩ hr) (pv 3) (pe_op (op_powU (κ := κ)) pe_int pe_int) (nomark _)))) (pg_sub (pv 0) pe_int set_list))
      (pss_cons (ps_asg (pe_op (op_subU T.B ⟨rfl, rfl, rfl, rfl, rfl⟩ hr) (pv 3) (pe_op (op_powU (κ := κ)) pe_int pe_int)) (pg_sub (pv 0) pe_int set_list))
      (pss_one (ps_if (pt_val (pe_ix (ix_listK (K := K) rfl) (pv 0) pe_int (fun _ _ => rfl))) (pss_cons (ps_asg pe_int (pg_sub (pv 0) pe_int set_list))
      (pss_one (ps_for PassesOwn.never rfl (pi_enumSK (K := K) rfl rfl (T.free "enumerate" (by decide +kernel)) (pa_cons (pe_tup (pa_cons pe_int (pa_cons pe_int (pa_cons pe_int (pa_cons pe_int (pa_cons pe_int pa_nil)))))) pa_nil)) (pg_tup rfl (pgs_cons (pg_name (i := 4) sc__law_fill.nd rfl (Or.inl rfl)) (pgs_cons (pg_name (i := 5) sc__law_fill.nd rfl (Or.inl rfl)) pgs_nil))) (pss_cons (ps_set (i := 6) sc__law_fill.nd rfl (Or.inl rfl) (pe_op (op_modU (κ := κ)) (pe_callTy (call_intU (κ := κ)) rfl (T.free "int" (by decide +kernel)) (by decide +kernel) (pa_cons (pe_op (op_mulU T.B ⟨rfl, rfl, rfl, rfl, rfl⟩ hr) (pe_op (op_addU T.B ⟨rfl, rfl, rfl, rfl, rfl⟩ hr) (pe_op (op_addU T.B ⟨rfl, rfl, rfl, rfl, rfl⟩ hr) (pv 3) (pe_op (op_mulU T.B ⟨rfl, rfl, rfl, rfl, rfl⟩ hr) (pe_op (op_mulU T.B ⟨rfl, rfl, rfl, rfl, rfl⟩ hr) pe_int (pv 4)) (pv 4))) (pe_op (op_mulU T.B ⟨rfl, rfl, rfl, rfl, rfl⟩ hr) pe_int (pv 4))) (pe_op (op_addU T.B ⟨rfl, rfl, rfl, rfl, rfl⟩ hr) pe_int (pe_op (op_mulU T.B ⟨rfl, rfl, rfl, rfl, rfl⟩ hr) pe_int (pv 4)))) pa_nil)) (pv 5)))
      (pss_one (ps_asg (pe_op (op_addU T.B ⟨rfl, rfl, rfl, rfl, rfl⟩ hr) (pe_op (op_mulU T.B ⟨rfl, rfl, rfl, rfl, rfl⟩ hr) (pe_ix (ix_listK (K := K) rfl) (pv 0) pe_int (fun _ _ => rfl)) (pv 5)) (pe_op (op_modU (κ := κ)) (pe_callTy (call_intU (κ := κ)) rfl (T.free "int" (by decide +kernel)) (by decide +kernel) (pa_cons (pe_op (op_powU (κ := κ)) (pv 6) pe_int) pa_nil)) (pv 5))) (pg_sub (pv 0) pe_int set_list))))))) pss_nil)))))))), ?_⟩)
  exact sim_fnI (b := b__law_fill cs) (sim_seq (sim_par (simA_cons (simE_ixV simE_int) (simA_cons (simE_ixV simE_int) simA_nil)))
      (sim_seq (sim_set 3 (simO_p (simE_op (simE_op simE_int (simE_var 2)) simE_int)))
      (sim_seq (sim_if (simT_test (simE_op (simE_cb (simA_cons (simE_var 1) simA_nil)) simE_int)) (sim_set 3 (simO_p (simE_op (simE_op simE_int (simE_op (simE_var 2) (simE_cb (simA_cons (simE_var 1) simA_nil)))) (simE_op (simE_var 1) (simE_op (simE_cb (simA_cons (simE_var 2) simA_nil)) (simE_cb (simA_cons (simE_var 1) simA_nil))))))) sim_next)
      (sim_seq (sim_setV simE_int (simE_op (simE_var 2) simE_int))
      (sim_seq (sim_setV simE_int (simE_orV (simE_op (simE_var 2) (simE_cb (simA_cons (simE_var 1) simA_nil))) (simE_op (simE_var 3) (simE_op simE_int simE_int))))
      (sim_seq (sim_setV simE_int (simE_op (simE_var 3) (simE_op simE_int simE_int)))
      (sim_if (simT_B (simE_ixV simE_int)) (sim_seq (sim_setV simE_int simE_int)
      (sim_for (simI_enumS (simA_cons (simE_tup (simA_cons simE_int (simA_cons simE_int (simA_cons simE_int (simA_cons simE_int (simA_cons simE_int simA_nil)))))) simA_nil)) (simG_tup (simGs_cons (simG_name 4) (simGs_cons (simG_name 5) simGs_nil))) (sim_seq (sim_set 6 (simO_p (simE_op (simE_cb (simA_cons (simE_op (simE_op (simE_op (simE_var 3) (simE_op (simE_op simE_int (simE_var 4)) (simE_var 4))) (simE_op simE_int (simE_var 4))) (simE_op simE_int (simE_op simE_int (simE_var 4)))) simA_nil)) (simE_var 5))))
      (sim_setV simE_int (simE_op (simE_op (simE_ixV simE_int) (simE_var 5)) (simE_op (simE_cb (simA_cons (simE_op (simE_var 6) simE_int) simA_nil)) (simE_var 5))))))) sim_next))))))) h rfl
abbrev s__law_take : Stmt := top 28
abbrev N__law_take : List Str := ["_law_state", "_law_many", "_law_laps", "_law_digit"]
theorem sc__law_take : FnScope N__law_take ["_law_state", "_law_many"] (defScope s__law_take) := ⟨rfl, rfl, rfl, by decide +kernel, rfl, by decide +kernel, by decide +kernel⟩
theorem ok__law_take {f : Addr} {fd : FuncData} (F : FunD K "_law_take" "_law_take" (defArgs s__law_take) (defBody s__law_take) (defScope s__law_take) [] [] f fd) (T : En P w K mg base κ cs) (c__law_fill : C8.Cal P w K mg base 7 "_law_fill" (spI κ (m__law_fill cs)) []) : FnOk P w K mg base CX0 8 f fd ["_law_state", "_law_many"] (spI κ (m__law_take cs)) := by
  refine F.ok sc__law_take (fun vs H Q E h => len_fnI h) (fun cdv A outer s H vs Q E hr h => ⟨_, PSs.nox (pss_cons (ps_set (i := 2) sc__law_take.nd rfl (Or.inl rfl) pe_int)
      (pss_cons (ps_while PassesOwn.never (PW.pt (pw_and (pt_cmpR (op_ltU T.B ⟨rfl, rfl, rfl, rfl, rfl⟩ hr) (pv 2) pe_int (nomark _)) (pw_and1 (PW.pt (pw_or (pt_cmpR (op_eqU T.B ⟨rfl, rfl, rfl, rfl, rfl⟩ hr 0) (pe_ix (ix_listK (K := K) rfl) (pv 0) pe_int (fun _ _ => rfl)) pe_int (nomark _)) (pw_or1 (PW.pt (pw_and (pt_val (pe_ix (ix_listK (K := K) rfl) (pv 0) pe_int (fun _ _ => rfl))) (pw_and1 (pt_cmpR (op_ltU T.B ⟨rfl, rfl, rfl, rfl, rfl⟩ hr) (pe_ix (ix_listK (K := K) rfl) (pv 0) pe_int (fun _ _ => rfl)) (pe_op (op_mulU T.B ⟨rfl, rfl, rfl, rfl, rfl⟩ hr) (pv 1) pe_int) (nomark _))))))))))) (pss_cons (ps_expr (C8.pe_c c__law_fill hr (by decide) rfl (pa_cons (pv 0) pa_nil)))
      (pss_cons (ps_aug (i := 2) sc__law_take.nd rfl (Or.inl rfl) pe_int (ip_addU (κ := κ)))
      (pss_one (ps_if (PW.pt (pw_and (pt_val (pe_ix (ix_listK (K := K) rfl) (pv 0) pe_int (fun _ _ => rfl))) (pw_and1 (pt_cmpR (op_ltU T.B ⟨rfl, rfl, rfl, rfl, rfl⟩ hr) (pe_ix (ix_listK (K := K) rfl) (pv 0) pe_int (fun _ _ => rfl)) (pe_op (op_mulU T.B ⟨rfl, rfl, rfl, rfl, rfl⟩ hr) (pv 1) pe_int) (nomark _))))) (pss_one (ps_asg (pe_op (op_addU T.B ⟨rfl, rfl, rfl, rfl, rfl⟩ hr) (pe_ix (ix_listK (K := K) rfl) (pv 0) pe_int (fun _ _ => rfl)) (pe_op (op_mulU T.B ⟨rfl, rfl, rfl, rfl, rfl⟩ hr) (pe_op (op_mulU T.B ⟨rfl, rfl, rfl, rfl, rfl⟩ hr) (pv 1) pe_int) (pe_op (op_addU T.B ⟨rfl, rfl, rfl, rfl, rfl⟩ hr) pe_int (pe_op (op_modU (κ := κ)) (pe_callTy (call_intU (κ := κ)) rfl (T.free "int" (by decide +kernel)) (by decide +kernel) (pa_cons (pe_ix (ix_listK (K := K) rfl) (pv 0) pe_int (fun _ _ => rfl)) pa_nil)) pe_int)))) (pg_sub (pv 0) pe_int set_list))) pss_nil)))))
      (pss_cons (ps_set (i := 3) sc__law_take.nd rfl (Or.inl rfl) (pe_op (op_modU (κ := κ)) (pe_callTy (call_intU (κ := κ)) rfl (T.free "int" (by decide +kernel)) (by decide +kernel) (pa_cons (pe_ix (ix_listK (K := K) rfl) (pv 0) pe_int (fun _ _ => rfl)) pa_nil)) (pv 1)))
      (pss_cons (ps_asg (pe_op (op_fdivU (κ := κ)) (pe_ix (ix_listK (K := K) rfl) (pv 0) pe_int (fun _ _ => rfl)) (pv 1)) (pg_sub (pv 0) pe_int set_list))
      (pss_one (ps_ret (pv 3))))))), ?_⟩)
  exact sim_fnI (b := b__law_take cs) (sim_seq (sim_set 2 (simO_p simE_int))
      (sim_seq (sim_while fuel (simT_and (simT_test (simE_op (simE_var 2) simE_int)) (simT_or (simT_test (simE_op (simE_ixV simE_int) simE_int)) (simT_and (simT_B (simE_ixV simE_int)) (simT_test (simE_op (simE_ixV simE_int) (simE_op (simE_var 1) simE_int)))))) (sim_seq (sim_drop (simE_callI simA_nil))
      (sim_seq (sim_aug simE_int)
      (sim_if (simT_and (simT_B (simE_ixV simE_int)) (simT_test (simE_op (simE_ixV simE_int) (simE_op (simE_var 1) simE_int)))) (sim_setV simE_int (simE_op (simE_ixV simE_int) (simE_op (simE_op (simE_var 1) simE_int) (simE_op simE_int (simE_op (simE_cb (simA_cons (simE_ixV simE_int) simA_nil)) simE_int))))) sim_next))))
      (sim_seq (sim_set 3 (simO_p (simE_op (simE_cb (simA_cons (simE_ixV simE_int) simA_nil)) (simE_var 1))))
      (sim_seq (sim_setV simE_int (simE_op (simE_ixV simE_int) (simE_var 1)))
      (sim_ret (simO_p (simE_var 3))))))) h rfl
abbrev s__law_one : Stmt := top 29
abbrev N__law_one : List Str := ["_law_state", "_law_things"]
theorem sc__law_one : FnScope N__law_one ["_law_state", "_law_things"] (defScope s__law_one) := ⟨rfl, rfl, rfl, by decide +kernel, rfl, by decide +kernel, by decide +kernel⟩
theorem ok__law_one {f : Addr} {fd : FuncData} (F : FunD K "_law_one" "_law_one" (defArgs s__law_one) (defBody s__law_one) (defScope s__law_one) [] [] f fd) (T : En P w K mg base κ cs) (c__law_take : C8.Cal P w K mg base 8 "_law_take" (spI κ (m__law_take cs)) []) : FnOk P w K mg base CX0 9 f fd ["_law_state", "_law_things"] (spI κ (m__law_one cs)) := by
  refine F.ok sc__law_one (fun vs H Q E h => len_fnI h) (fun cdv A outer s H vs Q E hr h => ⟨_, PSs.nox (pss_one (ps_ret (pe_ix (ix_U (κ := κ)) (pv 1) (C8.pe_c c__law_take hr (by decide) rfl (pa_cons (pv 0) (pa_cons (pe_callB (call_lenU (κ := κ)) rfl (T.free "len" (by decide +kernel)) (by decide +kernel) (pa_cons (pv 1) pa_nil)) pa_nil))) (fun _ _ => rfl)))), ?_⟩)
  exact sim_fnI (b := b__law_one cs) (sim_ret (simO_p (simE_op (simE_var 1) (simE_callI (simA_cons (simE_cb (simA_cons (simE_var 1) simA_nil)) simA_nil))))) h rfl
end
end LW
set_option Elab.async false
set_option linter.all false
set_option maxRecDepth 100000
set_option maxHeartbeats 4000000
namespace UM
open PySem L2 UL
def b__law_gcd (cs : List String) : MS :=
  (sSeq (whileO (mTest (m2 neU (mVar 1) (mC (.int 0)))) (sPar 0 1 (mCons (mVar 1) (mCons (m2 modU (mVar 0) (mVar 1)) mNil))) fuel)
    (sRet (mP (mIf (mTest (m2 gtU (mVar 0) (mC (.int 0)))) (mVar 0) (m1 negU (mVar 0))))))
def m__law_gcd (cs : List String) : List U → Option U := fnP 2 0 (b__law_gcd cs)
def b__law_frac (cs : List String) : MS :=
  (sSeq (sSet 2 (mP (mN (m__law_gcd cs) (mCons (mVar 0) (mCons (mVar 1) mNil)))))
    (sSeq (sSet 2 (mP (mIf (mTest (m2 ltU (mVar 1) (mC (.int 0)))) (m1 negU (mVar 2)) (mVar 2))))
    (sRet (mP (mTup (mCons (m2 fdivU (mVar 0) (mVar 2)) (mCons (m2 fdivU (mVar 1) (mVar 2)) mNil)))))))
def m__law_frac (cs : List String) : List U → Option U := fnP 2 1 (b__law_frac cs)
def b__law_add (cs : List String) : MS :=
  (sRet (mP (mN (m__law_frac cs) (mCons (m2 addU (m2 mulU (m2 ixU (mVar 0) (mC (.int 0))) (m2 ixU (mVar 1) (mC (.int 1)))) (m2 mulU (m2 ixU (mVar 1) (mC (.int 0))) (m2 ixU (mVar 0) (mC (.int 1))))) (mCons (m2 mulU (m2 ixU (mVar 0) (mC (.int 1))) (m2 ixU (mVar 1) (mC (.int 1)))) mNil)))))
def m__law_add (cs : List String) : List U → Option U := fnP 2 0 (b__law_add cs)
def b__law_mul (cs : List String) : MS :=
  (sRet (mP (mN (m__law_frac cs) (mCons (m2 mulU (m2 ixU (mVar 0) (mC (.int 0))) (m2 ixU (mVar 1) (mC (.int 0)))) (mCons (m2 mulU (m2 ixU (mVar 0) (mC (.int 1))) (m2 ixU (mVar 1) (mC (.int 1)))) mNil)))))
def m__law_mul (cs : List String) : List U → Option U := fnP 2 0 (b__law_mul cs)
def b__law_less (cs : List String) : MS :=
  (sRet (mP (m2 ltU (m2 mulU (m2 ixU (mVar 0) (mC (.int 0))) (m2 ixU (mVar 1) (mC (.int 1)))) (m2 mulU (m2 ixU (mVar 1) (mC (.int 0))) (m2 ixU (mVar 0) (mC (.int 1)))))))
def m__law_less (cs : List String) : List U → Option U := fnP 2 0 (b__law_less cs)
def b__law_plain (cs : List String) : MS :=
  (sRet (mP (mIf (mTest (m2 (eqU 0) (m2 ixU (mVar 0) (mC (.int 1))) (mC (.int 1)))) (m2 ixU (mVar 0) (mC (.int 0))) (mN mkF (mCons (m2 ixU (mVar 0) (mC (.int 0))) (mCons (m2 ixU (mVar 0) (mC (.int 1))) mNil))))))
def m__law_plain (cs : List String) : List U → Option U := fnP 1 0 (b__law_plain cs)
def b__law_on (cs : List String) : MS :=
  (sSeq (sSet 2 (mP (mN lenU (mCons (mLc [4] (mSeq (mSl slU (mVar 0) (some (mC (.int 1))) (some (m1 negU (mC (.int 1)))))) (gN 4) (mNot (mTest (mN (m__law_less cs) (mCons (mVar 1) (mCons (m2 ixU (mVar 4) (mC (.int 0))) mNil))))) (mVar 4)) mNil))))
    (sSeq (sAsg (mTup (mCons (m2 ixU (mVar 0) (mVar 2)) (mCons (m2 ixU (mVar 0) (m2 addU (mVar 2) (mC (.int 1)))) mNil))) (gT 2 (gsCons (gT 2 (gsCons (gN 3) (gsCons (gN 4) gsNil))) (gsCons (gT 2 (gsCons (gN 5) (gsCons (gN 6) gsNil))) gsNil))))
    (sSeq (sPar 7 8 (mCons (mN (m__law_add cs) (mCons (mVar 1) (mCons (mTup (mCons (m1 negU (m2 ixU (mVar 3) (mC (.int 0)))) (mCons (m2 ixU (mVar 3) (mC (.int 1))) mNil))) mNil))) (mCons (mN (m__law_add cs) (mCons (mVar 5) (mCons (mTup (mCons (m1 negU (m2 ixU (mVar 3) (mC (.int 0)))) (mCons (m2 ixU (mVar 3) (mC (.int 1))) mNil))) mNil))) mNil)))
    (sSeq (sSet 9 (mP (mN (m__law_frac cs) (mCons (m2 mulU (m2 ixU (mVar 7) (mC (.int 0))) (m2 ixU (mVar 8) (mC (.int 1)))) (mCons (m2 mulU (m2 ixU (mVar 7) (mC (.int 1))) (m2 ixU (mVar 8) (mC (.int 0)))) mNil)))))
    (sRet (mP (mN (m__law_add cs) (mCons (mVar 4) (mCons (mN (m__law_mul cs) (mCons (mVar 9) (mCons (mN (m__law_add cs) (mCons (mVar 6) (mCons (mTup (mCons (m1 negU (m2 ixU (mVar 4) (mC (.int 0)))) (mCons (m2 ixU (mVar 4) (mC (.int 1))) mNil))) mNil))) mNil))) mNil)))))))))
def m__law_on (cs : List String) : List U → Option U := fnP 2 8 (b__law_on cs)
def b__law_over (cs : List String) : MS :=
  (sRet (mP (mN (m__law_frac cs) (mCons (m2 ixU (mVar 0) (mC (.int 1))) (mCons (m2 ixU (mVar 0) (mC (.int 0))) mNil)))))
def m__law_over (cs : List String) : List U → Option U := fnP 1 0 (b__law_over cs)
end UM
set_option Elab.async false
set_option linter.all false
set_option maxRecDepth 100000
set_option maxHeartbeats 4000000
namespace LW
open PySem PySem.Spec PyProof.Rows L2 LV LM UL UM
section
variable {P : Program} {w : World} {K : PySem.W.Frag} {mg : Str → Option Value} {base : Heap} {κ : String → Addr} {cs : List String}
abbrev s__law_gcd : Stmt := top 31
abbrev N__law_gcd : List Str := ["_law_a", "_law_b"]
theorem sc__law_gcd : FnScope N__law_gcd ["_law_a", "_law_b"] (defScope s__law_gcd) := ⟨rfl, rfl, rfl, by decide +kernel, rfl, by decide +kernel, by decide +kernel⟩
theorem ok__law_gcd {f : Addr} {fd : FuncData} (F : FunD K "_law_gcd" "_law_gcd" (defArgs s__law_gcd) (defBody s__law_gcd) (defScope s__law_gcd) [] [] f fd) (T : En P w K mg base κ cs)  : FnOk P w K mg base CX0 7 f fd ["_law_a", "_law_b"] (spP κ (m__law_gcd cs)) := by
  refine F.ok sc__law_gcd (fun vs H Q E h => len_fnP h) (fun cdv A outer s H vs Q E hr h => ⟨_, PSs.nox (pss_cons (ps_while PassesOwn.never (pt_cmpR (op_neU T.B ⟨rfl, rfl, rfl, rfl, rfl⟩ hr hr.units) (pv 1) pe_int (nomark _)) (pss_one (ps_par (i := 0) (j := 1) rfl sc__law_gcd.nd rfl rfl (by decide) rfl rfl (pa_cons (pv 1) (pa_cons (pe_op (op_modU (κ := κ)) (pv 0) (pv 1)) pa_nil)) rfl)))
      (pss_one (ps_ret (pe_ifExp (pt_cmpR (op_gtU T.B ⟨rfl, rfl, rfl, rfl, rfl⟩ hr) (pv 0) pe_int (nomark _)) (pv 0) (pe_un (un_negU T.B ⟨rfl, rfl, rfl, rfl, rfl⟩ hr) (pv 0)))))), ?_⟩)
  exact sim_fnP (b := b__law_gcd cs) (sim_seq (sim_while fuel (simT_test (simE_op (simE_var 1) simE_int)) (sim_par (simA_cons (simE_var 1) (simA_cons (simE_op (simE_var 0) (simE_var 1)) simA_nil))))
      (sim_ret (simO_p (simE_if (simT_test (simE_op (simE_var 0) simE_int)) (simE_var 0) (simE_un (simE_var 0)))))) h rfl
abbrev s__law_frac : Stmt := top 32
abbrev N__law_frac : List Str := ["_law_over_here", "_law_under_here", "_law_whole"]
theorem sc__law_frac : FnScope N__law_frac ["_law_over_here", "_law_under_here"] (defScope s__law_frac) := ⟨rfl, rfl, rfl, by decide +kernel, rfl, by decide +kernel, by decide +kernel⟩
theorem ok__law_frac {f : Addr} {fd : FuncData} (F : FunD K "_law_frac" "_law_frac" (defArgs s__law_frac) (defBody s__law_frac) (defScope s__law_frac) [] [] f fd) (T : En P w K mg base κ cs) (c__law_gcd : C8.Cal P w K mg base 7 "_law_gcd" (spP κ (m__law_gcd cs)) []) : FnOk P w K mg base CX0 8 f fd ["_law_over_here", "_law_under_here"] (spP κ (m__law_frac cs)) := by
  refine F.ok sc__law_frac (fun vs H Q E h => len_fnP h) (fun cdv A outer s H vs Q E hr h => ⟨_, PSs.nox (pss_cons (ps_set (i := 2) sc__law_frac.nd rfl (Or.inl rfl) (C8.pe_c c__law_gcd hr (by decide) rfl (pa_cons (pv 0) (pa_cons (pv 1) pa_nil))))
      (pss_cons (ps_set (i := 2) sc__law_frac.nd rfl (Or.inl rfl) (pe_ifExp (pt_cmpR (op_ltU T.B ⟨rfl, rfl, rfl, rfl, rfl⟩ hr) (pv 1) pe_int (nomark _)) (pe_un (un_negU T.B ⟨rfl, rfl, rfl, rfl, rfl⟩ hr) (pv 2)) (pv 2)))
      (pss_one (ps_ret (pe_tup (pa_cons (pe_op (op_fdivU (κ := κ)) (pv 0) (pv 2)) (pa_cons (pe_op (op_fdivU (κ := κ)) (pv 1) (pv 2)) pa_nil))))))), ?_⟩)
  exact sim_fnP (b := b__law_frac cs) (sim_seq (sim_set 2 (simO_p (simE_call (simA_cons (simE_var 0) (simA_cons (simE_var 1) simA_nil)))))
      (sim_seq (sim_set 2 (simO_p (simE_if (simT_test (simE_op (simE_var 1) simE_int)) (simE_un (simE_var 2)) (simE_var 2))))
      (sim_ret (simO_p (simE_tup (simA_cons (simE_op (simE_var 0) (simE_var 2)) (simA_cons (simE_op (simE_var 1) (simE_var 2)) simA_nil))))))) h rfl
abbrev s__law_add : Stmt := top 33
abbrev N__law_add : List Str := ["_law_a", "_law_b"]
theorem sc__law_add : FnScope N__law_add ["_law_a", "_law_b"] (defScope s__law_add) := ⟨rfl, rfl, rfl, by decide +kernel, rfl, by decide +kernel, by decide +kernel⟩
theorem ok__law_add {f : Addr} {fd : FuncData} (F : FunD K "_law_add" "_law_add" (defArgs s__law_add) (defBody s__law_add) (defScope s__law_add) [] [] f fd) (T : En P w K mg base κ cs) (c__law_frac : C8.Cal P w K mg base 8 "_law_frac" (spP κ (m__law_frac cs)) []) : FnOk P w K mg base CX0 9 f fd ["_law_a", "_law_b"] (spP κ (m__law_add cs)) := by
  refine F.ok sc__law_add (fun vs H Q E h => len_fnP h) (fun cdv A outer s H vs Q E hr h => ⟨_, PSs.nox (pss_one (ps_ret (C8.pe_c c__law_frac hr (by decide) rfl (pa_cons (pe_op (op_addU T.B ⟨rfl, rfl, rfl, rfl, rfl⟩ hr) (pe_op (op_mulU T.B ⟨rfl, rfl, rfl, rfl, rfl⟩ hr) (pe_ix (ix_U (κ := κ)) (pv 0) pe_int (fun _ _ => rfl)) (pe_ix (ix_U (κ := κ)) (pv 1) pe_int (fun _ _ => rfl))) (pe_op (op_mulU T.B ⟨rfl, rfl, rfl, rfl, rfl⟩ hr) (pe_ix (ix_U (κ := κ)) (pv 1) pe_int (fun _ _ => rfl)) (pe_ix (ix_U (κ := κ)) (pv 0) pe_int (fun _ _ => rfl)))) (pa_cons (pe_op (op_mulU T.B ⟨rfl, rfl, rfl, rfl, rfl⟩ hr) (pe_ix (ix_U (κ := κ)) (pv 0) pe_int (fun _ _ => rfl)) (pe_ix (ix_U (κ := κ)) (pv 1) pe_int (fun _ _ => rfl))) pa_nil))))), ?_⟩)
  exact sim_fnP (b := b__law_add cs) (sim_ret (simO_p (simE_call (simA_cons (simE_op (simE_op (simE_op (simE_var 0) simE_int) (simE_op (simE_var 1) simE_int)) (simE_op (simE_op (simE_var 1) simE_int) (simE_op (simE_var 0) simE_int))) (simA_cons (simE_op (simE_op (simE_var 0) simE_int) (simE_op (simE_var 1) simE_int)) simA_nil))))) h rfl
abbrev s__law_mul : Stmt := top 34
abbrev N__law_mul : List Str := ["_law_a", "_law_b"]
theorem sc__law_mul : FnScope N__law_mul ["_law_a", "_law_b"] (defScope s__law_mul) := ⟨rfl, rfl, rfl, by decide +kernel, rfl, by decide +kernel, by decide +kernel⟩
theorem ok__law_mul {f : Addr} {fd : FuncData} (F : FunD K "_law_mul" "_law_mul" (defArgs s__law_mul) (defBody s__law_mul) (defScope s__law_mul) [] [] f fd) (T : En P w K mg base κ cs) (c__law_frac : C8.Cal P w K mg base 8 "_law_frac" (spP κ (m__law_frac cs)) []) : FnOk P w K mg base CX0 9 f fd ["_law_a", "_law_b"] (spP κ (m__law_mul cs)) := by
  refine F.ok sc__law_mul (fun vs H Q E h => len_fnP h) (fun cdv A outer s H vs Q E hr h => ⟨_, PSs.nox (pss_one (ps_ret (C8.pe_c c__law_frac hr (by decide) rfl (pa_cons (pe_op (op_mulU T.B ⟨rfl, rfl, rfl, rfl, rfl⟩ hr) (pe_ix (ix_U (κ := κ)) (pv 0) pe_int (fun _ _ => rfl)) (pe_ix (ix_U (κ := κ)) (pv 1) pe_int (fun _ _ => rfl))) (pa_cons (pe_op (op_mulU T.B ⟨rfl, rfl, rfl, rfl, rfl⟩ hr) (pe_ix (ix_U (κ := κ)) (pv 0) pe_int (fun _ _ => rfl)) (pe_ix (ix_U (κ := κ)) (pv 1) pe_int (fun _ _ => rfl))) pa_nil))))), ?_⟩)
  exact sim_fnP (b := b__law_mul cs) (sim_ret (simO_p (simE_call (simA_cons (simE_op (simE_op (simE_var 0) simE_int) (simE_op (simE_var 1) simE_int)) (simA_cons (simE_op (simE_op (simE_var 0) simE_int) (simE_op (simE_var 1) simE_int)) simA_nil))))) h rfl
abbrev s__law_less : Stmt := top 35
abbrev N__law_less : List Str := ["_law_a", "_law_b"]
theorem sc__law_less : FnScope N__law_less ["_law_a", "_law_b"] (defScope s__law_less) := ⟨rfl, rfl, rfl, by decide +kernel, rfl, by decide +kernel, by decide +kernel⟩
theorem ok__law_less {f : Addr} {fd : FuncData} (F : FunD K "_law_less" "_law_less" (defArgs s__law_less) (defBody s__law_less) (defScope s__law_less) [] [] f fd) (T : En P w K mg base κ cs)  : FnOk P w K mg base CX0 7 f fd ["_law_a", "_law_b"] (spP κ (m__law_less cs)) := by
  refine F.ok sc__law_less (fun vs H Q E h => len_fnP h) (fun cdv A outer s H vs Q E hr h => ⟨_, PSs.nox (pss_one (ps_ret (pe_cmpR (op_ltU T.B ⟨rfl, rfl, rfl, rfl, rfl⟩ hr) (pe_op (op_mulU T.B ⟨rfl, rfl, rfl, rfl, rfl⟩ hr) (pe_ix (ix_U (κ := κ)) (pv 0) pe_int (fun _ _ => rfl)) (pe_ix (ix_U (κ := κ)) (pv 1) pe_int (fun _ _ => rfl))) (pe_op (op_mulU T.B ⟨rfl, rfl, rfl, rfl, rfl⟩ hr) (pe_ix (ix_U (κ := κ)) (pv 1) pe_int (fun _ _ => rfl)) (pe_ix (ix_U (κ := κ)) (pv 0) pe_int (fun _ _ => rfl))) (nomark _)))), ?_⟩)
  exact sim_fnP (b := b__law_less cs) (sim_ret (simO_p (simE_op (simE_op (simE_op (simE_var 0) simE_int) (simE_op (simE_var 1) simE_int)) (simE_op (simE_op (simE_var 1) simE_int) (simE_op (simE_var 0) simE_int))))) h rfl
abbrev s__law_plain : Stmt := top 36
abbrev N__law_plain : List Str := ["_law_a"]
theorem sc__law_plain : FnScope N__law_plain ["_law_a"] (defScope s__law_plain) := ⟨rfl, rfl, rfl, by decide +kernel, rfl, by decide +kernel, by decide +kernel⟩
theorem ok__law_plain {f : Addr} {fd : FuncData} (F : FunD K "_law_plain" "_law_plain" (defArgs s__law_plain) (defBody s__law_plain) (defScope s__law_plain) [] [] f fd) (T : En P w K mg base κ cs) (k_Exact : C8.Mak P w K mg base 2 "Exact" (κ "Exact") (spInit (κ "Exact")) []) : FnOk P w K mg base CX0 7 f fd ["_law_a"] (spP κ (m__law_plain cs)) := by
  refine F.ok sc__law_plain (fun vs H Q E h => len_fnP h) (fun cdv A outer s H vs Q E hr h => ⟨_, PSs.nox (pss_one (ps_ret (pe_ifExp (pt_cmpR (op_eqU T.B ⟨rfl, rfl, rfl, rfl, rfl⟩ hr 0) (pe_ix (ix_U (κ := κ)) (pv 0) pe_int (fun _ _ => rfl)) pe_int (nomark _)) (pe_ix (ix_U (κ := κ)) (pv 0) pe_int (fun _ _ => rfl)) (C8.pe_mk k_Exact hr (by decide) rfl (pa_cons (pe_ix (ix_U (κ := κ)) (pv 0) pe_int (fun _ _ => rfl)) (pa_cons (pe_ix (ix_U (κ := κ)) (pv 0) pe_int (fun _ _ => rfl)) pa_nil)))))), ?_⟩)
  exact sim_fnP (b := b__law_plain cs) (sim_ret (simO_p (simE_if (simT_test (simE_op (simE_op (simE_var 0) simE_int) simE_int)) (simE_op (simE_var 0) simE_int) (simE_mkX (simA_cons (simE_op (simE_var 0) simE_int) (simA_cons (simE_op (simE_var 0) simE_int) simA_nil)) rfl)))) h rfl
abbrev s__law_on : Stmt := top 37
abbrev N__law_on : List Str := ["_law_course", "_law_t", "_law_k", "_law_a", "_law_x", "_law_b", "_law_y", "_law_one_here", "_law_whole", "_law_share"]
theorem sc__law_on : FnScope N__law_on ["_law_course", "_law_t"] (defScope s__law_on) := ⟨rfl, rfl, rfl, by decide +kernel, rfl, by decide +kernel, by decide +kernel⟩
theorem ok__law_on {f : Addr} {fd : FuncData} (F : FunD K "_law_on" "_law_on" (defArgs s__law_on) (defBody s__law_on) (defScope s__law_on) [] [] f fd) (T : En P w K mg base κ cs) (c__law_add : C8.Cal P w K mg base 9 "_law_add" (spP κ (m__law_add cs)) []) (c__law_mul : C8.Cal P w K mg base 9 "_law_mul" (spP κ (m__law_mul cs)) []) (c__law_frac : C8.Cal P w K mg base 8 "_law_frac" (spP κ (m__law_frac cs)) []) (c__law_less : C8.Cal P w K mg base 7 "_law_less" (spP κ (m__law_less cs)) []) : FnOk P w K mg base CX0 10 f fd ["_law_course", "_law_t"] (spP κ (m__law_on cs)) := by
  refine F.ok sc__law_on (fun vs H Q E h => len_fnP h) (fun cdv A outer s H vs Q E hr h => ⟨_, PSs.nox (pss_cons (ps_set (i := 2) sc__law_on.nd rfl (Or.inl rfl) (pe_callB (call_lenU (κ := κ)) rfl (T.free "len" (by decide +kernel)) (by decide +kernel) (pa_cons (pe_lc (own := [("_law_x", 4)]) (g := (gName 4)) (tt := _) rfl sc__law_on.nd (pi_seqK (K := K) rfl (pe_slice (sl_U (κ := κ)) (pv 0) (po_some pe_int) (po_some (pe_un (un_negU T.B ⟨rfl, rfl, rfl, rfl, rfl⟩ hr) pe_int)))) (blkOk_by (N := N__law_on) (sc := defScope s__law_on) (by decide +kernel)) (fun _ _ _ _ _ => by exact (pg_name (i := 4) sc__law_on.nd rfl (Or.inl rfl))) (fun _ _ _ _ _ => (pts_one (pt_not (pt_val (C8.pe_c c__law_less hr (by decide) rfl (pa_cons (pv 1) (pa_cons (pe_ix (ix_U (κ := κ)) (pv 4) pe_int (fun _ _ => rfl)) pa_nil))))))) (fun _ _ _ _ _ => by exact (pv 4))) pa_nil)))
      (pss_cons (ps_asg (pe_tup (pa_cons (pe_ix (ix_U (κ := κ)) (pv 0) (pv 2) (fun _ _ => rfl)) (pa_cons (pe_ix (ix_U (κ := κ)) (pv 0) (pe_op (op_addU T.B ⟨rfl, rfl, rfl, rfl, rfl⟩ hr) (pv 2) pe_int) (fun _ _ => rfl)) pa_nil))) (pg_tup rfl (pgs_cons (pg_tup rfl (pgs_cons (pg_name (i := 3) sc__law_on.nd rfl (Or.inl rfl)) (pgs_cons (pg_name (i := 4) sc__law_on.nd rfl (Or.inl rfl)) pgs_nil))) (pgs_cons (pg_tup rfl (pgs_cons (pg_name (i := 5) sc__law_on.nd rfl (Or.inl rfl)) (pgs_cons (pg_name (i := 6) sc__law_on.nd rfl (Or.inl rfl)) pgs_nil))) pgs_nil))))
      (pss_cons (ps_par (i := 7) (j := 8) rfl sc__law_on.nd rfl rfl (by decide) rfl rfl (pa_cons (C8.pe_c c__law_add hr (by decide) rfl (pa_cons (pv 1) (pa_cons (pe_tup (pa_cons (pe_un (un_negU T.B ⟨rfl, rfl, rfl, rfl, rfl⟩ hr) (pe_ix (ix_U (κ := κ)) (pv 3) pe_int (fun _ _ => rfl))) (pa_cons (pe_ix (ix_U (κ := κ)) (pv 3) pe_int (fun _ _ => rfl)) pa_nil))) pa_nil))) (pa_cons (C8.pe_c c__law_add hr (by decide) rfl (pa_cons (pv 5) (pa_cons (pe_tup (pa_cons (pe_un (un_negU T.B ⟨rfl, rfl, rfl, rfl, rfl⟩ hr) (pe_ix (ix_U (κ := κ)) (pv 3) pe_int (fun _ _ => rfl))) (pa_cons (pe_ix (ix_U (κ := κ)) (pv 3) pe_int (fun _ _ => rfl)) pa_nil))) pa_nil))) pa_nil)) rfl)
      (pss_cons (ps_set (i := 9) sc__law_on.nd rfl (Or.inl rfl) (C8.pe_c c__law_frac hr (by decide) rfl (pa_cons (pe_op (op_mulU T.B ⟨rfl, rfl, rfl, rfl, rfl⟩ hr) (pe_ix (ix_U (κ := κ)) (pv 7) pe_int (fun _ _ => rfl)) (pe_ix (ix_U (κ := κ)) (pv 8) pe_int (fun _ _ => rfl))) (pa_cons (pe_op (op_mulU T.B ⟨rfl, rfl, rfl, rfl, rfl⟩ hr) (pe_ix (ix_U (κ := κ)) (pv 7) pe_int (fun _ _ => rfl)) (pe_ix (ix_U (κ := κ)) (pv 8) pe_int (fun _ _ => rfl))) pa_nil))))
      (pss_one (ps_ret (C8.pe_c c__law_add hr (by decide) rfl (pa_cons (pv 4) (pa_cons (C8.pe_c c__law_mul hr (by decide) rfl (pa_cons (pv 9) (pa_cons (C8.pe_c c__law_add hr (by decide) rfl (pa_cons (pv 6) (pa_cons (pe_tup (pa_cons (pe_un (un_negU T.B ⟨rfl, rfl, rfl, rfl, rfl⟩ hr) (pe_ix (ix_U (κ := κ)) (pv 4) pe_int (fun _ _ => rfl))) (pa_cons (pe_ix (ix_U (κ := κ)) (pv 4) pe_int (fun _ _ => rfl)) pa_nil))) pa_nil))) pa_nil))) pa_nil))))))))), ?_⟩)
  exact sim_fnP (b := b__law_on cs) (sim_seq (sim_set 2 (simO_p (simE_cb (simA_cons (simE_lc (vs := [4]) (simI_seq (simE_sl (simE_var 0) (simPt_some simE_int) (simPt_some (simE_un simE_int)))) (simG_name 4) (simT_not (simT_B (simE_call (simA_cons (simE_var 1) (simA_cons (simE_op (simE_var 4) simE_int) simA_nil))))) (simE_var 4)) simA_nil))))
      (sim_seq (sim_asg (simE_tup (simA_cons (simE_op (simE_var 0) (simE_var 2)) (simA_cons (simE_op (simE_var 0) (simE_op (simE_var 2) simE_int)) simA_nil))) (simG_tup (simGs_cons (simG_tup (simGs_cons (simG_name 3) (simGs_cons (simG_name 4) simGs_nil))) (simGs_cons (simG_tup (simGs_cons (simG_name 5) (simGs_cons (simG_name 6) simGs_nil))) simGs_nil))))
      (sim_seq (sim_par (simA_cons (simE_call (simA_cons (simE_var 1) (simA_cons (simE_tup (simA_cons (simE_un (simE_op (simE_var 3) simE_int)) (simA_cons (simE_op (simE_var 3) simE_int) simA_nil))) simA_nil))) (simA_cons (simE_call (simA_cons (simE_var 5) (simA_cons (simE_tup (simA_cons (simE_un (simE_op (simE_var 3) simE_int)) (simA_cons (simE_op (simE_var 3) simE_int) simA_nil))) simA_nil))) simA_nil)))
      (sim_seq (sim_set 9 (simO_p (simE_call (simA_cons (simE_op (simE_op (simE_var 7) simE_int) (simE_op (simE_var 8) simE_int)) (simA_cons (simE_op (simE_op (simE_var 7) simE_int) (simE_op (simE_var 8) simE_int)) simA_nil)))))
      (sim_ret (simO_p (simE_call (simA_cons (simE_var 4) (simA_cons (simE_call (simA_cons (simE_var 9) (simA_cons (simE_call (simA_cons (simE_var 6) (simA_cons (simE_tup (simA_cons (simE_un (simE_op (simE_var 4) simE_int)) (simA_cons (simE_op (simE_var 4) simE_int) simA_nil))) simA_nil))) simA_nil))) simA_nil))))))))) h rfl
abbrev s__law_over : Stmt := top 38
abbrev N__law_over : List Str := ["_law_a"]
theorem sc__law_over : FnScope N__law_over ["_law_a"] (defScope s__law_over) := ⟨rfl, rfl, rfl, by decide +kernel, rfl, by decide +kernel, by decide +kernel⟩
theorem ok__law_over {f : Addr} {fd : FuncData} (F : FunD K "_law_over" "_law_over" (defArgs s__law_over) (defBody s__law_over) (defScope s__law_over) [] [] f fd) (T : En P w K mg base κ cs) (c__law_frac : C8.Cal P w K mg base 8 "_law_frac" (spP κ (m__law_frac cs)) []) : FnOk P w K mg base CX0 9 f fd ["_law_a"] (spP κ (m__law_over cs)) := by
  refine F.ok sc__law_over (fun vs H Q E h => len_fnP h) (fun cdv A outer s H vs Q E hr h => ⟨_, PSs.nox (pss_one (ps_ret (C8.pe_c c__law_frac hr (by decide) rfl (pa_cons (pe_ix (ix_U (κ := κ)) (pv 0) pe_int (fun _ _ => rfl)) (pa_cons (pe_ix (ix_U (κ := κ)) (pv 0) pe_int (fun _ _ => rfl)) pa_nil))))), ?_⟩)
  exact sim_fnP (b := b__law_over cs) (sim_ret (simO_p (simE_call (simA_cons (simE_op (simE_var 0) simE_int) (simA_cons (simE_op (simE_var 0) simE_int) simA_nil))))) h rfl
end
end LW
set_option Elab.async false
set_option linter.all false
set_option maxRecDepth 100000
set_option maxHeartbeats 4000000
namespace UM
open PySem L2 UL
def b__law_same (cs : List String) (rec : List U → Option U) : MS :=
  (sSeq (sIf (mTest (m1 (isiA cs ["list", "tuple"]) (mVar 1))) (sSeq (sIf (mOr (mTest (m2 neU (m1 (isiU cs "list") (mVar 0)) (m1 (isiU cs "list") (mVar 1)))) (mTest (m2 neU (m1 (isiU cs "tuple") (mVar 0)) (m1 (isiU cs "tuple") (mVar 1))))) (sRet (mP (mC (.bl false)))) sNext)
    (sRet (mP (mAndV (m2 (eqU 0) (mN lenU (mCons (mVar 0) mNil)) (mN lenU (mCons (mVar 1) mNil))) (mN allU (mCons (mLc [2, 3] (mZip (mCons (mVar 0) (mCons (mVar 1) mNil))) (gT 2 (gsCons (gN 2) (gsCons (gN 3) gsNil))) mYes (mN rec (mCons (mVar 2) (mCons (mVar 3) mNil)))) mNil)))))) sNext)
    (sSeq (sIf (mTest (m1 (isiU cs "int") (mVar 1))) (sRet (mP (mAndV (m1 (isiU cs "int") (mVar 0)) (mAndV (m2 (eqU 0) (m1 (isiU cs "bool") (mVar 0)) (m1 (isiU cs "bool") (mVar 1))) (m2 (eqU 0) (mVar 0) (mVar 1)))))) sNext)
    (sRet (mP (mAndV (m2 isBU (m1 (isiA cs ["bool", "int", "list", "tuple"]) (mVar 0)) (mC (.bl false))) (m2 (eqU 0) (mVar 0) (mVar 1)))))))
def m__law_same (cs : List String) : Nat → List U → Option U
  | 0 => fun _ => none
  | n + 1 => fnP 2 2 (b__law_same cs (m__law_same cs n))
def b__law_moments (cs : List String) : MS :=
  (sSeq (sSet 1 (mLstO mNil))
    (sSeq (sFor (mSeq (mVar 0)) (gN 2) (sSeq (sSet 3 (mP (mN lenU (mCons (mLcV 1 [4] (gN 4) (mTest (mN (m__law_less cs) (mCons (mVar 4) (mCons (mVar 2) mNil)))) (mVar 4)) mNil))))
    (sIf (mOr (mTest (m2 (eqU 0) (mVar 3) (mLenV 1))) (mTest (m2 neU (mIxV 1 (mVar 3)) (mVar 2)))) (sDrop (mInsV 1 (mVar 3) (mVar 2))) sNext)))
    (sRet (mP (mFrz 1)))))
def m__law_moments (cs : List String) : List U → Option U := fnP 1 4 (b__law_moments cs)
def b__law_drawn_course (cs : List String) : MS :=
  (sSeq (sSet 3 (mLstO (mCons (mTup (mCons (mVar 1) (mCons (mC (.int 1)) mNil))) (mCons (mTup (mCons (mVar 2) (mCons (mC (.int 1)) mNil))) mNil))))
    (sSeq (sFor (mRng1 (mCons (mCallI 0 (m__law_take cs) (mCons (mC (.int 5)) mNil)) mNil)) (gN 4) (sDrop (mAppV 3 (mN (m__law_frac cs) (mCons (m2 addU (m2 addU (m2 mulU (mVar 1) (mC (.int 6))) (mC (.int 1))) (mCallI 0 (m__law_take cs) (mCons (m2 subU (m2 mulU (mC (.int 6)) (m2 subU (mVar 2) (mVar 1))) (mC (.int 1))) mNil))) (mCons (mC (.int 6)) mNil))))))
    (sRet (mP (mLc [5] (mSeq (mN (m__law_moments cs) (mCons (mFrz 3) mNil))) (gN 5) mYes (mTup (mCons (mVar 5) (mCons (mN (m__law_frac cs) (mCons (m2 subU (mCallI 0 (m__law_take cs) (mCons (mC (.int 40)) mNil)) (mC (.int 10))) (mCons (mCallI 0 (m__law_one cs) (mCons (mLst (mCons (mC (.int 1)) (mCons (mC (.int 1)) (mCons (mC (.int 2)) (mCons (mC (.int 3)) mNil))))) mNil)) mNil))) mNil))))))))
def m__law_drawn_course (cs : List String) : Ow → List U → Option (U × Ow) := fnI 3 3 (b__law_drawn_course cs)
def b__law_as_line (cs : List String) : MS :=
  (sRet (mP (mF (mMk "Line" (m_Line___init__ cs) (mCons (mLc [1] (mSeq (mVar 0)) (gN 1) mYes (mTup (mCons (mN (m__law_plain cs) (mCons (m2 ixU (mVar 1) (mC (.int 0))) mNil)) (mCons (mN (m__law_plain cs) (mCons (m2 ixU (mVar 1) (mC (.int 1))) mNil)) mNil)))) mNil)))))
def m__law_as_line (cs : List String) : List U → Option U := fnP 1 1 (b__law_as_line cs)
def b__law_lower (cs : List String) : MS :=
  (sSeq (sSet 2 (mP (mN (m__law_moments cs) (mCons (mLc [6] (mSeq (m2 addU (mVar 0) (mVar 1))) (gN 6) mYes (m2 ixU (mVar 6) (mC (.int 0)))) mNil))))
    (sSeq (sSet 3 (mLstO mNil))
    (sSeq (sFor (mEnumS (mCons (mVar 2) mNil)) (gT 2 (gsCons (gN 4) (gsCons (gN 5) gsNil))) (sSeq (sPar 6 7 (mCons (mN (m__law_on cs) (mCons (mVar 0) (mCons (mVar 5) mNil))) (mCons (mN (m__law_on cs) (mCons (mVar 1) (mCons (mVar 5) mNil))) mNil)))
    (sSeq (sIf (mTest (m2 gtU (mVar 4) (mC (.int 0)))) (sSeq (sPar 8 9 (mCons (mN (m__law_on cs) (mCons (mVar 0) (mCons (m2 ixU (mVar 2) (m2 subU (mVar 4) (mC (.int 1)))) mNil))) (mCons (mN (m__law_on cs) (mCons (mVar 1) (mCons (m2 ixU (mVar 2) (m2 subU (mVar 4) (mC (.int 1)))) mNil))) mNil)))
    (sSeq (sPar 10 11 (mCons (mN (m__law_add cs) (mCons (mVar 8) (mCons (mTup (mCons (m1 negU (m2 ixU (mVar 9) (mC (.int 0)))) (mCons (m2 ixU (mVar 9) (mC (.int 1))) mNil))) mNil))) (mCons (mN (m__law_add cs) (mCons (mVar 6) (mCons (mTup (mCons (m1 negU (m2 ixU (mVar 7) (mC (.int 0)))) (mCons (m2 ixU (mVar 7) (mC (.int 1))) mNil))) mNil))) mNil)))
    (sIf (mTest (m2 ltU (m2 mulU (m2 ixU (mVar 10) (mC (.int 0))) (m2 ixU (mVar 11) (mC (.int 0)))) (mC (.int 0)))) (sSeq (sSet 12 (mP (mN (m__law_mul cs) (mCons (mVar 10) (mCons (mN (m__law_over cs) (mCons (mN (m__law_add cs) (mCons (mVar 10) (mCons (mTup (mCons (m1 negU (m2 ixU (mVar 11) (mC (.int 0)))) (mCons (m2 ixU (mVar 11) (mC (.int 1))) mNil))) mNil))) mNil)) mNil)))))
    (sSeq (sSet 13 (mP (mN (m__law_add cs) (mCons (mVar 5) (mCons (mTup (mCons (m1 negU (m2 ixU (m2 ixU (mVar 2) (m2 subU (mVar 4) (mC (.int 1)))) (mC (.int 0)))) (mCons (m2 ixU (m2 ixU (mVar 2) (m2 subU (mVar 4) (mC (.int 1)))) (mC (.int 1))) mNil))) mNil)))))
    (sSeq (sSet 14 (mP (mN (m__law_add cs) (mCons (m2 ixU (mVar 2) (m2 subU (mVar 4) (mC (.int 1)))) (mCons (mN (m__law_mul cs) (mCons (mVar 13) (mCons (mVar 12) mNil))) mNil)))))
    (sDrop (mAppV 3 (mTup (mCons (mVar 14) (mCons (mN (m__law_on cs) (mCons (mVar 0) (mCons (mVar 14) mNil))) mNil)))))))) sNext))) sNext)
    (sDrop (mAppV 3 (mTup (mCons (mVar 5) (mCons (mIf (mTest (mN (m__law_less cs) (mCons (mVar 6) (mCons (mVar 7) mNil)))) (mVar 6) (mVar 7)) mNil))))))))
    (sRet (mP (mFrz 3))))))
def m__law_lower (cs : List String) : List U → Option U := fnP 2 13 (b__law_lower cs)
def b__law_under (cs : List String) : MS :=
  (sRet (mP (mLc [1] (mSeq (mVar 0)) (gN 1) mYes (mTup (mCons (m2 ixU (mVar 1) (mC (.int 0))) (mCons (mTup (mCons (m1 negU (m2 ixU (m2 ixU (mVar 1) (mC (.int 1))) (mC (.int 0)))) (mCons (m2 ixU (m2 ixU (mVar 1) (mC (.int 1))) (mC (.int 1))) mNil))) mNil))))))
def m__law_under (cs : List String) : List U → Option U := fnP 1 1 (b__law_under cs)
end UM
set_option Elab.async false
set_option linter.all false
set_option maxRecDepth 100000
set_option maxHeartbeats 4000000
namespace LW
open PySem PySem.Spec PyProof.Rows L2 LV LM UL UM
section
variable {P : Program} {w : World} {K : PySem.W.Frag} {mg : Str → Option Value} {base : Heap} {κ : String → Addr} {cs : List String}
abbrev s__law_same : Stmt := top 30
abbrev N__law_same : List Str := ["_law_found", "_law_due", "_law_a", "_law_b"]
theorem sc__law_same : FnScope N__law_same ["_law_found", "_law_due"] (defScope s__law_same) := ⟨rfl, rfl, rfl, by decide +kernel, rfl, by decide +kernel, by decide +kernel⟩
theorem okr__law_same {f : Addr} {fd : FuncData} (F : FunD K "_law_same" "_law_same" (defArgs s__law_same) (defBody s__law_same) (defScope s__law_same) [] [] f fd) (T : En P w K mg base κ cs) {rec : List U → Option U} {l : Nat} (hl : 6 ≤ l) (c_rec : C8.Cal P w K mg base l "_law_same" (spP κ rec) [])  : FnOk P w K mg base CX0 (l + 1) f fd ["_law_found", "_law_due"] (spP κ (fnP 2 2 (b__law_same cs rec))) := by
  refine F.ok sc__law_same (fun vs H Q E h => len_fnP h) (fun cdv A outer s H vs Q E hr h => ⟨_, PSs.nox (pss_cons (ps_if (pt_val (pe_callB (call_isiTK (K := K) rfl) rfl (T.free "isinstance" (by decide +kernel)) (by decide +kernel) (pa_cons (pv 1) (pa_cons (pe_tup (pa_cons (pe_bltn (v := .ty "list") rfl (T.free "list" (by decide +kernel)) (by decide +kernel) rfl) (pa_cons (pe_bltn (v := .ty "tuple") rfl (T.free "tuple" (by decide +kernel)) (by decide +kernel) rfl) pa_nil))) pa_nil)))) (pss_cons (ps_if (PW.pt (pw_or (pt_cmpR (op_neU T.B ⟨rfl, rfl, rfl, rfl, rfl⟩ (hr.mono hl) (hr.mono hl).units) (pe_callB (call_isiK1 (K := K) rfl) rfl (T.free "isinstance" (by decide +kernel)) (by decide +kernel) (pa_cons (pv 0) (pa_cons (pe_bltn (v := .ty "list") rfl (T.free "list" (by decide +kernel)) (by decide +kernel) rfl) pa_nil))) (pe_callB (call_isiK1 (K := K) rfl) rfl (T.free "isinstance" (by decide +kernel)) (by decide +kernel) (pa_cons (pv 1) (pa_cons (pe_bltn (v := .ty "list") rfl (T.free "list" (by decide +kernel)) (by decide +kernel) rfl) pa_nil))) (nomark _)) (pw_or1 (pt_cmpR (op_neU T.B ⟨rfl, rfl, rfl, rfl, rfl⟩ (hr.mono hl) (hr.mono hl).units) (pe_callB (call_isiK1 (K := K) rfl) rfl (T.free "isinstance" (by decide +kernel)) (by decide +kernel) (pa_cons (pv 0) (pa_cons (pe_bltn (v := .ty "tuple") rfl (T.free "tuple" (by decide +kernel)) (by decide +kernel) rfl) pa_nil))) (pe_callB (call_isiK1 (K := K) rfl) rfl (T.free "isinstance" (by decide +kernel)) (by decide +kernel) (pa_cons (pv 1) (pa_cons (pe_bltn (v := .ty "tuple") rfl (T.free "tuple" (by decide +kernel)) (by decide +kernel) rfl) pa_nil))) (nomark _))))) (pss_one (ps_ret pe_bl)) pss_nil)
      (pss_one (ps_ret (pe_and (pe_cmpR (op_eqU T.B ⟨rfl, rfl, rfl, rfl, rfl⟩ (hr.mono hl) 0) (pe_callB (call_lenU (κ := κ)) rfl (T.free "len" (by decide +kernel)) (by decide +kernel) (pa_cons (pv 0) pa_nil)) (pe_callB (call_lenU (κ := κ)) rfl (T.free "len" (by decide +kernel)) (by decide +kernel) (pa_cons (pv 1) pa_nil)) (nomark _)) (pe_one (pe_callB (call_allU (κ := κ) rfl) rfl (T.free "all" (by decide +kernel)) (by decide +kernel) (pa_cons (pe_lc (own := [("_law_a", 2), ("_law_b", 3)]) (g := (gTup K 2 (gCons (gName 2) (gCons (gName 3) gNil)))) (tt := tYes) rfl sc__law_same.nd (pi_zipK (K := K) rfl rfl (T.free "zip" (by decide +kernel)) (pa_cons (pv 0) (pa_cons (pv 1) pa_nil))) (blkOk_by (N := N__law_same) (sc := defScope s__law_same) (by decide +kernel)) (fun _ _ _ _ _ => by exact (pg_tup rfl (pgs_cons (pg_name (i := 2) sc__law_same.nd rfl (Or.inl rfl)) (pgs_cons (pg_name (i := 3) sc__law_same.nd rfl (Or.inl rfl)) pgs_nil)))) (fun _ _ _ _ _ => pts_nil) (fun _ _ _ _ _ => by exact (C8.pe_c c_rec hr (Nat.le_refl _) rfl (pa_cons (pv 2) (pa_cons (pv 3) pa_nil))))) pa_nil))))))) pss_nil)
      (pss_cons (ps_if (pt_val (pe_callB (call_isiK1 (K := K) rfl) rfl (T.free "isinstance" (by decide +kernel)) (by decide +kernel) (pa_cons (pv 1) (pa_cons (pe_bltn (v := .ty "int") rfl (T.free "int" (by decide +kernel)) (by decide +kernel) rfl) pa_nil)))) (pss_one (ps_ret (pe_and (pe_callB (call_isiK1 (K := K) rfl) rfl (T.free "isinstance" (by decide +kernel)) (by decide +kernel) (pa_cons (pv 0) (pa_cons (pe_bltn (v := .ty "int") rfl (T.free "int" (by decide +kernel)) (by decide +kernel) rfl) pa_nil))) (pe_and (pe_cmpR (op_eqU T.B ⟨rfl, rfl, rfl, rfl, rfl⟩ (hr.mono hl) 0) (pe_callB (call_isiK1 (K := K) rfl) rfl (T.free "isinstance" (by decide +kernel)) (by decide +kernel) (pa_cons (pv 0) (pa_cons (pe_bltn (v := .ty "bool") rfl (T.free "bool" (by decide +kernel)) (by decide +kernel) rfl) pa_nil))) (pe_callB (call_isiK1 (K := K) rfl) rfl (T.free "isinstance" (by decide +kernel)) (by decide +kernel) (pa_cons (pv 1) (pa_cons (pe_bltn (v := .ty "bool") rfl (T.free "bool" (by decide +kernel)) (by decide +kernel) rfl) pa_nil))) (nomark _)) (pe_one (pe_cmpR (op_eqU T.B ⟨rfl, rfl, rfl, rfl, rfl⟩ (hr.mono hl) 0) (pv 0) (pv 1) (nomark _))))))) pss_nil)
      (pss_one (ps_ret (pe_and (pe_cmpR (op_isBU (κ := κ)) (pe_callB (call_isiTK (K := K) rfl) rfl (T.free "isinstance" (by decide +kernel)) (by decide +kernel) (pa_cons (pv 0) (pa_cons (pe_tup (pa_cons (pe_bltn (v := .ty "bool") rfl (T.free "bool" (by decide +kernel)) (by decide +kernel) rfl) (pa_cons (pe_bltn (v := .ty "int") rfl (T.free "int" (by decide +kernel)) (by decide +kernel) rfl) (pa_cons (pe_bltn (v := .ty "list") rfl (T.free "list" (by decide +kernel)) (by decide +kernel) rfl) (pa_cons (pe_bltn (v := .ty "tuple") rfl (T.free "tuple" (by decide +kernel)) (by decide +kernel) rfl) pa_nil))))) pa_nil))) pe_bl (nomark _)) (pe_one (pe_cmpR (op_eqU T.B ⟨rfl, rfl, rfl, rfl, rfl⟩ (hr.mono hl) 0) (pv 0) (pv 1) (nomark _)))))))), ?_⟩)
  exact sim_fnP (b := b__law_same cs rec) (sim_seq (sim_if (simT_B (simE_isi2 T.W (.inr (by decide)) (.inr (by decide)) (simE_var 1) (cl_blt T.W (by decide)) (cl_blt T.W (by decide)))) (sim_seq (sim_if (simT_or (simT_test (simE_op (simE_isi T.W (.inr (by decide)) (simE_var 0) (cl_blt T.W (by decide))) (simE_isi T.W (.inr (by decide)) (simE_var 1) (cl_blt T.W (by decide))))) (simT_test (simE_op (simE_isi T.W (.inr (by decide)) (simE_var 0) (cl_blt T.W (by decide))) (simE_isi T.W (.inr (by decide)) (simE_var 1) (cl_blt T.W (by decide)))))) (sim_ret (simO_p simE_bl)) sim_next)
      (sim_ret (simO_p (simE_andV (simE_op (simE_cb (simA_cons (simE_var 0) simA_nil)) (simE_cb (simA_cons (simE_var 1) simA_nil))) (simE_cb (simA_cons (simE_lc (vs := [2, 3]) (simI_zip (simA_cons (simE_var 0) (simA_cons (simE_var 1) simA_nil))) (simG_tup (simGs_cons (simG_name 2) (simGs_cons (simG_name 3) simGs_nil))) simT_yes (simE_call (simA_cons (simE_var 2) (simA_cons (simE_var 3) simA_nil)))) simA_nil)))))) sim_next)
      (sim_seq (sim_if (simT_B (simE_isi T.W (.inr (by decide)) (simE_var 1) (cl_blt T.W (by decide)))) (sim_ret (simO_p (simE_andV (simE_isi T.W (.inr (by decide)) (simE_var 0) (cl_blt T.W (by decide))) (simE_andV (simE_op (simE_isi T.W (.inr (by decide)) (simE_var 0) (cl_blt T.W (by decide))) (simE_isi T.W (.inr (by decide)) (simE_var 1) (cl_blt T.W (by decide)))) (simE_op (simE_var 0) (simE_var 1)))))) sim_next)
      (sim_ret (simO_p (simE_andV (simE_op (simE_isi4 T.W (.inr (by decide)) (.inr (by decide)) (.inr (by decide)) (.inr (by decide)) (simE_var 0) (cl_blt T.W (by decide)) (cl_blt T.W (by decide)) (cl_blt T.W (by decide)) (cl_blt T.W (by decide))) simE_bl) (simE_op (simE_var 0) (simE_var 1))))))) h rfl
theorem ok__law_same {f : Addr} {fd : FuncData} (F : FunD K "_law_same" "_law_same" (defArgs s__law_same) (defBody s__law_same) (defScope s__law_same) [] [] f fd) (T : En P w K mg base κ cs) (g : mg "_law_same" = some (.ref f)) (kp : PySem.W.keepIn K (.ref f) = true) (bn : Binds K fd ["_law_found", "_law_due"] [])  : ∀ n, C8.Cal P w K mg base (n + 6) "_law_same" (spP κ (m__law_same cs n)) []
  | 0 => ⟨f, fd, ["_law_found", "_law_due"], [], ⟨fun vs H Q E h => (none_spP h).elim, fun A outer s H args us vs Q E hr e0 bt vl h => (none_spP h).elim⟩, g, kp, bn, .nil⟩
  | n + 1 => ⟨f, fd, ["_law_found", "_law_due"], [], (okr__law_same F T (by omega) (ok__law_same F T g kp bn  n) ).mono (by omega), g, kp, bn, .nil⟩
abbrev s__law_moments : Stmt := top 39
abbrev N__law_moments : List Str := ["_law_rows", "_law_found", "_law_t", "_law_at", "_law_x"]
theorem sc__law_moments : FnScope N__law_moments ["_law_rows"] (defScope s__law_moments) := ⟨rfl, rfl, rfl, by decide +kernel, rfl, by decide +kernel, by decide +kernel⟩
theorem ok__law_moments {f : Addr} {fd : FuncData} (F : FunD K "_law_moments" "_law_moments" (defArgs s__law_moments) (defBody s__law_moments) (defScope s__law_moments) [] [] f fd) (T : En P w K mg base κ cs) (c__law_less : C8.Cal P w K mg base 7 "_law_less" (spP κ (m__law_less cs)) []) : FnOk P w K mg base CX0 8 f fd ["_law_rows"] (spP κ (m__law_moments cs)) := by
  refine F.ok sc__law_moments (fun vs H Q E h => len_fnP h) (fun cdv A outer s H vs Q E hr h => ⟨_, PSs.nox (pss_cons (ps_set (i := 1) sc__law_moments.nd rfl (Or.inl rfl) (pe_lst pa_nil))
      (pss_cons (ps_for PassesOwn.never rfl (pi_seqK (K := K) rfl (pv 0)) (pg_name (i := 2) sc__law_moments.nd rfl (Or.inr rfl)) (pss_cons (ps_set (i := 3) sc__law_moments.nd rfl (Or.inl rfl) (pe_callB (call_lenU (κ := κ)) rfl (T.free "len" (by decide +kernel)) (by decide +kernel) (pa_cons (pe_lc (own := [("_law_x", 4)]) (g := (gName 4)) (tt := _) rfl sc__law_moments.nd (pi_listK (K := K) rfl (pv 1)) (blkOk_by (N := N__law_moments) (sc := defScope s__law_moments) (by decide +kernel)) (fun _ _ _ _ _ => by exact (pg_name (i := 4) sc__law_moments.nd rfl (Or.inl rfl))) (fun _ _ _ _ _ => (pts_one (pt_val (C8.pe_c c__law_less hr (by decide) rfl (pa_cons (pv 4) (pa_cons (pv 2) pa_nil)))))) (fun _ _ _ _ _ => by exact (pv 4))) pa_nil)))
      (pss_one (ps_if (PW.pt (pw_or (pt_cmpR (op_eqU T.B ⟨rfl, rfl, rfl, rfl, rfl⟩ hr 0) (pv 3) (pe_callB (call_lenSK (K := K) rfl) rfl (T.free "len" (by decide +kernel)) (by decide +kernel) (pa_cons (pv 1) pa_nil)) (nomark _)) (pw_or1 (pt_cmpR (op_neU T.B ⟨rfl, rfl, rfl, rfl, rfl⟩ hr hr.units) (pe_ix (ix_listK (K := K) rfl) (pv 1) (pv 3) (fun _ _ => rfl)) (pv 2) (nomark _))))) (pss_one (ps_expr (pe_bm PySem.F.plainAttrs_list PySem.F.slot_list_insert PySem.F.type_list_insert mt_insertR (pv 1) (pa_cons (pv 3) (pa_cons (pv 2) pa_nil))))) pss_nil))))
      (pss_one (ps_ret (pv 1))))), ?_⟩)
  exact sim_fnP (b := b__law_moments cs) (sim_seq (sim_set 1 (simO_lst simA_nil))
      (sim_seq (sim_for (simI_seq (simE_var 0)) (simG_name 2) (sim_seq (sim_set 3 (simO_p (simE_cb (simA_cons (simE_lcV (vs := [4]) (simG_name 4) (simT_B (simE_call (simA_cons (simE_var 4) (simA_cons (simE_var 2) simA_nil)))) (simE_var 4)) simA_nil))))
      (sim_if (simT_or (simT_test (simE_op (simE_var 3) simE_lenV)) (simT_test (simE_op (simE_ixV (simE_var 3)) (simE_var 2)))) (sim_drop (simE_insV (simE_var 3) (simE_var 2))) sim_next)))
      (sim_ret (simO_p (simE_frz 1))))) h rfl
abbrev s__law_drawn_course : Stmt := top 40
abbrev N__law_drawn_course : List Str := ["_law_state", "_law_a", "_law_b", "_law_stops", "_law_k", "_law_t"]
theorem sc__law_drawn_course : FnScope N__law_drawn_course ["_law_state", "_law_a", "_law_b"] (defScope s__law_drawn_course) := ⟨rfl, rfl, rfl, by decide +kernel, rfl, by decide +kernel, by decide +kernel⟩
theorem ok__law_drawn_course {f : Addr} {fd : FuncData} (F : FunD K "_law_drawn_course" "_law_drawn_course" (defArgs s__law_drawn_course) (defBody s__law_drawn_course) (defScope s__law_drawn_course) [] [] f fd) (T : En P w K mg base κ cs) (c__law_moments : C8.Cal P w K mg base 8 "_law_moments" (spP κ (m__law_moments cs)) []) (c__law_frac : C8.Cal P w K mg base 8 "_law_frac" (spP κ (m__law_frac cs)) []) (c__law_one : C8.Cal P w K mg base 9 "_law_one" (spI κ (m__law_one cs)) []) (c__law_take : C8.Cal P w K mg base 8 "_law_take" (spI κ (m__law_take cs)) []) : FnOk P w K mg base CX0 10 f fd ["_law_state", "_law_a", "_law_b"] (spI κ (m__law_drawn_course cs)) := by
  refine F.ok sc__law_drawn_course (fun vs H Q E h => len_fnI h) (fun cdv A outer s H vs Q E hr h => ⟨_, PSs.nox (pss_cons (ps_set (i := 3) sc__law_drawn_course.nd rfl (Or.inl rfl) (pe_lst (pa_cons (pe_tup (pa_cons (pv 1) (pa_cons pe_int pa_nil))) (pa_cons (pe_tup (pa_cons (pv 2) (pa_cons pe_int pa_nil))) pa_nil))))
      (pss_cons (ps_for PassesOwn.never rfl (pi_range1 rfl (T.free "range" (by decide +kernel)) (pa_cons (C8.pe_c c__law_take hr (by decide) rfl (pa_cons (pv 0) (pa_cons pe_int pa_nil))) pa_nil)) (pg_name (i := 4) sc__law_drawn_course.nd rfl (Or.inl rfl)) (pss_one (ps_expr (pe_bm PySem.F.plainAttrs_list PySem.F.slot_list_append PySem.F.type_list_append mt_append (pv 3) (pa_cons (C8.pe_c c__law_frac hr (by decide) rfl (pa_cons (pe_op (op_addU T.B ⟨rfl, rfl, rfl, rfl, rfl⟩ hr) (pe_op (op_addU T.B ⟨rfl, rfl, rfl, rfl, rfl⟩ hr) (pe_op (op_mulU T.B ⟨rfl, rfl, rfl, rfl, rfl⟩ hr) (pv 1) pe_int) pe_int) (C8.pe_c c__law_take hr (by decide) rfl (pa_cons (pv 0) (pa_cons (pe_op (op_subU T.B ⟨rfl, rfl, rfl, rfl, rfl⟩ hr) (pe_op (op_mulU T.B ⟨rfl, rfl, rfl, rfl, rfl⟩ hr) pe_int (pe_op (op_subU T.B ⟨rfl, rfl, rfl, rfl, rfl⟩ hr) (pv 2) (pv 1))) pe_int) pa_nil)))) (pa_cons pe_int pa_nil))) pa_nil)))))
      (pss_one (ps_ret (pe_lc (own := [("_law_t", 5)]) (g := (gName 5)) (tt := tYes) rfl sc__law_drawn_course.nd (pi_seqK (K := K) rfl (C8.pe_c c__law_moments hr (by decide) rfl (pa_cons (pv 3) pa_nil))) (blkOk_by (N := N__law_drawn_course) (sc := defScope s__law_drawn_course) (by decide +kernel)) (fun _ _ _ _ _ => by exact (pg_name (i := 5) sc__law_drawn_course.nd rfl (Or.inl rfl))) (fun _ _ _ _ _ => pts_nil) (fun _ _ _ _ _ => by exact (pe_tup (pa_cons (pv 5) (pa_cons (C8.pe_c c__law_frac hr (by decide) rfl (pa_cons (pe_op (op_subU T.B ⟨rfl, rfl, rfl, rfl, rfl⟩ hr) (C8.pe_c c__law_take hr (by decide) rfl (pa_cons (pv 0) (pa_cons pe_int pa_nil))) pe_int) (pa_cons (C8.pe_c c__law_one hr (by decide) rfl (pa_cons (pv 0) (pa_cons (pe_lst (pa_cons pe_int (pa_cons pe_int (pa_cons pe_int (pa_cons pe_int pa_nil))))) pa_nil))) pa_nil))) pa_nil))))))))), ?_⟩)
  exact sim_fnI (b := b__law_drawn_course cs) (sim_seq (sim_set 3 (simO_lst (simA_cons (simE_tup (simA_cons (simE_var 1) (simA_cons simE_int simA_nil))) (simA_cons (simE_tup (simA_cons (simE_var 2) (simA_cons simE_int simA_nil))) simA_nil))))
      (sim_seq (sim_for (simI_rng1 (simA_cons (simE_callI (simA_cons simE_int simA_nil)) simA_nil)) (simG_name 4) (sim_drop (simE_appV (simE_call (simA_cons (simE_op (simE_op (simE_op (simE_var 1) simE_int) simE_int) (simE_callI (simA_cons (simE_op (simE_op simE_int (simE_op (simE_var 2) (simE_var 1))) simE_int) simA_nil))) (simA_cons simE_int simA_nil))))))
      (sim_ret (simO_p (simE_lc (vs := [5]) (simI_seq (simE_call (simA_cons (simE_frz 3) simA_nil))) (simG_name 5) simT_yes (simE_tup (simA_cons (simE_var 5) (simA_cons (simE_call (simA_cons (simE_op (simE_callI (simA_cons simE_int simA_nil)) simE_int) (simA_cons (simE_callI (simA_cons (simE_lst (simA_cons simE_int (simA_cons simE_int (simA_cons simE_int (simA_cons simE_int simA_nil))))) simA_nil)) simA_nil))) simA_nil)))))))) h rfl
abbrev s__law_as_line : Stmt := top 41
abbrev N__law_as_line : List Str := ["_law_course", "_law_x"]
theorem sc__law_as_line : FnScope N__law_as_line ["_law_course"] (defScope s__law_as_line) := ⟨rfl, rfl, rfl, by decide +kernel, rfl, by decide +kernel, by decide +kernel⟩
theorem ok__law_as_line {f : Addr} {fd : FuncData} (F : FunD K "_law_as_line" "_law_as_line" (defArgs s__law_as_line) (defBody s__law_as_line) (defScope s__law_as_line) [] [] f fd) (T : En P w K mg base κ cs) (k_Line : C8.Mak P w K mg base 9 "Line" (κ "Line") (spI κ (m_Line___init__ cs)) []) (c__law_plain : C8.Cal P w K mg base 7 "_law_plain" (spP κ (m__law_plain cs)) []) (x_Line : κ "Line" ≠ κ "Exact") : FnOk P w K mg base CX0 11 f fd ["_law_course"] (spP κ (m__law_as_line cs)) := by
  refine F.ok sc__law_as_line (fun vs H Q E h => len_fnP h) (fun cdv A outer s H vs Q E hr h => ⟨_, PSs.nox (pss_one (ps_ret (C8.pe_mk k_Line hr (by decide) rfl (pa_cons (pe_lc (own := [("_law_x", 1)]) (g := (gName 1)) (tt := tYes) rfl sc__law_as_line.nd (pi_seqK (K := K) rfl (pv 0)) (blkOk_by (N := N__law_as_line) (sc := defScope s__law_as_line) (by decide +kernel)) (fun _ _ _ _ _ => by exact (pg_name (i := 1) sc__law_as_line.nd rfl (Or.inl rfl))) (fun _ _ _ _ _ => pts_nil) (fun _ _ _ _ _ => by exact (pe_tup (pa_cons (C8.pe_c c__law_plain hr (by decide) rfl (pa_cons (pe_ix (ix_U (κ := κ)) (pv 1) pe_int (fun _ _ => rfl)) pa_nil)) (pa_cons (C8.pe_c c__law_plain hr (by decide) rfl (pa_cons (pe_ix (ix_U (κ := κ)) (pv 1) pe_int (fun _ _ => rfl)) pa_nil)) pa_nil))))) pa_nil)))), ?_⟩)
  exact sim_fnP (b := b__law_as_line cs) (sim_ret (simO_p (simE_f (simO_make x_Line (simA_cons (simE_lc (vs := [1]) (simI_seq (simE_var 0)) (simG_name 1) simT_yes (simE_tup (simA_cons (simE_call (simA_cons (simE_op (simE_var 1) simE_int) simA_nil)) (simA_cons (simE_call (simA_cons (simE_op (simE_var 1) simE_int) simA_nil)) simA_nil)))) simA_nil))))) h rfl
abbrev s__law_lower : Stmt := top 42
abbrev N__law_lower : List Str := ["_law_one_here", "_law_other", "_law_stops", "_law_found", "_law_k", "_law_t", "_law_x", "_law_y", "_law_a", "_law_b", "_law_back", "_law_here", "_law_share", "_law_span", "_law_middle"]
theorem sc__law_lower : FnScope N__law_lower ["_law_one_here", "_law_other"] (defScope s__law_lower) := ⟨rfl, rfl, rfl, by decide +kernel, rfl, by decide +kernel, by decide +kernel⟩
theorem ok__law_lower {f : Addr} {fd : FuncData} (F : FunD K "_law_lower" "_law_lower" (defArgs s__law_lower) (defBody s__law_lower) (defScope s__law_lower) [] [] f fd) (T : En P w K mg base κ cs) (c__law_less : C8.Cal P w K mg base 7 "_law_less" (spP κ (m__law_less cs)) []) (c__law_on : C8.Cal P w K mg base 10 "_law_on" (spP κ (m__law_on cs)) []) (c__law_add : C8.Cal P w K mg base 9 "_law_add" (spP κ (m__law_add cs)) []) (c__law_mul : C8.Cal P w K mg base 9 "_law_mul" (spP κ (m__law_mul cs)) []) (c__law_over : C8.Cal P w K mg base 9 "_law_over" (spP κ (m__law_over cs)) []) (c__law_moments : C8.Cal P w K mg base 8 "_law_moments" (spP κ (m__law_moments cs)) []) : FnOk P w K mg base CX0 11 f fd ["_law_one_here", "_law_other"] (spP κ (m__law_lower cs)) := by
  refine F.ok sc__law_lower (fun vs H Q E h => len_fnP h) (fun cdv A outer s H vs Q E hr h => ⟨_, PSs.nox (pss_cons (ps_set (i := 2) sc__law_lower.nd rfl (Or.inl rfl) (C8.pe_c c__law_moments hr (by decide) rfl (pa_cons (pe_lc (own := [("_law_x", 6)]) (g := (gName 6)) (tt := tYes) rfl sc__law_lower.nd (pi_seqK (K := K) rfl (pe_op (op_addU T.B ⟨rfl, rfl, rfl, rfl, rfl⟩ hr) (pv 0) (pv 1))) (blkOk_by (N := N__law_lower) (sc := defScope s__law_lower) (by decide +kernel)) (fun _ _ _ _ _ => by exact (pg_name (i := 6) sc__law_lower.nd rfl (Or.inl rfl))) (fun _ _ _ _ _ => pts_nil) (fun _ _ _ _ _ => by exact (pe_ix (ix_U (κ := κ)) (pv 6) pe_int (fun _ _ => rfl)))) pa_nil)))
      (pss_cons (ps_set (i := 3) sc__law_lower.nd rfl (Or.inl rfl) (pe_lst pa_nil))
      (pss_cons (ps_for PassesOwn.never rfl (pi_enumSK (K := K) rfl rfl (T.free "enumerate" (by decide +kernel)) (pa_cons (pv 2) pa_nil)) (pg_tup rfl (pgs_cons (pg_name (i := 4) sc__law_lower.nd rfl (Or.inl rfl)) (pgs_cons (pg_name (i := 5) sc__law_lower.nd rfl (Or.inl rfl)) pgs_nil))) (pss_cons (ps_par (i := 6) (j := 7) rfl sc__law_lower.nd rfl rfl (by decide) rfl rfl (pa_cons (C8.pe_c c__law_on hr (by decide) rfl (pa_cons (pv 0) (pa_cons (pv 5) pa_nil))) (pa_cons (C8.pe_c c__law_on hr (by decide) rfl (pa_cons (pv 1) (pa_cons (pv 5) pa_nil))) pa_nil)) rfl)
      (pss_cons (ps_if (pt_cmpR (op_gtU T.B ⟨rfl, rfl, rfl, rfl, rfl⟩ hr) (pv 4) pe_int (nomark _)) (pss_cons (ps_par (i := 8) (j := 9) rfl sc__law_lower.nd rfl rfl (by decide) rfl rfl (pa_cons (C8.pe_c c__law_on hr (by decide) rfl (pa_cons (pv 0) (pa_cons (pe_ix (ix_U (κ := κ)) (pv 2) (pe_op (op_subU T.B ⟨rfl, rfl, rfl, rfl, rfl⟩ hr) (pv 4) pe_int) (fun _ _ => rfl)) pa_nil))) (pa_cons (C8.pe_c c__law_on hr (by decide) rfl (pa_cons (pv 1) (pa_cons (pe_ix (ix_U (κ := κ)) (pv 2) (pe_op (op_subU T.B ⟨rfl, rfl, rfl, rfl, rfl⟩ hr) (pv 4) pe_int) (fun _ _ => rfl)) pa_nil))) pa_nil)) rfl)
      (pss_cons (ps_par (i := 10) (j := 11) rfl sc__law_lower.nd rfl rfl (by decide) rfl rfl (pa_cons (C8.pe_c c__law_add hr (by decide) rfl (pa_cons (pv 8) (pa_cons (pe_tup (pa_cons (pe_un (un_negU T.B ⟨rfl, rfl, rfl, rfl, rfl⟩ hr) (pe_ix (ix_U (κ := κ)) (pv 9) pe_int (fun _ _ => rfl))) (pa_cons (pe_ix (ix_U (κ := κ)) (pv 9) pe_int (fun _ _ => rfl)) pa_nil))) pa_nil))) (pa_cons (C8.pe_c c__law_add hr (by decide) rfl (pa_cons (pv 6) (pa_cons (pe_tup (pa_cons (pe_un (un_negU T.B ⟨rfl, rfl, rfl, rfl, rfl⟩ hr) (pe_ix (ix_U (κ := κ)) (pv 7) pe_int (fun _ _ => rfl))) (pa_cons (pe_ix (ix_U (κ := κ)) (pv 7) pe_int (fun _ _ => rfl)) pa_nil))) pa_nil))) pa_nil)) rfl)
      (pss_one (ps_if (pt_cmpR (op_ltU T.B ⟨rfl, rfl, rfl, rfl, rfl⟩ hr) (pe_op (op_mulU T.B ⟨rfl, rfl, rfl, rfl, rfl⟩ hr) (pe_ix (ix_U (κ := κ)) (pv 10) pe_int (fun _ _ => rfl)) (pe_ix (ix_U (κ := κ)) (pv 11) pe_int (fun _ _ => rfl))) pe_int (nomark _)) (pss_cons (ps_set (i := 12) sc__law_lower.nd rfl (Or.inl rfl) (C8.pe_c c__law_mul hr (by decide) rfl (pa_cons (pv 10) (pa_cons (C8.pe_c c__law_over hr (by decide) rfl (pa_cons (C8.pe_c c__law_add hr (by decide) rfl (pa_cons (pv 10) (pa_cons (pe_tup (pa_cons (pe_un (un_negU T.B ⟨rfl, rfl, rfl, rfl, rfl⟩ hr) (pe_ix (ix_U (κ := κ)) (pv 11) pe_int (fun _ _ => rfl))) (pa_cons (pe_ix (ix_U (κ := κ)) (pv 11) pe_int (fun _ _ => rfl)) pa_nil))) pa_nil))) pa_nil)) pa_nil))))
      (pss_cons (ps_set (i := 13) sc__law_lower.nd rfl (Or.inl rfl) (C8.pe_c c__law_add hr (by decide) rfl (pa_cons (pv 5) (pa_cons (pe_tup (pa_cons (pe_un (un_negU T.B ⟨rfl, rfl, rfl, rfl, rfl⟩ hr) (pe_ix (ix_U (κ := κ)) (pe_ix (ix_U (κ := κ)) (pv 2) (pe_op (op_subU T.B ⟨rfl, rfl, rfl, rfl, rfl⟩ hr) (pv 4) pe_int) (fun _ _ => rfl)) pe_int (fun _ _ => rfl))) (pa_cons (pe_ix (ix_U (κ := κ)) (pe_ix (ix_U (κ := κ)) (pv 2) (pe_op (op_subU T.B ⟨rfl, rfl, rfl, rfl, rfl⟩ hr) (pv 4) pe_int) (fun _ _ => rfl)) pe_int (fun _ _ => rfl)) pa_nil))) pa_nil))))
      (pss_cons (ps_set (i := 14) sc__law_lower.nd rfl (Or.inl rfl) (C8.pe_c c__law_add hr (by decide) rfl (pa_cons (pe_ix (ix_U (κ := κ)) (pv 2) (pe_op (op_subU T.B ⟨rfl, rfl, rfl, rfl, rfl⟩ hr) (pv 4) pe_int) (fun _ _ => rfl)) (pa_cons (C8.pe_c c__law_mul hr (by decide) rfl (pa_cons (pv 13) (pa_cons (pv 12) pa_nil))) pa_nil))))
      (pss_one (ps_expr (pe_bm PySem.F.plainAttrs_list PySem.F.slot_list_append PySem.F.type_list_append mt_append (pv 3) (pa_cons (pe_tup (pa_cons (pv 14) (pa_cons (C8.pe_c c__law_on hr (by decide) rfl (pa_cons (pv 0) (pa_cons (pv 14) pa_nil))) pa_nil))) pa_nil))))))) pss_nil)))) pss_nil)
      (pss_one (ps_expr (pe_bm PySem.F.plainAttrs_list PySem.F.slot_list_append PySem.F.type_list_append mt_append (pv 3) (pa_cons (pe_tup (pa_cons (pv 5) (pa_cons (pe_ifExp (pt_val (C8.pe_c c__law_less hr (by decide) rfl (pa_cons (pv 6) (pa_cons (pv 7) pa_nil)))) (pv 6) (pv 7)) pa_nil))) pa_nil)))))))
      (pss_one (ps_ret (pv 3)))))), ?_⟩)
  exact sim_fnP (b := b__law_lower cs) (sim_seq (sim_set 2 (simO_p (simE_call (simA_cons (simE_lc (vs := [6]) (simI_seq (simE_op (simE_var 0) (simE_var 1))) (simG_name 6) simT_yes (simE_op (simE_var 6) simE_int)) simA_nil))))
      (sim_seq (sim_set 3 (simO_lst simA_nil))
      (sim_seq (sim_for (simI_enumS (simA_cons (simE_var 2) simA_nil)) (simG_tup (simGs_cons (simG_name 4) (simGs_cons (simG_name 5) simGs_nil))) (sim_seq (sim_par (simA_cons (simE_call (simA_cons (simE_var 0) (simA_cons (simE_var 5) simA_nil))) (simA_cons (simE_call (simA_cons (simE_var 1) (simA_cons (simE_var 5) simA_nil))) simA_nil)))
      (sim_seq (sim_if (simT_test (simE_op (simE_var 4) simE_int)) (sim_seq (sim_par (simA_cons (simE_call (simA_cons (simE_var 0) (simA_cons (simE_op (simE_var 2) (simE_op (simE_var 4) simE_int)) simA_nil))) (simA_cons (simE_call (simA_cons (simE_var 1) (simA_cons (simE_op (simE_var 2) (simE_op (simE_var 4) simE_int)) simA_nil))) simA_nil)))
      (sim_seq (sim_par (simA_cons (simE_call (simA_cons (simE_var 8) (simA_cons (simE_tup (simA_cons (simE_un (simE_op (simE_var 9) simE_int)) (simA_cons (simE_op (simE_var 9) simE_int) simA_nil))) simA_nil))) (simA_cons (simE_call (simA_cons (simE_var 6) (simA_cons (simE_tup (simA_cons (simE_un (simE_op (simE_var 7) simE_int)) (simA_cons (simE_op (simE_var 7) simE_int) simA_nil))) simA_nil))) simA_nil)))
      (sim_if (simT_test (simE_op (simE_op (simE_op (simE_var 10) simE_int) (simE_op (simE_var 11) simE_int)) simE_int)) (sim_seq (sim_set 12 (simO_p (simE_call (simA_cons (simE_var 10) (simA_cons (simE_call (simA_cons (simE_call (simA_cons (simE_var 10) (simA_cons (simE_tup (simA_cons (simE_un (simE_op (simE_var 11) simE_int)) (simA_cons (simE_op (simE_var 11) simE_int) simA_nil))) simA_nil))) simA_nil)) simA_nil)))))
      (sim_seq (sim_set 13 (simO_p (simE_call (simA_cons (simE_var 5) (simA_cons (simE_tup (simA_cons (simE_un (simE_op (simE_op (simE_var 2) (simE_op (simE_var 4) simE_int)) simE_int)) (simA_cons (simE_op (simE_op (simE_var 2) (simE_op (simE_var 4) simE_int)) simE_int) simA_nil))) simA_nil)))))
      (sim_seq (sim_set 14 (simO_p (simE_call (simA_cons (simE_op (simE_var 2) (simE_op (simE_var 4) simE_int)) (simA_cons (simE_call (simA_cons (simE_var 13) (simA_cons (simE_var 12) simA_nil))) simA_nil)))))
      (sim_drop (simE_appV (simE_tup (simA_cons (simE_var 14) (simA_cons (simE_call (simA_cons (simE_var 0) (simA_cons (simE_var 14) simA_nil))) simA_nil)))))))) sim_next))) sim_next)
      (sim_drop (simE_appV (simE_tup (simA_cons (simE_var 5) (simA_cons (simE_if (simT_B (simE_call (simA_cons (simE_var 6) (simA_cons (simE_var 7) simA_nil)))) (simE_var 6) (simE_var 7)) simA_nil))))))))
      (sim_ret (simO_p (simE_frz 3)))))) h rfl
abbrev s__law_under : Stmt := top 43
abbrev N__law_under : List Str := ["_law_course", "_law_x"]
theorem sc__law_under : FnScope N__law_under ["_law_course"] (defScope s__law_under) := ⟨rfl, rfl, rfl, by decide +kernel, rfl, by decide +kernel, by decide +kernel⟩
theorem ok__law_under {f : Addr} {fd : FuncData} (F : FunD K "_law_under" "_law_under" (defArgs s__law_under) (defBody s__law_under) (defScope s__law_under) [] [] f fd) (T : En P w K mg base κ cs)  : FnOk P w K mg base CX0 7 f fd ["_law_course"] (spP κ (m__law_under cs)) := by
  refine F.ok sc__law_under (fun vs H Q E h => len_fnP h) (fun cdv A outer s H vs Q E hr h => ⟨_, PSs.nox (pss_one (ps_ret (pe_lc (own := [("_law_x", 1)]) (g := (gName 1)) (tt := tYes) rfl sc__law_under.nd (pi_seqK (K := K) rfl (pv 0)) (blkOk_by (N := N__law_under) (sc := defScope s__law_under) (by decide +kernel)) (fun _ _ _ _ _ => by exact (pg_name (i := 1) sc__law_under.nd rfl (Or.inl rfl))) (fun _ _ _ _ _ => pts_nil) (fun _ _ _ _ _ => by exact (pe_tup (pa_cons (pe_ix (ix_U (κ := κ)) (pv 1) pe_int (fun _ _ => rfl)) (pa_cons (pe_tup (pa_cons (pe_un (un_negU T.B ⟨rfl, rfl, rfl, rfl, rfl⟩ hr) (pe_ix (ix_U (κ := κ)) (pe_ix (ix_U (κ := κ)) (pv 1) pe_int (fun _ _ => rfl)) pe_int (fun _ _ => rfl))) (pa_cons (pe_ix (ix_U (κ := κ)) (pe_ix (ix_U (κ := κ)) (pv 1) pe_int (fun _ _ => rfl)) pe_int (fun _ _ => rfl)) pa_nil))) pa_nil))))))), ?_⟩)
  exact sim_fnP (b := b__law_under cs) (sim_ret (simO_p (simE_lc (vs := [1]) (simI_seq (simE_var 0)) (simG_name 1) simT_yes (simE_tup (simA_cons (simE_op (simE_var 1) simE_int) (simA_cons (simE_tup (simA_cons (simE_un (simE_op (simE_op (simE_var 1) simE_int) simE_int)) (simA_cons (simE_op (simE_op (simE_var 1) simE_int) simE_int) simA_nil))) simA_nil)))))) h rfl
end
end LW
set_option Elab.async false
set_option linter.all false
set_option maxRecDepth 100000
set_option maxHeartbeats 4000000
namespace UM
open PySem L2 UL
def b_law (cs : List String) : MS :=
  (sSeq (sFor (mRng1 (mCons (mC (.int 5)) mNil)) (gN 2) (sSeq (sSet 3 (mP (m2 subU (mCallI 1 (m__law_take cs) (mCons (mC (.int 9)) mNil)) (mC (.int 4)))))
    (sSeq (sSet 4 (mP (m2 addU (m2 addU (mVar 3) (mC (.int 1))) (mCallI 1 (m__law_take cs) (mCons (mC (.int 6)) mNil)))))
    (sSeq (sPar 5 6 (mCons (mCallI 1 (m__law_drawn_course cs) (mCons (mVar 3) (mCons (mVar 4) mNil))) (mCons (mCallI 1 (m__law_drawn_course cs) (mCons (mVar 3) (mCons (mVar 4) mNil))) mNil)))
    (sSeq (sIf (mTest (m2 (eqU 0) (mCallI 1 (m__law_take cs) (mCons (mC (.int 3)) mNil)) (mC (.int 0)))) (sSet 6 (mP (mLc [7] (mSeq (mVar 5)) (gN 7) mYes (mTup (mCons (m2 ixU (mVar 7) (mC (.int 0))) (mCons (mN (m__law_add cs) (mCons (m2 ixU (mVar 7) (mC (.int 1))) (mCons (mTup (mCons (mCallI 1 (m__law_take cs) (mCons (mC (.int 3)) mNil)) (mCons (mC (.int 1)) mNil))) mNil))) mNil)))))) sNext)
    (sSeq (sPar 7 8 (mCons (mN (m__law_as_line cs) (mCons (mVar 5) mNil)) (mCons (mN (m__law_as_line cs) (mCons (mVar 6) mNil)) mNil)))
    (sSeq (sPar 9 10 (mCons (mN (m__law_lower cs) (mCons (mVar 5) (mCons (mVar 6) mNil))) (mCons (mN (m__law_under cs) (mCons (mN (m__law_lower cs) (mCons (mN (m__law_under cs) (mCons (mVar 5) mNil)) (mCons (mN (m__law_under cs) (mCons (mVar 6) mNil)) mNil))) mNil)) mNil)))
    (sSeq (sIf (mOr (mTest (m2 (neOb "Line" (m_Line___eq__ cs)) (mMeth "Line" "lower" (m_Line_lower cs) (mVar 7) (mCons (mVar 8) mNil)) (mN (m__law_as_line cs) (mCons (mVar 9) mNil)))) (mTest (m2 (neOb "Line" (m_Line___eq__ cs)) (mMeth "Line" "lower" (m_Line_lower cs) (mVar 8) (mCons (mVar 7) mNil)) (mN (m__law_as_line cs) (mCons (mVar 9) mNil))))) (sRet (mP (mC (.bl false)))) sNext)
    (sSeq (sIf (mOr (mTest (m2 (neOb "Line" (m_Line___eq__ cs)) (mMeth "Line" "upper" (m_Line_upper cs) (mVar 7) (mCons (mVar 8) mNil)) (mN (m__law_as_line cs) (mCons (mVar 10) mNil)))) (mTest (m2 (neOb "Line" (m_Line___eq__ cs)) (mMeth "Line" "upper" (m_Line_upper cs) (mVar 8) (mCons (mVar 7) mNil)) (mN (m__law_as_line cs) (mCons (mVar 10) mNil))))) (sRet (mP (mC (.bl false)))) sNext)
    (sSeq (sSet 11 (mP (mLst (mCons (mMeth "Line" "is_below" (m_Line_is_below cs) (mVar 7) (mCons (mVar 8) mNil)) (mCons (mMeth "Line" "is_below" (m_Line_is_below cs) (mVar 8) (mCons (mVar 7) mNil)) (mCons (mMeth "Line" "is_below" (m_Line_is_below cs) (mVar 7) (mCons (mVar 7) mNil)) mNil))))))
    (sSeq (sIf (mNot (mTest (mN (m__law_same cs 3) (mCons (mVar 11) (mCons (mLst (mCons (m2 (eqOb "Line" (m_Line___eq__ cs)) (mN (m__law_as_line cs) (mCons (mVar 9) mNil)) (mVar 7)) (mCons (m2 (eqOb "Line" (m_Line___eq__ cs)) (mN (m__law_as_line cs) (mCons (mVar 9) mNil)) (mVar 8)) (mCons (mC (.bl true)) mNil)))) mNil))))) (sRet (mP (mC (.bl false)))) sNext)
    (sIf (mOr (mTest (m2 (neOb "Line" (m_Line___eq__ cs)) (mMeth "Line" "lower" (m_Line_lower cs) (mVar 7) (mCons (mVar 7) mNil)) (mVar 7))) (mOr (mTest (m2 (neOb "Line" (m_Line___eq__ cs)) (mMeth "Line" "upper" (m_Line_upper cs) (mVar 7) (mCons (mVar 7) mNil)) (mVar 7))) (mNot (mTest (mMeth "Line" "is_below" (m_Line_is_below cs) (mMeth "Line" "lower" (m_Line_lower cs) (mVar 7) (mCons (mVar 8) mNil)) (mCons (mMeth "Line" "upper" (m_Line_upper cs) (mVar 7) (mCons (mVar 8) mNil)) mNil)))))) (sRet (mP (mC (.bl false)))) sNext))))))))))))
    (sRet (mP (mC (.bl true)))))
def lawNl : Nat := 11
def lawSt : Nat := 1
end UM
set_option Elab.async false
set_option linter.all false
set_option maxRecDepth 100000
set_option maxHeartbeats 4000000
namespace LW
open PySem PySem.Spec PyProof.Rows L2 LV LM UL UM
section
variable {P : Program} {w : World} {K : PySem.W.Frag} {mg : Str → Option Value} {base : Heap} {κ : String → Addr} {cs : List String}
abbrev s_law : Stmt := top 44
abbrev N_law : List Str := ["_law_script", "_law_state", "_law_turn", "_law_a", "_law_b", "_law_one_here", "_law_other", "_law_x", "_law_y", "_law_low", "_law_high", "_law_below"]
theorem sc_law : FnScope N_law ["_law_script"] (defScope s_law) := ⟨rfl, rfl, rfl, by decide +kernel, rfl, by decide +kernel, by decide +kernel⟩
theorem ok_law {f : Addr} {fd : FuncData} (F : FunD K "law" "law" (defArgs s_law) (defBody s_law) (defScope s_law) [] [] f fd) (T : En P w K mg base κ cs) (m_Line_is_below : C8.Met P w K mg base 9 (κ "Line") "is_below" (spP κ (m_Line_is_below cs)) []) (m_Line_upper : C8.Met P w K mg base 11 (κ "Line") "upper" (spP κ (m_Line_upper cs)) []) (m_Line_lower : C8.Met P w K mg base 11 (κ "Line") "lower" (spP κ (m_Line_lower cs)) []) (e_Line : ∀ X, Std X P w K mg base → OwnM X 9 (κ "Line") "__eq__" (spP κ (m_Line___eq__ cs))) (i_Line : "Line" ∈ cs) (n_Line : PySem.W.findIn K (.ref (κ "Line")) "__ne__" = some (some (.builtin "object.__ne__"))) (c__law_same : C8.Cal P w K mg base 9 "_law_same" (spP κ (m__law_same cs 3)) []) (c__law_as_line : C8.Cal P w K mg base 11 "_law_as_line" (spP κ (m__law_as_line cs)) []) (c__law_under : C8.Cal P w K mg base 7 "_law_under" (spP κ (m__law_under cs)) []) (c__law_lower : C8.Cal P w K mg base 11 "_law_lower" (spP κ (m__law_lower cs)) []) (c__law_take : C8.Cal P w K mg base 8 "_law_take" (spI κ (m__law_take cs)) []) (c__law_add : C8.Cal P w K mg base 9 "_law_add" (spP κ (m__law_add cs)) []) (c__law_drawn_course : C8.Cal P w K mg base 10 "_law_drawn_course" (spI κ (m__law_drawn_course cs)) []) (c__law_fresh : C8.Cal P w K mg base 1 "_law_fresh" (spFr K) []) : FnOk P w K mg base CX0 12 f fd ["_law_script"] (spLw K 11 1 (b_law cs)) := by
  refine F.ok sc_law (fun vs H Q E h => by obtain ⟨a, ns, e, rfl, _⟩ := h; rfl) (fun cdv A outer s H vs Q E hr h => ⟨_, PSs.nox (pss_cons (ps_set (i := 1) sc_law.nd rfl (Or.inr rfl) (C8.pe_c c__law_fresh hr (by decide) rfl (pa_cons (pv 0) pa_nil)))
      (pss_cons (ps_for PassesOwn.never rfl (pi_range1 rfl (T.free "range" (by decide +kernel)) (pa_cons pe_int pa_nil)) (pg_name (i := 2) sc_law.nd rfl (Or.inl rfl)) (pss_cons (ps_set (i := 3) sc_law.nd rfl (Or.inl rfl) (pe_op (op_subU T.B ⟨rfl, rfl, rfl, rfl, rfl⟩ hr) (C8.pe_c c__law_take hr (by decide) rfl (pa_cons (pv 1) (pa_cons pe_int pa_nil))) pe_int))
      (pss_cons (ps_set (i := 4) sc_law.nd rfl (Or.inl rfl) (pe_op (op_addU T.B ⟨rfl, rfl, rfl, rfl, rfl⟩ hr) (pe_op (op_addU T.B ⟨rfl, rfl, rfl, rfl, rfl⟩ hr) (pv 3) pe_int) (C8.pe_c c__law_take hr (by decide) rfl (pa_cons (pv 1) (pa_cons pe_int pa_nil)))))
      (pss_cons (ps_par (i := 5) (j := 6) rfl sc_law.nd rfl rfl (by decide) rfl rfl (pa_cons (C8.pe_c c__law_drawn_course hr (by decide) rfl (pa_cons (pv 1) (pa_cons (pv 3) (pa_cons (pv 4) pa_nil)))) (pa_cons (C8.pe_c c__law_drawn_course hr (by decide) rfl (pa_cons (pv 1) (pa_cons (pv 3) (pa_cons (pv 4) pa_nil)))) pa_nil)) rfl)
      (pss_cons (ps_if (pt_cmpR (op_eqU T.B ⟨rfl, rfl, rfl, rfl, rfl⟩ hr 0) (C8.pe_c c__law_take hr (by decide) rfl (pa_cons (pv 1) (pa_cons pe_int pa_nil))) pe_int (nomark _)) (pss_one (ps_setLc (i := 6) (own := [("_law_x", 7)]) (g := (gName 7)) (tt := tYes) rfl sc_law.nd rfl rfl (sw_true rfl rfl rfl (by decide +kernel)) (pi_seqK (K := K) rfl (pv 5)) (blkOk_by (N := N_law) (sc := defScope s_law) (by decide +kernel)) (fun _ _ _ _ _ => by exact (pg_name (i := 7) sc_law.nd rfl (Or.inl rfl))) (fun _ _ _ _ _ => pts_nil) (fun _ _ _ _ _ => by exact (pe_tup (pa_cons (pe_ix (ix_U (κ := κ)) (pv 7) pe_int (fun _ _ => rfl)) (pa_cons (C8.pe_c c__law_add hr (by decide) rfl (pa_cons (pe_ix (ix_U (κ := κ)) (pv 7) pe_int (fun _ _ => rfl)) (pa_cons (pe_tup (pa_cons (C8.pe_c c__law_take hr (by decide) rfl (pa_cons (pv 1) (pa_cons pe_int pa_nil))) (pa_cons pe_int pa_nil))) pa_nil))) pa_nil)))))) pss_nil)
      (pss_cons (ps_par (i := 7) (j := 8) rfl sc_law.nd rfl rfl (by decide) rfl rfl (pa_cons (C8.pe_c c__law_as_line hr (by decide) rfl (pa_cons (pv 5) pa_nil)) (pa_cons (C8.pe_c c__law_as_line hr (by decide) rfl (pa_cons (pv 6) pa_nil)) pa_nil)) rfl)
      (pss_cons (ps_par (i := 9) (j := 10) rfl sc_law.nd rfl rfl (by decide) rfl rfl (pa_cons (C8.pe_c c__law_lower hr (by decide) rfl (pa_cons (pv 5) (pa_cons (pv 6) pa_nil))) (pa_cons (C8.pe_c c__law_under hr (by decide) rfl (pa_cons (C8.pe_c c__law_lower hr (by decide) rfl (pa_cons (C8.pe_c c__law_under hr (by decide) rfl (pa_cons (pv 5) pa_nil)) (pa_cons (C8.pe_c c__law_under hr (by decide) rfl (pa_cons (pv 6) pa_nil)) pa_nil))) pa_nil)) pa_nil)) rfl)
      (pss_cons (ps_if (PW.pt (pw_or (pt_cmpR (op_neO (c := "Line") T.W i_Line (e_Line _ ⟨rfl, rfl, rfl, rfl, rfl⟩) (hr.mono (by decide)) n_Line) (C8.pe_mt m_Line_lower hr (by decide) (pv 7) (pa_cons (pv 8) pa_nil)) (C8.pe_c c__law_as_line hr (by decide) rfl (pa_cons (pv 9) pa_nil)) (nomark _)) (pw_or1 (pt_cmpR (op_neO (c := "Line") T.W i_Line (e_Line _ ⟨rfl, rfl, rfl, rfl, rfl⟩) (hr.mono (by decide)) n_Line) (C8.pe_mt m_Line_lower hr (by decide) (pv 8) (pa_cons (pv 7) pa_nil)) (C8.pe_c c__law_as_line hr (by decide) rfl (pa_cons (pv 9) pa_nil)) (nomark _))))) (pss_one (ps_ret pe_bl)) pss_nil)
      (pss_cons (ps_if (PW.pt (pw_or (pt_cmpR (op_neO (c := "Line") T.W i_Line (e_Line _ ⟨rfl, rfl, rfl, rfl, rfl⟩) (hr.mono (by decide)) n_Line) (C8.pe_mt m_Line_upper hr (by decide) (pv 7) (pa_cons (pv 8) pa_nil)) (C8.pe_c c__law_as_line hr (by decide) rfl (pa_cons (pv 10) pa_nil)) (nomark _)) (pw_or1 (pt_cmpR (op_neO (c := "Line") T.W i_Line (e_Line _ ⟨rfl, rfl, rfl, rfl, rfl⟩) (hr.mono (by decide)) n_Line) (C8.pe_mt m_Line_upper hr (by decide) (pv 8) (pa_cons (pv 7) pa_nil)) (C8.pe_c c__law_as_line hr (by decide) rfl (pa_cons (pv 10) pa_nil)) (nomark _))))) (pss_one (ps_ret pe_bl)) pss_nil)
      (pss_cons (ps_set (i := 11) sc_law.nd rfl (Or.inl rfl) (pe_lst (pa_cons (C8.pe_mt m_Line_is_below hr (by decide) (pv 7) (pa_cons (pv 8) pa_nil)) (pa_cons (C8.pe_mt m_Line_is_below hr (by decide) (pv 8) (pa_cons (pv 7) pa_nil)) (pa_cons (C8.pe_mt m_Line_is_below hr (by decide) (pv 7) (pa_cons (pv 7) pa_nil)) pa_nil)))))
      (pss_cons (ps_if (pt_not (pt_val (C8.pe_c c__law_same hr (by decide) rfl (pa_cons (pv 11) (pa_cons (pe_lst (pa_cons (pe_cmpR (op_eqO (c := "Line") T.W i_Line (e_Line _ ⟨rfl, rfl, rfl, rfl, rfl⟩) (hr.mono (by decide))) (C8.pe_c c__law_as_line hr (by decide) rfl (pa_cons (pv 9) pa_nil)) (pv 7) (nomark _)) (pa_cons (pe_cmpR (op_eqO (c := "Line") T.W i_Line (e_Line _ ⟨rfl, rfl, rfl, rfl, rfl⟩) (hr.mono (by decide))) (C8.pe_c c__law_as_line hr (by decide) rfl (pa_cons (pv 9) pa_nil)) (pv 8) (nomark _)) (pa_cons pe_bl pa_nil)))) pa_nil))))) (pss_one (ps_ret pe_bl)) pss_nil)
      (pss_one (ps_if (PW.pt (pw_or (pt_cmpR (op_neO (c := "Line") T.W i_Line (e_Line _ ⟨rfl, rfl, rfl, rfl, rfl⟩) (hr.mono (by decide)) n_Line) (C8.pe_mt m_Line_lower hr (by decide) (pv 7) (pa_cons (pv 7) pa_nil)) (pv 7) (nomark _)) (pw_or (pt_cmpR (op_neO (c := "Line") T.W i_Line (e_Line _ ⟨rfl, rfl, rfl, rfl, rfl⟩) (hr.mono (by decide)) n_Line) (C8.pe_mt m_Line_upper hr (by decide) (pv 7) (pa_cons (pv 7) pa_nil)) (pv 7) (nomark _)) (pw_or1 (pt_not (pt_val (C8.pe_mt m_Line_is_below hr (by decide) (C8.pe_mt m_Line_lower hr (by decide) (pv 7) (pa_cons (pv 8) pa_nil)) (pa_cons (C8.pe_mt m_Line_upper hr (by decide) (pv 7) (pa_cons (pv 8) pa_nil)) pa_nil)))))))) (pss_one (ps_ret pe_bl)) pss_nil)))))))))))))
      (pss_one (ps_ret pe_bl)))), ?_⟩)
  exact sim_law (b := b_law cs) (sim_seq (sim_for (simI_rng1 (simA_cons simE_int simA_nil)) (simG_name 2) (sim_seq (sim_set 3 (simO_p (simE_op (simE_callI (simA_cons simE_int simA_nil)) simE_int)))
      (sim_seq (sim_set 4 (simO_p (simE_op (simE_op (simE_var 3) simE_int) (simE_callI (simA_cons simE_int simA_nil)))))
      (sim_seq (sim_par (simA_cons (simE_callI (simA_cons (simE_var 3) (simA_cons (simE_var 4) simA_nil))) (simA_cons (simE_callI (simA_cons (simE_var 3) (simA_cons (simE_var 4) simA_nil))) simA_nil)))
      (sim_seq (sim_if (simT_test (simE_op (simE_callI (simA_cons simE_int simA_nil)) simE_int)) (sim_set 6 (simO_p (simE_lc (vs := [7]) (simI_seq (simE_var 5)) (simG_name 7) simT_yes (simE_tup (simA_cons (simE_op (simE_var 7) simE_int) (simA_cons (simE_call (simA_cons (simE_op (simE_var 7) simE_int) (simA_cons (simE_tup (simA_cons (simE_callI (simA_cons simE_int simA_nil)) (simA_cons simE_int simA_nil))) simA_nil))) simA_nil)))))) sim_next)
      (sim_seq (sim_par (simA_cons (simE_call (simA_cons (simE_var 5) simA_nil)) (simA_cons (simE_call (simA_cons (simE_var 6) simA_nil)) simA_nil)))
      (sim_seq (sim_par (simA_cons (simE_call (simA_cons (simE_var 5) (simA_cons (simE_var 6) simA_nil))) (simA_cons (simE_call (simA_cons (simE_call (simA_cons (simE_call (simA_cons (simE_var 5) simA_nil)) (simA_cons (simE_call (simA_cons (simE_var 6) simA_nil)) simA_nil))) simA_nil)) simA_nil)))
      (sim_seq (sim_if (simT_or (simT_test (simE_op (simE_meth (simE_var 7) (simA_cons (simE_var 8) simA_nil)) (simE_call (simA_cons (simE_var 9) simA_nil)))) (simT_test (simE_op (simE_meth (simE_var 8) (simA_cons (simE_var 7) simA_nil)) (simE_call (simA_cons (simE_var 9) simA_nil))))) (sim_ret (simO_p simE_bl)) sim_next)
      (sim_seq (sim_if (simT_or (simT_test (simE_op (simE_meth (simE_var 7) (simA_cons (simE_var 8) simA_nil)) (simE_call (simA_cons (simE_var 10) simA_nil)))) (simT_test (simE_op (simE_meth (simE_var 8) (simA_cons (simE_var 7) simA_nil)) (simE_call (simA_cons (simE_var 10) simA_nil))))) (sim_ret (simO_p simE_bl)) sim_next)
      (sim_seq (sim_set 11 (simO_p (simE_lst (simA_cons (simE_meth (simE_var 7) (simA_cons (simE_var 8) simA_nil)) (simA_cons (simE_meth (simE_var 8) (simA_cons (simE_var 7) simA_nil)) (simA_cons (simE_meth (simE_var 7) (simA_cons (simE_var 7) simA_nil)) simA_nil))))))
      (sim_seq (sim_if (simT_not (simT_B (simE_call (simA_cons (simE_var 11) (simA_cons (simE_lst (simA_cons (simE_op (simE_call (simA_cons (simE_var 9) simA_nil)) (simE_var 7)) (simA_cons (simE_op (simE_call (simA_cons (simE_var 9) simA_nil)) (simE_var 8)) (simA_cons simE_bl simA_nil)))) simA_nil))))) (sim_ret (simO_p simE_bl)) sim_next)
      (sim_if (simT_or (simT_test (simE_op (simE_meth (simE_var 7) (simA_cons (simE_var 7) simA_nil)) (simE_var 7))) (simT_or (simT_test (simE_op (simE_meth (simE_var 7) (simA_cons (simE_var 7) simA_nil)) (simE_var 7))) (simT_not (simT_B (simE_meth (simE_meth (simE_var 7) (simA_cons (simE_var 8) simA_nil)) (simA_cons (simE_meth (simE_var 7) (simA_cons (simE_var 8) simA_nil)) simA_nil)))))) (sim_ret (simO_p simE_bl)) sim_next))))))))))))
      (sim_ret (simO_p simE_bl))) h rfl
end
end LW
namespace LM
/-! lines: points in order, straight rows between -/
abbrev Pt := Rat × Rat
def slp (p q : Pt) : Rat := (q.2 - p.2) / (q.1 - p.1)
def lin (p q : Pt) (t : Rat) : Rat := p.2 + slp p q * (t - p.1)
def Inc (ps : List Pt) : Prop := ps.Pairwise fun p q => p.1 < q.1
def bnd (f : Pt) : List Pt → List Pt
  | [] => []
  | [p] => [p]
  | p :: q :: r => if slp f p = slp p q then bnd f (q :: r) else p :: bnd p (q :: r)
def bends : List Pt → List Pt
  | [] => []
  | p :: r => p :: bnd p r
def OnL : List Pt → Rat → Rat → Prop
  | p :: q :: r, t, y => (p.1 ≤ t ∧ t ≤ q.1 ∧ y = lin p q t) ∨ OnL (q :: r) t y
  | _, _, _ => False
theorem Inc.two {p q : Pt} {r : List Pt} (h : Inc (p :: q :: r)) : p.1 < q.1 := (List.pairwise_cons.mp h).1 q (by simp)
theorem Inc.tail {p : Pt} {r : List Pt} (h : Inc (p :: r)) : Inc r := (List.pairwise_cons.mp h).2
theorem Inc.skip {p q : Pt} {r : List Pt} (h : Inc (p :: q :: r)) : Inc (p :: r) := by
  obtain ⟨a, b⟩ := List.pairwise_cons.mp h
  obtain ⟨_, c⟩ := List.pairwise_cons.mp b
  exact List.pairwise_cons.mpr ⟨fun x hx => a x (by simp [hx]), c⟩
theorem on_head {q : Pt} {r : List Pt} {y : Rat} (h : Inc (q :: r)) (o : OnL (q :: r) q.1 y) : y = q.2 := by
  cases r with
  | nil => exact o.elim
  | cons s r =>
    have h1 := h.two
    rcases o with ⟨_, _, e⟩ | o
    · rw [e]
      unfold lin
      grind
    · exfalso
      have : ∀ (s : Pt) (r : List Pt), q.1 < s.1 → Inc (s :: r) → ¬ OnL (s :: r) q.1 y := by
        intro s r hs hi
        induction r generalizing s with
        | nil => exact fun z => z
        | cons u r ih =>
          rintro (⟨z, _, _⟩ | z)
          · grind
          · have := hi.two
            exact ih u (by grind) hi.tail z
      exact this s r h1 h.tail o
theorem on_ge {q : Pt} {r : List Pt} {t y : Rat} (h : Inc (q :: r)) (o : OnL (q :: r) t y) : q.1 ≤ t := by
  induction r generalizing q with
  | nil => exact o.elim
  | cons s r ih =>
    rcases o with ⟨a, _, _⟩ | o
    · exact a
    · have h1 := h.two
      have := ih h.tail o
      grind
theorem on_one {ps : List Pt} {t y z : Rat} (h : Inc ps) (a : OnL ps t y) (b : OnL ps t z) : y = z := by
  induction ps with
  | nil => exact a.elim
  | cons p r ih =>
    cases r with
    | nil => exact a.elim
    | cons q r =>
      have h1 := h.two
      have key : ∀ {w : Rat}, t ≤ q.1 → OnL (q :: r) t w → w = lin p q t := by
        intro w l o
        have g := on_ge h.tail o
        have e : t = q.1 := by grind
        subst e
        rw [on_head h.tail o]
        unfold lin slp
        grind
      rcases a with ⟨_, l, e⟩ | a
      · rcases b with ⟨_, _, e2⟩ | b
        · rw [e, e2]
        · rw [e, key l b]
      · rcases b with ⟨_, l, e⟩ | b
        · rw [e, key l a]
        · exact ih h.tail a b
theorem on_get {ps : List Pt} {i : Nat} {p q : Pt} {t : Rat} (h1 : ps[i]? = some p) (h2 : ps[i + 1]? = some q) (a : p.1 ≤ t) (b : t ≤ q.1) : OnL ps t (lin p q t) := by
  induction ps generalizing i with
  | nil => simp at h1
  | cons x r ih =>
    cases i with
    | zero =>
      simp at h1
      subst h1
      cases r with
      | nil => simp at h2
      | cons y r =>
        simp at h2
        subst h2
        exact .inl ⟨a, b, rfl⟩
    | succ i =>
      cases r with
      | nil => simp at h1
      | cons y r => exact .inr (ih (by simpa using h1) (by simpa using h2))
theorem on_bnd {f : Pt} {r : List Pt} {t y : Rat} (h : Inc (f :: r)) (o : OnL (f :: bnd f r) t y) : OnL (f :: r) t y := by
  induction r generalizing f with
  | nil => exact o
  | cons p r ih =>
    cases r with
    | nil => exact o
    | cons q r =>
      have h1 := h.two
      have h2 := h.tail.two
      unfold bnd at o
      by_cases c : slp f p = slp p q
      · rw [if_pos c] at o
        have o2 := ih h.skip o
        rcases o2 with ⟨a, b, e⟩ | o2
        · have e1 : lin f q t = lin f p t := by
            unfold lin slp at *
            grind
          have e2 : lin f q t = lin p q t := by
            unfold lin slp at *
            grind
          by_cases l : t ≤ p.1
          · exact .inl ⟨a, l, e.trans e1⟩
          · exact .inr (.inl ⟨by grind, b, e.trans e2⟩)
        · exact .inr (.inr o2)
      · rw [if_neg c] at o
        rcases o with x | o
        · exact .inl x
        · exact .inr (ih h.tail o)
theorem on_bends {ps : List Pt} {t y : Rat} (h : Inc ps) (o : OnL (bends ps) t y) : OnL ps t y := by
  cases ps with
  | nil => exact o
  | cons f r => exact on_bnd h o
theorem bnd_sub (f : Pt) (r : List Pt) : (bnd f r).Sublist r := by
  induction r generalizing f with
  | nil => exact List.Sublist.refl _
  | cons p r ih =>
    cases r with
    | nil => exact List.Sublist.refl _
    | cons q r =>
      unfold bnd
      split
      · exact List.Sublist.cons p (ih f)
      · exact List.Sublist.cons_cons p (ih p)
theorem bends_sub (ps : List Pt) : (bends ps).Sublist ps := by
  cases ps with
  | nil => exact List.Sublist.refl _
  | cons f r => exact List.Sublist.cons_cons f (bnd_sub f r)
theorem Inc.bends {ps : List Pt} (h : Inc ps) : Inc (bends ps) := List.Pairwise.sublist (bends_sub ps) h
theorem bnd_next {p q : Pt} {r : List Pt} (h : Inc (p :: q :: r)) : ∃ n l, bnd p (q :: r) = n :: l ∧ slp p n = slp p q ∧ p.1 < n.1 := by
  induction r generalizing q with
  | nil => exact ⟨q, [], rfl, rfl, h.two⟩
  | cons s r ih =>
    unfold bnd
    have h1 := h.two
    have h2 := h.tail.two
    split
    · rename_i c
      obtain ⟨n, l, e, e2, e3⟩ := ih h.skip
      refine ⟨n, l, e, e2.trans ?_, e3⟩
      unfold slp at *
      grind
    · exact ⟨q, _, rfl, rfl, h1⟩
theorem bnd_idem {f : Pt} {r : List Pt} (h : Inc (f :: r)) : bnd f (bnd f r) = bnd f r := by
  induction r generalizing f with
  | nil => rfl
  | cons p r ih =>
    cases r with
    | nil => rfl
    | cons q r =>
      by_cases c : slp f p = slp p q
      · have e : bnd f (p :: q :: r) = bnd f (q :: r) := by rw [bnd, if_pos c]
        rw [e]
        exact ih h.skip
      · have e : bnd f (p :: q :: r) = p :: bnd p (q :: r) := by rw [bnd, if_neg c]
        rw [e]
        obtain ⟨n, l, e1, e2, _⟩ := bnd_next h.tail
        have i2 := ih h.tail
        rw [e1] at i2 ⊢
        rw [bnd, if_neg (by rw [e2]; exact c), i2]
theorem bends_idem {ps : List Pt} (h : Inc ps) : bends (bends ps) = bends ps := by
  cases ps with
  | nil => rfl
  | cons f r => exact congrArg (f :: ·) (bnd_idem h)
theorem bnd_last {f : Pt} {r : List Pt} (h : r ≠ []) : (bnd f r).getLast? = r.getLast? := by
  induction r generalizing f with
  | nil => exact absurd rfl h
  | cons p r ih =>
    cases r with
    | nil => rfl
    | cons q r =>
      have e : (p :: q :: r).getLast? = (q :: r).getLast? := by rw [List.getLast?_cons_cons]
      rw [e]
      unfold bnd
      split
      · exact ih (by simp)
      · have := ih (f := p) (by simp)
        rw [List.getLast?_cons, this]
        rw [List.getLast?_eq_some_getLast (List.cons_ne_nil q r)]
        rfl
theorem bends_last (ps : List Pt) : (bends ps).getLast? = ps.getLast? := by
  cases ps with
  | nil => rfl
  | cons f r =>
    cases r with
    | nil => rfl
    | cons q r =>
      show (f :: bnd f (q :: r)).getLast? = _
      rw [List.getLast?_cons, bnd_last (by simp), List.getLast?_cons_cons, List.getLast?_eq_some_getLast (List.cons_ne_nil q r)]
      rfl
theorem bends_head (ps : List Pt) : (bends ps).head? = ps.head? := by
  cases ps <;> rfl
theorem bends_two {ps : List Pt} (h : 2 ≤ ps.length) : 2 ≤ (bends ps).length := by
  match ps, h with
  | f :: q :: r, _ =>
    show 2 ≤ (bnd f (q :: r)).length + 1
    have := bnd_last (f := f) (r := q :: r) (by simp)
    cases e : bnd f (q :: r) with
    | nil =>
      rw [e, List.getLast?_eq_some_getLast (List.cons_ne_nil q r)] at this
      cases this
    | cons a b => simp
/-- that a point is on the straight row between two others -/
theorem col_iff {f p q : Pt} (h1 : f.1 < p.1) (h2 : p.1 < q.1) : slp f p = slp p q ↔ lin f q p.1 = p.2 := by
  unfold lin slp
  grind
theorem col_far {f p q : Pt} (h1 : f.1 < p.1) (h2 : p.1 < q.1) (c : slp f p = slp p q) : slp f q = slp f p := by
  unfold slp at *
  grind
theorem inc_get {ps : List Pt} {i j : Nat} {p q : Pt} (h : Inc ps) (hi : ps[i]? = some p) (hj : ps[j]? = some q) (l : i < j) : p.1 < q.1 := by
  obtain ⟨a, ha⟩ := List.getElem?_eq_some_iff.mp hi
  obtain ⟨b, hb⟩ := List.getElem?_eq_some_iff.mp hj
  have := List.pairwise_iff_getElem.mp h i j a b l
  rw [ha, hb] at this
  exact this
/-! the stack that bends a line -/
/-- behind i points, at least two: the kept ones, the last one of them, the last point -/
def StkG (ps : List Pt) (i : Nat) (G : List Pt) (f p : Pt) : Prop :=
  ∃ r, ps.drop (i - 1) = p :: r ∧ bends ps = G ++ f :: bnd f (p :: r) ∧ (∀ G' e, G = G' ++ [e] → slp e f ≠ slp f p ∧ e.1 < f.1) ∧ f.1 < p.1 ∧ 2 ≤ i
def StkOk (ps : List Pt) (i : Nat) (st : List Pt) : Prop :=
  (i = 0 ∧ st = []) ∨ (i = 1 ∧ ∃ p r, ps = p :: r ∧ st = [p]) ∨ ∃ G f p, st = G ++ [f, p] ∧ StkG ps i G f p
theorem stk0 {ps : List Pt} {q : Pt} (h : ps[0]? = some q) : StkOk ps 1 [q] := by
  cases ps with
  | nil => simp at h
  | cons p r =>
    simp at h
    exact .inr (.inl ⟨rfl, p, r, rfl, by rw [h]⟩)
theorem stk1 {ps : List Pt} {p q : Pt} {r : List Pt} (hi : Inc ps) (e : ps = p :: r) (h : ps[1]? = some q) : StkOk ps 2 [p, q] := by
  subst e
  cases r with
  | nil => simp at h
  | cons q' r =>
    simp at h
    subst h
    exact .inr (.inr ⟨[], p, q', rfl, r, rfl, rfl, fun G' e z => by simp at z, hi.two, Nat.le_refl 2⟩)
theorem drop_next {ps : List Pt} {i : Nat} {p q : Pt} {r : List Pt} (hi : 1 ≤ i) (hd : ps.drop (i - 1) = p :: r) (h : ps[i]? = some q) : ∃ r', r = q :: r' ∧ ps.drop i = q :: r' := by
  have e : ps.drop i = r := by
    have : (ps.drop (i - 1)).drop 1 = ps.drop i := by
      rw [List.drop_drop]
      congr 1
      omega
    rw [← this, hd]
    rfl
  cases r with
  | nil =>
    have := congrArg List.length e
    have hl := (List.getElem?_eq_some_iff.mp h).1
    simp at this
    omega
  | cons q' r' =>
    have : (ps.drop i)[0]? = some q := by simpa using h
    rw [e] at this
    simp at this
    subst this
    exact ⟨r', rfl, e⟩
theorem stkG_inc {ps : List Pt} {i : Nat} {G : List Pt} {f p q : Pt} (hi : Inc ps) (s : StkG ps i G f p) (h : ps[i]? = some q) : p.1 < q.1 := by
  obtain ⟨r, hd, _, _, _, h2⟩ := s
  have hp : ps[i - 1]? = some p := by
    have : (ps.drop (i - 1))[0]? = some p := by rw [hd]; rfl
    simpa using this
  exact inc_get hi hp h (by omega)
theorem stk_pop {ps : List Pt} {i : Nat} {G : List Pt} {f p q : Pt} (hi : Inc ps) (s : StkG ps i G f p) (h : ps[i]? = some q) (c : slp f p = slp p q) : StkOk ps (i + 1) (G ++ [f, q]) := by
  have l := stkG_inc hi s h
  obtain ⟨r, hd, hb, hn, hf, h2⟩ := s
  obtain ⟨r', rfl, hd'⟩ := drop_next (by omega) hd h
  refine .inr (.inr ⟨G, f, q, rfl, r', by simpa using hd', ?_, fun G' e z => ?_, by grind, by omega⟩)
  · rw [hb, bnd, if_pos c]
  · obtain ⟨n1, n2⟩ := hn G' e z
    refine ⟨?_, n2⟩
    rw [col_far hf l c]
    exact n1
theorem stk_push {ps : List Pt} {i : Nat} {G : List Pt} {f p q : Pt} (hi : Inc ps) (s : StkG ps i G f p) (h : ps[i]? = some q) (c : ¬ slp f p = slp p q) : StkOk ps (i + 1) (G ++ [f, p] ++ [q]) := by
  have l := stkG_inc hi s h
  obtain ⟨r, hd, hb, hn, hf, h2⟩ := s
  obtain ⟨r', rfl, hd'⟩ := drop_next (by omega) hd h
  refine .inr (.inr ⟨G ++ [f], p, q, by simp, r', by simpa using hd', ?_, fun G' e z => ?_, l, by omega⟩)
  · rw [hb, bnd, if_neg c]
    simp
  · have : e = f := by
      have := congrArg List.getLast? z
      simpa using this.symm
    subst this
    exact ⟨c, hf⟩
theorem stk_end {ps st : List Pt} (h2 : 2 ≤ ps.length) (s : StkOk ps ps.length st) : st = bends ps := by
  rcases s with ⟨e, _⟩ | ⟨e, _⟩ | ⟨G, f, p, rfl, r, hd, hb, _, _, _⟩
  · omega
  · omega
  · have hr : r = [] := by
      have := congrArg List.length hd
      simp at this
      cases r with
      | nil => rfl
      | cons _ _ => simp at this; omega
    subst hr
    rw [hb]
    rfl
theorem stkG_mem {ps : List Pt} {i : Nat} {G : List Pt} {f p : Pt} (s : StkG ps i G f p) : (∀ e ∈ G, e ∈ ps) ∧ f ∈ ps ∧ p ∈ ps := by
  obtain ⟨r, hd, hb, _⟩ := s
  have hs := (bends_sub ps).subset
  rw [hb] at hs
  refine ⟨fun e he => hs (by simp [he]), hs (by simp), ?_⟩
  have : p ∈ ps.drop (i - 1) := by rw [hd]; simp
  exact List.mem_of_mem_drop this
/-- the slope ahead is no more that of the new row, once the last point is away -/
theorem stk_stop {ps : List Pt} {i : Nat} {G' : List Pt} {e f p q : Pt} (hi : Inc ps) (s : StkG ps i (G' ++ [e]) f p) (h : ps[i]? = some q) (c : slp f p = slp p q) : slp e f ≠ slp f q ∧ e.1 < f.1 ∧ f.1 < q.1 := by
  have l := stkG_inc hi s h
  obtain ⟨r, hd, hb, hn, hf, h2⟩ := s
  obtain ⟨n1, n2⟩ := hn G' e rfl
  refine ⟨?_, n2, by grind⟩
  rw [col_far hf l c]
  exact n1
/-! the place of a moment -/
theorem cnt_pre {t : Rat} : ∀ {m : List Pt}, Inc m → (∀ i p, m[i]? = some p → i < (m.filter fun p => decide (p.1 ≤ t)).length → p.1 ≤ t) ∧ ∀ p, m[(m.filter fun p => decide (p.1 ≤ t)).length]? = some p → t < p.1
  | [], _ => ⟨fun i p h => by simp at h, fun p h => by simp at h⟩
  | q :: m, h => by
    obtain ⟨a, b⟩ := cnt_pre (t := t) h.tail
    by_cases hq : q.1 ≤ t
    · rw [List.filter_cons_of_pos (by simpa using hq)]
      refine ⟨fun i p hp hi => ?_, fun p hp => b p (by simpa using hp)⟩
      cases i with
      | zero =>
        simp at hp
        rw [← hp]
        exact hq
      | succ i => exact a i p (by simpa using hp) (by simpa using hi)
    · have e : ((q :: m).filter fun p => decide (p.1 ≤ t)) = [] := by
        rw [List.filter_eq_nil_iff]
        intro p hp
        simp only [decide_eq_true_eq]
        rcases List.mem_cons.mp hp with rfl | hp
        · exact hq
        · have := (List.pairwise_cons.mp h).1 p hp
          grind
      rw [e]
      refine ⟨fun i p _ hi => by simp at hi, fun p hp => ?_⟩
      simp at hp
      subst hp
      grind
theorem mid_get {ps : List Pt} {i : Nat} (h : i + 2 < ps.length) : ((ps.drop 1).dropLast)[i]? = ps[i + 1]? := by
  rw [List.getElem?_dropLast, List.length_drop, if_pos (by omega), List.getElem?_drop, Nat.add_comm]
theorem cnt_seg {ps : List Pt} {t : Rat} {p0 pn : Pt} (inc : Inc ps) (l2 : 2 ≤ ps.length) (h0 : ps[0]? = some p0) (hn : ps[ps.length - 1]? = some pn) (b0 : p0.1 ≤ t) (bn : t ≤ pn.1) :
    ∃ p q, ps[(((ps.drop 1).dropLast).filter fun p => decide (p.1 ≤ t)).length]? = some p ∧ ps[(((ps.drop 1).dropLast).filter fun p => decide (p.1 ≤ t)).length + 1]? = some q ∧ p.1 ≤ t ∧ t ≤ q.1 := by
  have hm : Inc ((ps.drop 1).dropLast) := List.Pairwise.sublist ((List.dropLast_sublist _).trans (List.drop_sublist 1 ps)) inc
  have hl : ((ps.drop 1).dropLast).length = ps.length - 2 := by
    rw [List.length_dropLast, List.length_drop]
    omega
  have hk := List.length_filter_le (fun p : Pt => decide (p.1 ≤ t)) ((ps.drop 1).dropLast)
  obtain ⟨a, b⟩ := cnt_pre (t := t) hm
  generalize (((ps.drop 1).dropLast).filter fun p => decide (p.1 ≤ t)).length = k at a b hk
  rw [hl] at hk
  have g1 : ps[k]? = some ps[k] := List.getElem?_eq_getElem (by omega)
  have g2 : ps[k + 1]? = some ps[k + 1] := List.getElem?_eq_getElem (by omega)
  refine ⟨_, _, g1, g2, ?_, ?_⟩
  · cases k with
    | zero =>
      rw [h0] at g1
      rw [← Option.some.inj g1]
      exact b0
    | succ k => exact a k _ ((mid_get (by omega)).trans g1) (by omega)
  · by_cases hk2 : k + 2 < ps.length
    · have := b _ ((mid_get hk2).trans g2)
      grind
    · have : k + 1 = ps.length - 1 := by omega
      rw [← this, g2] at hn
      rw [Option.some.inj hn]
      exact bn
theorem on_ht {ps : List Pt} {t y : Rat} {n : Nat} (inc : Inc ps) (h : ∀ p ∈ ps, Ht n p.1 ∧ Ht n p.2) (ht : Ht n t) (o : OnL ps t y) : Ht (n + (n + n + 1 + (n + n + 1) + (n + n + 1)) + 1) y := by
  induction ps with
  | nil => exact o.elim
  | cons p r ih =>
    cases r with
    | nil => exact o.elim
    | cons q r =>
      rcases o with ⟨_, _, e⟩ | o
      · have hp := h p (by simp)
        have hq := h q (by simp)
        have hl := inc.two
        rw [e]
        unfold lin slp
        exact hp.2.add (((hq.2.sub hp.2).div (hq.1.sub hp.1) (by grind)).mul (ht.sub hp.1))
      · exact ih inc.tail (fun p hp => h p (by simp [hp])) o
theorem share_in {d : Int} (h0 : 0 ≤ d) (h1 : d < 7) : 0 ≤ Rat.divInt d 6 ∧ Rat.divInt d 6 ≤ 1 := by
  rw [Rat.divInt_eq_div]
  have a : ((0 : Int) : Rat) ≤ ((d : Int) : Rat) := Rat.intCast_le_intCast.mpr h0
  have b : ((d : Int) : Rat) ≤ ((6 : Int) : Rat) := Rat.intCast_le_intCast.mpr (by omega)
  generalize ((d : Int) : Rat) = x at *
  have e6 : ((6 : Int) : Rat) = 6 := rfl
  have e0 : ((0 : Int) : Rat) = 0 := rfl
  rw [e6] at *
  rw [e0] at a
  grind
theorem between {a b s : Rat} (h : a ≤ b) (h0 : 0 ≤ s) (h1 : s ≤ 1) : a ≤ a + s * (b + -a) ∧ a + s * (b + -a) ≤ b := by
  have x : 0 ≤ s * (b - a) := Rat.mul_nonneg h0 (by grind)
  have y : 0 ≤ (1 - s) * (b - a) := Rat.mul_nonneg (by grind) (by grind)
  constructor <;> grind
end LM
namespace LM
/-! a line is known by its heights: bends are canonical -/
theorem on_total {ps : List Pt} {p0 pn : Pt} {t : Rat} (l2 : 2 ≤ ps.length) (h0 : ps[0]? = some p0) (hn : ps[ps.length - 1]? = some pn) (b0 : p0.1 ≤ t) (bn : t ≤ pn.1) : ∃ y, OnL ps t y := by
  induction ps generalizing p0 with
  | nil => simp at l2
  | cons p r ih =>
    cases r with
    | nil => simp at l2
    | cons q r =>
      simp at h0
      subst h0
      by_cases h : t ≤ q.1
      · exact ⟨_, .inl ⟨b0, h, rfl⟩⟩
      · cases r with
        | nil =>
          simp at hn
          subst hn
          exact absurd bn h
        | cons s r =>
          obtain ⟨y, hy⟩ := ih (p0 := q) (by simp) rfl (by simpa using hn) (by grind)
          exact ⟨y, .inr hy⟩
theorem on_le {ps : List Pt} {pn : Pt} {t y : Rat} (inc : Inc ps) (hn : ps[ps.length - 1]? = some pn) (o : OnL ps t y) : t ≤ pn.1 := by
  induction ps with
  | nil => exact o.elim
  | cons p r ih =>
    cases r with
    | nil => exact o.elim
    | cons q r =>
      rcases o with ⟨_, h, _⟩ | o
      · by_cases hr : r = []
        · subst hr
          simp at hn
          subst hn
          exact h
        · have : q.1 ≤ pn.1 := by
            have := inc_get inc (i := 1) (j := (p :: q :: r).length - 1) (p := q) (q := pn) rfl hn (by
              cases r with
              | nil => exact absurd rfl hr
              | cons _ _ => simp)
            grind
          grind
      · exact ih inc.tail (by simpa using hn) o
/-- no point on the straight row of its neighbours -/
def NoCol : List Pt → Prop
  | p :: q :: s :: r => slp p q ≠ slp q s ∧ NoCol (q :: s :: r)
  | _ => True
theorem noCol_bnd {f : Pt} {r : List Pt} (h : Inc (f :: r)) : NoCol (f :: bnd f r) := by
  induction r generalizing f with
  | nil => trivial
  | cons p r ih =>
    cases r with
    | nil => trivial
    | cons q r =>
      unfold bnd
      split
      · exact ih h.skip
      · rename_i c
        have i := ih h.tail
        obtain ⟨n, l, e1, e2, _⟩ := bnd_next h.tail
        rw [e1] at i ⊢
        exact ⟨by rw [e2]; exact c, i⟩
theorem noCol_bends {ps : List Pt} (h : Inc ps) : NoCol (bends ps) := by
  cases ps with
  | nil => trivial
  | cons f r => exact noCol_bnd h
theorem NoCol.tail {p : Pt} {r : List Pt} (h : NoCol (p :: r)) : NoCol r := by
  match r, h with
  | [], _ => trivial
  | [_], _ => trivial
  | _ :: _ :: _, h => exact h.2
theorem on_tail {p q : Pt} {r : List Pt} {t y : Rat} (inc : Inc (p :: q :: r)) (hr : r ≠ []) (hq : q.1 ≤ t) : OnL (p :: q :: r) t y ↔ OnL (q :: r) t y := by
  constructor
  · rintro (⟨_, h, e⟩ | o)
    · have ht : t = q.1 := by grind
      subst ht
      have hl := inc.two
      cases r with
      | nil => exact absurd rfl hr
      | cons s r =>
        refine .inl ⟨by grind, ?_, ?_⟩
        · have := inc.tail.two
          grind
        · have := inc.tail.two
          rw [e]
          unfold lin slp
          grind
    · exact o
  · exact .inr
/-- the second point is no later -/
theorem canon_step {p p' q' : Pt} {r s : List Pt} (ip : Inc (p :: p' :: r)) (iq : Inc (p :: q' :: s)) (np : NoCol (p :: p' :: r)) (h : ∀ t y, OnL (p :: p' :: r) t y ↔ OnL (p :: q' :: s) t y) : ¬ p'.1 < q'.1 := by
  intro hlt
  have hp := ip.two
  cases r with
  | nil =>
    have o : OnL (p :: q' :: s) q'.1 (lin p q' q'.1) := .inl ⟨by grind, by grind, rfl⟩
    rcases (h _ _).mpr o with ⟨_, z, _⟩ | z
    · grind
    · exact z.elim
  | cons p2 r =>
    have hp2 := ip.tail.two
    obtain ⟨nc, _⟩ := np
    -- a moment behind p', ahead of both
    obtain ⟨t, t1, t2, t3⟩ : ∃ t, p'.1 < t ∧ t ≤ p2.1 ∧ t ≤ q'.1 := by
      by_cases c : p2.1 ≤ q'.1
      · exact ⟨p2.1, hp2, by grind, c⟩
      · exact ⟨q'.1, hlt, by grind, by grind⟩
    have o1 : OnL (p :: p' :: p2 :: r) t (lin p' p2 t) := .inr (.inl ⟨by grind, t2, rfl⟩)
    have o2 : OnL (p :: q' :: s) t (lin p q' t) := .inl ⟨by grind, t3, rfl⟩
    have e1 := on_one iq ((h _ _).mp o1) o2
    have o3 : OnL (p :: p' :: p2 :: r) p'.1 (lin p p' p'.1) := .inl ⟨by grind, by grind, rfl⟩
    have o4 : OnL (p :: q' :: s) p'.1 (lin p q' p'.1) := .inl ⟨by grind, by grind, rfl⟩
    have e2 := on_one iq ((h _ _).mp o3) o4
    apply nc
    unfold lin at e1 e2
    unfold slp at *
    grind
theorem on_start {p : Pt} {r : List Pt} (l : r ≠ []) (inc : Inc (p :: r)) : OnL (p :: r) p.1 p.2 := by
  cases r with
  | nil => exact absurd rfl l
  | cons q r =>
    have := inc.two
    refine .inl ⟨by grind, by grind, ?_⟩
    unfold lin
    grind
theorem canon_noCol : ∀ {ps qs : List Pt}, 2 ≤ ps.length → 2 ≤ qs.length → Inc ps → Inc qs → NoCol ps → NoCol qs → (∀ t y, OnL ps t y ↔ OnL qs t y) → ps = qs
  | p :: p' :: r, q :: q' :: s, _, _, ip, iq, np, nq, h => by
    -- the first points
    have op := on_start (by simp) ip
    have oq := on_start (by simp) iq
    have h1 := on_ge iq ((h _ _).mp op)
    have h2 := on_ge ip ((h _ _).mpr oq)
    have e1 : p.1 = q.1 := by grind
    have e2 : p.2 = q.2 := by
      have := (h _ _).mp op
      rw [e1] at this
      exact on_head iq this
    have e : p = q := Prod.ext e1 e2
    subst e
    -- the second ones
    have a := canon_step ip iq np h
    have b := canon_step iq ip nq fun t y => (h t y).symm
    have e3 : p'.1 = q'.1 := by grind
    have hp := ip.two
    have e4 : p'.2 = q'.2 := by
      have o1 : OnL (p :: p' :: r) p'.1 (lin p p' p'.1) := .inl ⟨by grind, by grind, rfl⟩
      have o2 : OnL (p :: q' :: s) p'.1 (lin p q' p'.1) := .inl ⟨by grind, by grind, rfl⟩
      have := on_one iq ((h _ _).mp o1) o2
      unfold lin slp at this
      grind
    have e : p' = q' := Prod.ext e3 e4
    subst e
    by_cases hr : r = []
    · subst hr
      by_cases hs : s = []
      · rw [hs]
      · exfalso
        cases s with
        | nil => exact hs rfl
        | cons q2 s =>
          have h2 := iq.tail.two
          have o : OnL (p :: p' :: q2 :: s) q2.1 (lin p' q2 q2.1) := .inr (.inl ⟨by grind, by grind, rfl⟩)
          rcases (h _ _).mpr o with ⟨_, z, _⟩ | z
          · grind
          · exact z.elim
    · by_cases hs : s = []
      · exfalso
        subst hs
        cases r with
        | nil => exact hr rfl
        | cons p2 r =>
          have h2 := ip.tail.two
          have o : OnL (p :: p' :: p2 :: r) p2.1 (lin p' p2 p2.1) := .inr (.inl ⟨by grind, by grind, rfl⟩)
          rcases (h _ _).mp o with ⟨_, z, _⟩ | z
          · grind
          · exact z.elim
      · have lr : 2 ≤ (p' :: r).length := by cases r with | nil => exact absurd rfl hr | cons _ _ => simp
        have ls : 2 ≤ (p' :: s).length := by cases s with | nil => exact absurd rfl hs | cons _ _ => simp
        have := canon_noCol lr ls ip.tail iq.tail np.tail nq.tail fun t y => by
          constructor
          · intro o
            have g := on_ge ip.tail o
            exact (on_tail iq hs g).mp ((h t y).mp ((on_tail ip hr g).mpr o))
          · intro o
            have g := on_ge iq.tail o
            exact (on_tail ip hr g).mp ((h t y).mpr ((on_tail iq hs g).mpr o))
        rw [this]
theorem bends_on {ps : List Pt} {t y : Rat} (l2 : 2 ≤ ps.length) (inc : Inc ps) : OnL (bends ps) t y ↔ OnL ps t y := by
  refine ⟨on_bends inc, fun o => ?_⟩
  obtain ⟨p0, h0⟩ : ∃ p0, ps[0]? = some p0 := ⟨ps[0], List.getElem?_eq_getElem (by omega)⟩
  obtain ⟨pn, hn⟩ : ∃ pn, ps[ps.length - 1]? = some pn := ⟨ps[ps.length - 1], List.getElem?_eq_getElem (by omega)⟩
  have hb0 : (bends ps)[0]? = some p0 := by rw [← List.head?_eq_getElem?, bends_head, List.head?_eq_getElem?, h0]
  have hbn : (bends ps)[(bends ps).length - 1]? = some pn := by rw [← List.getLast?_eq_getElem?, bends_last, List.getLast?_eq_getElem?, hn]
  have g : p0.1 ≤ t := by
    cases ps with
    | nil => simp at l2
    | cons p r =>
      simp at h0
      subst h0
      exact on_ge inc o
  obtain ⟨z, hz⟩ := on_total (bends_two l2) hb0 hbn g (on_le inc hn o)
  rw [on_one inc o (on_bends inc hz)]
  exact hz
/-- two lines with the same heights have the same bends -/
theorem bends_canon {ps qs : List Pt} (l1 : 2 ≤ ps.length) (l2 : 2 ≤ qs.length) (ip : Inc ps) (iq : Inc qs) (h : ∀ t y, OnL ps t y ↔ OnL qs t y) : bends ps = bends qs :=
  canon_noCol (bends_two l1) (bends_two l2) ip.bends iq.bends (noCol_bends ip) (noCol_bends iq) fun t y => (bends_on l1 ip).trans ((h t y).trans (bends_on l2 iq).symm)
end LM
namespace LM
/-! heights as a function -/
def hgt : List Pt → Rat → Rat
  | [p, q], t => lin p q t
  | p :: q :: r, t => if t ≤ q.1 then lin p q t else hgt (q :: r) t
  | _, _ => 0
theorem hgt_on {ps : List Pt} {p0 pn : Pt} {t : Rat} (l2 : 2 ≤ ps.length) (h0 : ps[0]? = some p0) (hn : ps[ps.length - 1]? = some pn) (b0 : p0.1 ≤ t) (bn : t ≤ pn.1) : OnL ps t (hgt ps t) := by
  induction ps generalizing p0 with
  | nil => simp at l2
  | cons p r ih =>
    cases r with
    | nil => simp at l2
    | cons q r =>
      simp at h0
      subst h0
      cases r with
      | nil =>
        simp at hn
        subst hn
        exact .inl ⟨b0, bn, rfl⟩
      | cons s r =>
        unfold hgt
        by_cases h : t ≤ q.1
        · rw [if_pos h]
          exact .inl ⟨b0, h, rfl⟩
        · rw [if_neg h]
          exact .inr (ih (p0 := q) (by simp) rfl (by simpa using hn) (by grind))
/-- linear between a and b -/
def Ln (f : Rat → Rat) (a b : Rat) : Prop := ∃ u v : Rat, ∀ t, a ≤ t → t ≤ b → f t = u + v * t
def mn (x y : Rat) : Rat := if x ≤ y then x else y
/-- the lesser of two, with the crossings -/
def cross (f g : Rat → Rat) (a b : Rat) : Rat := a + (b - a) * ((f a - g a) / ((f a - g a) - (f b - g b)))
def lowFrom (f g : Rat → Rat) (a : Rat) : List Rat → List Pt
  | [] => []
  | b :: r => (if (f a - g a) * (f b - g b) < 0 then [(cross f g a b, f (cross f g a b))] else []) ++ (b, mn (f b) (g b)) :: lowFrom f g b r
def lowPts (f g : Rat → Rat) : List Rat → List Pt
  | [] => []
  | a :: r => (a, mn (f a) (g a)) :: lowFrom f g a r
theorem cross_in {f g : Rat → Rat} {a b : Rat} (h : a < b) (hc : (f a - g a) * (f b - g b) < 0) : a < cross f g a b ∧ cross f g a b < b := by
  unfold cross
  generalize f a - g a = x at *
  generalize f b - g b = y at *
  have hxy : x - y ≠ 0 := by
    intro z
    have : x = y := by grind
    subst this
    have : 0 ≤ x * x := by
      rcases (Rat.le_total : 0 ≤ x ∨ x ≤ 0) with h | h
      · exact Rat.mul_nonneg h h
      · have : 0 ≤ -x := by grind
        have := Rat.mul_nonneg this this
        grind
    grind
  have hs : 0 < x / (x - y) ∧ x / (x - y) < 1 := by
    by_cases hx : 0 < x
    · have hy : y < 0 := by
        apply Classical.byContradiction
        intro z
        have := Rat.mul_nonneg (Rat.le_of_lt hx) (show 0 ≤ y by grind)
        grind
      have hd : 0 < x - y := by grind
      have i := Rat.inv_pos.mpr hd
      have e : x / (x - y) = x * (x - y)⁻¹ := Rat.div_def _ _
      have e1 : (x - y) * (x - y)⁻¹ = 1 := Rat.mul_inv_cancel _ hxy
      have p1 := Rat.mul_pos hx i
      have p2 := Rat.mul_pos (show 0 < -y by grind) i
      constructor <;> grind
    · have hx' : x < 0 := by
        have : x ≠ 0 := by
          intro z
          subst z
          grind
        grind
      have hy : 0 < y := by
        apply Classical.byContradiction
        intro z
        have := Rat.mul_nonneg (show 0 ≤ -x by grind) (show 0 ≤ -y by grind)
        grind
      have hd : 0 < y - x := by grind
      have i := Rat.inv_pos.mpr hd
      have e : x / (x - y) = (-x) * (y - x)⁻¹ := by grind
      have e1 : (y - x) * (y - x)⁻¹ = 1 := Rat.mul_inv_cancel _ (by grind)
      have p1 := Rat.mul_pos (show 0 < -x by grind) i
      have p2 := Rat.mul_pos hy i
      constructor <;> grind
  generalize x / (x - y) = s at hs
  have q1 := Rat.mul_pos (show 0 < b - a by grind) hs.1
  have q2 := Rat.mul_pos (show 0 < b - a by grind) (show 0 < 1 - s by grind)
  constructor <;> grind
theorem mid_le {a b t u v : Rat} (h : a < b) (h1 : a ≤ t) (h2 : t ≤ b) (ha : u + v * a ≤ 0) (hb : u + v * b ≤ 0) : u + v * t ≤ 0 := by
  have p1 := Rat.mul_nonneg (show 0 ≤ b - t by grind) (show 0 ≤ -(u + v * a) by grind)
  have p2 := Rat.mul_nonneg (show 0 ≤ t - a by grind) (show 0 ≤ -(u + v * b) by grind)
  apply Classical.byContradiction
  intro z
  have p3 := Rat.mul_pos (show 0 < b - a by grind) (show 0 < u + v * t by grind)
  grind
theorem lin_of {f : Rat → Rat} {a b t : Rat} (h : a < b) (hf : Ln f a b) (h1 : a ≤ t) (h2 : t ≤ b) : lin (a, f a) (b, f b) t = f t := by
  obtain ⟨u, v, hf⟩ := hf
  rw [hf a (by grind) (by grind), hf b (by grind) (by grind), hf t h1 h2]
  unfold lin slp
  grind
theorem Ln.sub {f : Rat → Rat} {a b c d : Rat} (h : Ln f a b) (h1 : a ≤ c) (h2 : d ≤ b) : Ln f c d := by
  obtain ⟨u, v, h⟩ := h
  exact ⟨u, v, fun t x y => h t (by grind) (by grind)⟩
/-- one of two linear ones that is the lesser at both ends is so between -/
theorem le_mid {f g : Rat → Rat} {a b t : Rat} (h : a < b) (hf : Ln f a b) (hg : Ln g a b) (ha : f a ≤ g a) (hb : f b ≤ g b) (h1 : a ≤ t) (h2 : t ≤ b) : f t ≤ g t := by
  obtain ⟨u, v, hf⟩ := hf
  obtain ⟨u', v', hg⟩ := hg
  rw [hf a (by grind) (by grind), hg a (by grind) (by grind)] at ha
  rw [hf b (by grind) (by grind), hg b (by grind) (by grind)] at hb
  rw [hf t h1 h2, hg t h1 h2]
  have := mid_le (u := u - u') (v := v - v') h h1 h2 (by grind) (by grind)
  grind
theorem seg_low {f g : Rat → Rat} {a b t : Rat} (h : a < b) (hf : Ln f a b) (hg : Ln g a b) (hc : (f a ≤ g a ∧ f b ≤ g b) ∨ (g a ≤ f a ∧ g b ≤ f b)) (h1 : a ≤ t) (h2 : t ≤ b) : lin (a, mn (f a) (g a)) (b, mn (f b) (g b)) t = mn (f t) (g t) := by
  rcases hc with ⟨ha, hb⟩ | ⟨ha, hb⟩
  · have ht := le_mid h hf hg ha hb h1 h2
    unfold mn
    rw [if_pos ha, if_pos hb, if_pos ht]
    exact lin_of h hf h1 h2
  · have ht := le_mid h hg hf ha hb h1 h2
    have e : ∀ {x y : Rat}, y ≤ x → mn x y = y := fun {x y} z => by
      unfold mn
      split <;> grind
    rw [e ha, e hb, e ht]
    exact lin_of h hg h1 h2
theorem sgn {x y : Rat} (h : ¬ x * y < 0) : (x ≤ 0 ∧ y ≤ 0) ∨ (0 ≤ x ∧ 0 ≤ y) := by
  by_cases hx : 0 < x
  · refine .inr ⟨by grind, ?_⟩
    apply Classical.byContradiction
    intro z
    have := Rat.mul_pos hx (show 0 < -y by grind)
    grind
  · by_cases hx0 : x = 0
    · subst hx0
      rcases (Rat.le_total : 0 ≤ y ∨ y ≤ 0) with z | z
      · exact .inr ⟨by grind, z⟩
      · exact .inl ⟨by grind, z⟩
    · refine .inl ⟨by grind, ?_⟩
      apply Classical.byContradiction
      intro z
      have := Rat.mul_pos (show 0 < -x by grind) (show 0 < y by grind)
      grind
theorem cross_eq {f g : Rat → Rat} {a b : Rat} (h : a < b) (hf : Ln f a b) (hg : Ln g a b) (hc : (f a - g a) * (f b - g b) < 0) : f (cross f g a b) = g (cross f g a b) := by
  obtain ⟨m1, m2⟩ := cross_in h hc
  have hd : (f a - g a) - (f b - g b) ≠ 0 := by
    intro z
    have e : f b - g b = f a - g a := by grind
    rw [e] at hc
    have : 0 ≤ (f a - g a) * (f a - g a) := by
      rcases (Rat.le_total : 0 ≤ f a - g a ∨ f a - g a ≤ 0) with h | h
      · exact Rat.mul_nonneg h h
      · have h' : 0 ≤ -(f a - g a) := by grind
        have := Rat.mul_nonneg h' h'
        grind
    grind
  obtain ⟨u, v, hf⟩ := hf
  obtain ⟨u', v', hg⟩ := hg
  have e0 : cross f g a b = a + (b - a) * ((f a - g a) / ((f a - g a) - (f b - g b))) := rfl
  rw [hf _ (by grind) (by grind), hg _ (by grind) (by grind)]
  rw [hf a (by grind) (by grind), hg a (by grind) (by grind), hf b (by grind) (by grind), hg b (by grind) (by grind)] at hd e0
  generalize cross f g a b = m at *
  rw [e0]
  grind
def Seg (f : Rat → Rat) : List Rat → Prop
  | a :: b :: r => Ln f a b ∧ Seg f (b :: r)
  | _ => True
abbrev Srt (ms : List Rat) : Prop := ms.Pairwise (· < ·)
theorem low_from {f g : Rat → Rat} : ∀ {r : List Rat} {a t : Rat}, Srt (a :: r) → Seg f (a :: r) → Seg g (a :: r) → r ≠ [] → a ≤ t → (∃ z ∈ a :: r, t ≤ z) → OnL ((a, mn (f a) (g a)) :: lowFrom f g a r) t (mn (f t) (g t))
  | [], _, _, _, _, _, h, _, _ => absurd rfl h
  | b :: r, a, t, hs, sf, sg, _, h1, hz => by
    obtain ⟨s1, s2⟩ := List.pairwise_cons.mp hs
    have hab : a < b := s1 b (by simp)
    -- behind b
    have rest : ¬ t ≤ b → OnL ((b, mn (f b) (g b)) :: lowFrom f g b r) t (mn (f t) (g t)) := fun hb => by
      obtain ⟨z, hz, hzt⟩ := hz
      have hz2 : z ∈ b :: r := by
        rcases List.mem_cons.mp hz with rfl | h
        · exfalso; grind
        · exact h
      have hr : r ≠ [] := by
        rintro rfl
        simp at hz2
        subst hz2
        exact hb hzt
      exact low_from s2 sf.2 sg.2 hr (by grind) ⟨z, hz2, hzt⟩
    by_cases hc : (f a - g a) * (f b - g b) < 0
    · obtain ⟨m1, m2⟩ := cross_in hab hc
      have me := cross_eq hab sf.1 sg.1 hc
      have el : lowFrom f g a (b :: r) = (cross f g a b, f (cross f g a b)) :: (b, mn (f b) (g b)) :: lowFrom f g b r := by
        rw [lowFrom, if_pos hc]
        rfl
      rw [el]
      generalize cross f g a b = m at *
      have em : f m = mn (f m) (g m) := by
        unfold mn
        split <;> grind
      rw [em]
      have c1 : (f a ≤ g a ∧ f m ≤ g m) ∨ (g a ≤ f a ∧ g m ≤ f m) := by
        rcases (Rat.le_total : f a ≤ g a ∨ g a ≤ f a) with z | z
        · exact .inl ⟨z, by grind⟩
        · exact .inr ⟨z, by grind⟩
      have c2 : (f m ≤ g m ∧ f b ≤ g b) ∨ (g m ≤ f m ∧ g b ≤ f b) := by
        rcases (Rat.le_total : f b ≤ g b ∨ g b ≤ f b) with z | z
        · exact .inl ⟨by grind, z⟩
        · exact .inr ⟨by grind, z⟩
      by_cases t1 : t ≤ m
      · exact .inl ⟨h1, t1, (seg_low m1 (sf.1.sub (by grind) (by grind)) (sg.1.sub (by grind) (by grind)) c1 h1 t1).symm⟩
      · by_cases t2 : t ≤ b
        · exact .inr (.inl ⟨by grind, t2, (seg_low m2 (sf.1.sub (by grind) (by grind)) (sg.1.sub (by grind) (by grind)) c2 (by grind) t2).symm⟩)
        · exact .inr (.inr (rest t2))
    · have el : lowFrom f g a (b :: r) = (b, mn (f b) (g b)) :: lowFrom f g b r := by
        rw [lowFrom, if_neg hc]
        rfl
      rw [el]
      have cc : (f a ≤ g a ∧ f b ≤ g b) ∨ (g a ≤ f a ∧ g b ≤ f b) := by
        rcases sgn hc with ⟨x, y⟩ | ⟨x, y⟩
        · exact .inl ⟨by grind, by grind⟩
        · exact .inr ⟨by grind, by grind⟩
      by_cases t2 : t ≤ b
      · exact .inl ⟨h1, t2, (seg_low hab sf.1 sg.1 cc h1 t2).symm⟩
      · exact .inr (rest t2)
theorem low_inc {f g : Rat → Rat} : ∀ {r : List Rat} {a : Rat}, Srt (a :: r) → ∀ p ∈ lowFrom f g a r, a < p.1
  | [], _, _ => fun p hp => by simp [lowFrom] at hp
  | b :: r, a, hs => fun p hp => by
    obtain ⟨s1, s2⟩ := List.pairwise_cons.mp hs
    have hab : a < b := s1 b (by simp)
    rw [lowFrom] at hp
    rcases List.mem_append.mp hp with h | h
    · split at h
      · rename_i hc
        have : p = (cross f g a b, f (cross f g a b)) := by simpa using h
        rw [this]
        exact (cross_in hab hc).1
      · simp at h
    · rcases List.mem_cons.mp h with rfl | h
      · exact hab
      · have := low_inc s2 p h
        grind
theorem low_Inc {f g : Rat → Rat} : ∀ {r : List Rat} {a : Rat} {y : Rat}, Srt (a :: r) → Inc ((a, y) :: lowFrom f g a r)
  | [], _, _, _ => by simp [lowFrom, Inc]
  | b :: r, a, y, hs => by
    refine List.pairwise_cons.mpr ⟨fun p hp => low_inc hs p hp, ?_⟩
    obtain ⟨s1, s2⟩ := List.pairwise_cons.mp hs
    have hab : a < b := s1 b (by simp)
    rw [lowFrom]
    have ih := low_Inc (f := f) (g := g) (y := mn (f b) (g b)) s2
    split
    · rename_i hc
      refine List.pairwise_cons.mpr ⟨fun p hp => ?_, ih⟩
      have hb := (cross_in hab hc).2
      rcases List.mem_cons.mp hp with rfl | h
      · exact hb
      · have := low_inc s2 p h
        grind
    · exact ih
theorem hgt_head {p q : Pt} {r : List Pt} (inc : Inc (p :: q :: r)) : hgt (p :: q :: r) p.1 = p.2 := by
  have h := inc.two
  cases r with
  | nil =>
    show lin p q p.1 = p.2
    unfold lin
    grind
  | cons s r =>
    unfold hgt
    rw [if_pos (by grind)]
    unfold lin
    grind
theorem hgt_cons (p q s : Pt) (r : List Pt) (t : Rat) : hgt (p :: q :: s :: r) t = if t ≤ q.1 then lin p q t else hgt (q :: s :: r) t := by
  rw [hgt]
  simp
theorem hgt_tail {p q s : Pt} {r : List Pt} {t : Rat} (inc : Inc (p :: q :: s :: r)) (h : q.1 ≤ t) : hgt (p :: q :: s :: r) t = hgt (q :: s :: r) t := by
  rw [hgt_cons]
  split
  · have e : t = q.1 := by grind
    subst e
    rw [hgt_head inc.tail]
    have := inc.two
    unfold lin slp
    grind
  · rfl
theorem hgt_ln : ∀ {ps : List Pt} {p0 pn : Pt} {a b : Rat}, 2 ≤ ps.length → Inc ps → ps[0]? = some p0 → ps[ps.length - 1]? = some pn → p0.1 ≤ a → a < b → b ≤ pn.1 → (∀ p ∈ ps, ¬ (a < p.1 ∧ p.1 < b)) → Ln (hgt ps) a b
  | [], _, _, _, _, l, _, _, _, _, _, _, _ => by simp at l
  | [_], _, _, _, _, l, _, _, _, _, _, _, _ => by simp at l
  | [p, q], p0, pn, a, b, _, inc, h0, hn, ha, hab, hb, _ => ⟨p.2 - slp p q * p.1, slp p q, fun t _ _ => by
      show lin p q t = _
      unfold lin
      grind⟩
  | p :: q :: s :: r, p0, pn, a, b, _, inc, h0, hn, ha, hab, hb, hno => by
    by_cases hq : b ≤ q.1
    · refine ⟨p.2 - slp p q * p.1, slp p q, fun t _ h2 => ?_⟩
      rw [hgt_cons, if_pos (by grind)]
      unfold lin
      grind
    · have haq : q.1 ≤ a := by
        have := hno q (by simp)
        grind
      obtain ⟨u, v, h⟩ := hgt_ln (ps := q :: s :: r) (p0 := q) (pn := pn) (by simp) inc.tail rfl (by simpa using hn) haq hab hb (fun p hp => hno p (by simp at hp ⊢; exact .inr hp))
      exact ⟨u, v, fun t h1 h2 => by
        rw [hgt_tail inc (by grind)]
        exact h t h1 h2⟩
end LM
namespace LM
theorem on_ex {ps : List Pt} {t y : Rat} (o : OnL ps t y) : ∃ p ∈ ps, t ≤ p.1 := by
  induction ps with
  | nil => exact o.elim
  | cons p r ih =>
    cases r with
    | nil => exact o.elim
    | cons q r =>
      rcases o with ⟨_, h, _⟩ | o
      · exact ⟨q, by simp, h⟩
      · obtain ⟨z, hz, h⟩ := ih o
        exact ⟨z, by simp at hz ⊢; exact .inr hz, h⟩
theorem low_ex {f g : Rat → Rat} : ∀ {r : List Rat} {a : Rat}, Srt (a :: r) → ∀ p ∈ lowFrom f g a r, ∃ z ∈ r, p.1 ≤ z
  | [], _, _ => fun p hp => by simp [lowFrom] at hp
  | b :: r, a, hs => fun p hp => by
    obtain ⟨s1, s2⟩ := List.pairwise_cons.mp hs
    have hab : a < b := s1 b (by simp)
    rw [lowFrom] at hp
    rcases List.mem_append.mp hp with h | h
    · split at h
      · rename_i hc
        have : p = (cross f g a b, f (cross f g a b)) := by simpa using h
        rw [this]
        exact ⟨b, by simp, Rat.le_of_lt (cross_in hab hc).2⟩
      · simp at h
    · rcases List.mem_cons.mp h with rfl | h
      · exact ⟨b, by simp, Rat.le_refl⟩
      · obtain ⟨z, hz, hl⟩ := low_ex s2 p h
        exact ⟨z, by simp [hz], hl⟩
/-- the line of the lesser ones: its heights -/
theorem low_all {f g : Rat → Rat} {a : Rat} {r : List Rat} (hs : Srt (a :: r)) (hr : r ≠ []) (sf : Seg f (a :: r)) (sg : Seg g (a :: r)) (t y : Rat) :
    OnL (lowPts f g (a :: r)) t y ↔ a ≤ t ∧ (∃ z ∈ a :: r, t ≤ z) ∧ y = mn (f t) (g t) := by
  have inc : Inc (lowPts f g (a :: r)) := low_Inc hs
  constructor
  · intro o
    have h1 : a ≤ t := on_ge inc o
    have h2 : ∃ z ∈ a :: r, t ≤ z := by
      obtain ⟨p, hp, ht⟩ := on_ex o
      rcases List.mem_cons.mp hp with rfl | hp
      · exact ⟨a, by simp, ht⟩
      · obtain ⟨z, hz, hl⟩ := low_ex hs p hp
        exact ⟨z, by simp [hz], Rat.le_trans ht hl⟩
    exact ⟨h1, h2, on_one inc o (low_from hs sf sg hr h1 h2)⟩
  · rintro ⟨h1, h2, rfl⟩
    exact low_from hs sf sg hr h1 h2
theorem Seg.congr {f g : Rat → Rat} : ∀ {ms : List Rat}, (∀ t, (∃ a ∈ ms, a ≤ t) → (∃ b ∈ ms, t ≤ b) → f t = g t) → Seg f ms → Seg g ms
  | [], _, _ => trivial
  | [_], _, _ => trivial
  | a :: b :: r, h, s => by
    obtain ⟨⟨u, v, s1⟩, s2⟩ := s
    refine ⟨⟨u, v, fun t x y => ?_⟩, Seg.congr (fun t ⟨x, hx, h1⟩ ⟨y, hy, h2⟩ => h t ⟨x, by simp at hx ⊢; exact .inr hx, h1⟩ ⟨y, by simp at hy ⊢; exact .inr hy, h2⟩) s2⟩
    rw [← h t ⟨a, by simp, x⟩ ⟨b, by simp, y⟩]
    exact s1 t x y
/-- heights are linear between neighbouring moments, where all breaks are among the moments -/
theorem seg_of {ps : List Pt} {p0 pn : Pt} (l2 : 2 ≤ ps.length) (inc : Inc ps) (h0 : ps[0]? = some p0) (hn : ps[ps.length - 1]? = some pn) : ∀ {ms : List Rat} {a : Rat}, Srt (a :: ms) → (∀ z ∈ a :: ms, p0.1 ≤ z ∧ z ≤ pn.1) → (∀ p ∈ ps, p.1 ≤ a ∨ p.1 ∈ ms) → Seg (hgt ps) (a :: ms)
  | [], _, _, _, _ => trivial
  | b :: r, a, hs, hin, hm => by
    obtain ⟨s1, s2⟩ := List.pairwise_cons.mp hs
    obtain ⟨s3, _⟩ := List.pairwise_cons.mp s2
    have hab : a < b := s1 b (by simp)
    refine ⟨hgt_ln l2 inc h0 hn (hin a (by simp)).1 hab (hin b (by simp)).2 (fun p hp ⟨z1, z2⟩ => ?_), seg_of l2 inc h0 hn s2 (fun z hz => hin z (by simp at hz ⊢; exact .inr hz)) (fun p hp => ?_)⟩
    · rcases hm p hp with h | h
      · grind
      · rcases List.mem_cons.mp h with h | h
        · grind
        · have := s3 p.1 h
          grind
    · rcases hm p hp with h | h
      · exact .inl (by grind)
      · rcases List.mem_cons.mp h with h | h
        · exact .inl (by grind)
        · exact .inr h
/-- two ways to the line of the lesser ones -/
theorem low_same {f g f' g' : Rat → Rat} {a a' : Rat} {r r' : List Rat} (hs : Srt (a :: r)) (hs' : Srt (a' :: r')) (hr : r ≠ []) (hr' : r' ≠ []) (sf : Seg f (a :: r)) (sg : Seg g (a :: r)) (sf' : Seg f' (a' :: r')) (sg' : Seg g' (a' :: r'))
    (ea : a = a') (el : ∀ t, (∃ z ∈ a :: r, t ≤ z) ↔ ∃ z ∈ a' :: r', t ≤ z) (ef : ∀ t, a ≤ t → (∃ z ∈ a :: r, t ≤ z) → f t = f' t ∧ g t = g' t) : bends (lowPts f g (a :: r)) = bends (lowPts f' g' (a' :: r')) := by
  have two : ∀ {f g : Rat → Rat} {a : Rat} {r : List Rat}, r ≠ [] → 2 ≤ (lowPts f g (a :: r)).length := fun {f g a r} h => by
    cases r with
    | nil => exact absurd rfl h
    | cons b r =>
      show 2 ≤ (lowFrom f g a (b :: r)).length + 1
      rw [lowFrom, List.length_append, List.length_cons]
      omega
  refine bends_canon (two hr) (two hr') (low_Inc hs) (low_Inc hs') fun t y => ?_
  rw [low_all hs hr sf sg, low_all hs' hr' sf' sg']
  subst ea
  constructor
  · rintro ⟨h1, h2, h3⟩
    obtain ⟨e1, e2⟩ := ef t h1 h2
    exact ⟨h1, (el t).mp h2, by rw [h3, e1, e2]⟩
  · rintro ⟨h1, h2, h3⟩
    have h2' := (el t).mpr h2
    obtain ⟨e1, e2⟩ := ef t h1 h2'
    exact ⟨h1, h2', by rw [h3, e1, e2]⟩
end LM
namespace LM
def ng (p : Pt) : Pt := (p.1, -p.2)
theorem slp_ng (p q : Pt) : slp (ng p) (ng q) = - slp p q := by
  unfold slp ng
  dsimp only
  rw [show -q.2 - -p.2 = -(q.2 - p.2) by grind, Rat.div_def, Rat.div_def, Rat.neg_mul]
theorem lin_ng (p q : Pt) (t : Rat) : lin (ng p) (ng q) t = - lin p q t := by
  unfold lin
  rw [slp_ng]
  unfold ng
  grind
theorem bnd_ng : ∀ (f : Pt) (r : List Pt), bnd (ng f) (r.map ng) = (bnd f r).map ng
  | f, [] => rfl
  | f, [p] => rfl
  | f, p :: q :: r => by
    have ih1 := bnd_ng f (q :: r)
    have ih2 := bnd_ng p (q :: r)
    simp only [List.map_cons] at ih1 ih2 ⊢
    rw [bnd, bnd, slp_ng, slp_ng]
    by_cases h : slp f p = slp p q
    · rw [if_pos (by rw [h]), if_pos h, ih1]
    · rw [if_neg (fun z => h (by have := congrArg (fun x => -x) z; simpa using this)), if_neg h, ih2]
      rfl
theorem bends_ng (ps : List Pt) : bends (ps.map ng) = (bends ps).map ng := by
  cases ps with
  | nil => rfl
  | cons p r =>
    simp only [List.map_cons, bends]
    rw [bnd_ng]
theorem hgt_ng (t : Rat) : ∀ (ps : List Pt), hgt (ps.map ng) t = - hgt ps t
  | [] => by simp [hgt]
  | [p] => by simp [hgt]
  | [p, q] => by
    show lin (ng p) (ng q) t = - lin p q t
    exact lin_ng p q t
  | p :: q :: s :: r => by
    have ih := hgt_ng t (q :: s :: r)
    simp only [List.map_cons] at ih ⊢
    rw [hgt_cons, hgt_cons, ih, lin_ng]
    show (if t ≤ q.1 then _ else _) = _
    split <;> rfl
theorem inc_ng {ps : List Pt} (h : Inc ps) : Inc (ps.map ng) := List.pairwise_map.mpr h
end LM
namespace LM
/-- a line as a function from a to b -/
structure Fn (ps : List Pt) (a b : Rat) (F : Rat → Rat) : Prop where
  l2 : 2 ≤ ps.length
  inc : Inc ps
  on : ∀ t y, OnL ps t y ↔ a ≤ t ∧ t ≤ b ∧ y = F t
/-- the ends of points -/
structure Ends2 (ps : List Pt) (a b : Rat) : Prop where
  l2 : 2 ≤ ps.length
  inc : Inc ps
  h0 : ∃ y, ps[0]? = some (a, y)
  hn : ∃ y, ps[ps.length - 1]? = some (b, y)
theorem Ends2.fn {ps : List Pt} {a b : Rat} (e : Ends2 ps a b) : Fn ps a b (hgt ps) := by
  obtain ⟨y0, h0⟩ := e.h0
  obtain ⟨yn, hn⟩ := e.hn
  refine ⟨e.l2, e.inc, fun t y => ⟨fun o => ?_, ?_⟩⟩
  · have h2 := on_le e.inc hn o
    have h1 : a ≤ t := by
      cases ps with
      | nil => simp at h0
      | cons p r =>
        simp at h0
        have := on_ge e.inc o
        rw [h0] at this
        exact this
    exact ⟨h1, h2, on_one e.inc o (hgt_on e.l2 h0 hn h1 h2)⟩
  · rintro ⟨h1, h2, rfl⟩
    exact hgt_on e.l2 h0 hn h1 h2
theorem Ends2.mem {ps : List Pt} {a b : Rat} (e : Ends2 ps a b) : a ∈ ps.map (·.1) ∧ b ∈ ps.map (·.1) ∧ ∀ z ∈ ps.map (·.1), a ≤ z ∧ z ≤ b := by
  obtain ⟨y0, h0⟩ := e.h0
  obtain ⟨yn, hn⟩ := e.hn
  refine ⟨List.mem_map.mpr ⟨_, List.mem_of_getElem? h0, rfl⟩, List.mem_map.mpr ⟨_, List.mem_of_getElem? hn, rfl⟩, fun z hz => ?_⟩
  obtain ⟨p, hp, rfl⟩ := List.mem_map.mp hz
  obtain ⟨i, hi⟩ := List.getElem?_of_mem hp
  have hl := (List.getElem?_eq_some_iff.mp hi).1
  refine ⟨?_, ?_⟩
  · rcases Nat.eq_zero_or_pos i with rfl | h
    · rw [h0] at hi
      cases hi
      exact Rat.le_refl
    · exact Rat.le_of_lt (inc_get e.inc h0 hi h)
  · rcases Nat.lt_or_ge i (ps.length - 1) with h | h
    · exact Rat.le_of_lt (inc_get e.inc hi hn h)
    · have : i = ps.length - 1 := by omega
      rw [this, hn] at hi
      cases hi
      exact Rat.le_refl
theorem Ends2.lt {ps : List Pt} {a b : Rat} (e : Ends2 ps a b) : a < b := by
  obtain ⟨y0, h0⟩ := e.h0
  obtain ⟨yn, hn⟩ := e.hn
  exact inc_get e.inc h0 hn (by have := e.l2; omega)
theorem Ends2.bends {ps : List Pt} {a b : Rat} (e : Ends2 ps a b) : Ends2 (bends ps) a b := by
  obtain ⟨y0, h0⟩ := e.h0
  obtain ⟨yn, hn⟩ := e.hn
  refine ⟨bends_two e.l2, e.inc.bends, ⟨y0, ?_⟩, ⟨yn, ?_⟩⟩
  · rw [← List.head?_eq_getElem?, bends_head, List.head?_eq_getElem?]
    exact h0
  · rw [← List.getLast?_eq_getElem?, bends_last, List.getLast?_eq_getElem?]
    exact hn
theorem Ends2.ng {ps : List Pt} {a b : Rat} (e : Ends2 ps a b) : Ends2 (ps.map ng) a b := by
  obtain ⟨y0, h0⟩ := e.h0
  obtain ⟨yn, hn⟩ := e.hn
  refine ⟨by simpa using e.l2, inc_ng e.inc, ⟨-y0, ?_⟩, ⟨-yn, ?_⟩⟩
  · rw [List.getElem?_map, h0]
    rfl
  · rw [List.length_map, List.getElem?_map, hn]
    rfl
theorem Fn.bends {ps : List Pt} {a b : Rat} {F : Rat → Rat} (h : Fn ps a b F) : Fn (bends ps) a b F := ⟨bends_two h.l2, h.inc.bends, fun t y => (bends_on h.l2 h.inc).trans (h.on t y)⟩
theorem Fn.same {ps qs : List Pt} {a b : Rat} {F G : Rat → Rat} (h : Fn ps a b F) (k : Fn qs a b G) (e : ∀ t, a ≤ t → t ≤ b → F t = G t) : LM.bends ps = LM.bends qs :=
  bends_canon h.l2 k.l2 h.inc k.inc fun t y => (h.on t y).trans (Iff.trans ⟨fun ⟨x, y, z⟩ => ⟨x, y, z.trans (e t x y)⟩, fun ⟨x, y, z⟩ => ⟨x, y, z.trans (e t x y).symm⟩⟩ (k.on t y).symm)
theorem Fn.back {ps qs : List Pt} {a b : Rat} {F G : Rat → Rat} (h : Fn ps a b F) (k : Fn qs a b G) (e : LM.bends ps = LM.bends qs) {t : Rat} (h1 : a ≤ t) (h2 : t ≤ b) : F t = G t := by
  have o := (h.bends.on t (F t)).mpr ⟨h1, h2, rfl⟩
  rw [e] at o
  exact ((k.bends.on t (F t)).mp o).2.2
theorem Fn.congr {ps : List Pt} {a b : Rat} {F G : Rat → Rat} (h : Fn ps a b F) (e : ∀ t, a ≤ t → t ≤ b → F t = G t) : Fn ps a b G := ⟨h.l2, h.inc, fun t y => (h.on t y).trans ⟨fun ⟨x, y, z⟩ => ⟨x, y, z.trans (e t x y)⟩, fun ⟨x, y, z⟩ => ⟨x, y, z.trans (e t x y).symm⟩⟩⟩
/-- moments among which are all of two lines with these ends -/
structure Stops (ms : List Rat) (a b : Rat) (xs : List Rat) : Prop where
  srt : Srt ms
  ain : a ∈ ms
  bin : b ∈ ms
  lim : ∀ z ∈ ms, a ≤ z ∧ z ≤ b
  all : ∀ z ∈ xs, z ∈ ms
theorem Stops.cons {ms xs : List Rat} {a b : Rat} (s : Stops ms a b xs) (h : a < b) : ∃ r, ms = a :: r ∧ r ≠ [] := by
  cases ms with
  | nil => exact absurd s.ain (by simp)
  | cons c r =>
    have e : c = a := by
      rcases List.mem_cons.mp s.ain with e | e
      · exact e.symm
      · have := (List.pairwise_cons.mp s.srt).1 a e
        have := (s.lim c (by simp)).1
        grind
    subst e
    refine ⟨r, rfl, fun z => ?_⟩
    subst z
    have := s.bin
    simp at this
    grind
theorem Stops.seg {ms xs : List Rat} {a b : Rat} {ps : List Pt} (s : Stops ms a b xs) (e : Ends2 ps a b) (h : ∀ p ∈ ps, p.1 ∈ xs) : Seg (hgt ps) ms := by
  obtain ⟨r, rfl, hr⟩ := s.cons e.lt
  obtain ⟨y0, h0⟩ := e.h0
  obtain ⟨yn, hn⟩ := e.hn
  refine seg_of e.l2 e.inc h0 hn s.srt s.lim fun p hp => ?_
  rcases List.mem_cons.mp (s.all p.1 (h p hp)) with h | h
  · exact .inl (by rw [h]; exact Rat.le_refl)
  · exact .inr h
theorem Stops.low {ms xs : List Rat} {a b : Rat} {ps qs : List Pt} (s : Stops ms a b xs) (e : Ends2 ps a b) (k : Ends2 qs a b) (h1 : ∀ p ∈ ps, p.1 ∈ xs) (h2 : ∀ p ∈ qs, p.1 ∈ xs) : Fn (lowPts (hgt ps) (hgt qs) ms) a b (fun t => mn (hgt ps t) (hgt qs t)) := by
  have sf := s.seg e h1
  have sg := s.seg k h2
  obtain ⟨r, rfl, hr⟩ := s.cons e.lt
  refine ⟨?_, low_Inc s.srt, fun t y => ?_⟩
  · cases r with
    | nil => exact absurd rfl hr
    | cons c r =>
      simp [lowPts, lowFrom]
      omega
  · rw [low_all s.srt hr sf sg]
    exact ⟨fun ⟨x, ⟨z, hz, w⟩, q⟩ => ⟨x, Rat.le_trans w (s.lim z hz).2, q⟩, fun ⟨x, w, q⟩ => ⟨x, ⟨b, s.bin, w⟩, q⟩⟩
theorem on_ng {ps : List Pt} {t y : Rat} : OnL (ps.map ng) t y ↔ OnL ps t (-y) := by
  induction ps with
  | nil => exact Iff.rfl
  | cons p r ih =>
    cases r with
    | nil => exact Iff.rfl
    | cons q r =>
      simp only [List.map_cons] at ih ⊢
      show ((ng p).1 ≤ t ∧ t ≤ (ng q).1 ∧ y = lin (ng p) (ng q) t) ∨ _ ↔ (p.1 ≤ t ∧ t ≤ q.1 ∧ -y = lin p q t) ∨ _
      rw [ih, lin_ng]
      have : y = -lin p q t ↔ -y = lin p q t := by constructor <;> intro h <;> grind
      rw [this]
      exact Iff.rfl
theorem Fn.ng {ps : List Pt} {a b : Rat} {F : Rat → Rat} (h : Fn ps a b F) : Fn (ps.map ng) a b (fun t => -F t) := by
  refine ⟨by simpa using h.l2, inc_ng h.inc, fun t y => ?_⟩
  rw [on_ng, h.on]
  have : -y = F t ↔ y = -F t := by constructor <;> intro h <;> grind
  rw [this]
/-- below at all stops: below throughout -/
theorem Stops.le {ms xs : List Rat} {a b : Rat} {ps qs : List Pt} (s : Stops ms a b xs) (e : Ends2 ps a b) (k : Ends2 qs a b) (h1 : ∀ p ∈ ps, p.1 ∈ xs) (h2 : ∀ p ∈ qs, p.1 ∈ xs) (h : ∀ m ∈ ms, hgt ps m ≤ hgt qs m) {t : Rat} (ta : a ≤ t) (tb : t ≤ b) : hgt ps t ≤ hgt qs t := by
  have sf := s.seg e h1
  have sg := s.seg k h2
  have go : ∀ (ms : List Rat) (c : Rat), Srt (c :: ms) → Seg (hgt ps) (c :: ms) → Seg (hgt qs) (c :: ms) → (∀ m ∈ c :: ms, hgt ps m ≤ hgt qs m) → c ≤ t → (∃ z ∈ c :: ms, t ≤ z) → hgt ps t ≤ hgt qs t := by
    intro ms
    induction ms with
    | nil =>
      intro c _ _ _ h3 h4 ⟨z, hz, h5⟩
      simp at hz
      subst hz
      have : t = z := by grind
      rw [this]
      exact h3 z (by simp)
    | cons d r ih =>
      intro c hs s1 s2 h3 h4 ⟨z, hz, h5⟩
      obtain ⟨q1, q2⟩ := List.pairwise_cons.mp hs
      by_cases hd : t ≤ d
      · exact le_mid (q1 d (by simp)) s1.1 s2.1 (h3 c (by simp)) (h3 d (by simp)) h4 hd
      · refine ih d q2 s1.2 s2.2 (fun m hm => h3 m (by simp at hm ⊢; exact .inr hm)) (by grind) ⟨z, ?_, h5⟩
        rcases List.mem_cons.mp hz with rfl | hz
        · exact absurd (Rat.le_trans h5 (Rat.le_of_lt (q1 d (by simp)))) hd
        · exact hz
  obtain ⟨r, rfl, hr⟩ := s.cons e.lt
  exact go r a s.srt sf sg h ta ⟨b, s.bin, tb⟩
end LM
set_option Elab.async false
set_option linter.all false
set_option maxRecDepth 100000
set_option maxHeartbeats 2000000
/-! mirrors run by simp: what each word of the layer does -/
namespace UL
open PySem L2 LM
/-! sizes of numbers, found by instances -/
class HtC (n : outParam Nat) (r : Rat) : Prop where
  h : Ht n r
section
variable {a b : Rat} {n m : Nat}
theorem HtC.of (h : Ht n a) : HtC n a := ⟨h⟩
theorem Ht.div' (h1 : Ht n a) (h2 : Ht m b) : Ht (n + m + 1) (a / b) := by
  by_cases hb : b = 0
  · subst hb
    rw [Rat.div_def, Rat.inv_zero, Rat.mul_zero]
    exact ⟨Nat.two_pow_pos _, Nat.one_lt_two_pow (by omega)⟩
  · exact (h1.div h2 hb).mono (by omega)
instance [x : HtC n a] [y : HtC m b] : HtC (n + m + 1) (a + b) := ⟨x.h.add y.h⟩
instance [x : HtC n a] [y : HtC m b] : HtC (n + m + 1) (a - b) := ⟨x.h.sub y.h⟩
instance [x : HtC n a] [y : HtC m b] : HtC (n + m) (a * b) := ⟨x.h.mul y.h⟩
instance [x : HtC n a] [y : HtC m b] : HtC (n + m + 1) (a / b) := ⟨Ht.div' x.h y.h⟩
instance [x : HtC n a] : HtC n (-a) := ⟨x.h.neg⟩
theorem smQ_of (h : Ht n a) (l : n ≤ 4000) : smQ a = true := by
  have h := h.mono l
  unfold smQ
  rw [decide_eq_true h.1, decide_eq_true h.2]
  rfl
theorem okQ_of {u : U} [x : HtC n a] [y : HtC m b] (h : n ≤ 4000) (h' : m ≤ 4000) : okQ a b u = some u := by
  unfold okQ
  rw [smQ_of x.h h, smQ_of y.h h']
  rfl
theorem ht0 : Ht 1 ((0 : Int) : Rat) := ⟨by decide, by decide⟩
@[simp] theorem addU_qq [HtC n a] [HtC m b] (h : n ≤ 4000) (h' : m ≤ 4000) : addU (.q a) (.q b) = some (.q (a + b)) := okQ_of h h'
@[simp] theorem subU_qq [HtC n a] [HtC m b] (h : n ≤ 4000) (h' : m ≤ 4000) : subU (.q a) (.q b) = some (.q (a - b)) := okQ_of h h'
@[simp] theorem mulU_qq [HtC n a] [HtC m b] (h : n ≤ 4000) (h' : m ≤ 4000) : mulU (.q a) (.q b) = some (.q (a * b)) := okQ_of h h'
@[simp] theorem ltU_qq [HtC n a] [HtC m b] (h : n ≤ 4000) (h' : m ≤ 4000) : ltU (.q a) (.q b) = some (.bl (decide (a < b))) := okQ_of h h'
@[simp] theorem leU_qq [HtC n a] [HtC m b] (h : n ≤ 4000) (h' : m ≤ 4000) : leU (.q a) (.q b) = some (.bl (decide (a ≤ b))) := okQ_of h h'
@[simp] theorem gtU_qq [HtC n a] [HtC m b] (h : n ≤ 4000) (h' : m ≤ 4000) : gtU (.q a) (.q b) = some (.bl (decide (b < a))) := okQ_of h h'
@[simp] theorem geU_qq [HtC n a] [HtC m b] (h : n ≤ 4000) (h' : m ≤ 4000) : geU (.q a) (.q b) = some (.bl (decide (b ≤ a))) := okQ_of h h'
@[simp] theorem negU_q [x : HtC n a] (h : n ≤ 4000) : negU (.q a) = some (.q (-a)) := by
  dsimp only [negU]
  rw [if_pos (smQ_of x.h h)]
@[simp] theorem byF_qq [HtC n a] [HtC m b] (h0 : b ≠ 0) (h : n ≤ 4000) (h' : m ≤ 4000) : byF [.q a, .q b] = some (.q (a / b)) := by
  dsimp only [byF]
  rw [if_pos h0]
  exact okQ_of h h'
@[simp] theorem ltU_q0 [HtC n a] (h : n ≤ 4000) : ltU (.q a) (.int 0) = some (.bl (decide (a < 0))) := by
  haveI : HtC 1 ((0 : Int) : Rat) := ⟨ht0⟩
  exact okQ_of (b := ((0 : Int) : Rat)) h (by decide)
@[simp] theorem leU_q0 [HtC n a] (h : n ≤ 4000) : leU (.q a) (.int 0) = some (.bl (decide (a ≤ 0))) := by
  haveI : HtC 1 ((0 : Int) : Rat) := ⟨ht0⟩
  exact okQ_of (b := ((0 : Int) : Rat)) h (by decide)
@[simp] theorem gtU_q0 [HtC n a] (h : n ≤ 4000) : gtU (.q a) (.int 0) = some (.bl (decide (0 < a))) := by
  haveI : HtC 1 ((0 : Int) : Rat) := ⟨ht0⟩
  exact okQ_of (b := ((0 : Int) : Rat)) h (by decide)
@[simp] theorem geU_q0 [HtC n a] (h : n ≤ 4000) : geU (.q a) (.int 0) = some (.bl (decide (0 ≤ a))) := by
  haveI : HtC 1 ((0 : Int) : Rat) := ⟨ht0⟩
  exact okQ_of (b := ((0 : Int) : Rat)) h (by decide)
/-! ints -/
@[simp] theorem addU_ii {i j : Int} : addU (.int i) (.int j) = some (.int (i + j)) := rfl
@[simp] theorem subU_ii {i j : Int} : subU (.int i) (.int j) = some (.int (i - j)) := rfl
@[simp] theorem negU_i {i : Int} : negU (.int i) = some (.int (-i)) := rfl
@[simp] theorem ltU_ii {i j : Int} : ltU (.int i) (.int j) = some (.bl (decide (i < j))) := rfl
@[simp] theorem leU_ii {i j : Int} : leU (.int i) (.int j) = some (.bl (decide (i ≤ j))) := rfl
@[simp] theorem gtU_ii {i j : Int} : gtU (.int i) (.int j) = some (.bl (decide (j < i))) := rfl
@[simp] theorem geU_ii {i j : Int} : geU (.int i) (.int j) = some (.bl (decide (j ≤ i))) := rfl
@[simp] theorem addI_ii {i j : Int} : addI (.int i) (.int j) = some (.int (i + j)) := rfl
@[simp] theorem eqU_ii {i j : Int} {n : Nat} : eqU n (.int i) (.int j) = some (.bl (decide (i = j))) := by cases n <;> rfl
@[simp] theorem eqU_bb {i j : Bool} {n : Nat} : eqU n (.bl i) (.bl j) = some (.bl (decide (i = j))) := by cases n <;> rfl
@[simp] theorem eqU_ss {i j : Str} {n : Nat} : eqU n (.str i) (.str j) = some (.bl (decide (i = j))) := by cases n <;> rfl
@[simp] theorem eqU_qq' {i j : Rat} {n : Nat} : eqU n (.q i) (.q j) = some (.bl (decide (i = j))) := by cases n <;> rfl
@[simp] theorem neU_ii {i j : Int} : neU (.int i) (.int j) = some (.bl (!decide (i = j))) := by
  simp [neU, toD, SeqAt.shaped, PyData.canLay0, PyData.depth, PyData.eqv]
  by_cases h : i = j <;> simp [h]
theorem smI_of {i : Int} (h : i.natAbs < 2 ^ 64) : smI i = true := decide_eq_true h
theorem mulOk_l {i j : Int} (h : smI i = true) : mulOk i j = true := by simp [mulOk, h]
theorem mulOk_r {i j : Int} (h : smI j = true) : mulOk i j = true := by simp [mulOk, h]
theorem mulOk_b {i j : Int} (h : i.natAbs < 2 ^ 8500) (h' : j.natAbs < 2 ^ 8500) : mulOk i j = true := by
  unfold mulOk bigI
  rw [decide_eq_true h, decide_eq_true h']
  simp
theorem mulU_ii {i j : Int} (h : mulOk i j = true) : mulU (.int i) (.int j) = some (.int (i * j)) := by
  dsimp only [mulU]
  rw [if_pos h]
theorem mulU_l {i j : Int} (h : i.natAbs < 2 ^ 64) : mulU (.int i) (.int j) = some (.int (i * j)) := mulU_ii (mulOk_l (smI_of h))
theorem mulU_r {i j : Int} (h : j.natAbs < 2 ^ 64) : mulU (.int i) (.int j) = some (.int (i * j)) := mulU_ii (mulOk_r (smI_of h))
theorem fdivU_ii {i j : Int} (h : j ≠ 0) (h' : j.natAbs < 2 ^ 9000) : fdivU (.int i) (.int j) = some (.int (i.fdiv j)) := by
  dsimp only [fdivU]
  rw [if_pos ⟨h, (Nat.log2_lt (by omega)).mpr h'⟩]
theorem modU_ii {i j : Int} (h : j ≠ 0) : modU (.int i) (.int j) = some (.int (i.fmod j)) := by
  dsimp only [modU]
  rw [if_pos h]
end
end UL
set_option Elab.async false
set_option linter.all false
set_option maxRecDepth 100000
set_option maxHeartbeats 2000000
/-! mirrors run by simp: the words of the layer -/
namespace UL
open PySem L2 LM
def getP (env : Env) (i : Nat) : Option U := match env[i]? with
  | some (some (.p u)) => some u
  | _ => none
@[simp] theorem mVar_d {env : Env} {i : Nat} : mVar i env = (getP env i).bind fun u => some (u, env) := by
  unfold mVar getP
  split <;> simp_all
@[simp] theorem getP_0 {u : U} {e : Env} : getP (some (.p u) :: e) 0 = some u := rfl
@[simp] theorem getP_s {x : Option Ow} {e : Env} {i : Nat} : getP (x :: e) (i + 1) = getP e i := rfl
section
variable {env : Env} {i j l : Nat} {u v x y : U} {a b c : M U} {α β : Type}
@[simp] theorem mC_d : mC u env = some (u, env) := rfl
@[simp] theorem m1_d {f : U → Option U} : m1 f a env = (a env).bind fun x => (f x.1).bind fun z => some (z, x.2) := rfl
@[simp] theorem m2_d {f : U → U → Option U} : m2 f a b env = (a env).bind fun x => (b x.2).bind fun y => (f x.1 y.1).bind fun z => some (z, y.2) := rfl
@[simp] theorem mNil_d : mNil env = some ([], env) := rfl
@[simp] theorem mCons_d {r : M (List U)} : mCons a r env = (a env).bind fun x => (r x.2).bind fun y => some (x.1 :: y.1, y.2) := rfl
@[simp] theorem mN_d {f : List U → Option U} {r : M (List U)} : mN f r env = (r env).bind fun x => (f x.1).bind fun z => some (z, x.2) := rfl
@[simp] theorem mLst_d {r : M (List U)} : mLst r env = (r env).bind fun x => some (.lst x.1, x.2) := rfl
@[simp] theorem mTup_d {r : M (List U)} : mTup r env = (r env).bind fun x => some (.tup x.1, x.2) := rfl
@[simp] theorem mLstO_d {r : M (List U)} : mLstO r env = (r env).bind fun x => some (.l (x.1.map .p), x.2) := rfl
@[simp] theorem mP_d : mP a env = (a env).bind fun x => some (.p x.1, x.2) := rfl
@[simp] theorem mF_d {r : M Ow} : mF r env = (r env).bind fun x => some (frz x.1, x.2) := rfl
@[simp] theorem isB_bl {t : Bool} : isB (.bl t) = some t := rfl
@[simp] theorem mTest_d : mTest a env = (a env).bind fun x => (isB x.1).bind fun b => some (b, x.2) := rfl
@[simp] theorem mAnd_d {a b : M Bool} : mAnd a b env = (a env).bind fun x => if x.1 = true then b x.2 else some (false, x.2) := rfl
@[simp] theorem mOr_d {a b : M Bool} : mOr a b env = (a env).bind fun x => if x.1 = true then some (true, x.2) else b x.2 := rfl
@[simp] theorem mNot_d {a : M Bool} : mNot a env = (a env).bind fun x => some (!x.1, x.2) := rfl
@[simp] theorem mIf_d {c : M Bool} : mIf c a b env = (c env).bind fun x => if x.1 = true then a x.2 else b x.2 := rfl
@[simp] theorem mAndV_d : mAndV a b env = (a env).bind fun x => (isB x.1).bind fun k => if k = true then b x.2 else some (.bl false, x.2) := rfl
@[simp] theorem mOrV_d : mOrV a b env = (a env).bind fun x => (isB x.1).bind fun k => if k = true then some (.bl true, x.2) else b x.2 := rfl
@[simp] theorem mNotV_d : mNotV a env = (a env).bind fun x => (isB x.1).bind fun k => some (.bl (!k), x.2) := rfl
@[simp] theorem mIsN_d : mIsN a env = (a env).bind fun x => some (.bl (isN x.1), x.2) := rfl
@[simp] theorem mNotN_d : mNotN a env = (a env).bind fun x => some (.bl (!isN x.1), x.2) := rfl
@[simp] theorem sNext_d : sNext env = some (.nx env) := rfl
@[simp] theorem sNever_d : sNever env = none := rfl
def seqK (t : MS) : Fl → Option Fl
  | .nx e => t e
  | f => some f
@[simp] theorem seqK_nx {t : MS} {e : Env} : seqK t (.nx e) = t e := rfl
@[simp] theorem seqK_rt {t : MS} {w : Ow} {e : Env} : seqK t (.rt w e) = some (.rt w e) := rfl
@[simp] theorem seqK_bk {t : MS} {e : Env} : seqK t (.bk e) = some (.bk e) := rfl
@[simp] theorem sSeq_d {s t : MS} : sSeq s t env = (s env).bind (seqK t) := by
  unfold sSeq
  cases s env with
  | none => rfl
  | some f => cases f <;> rfl
theorem sSeq_nx {s t : MS} {e : Env} (h : s env = some (.nx e)) : sSeq s t env = t e := by simp [sSeq, h]
@[simp] theorem sIf_d {c : M Bool} {s t : MS} : sIf c s t env = (c env).bind fun x => if x.1 = true then s x.2 else t x.2 := rfl
@[simp] theorem sDrop_d : sDrop a env = (a env).bind fun x => some (.nx x.2) := rfl
@[simp] theorem sRet_d {r : M Ow} : sRet r env = (r env).bind fun x => some (.rt x.1 x.2) := rfl
@[simp] theorem sSet_d {r : M Ow} : sSet i r env = (r env).bind fun x => some (.nx (x.2.set i (some x.1))) := rfl
@[simp] theorem gN_d : gN i u env = some (env.set i (some (.p u))) := rfl
@[simp] theorem gsNil_d : gsNil [] env = some env := rfl
@[simp] theorem gsCons_d {g : MG} {r : MGs} {us : List U} : gsCons g r (u :: us) env = (g u env).bind fun e => r us e := rfl
@[simp] theorem gT_d {n : Nat} {r : MGs} {us : List U} : gT n r (.tup us) env = if us.length = n then r us env else none := rfl
@[simp] theorem sAsg_d {g : MG} : sAsg a g env = (a env).bind fun x => (g x.1 x.2).bind fun e => some (.nx e) := rfl
def parK (i j : Nat) : List U × Env → Option Fl
  | ([u, v], e) => some (.nx ((e.set i (some (.p u))).set j (some (.p v))))
  | _ => none
@[simp] theorem parK_d {e : Env} : parK i j ([u, v], e) = some (.nx ((e.set i (some (.p u))).set j (some (.p v)))) := rfl
@[simp] theorem sPar_d {r : M (List U)} : sPar i j r env = (r env).bind (parK i j) := by
  unfold sPar
  cases r env with
  | none => rfl
  | some x =>
    obtain ⟨us, e⟩ := x
    rcases us with _ | ⟨a, _ | ⟨b, _ | ⟨c, us⟩⟩⟩ <;> rfl
def par3K (i j l : Nat) : List U × Env → Option Fl
  | ([u, v, w], e) => some (.nx (((e.set i (some (.p u))).set j (some (.p v))).set l (some (.p w))))
  | _ => none
@[simp] theorem par3K_d {e : Env} {w : U} : par3K i j l ([u, v, w], e) = some (.nx (((e.set i (some (.p u))).set j (some (.p v))).set l (some (.p w)))) := rfl
@[simp] theorem sPar3_d {r : M (List U)} : sPar3 i j l r env = (r env).bind (par3K i j l) := by
  unfold sPar3
  cases r env with
  | none => rfl
  | some x =>
    obtain ⟨us, e⟩ := x
    rcases us with _ | ⟨a, _ | ⟨b, _ | ⟨c, _ | ⟨d, us⟩⟩⟩⟩ <;> rfl
@[simp] theorem sAug_d {f : U → U → Option U} : sAug i f a env = (mVar i env).bind fun y => (a y.2).bind fun x => (f y.1 x.1).bind fun z => some (.nx (x.2.set i (some (.p z)))) := rfl
@[simp] theorem sFor_d {it : M (List U)} {g : MG} {s : MS} : sFor it g s env = (it env).bind fun x => forO g s x.1 x.2 := rfl
@[simp] theorem seqU_l {us : List U} : seqU (.lst us) = some us := rfl
@[simp] theorem seqU_t {us : List U} : seqU (.tup us) = some us := rfl
@[simp] theorem mSeq_d : mSeq a env = (a env).bind fun x => (seqU x.1).bind fun us => some (us, x.2) := rfl
@[simp] theorem isP_p : isP (.p u) = some u := rfl
@[simp] theorem isI_i {n : Int} : isI (.int n) = some n := rfl
@[simp] theorem mYes_d : mYes env = some (true, env) := rfl
@[simp] theorem mLc_d {vs : List Nat} {mi : M (List U)} {g : MG} {tt : M Bool} {te : M U} : mLc vs mi g tt te env = (mi env).bind fun x => (lcO vs g tt te x.1 [] x.2).bind fun y => some (.lst y.1, y.2) := by
  show ((mi env).bind _).bind _ = _
  cases mi env <;> rfl
@[simp] theorem forO_nil {g : MG} {s : MS} : forO g s [] env = some (.nx env) := rfl
theorem forO_cons {g : MG} {s : MS} {us : List U} {e e' : Env} (h : g u env = some e) (h' : s e = some (.nx e')) : forO g s (u :: us) env = forO g s us e' := by
  simp [forO, h, h']
theorem forO_ret {g : MG} {s : MS} {us : List U} {e e' : Env} {w : Ow} (h : g u env = some e) (h' : s e = some (.rt w e')) : forO g s (u :: us) env = some (.rt w e') := by
  simp [forO, h, h']
theorem while_go {c : M Bool} {s : MS} {n : Nat} {e e' : Env} (h : c env = some (true, e)) (h' : s e = some (.nx e')) : whileO c s (n + 1) env = whileO c s n e' := by
  simp [whileO, h, h']
theorem while_stop {c : M Bool} {s : MS} {n : Nat} {e : Env} (h : c env = some (false, e)) : whileO c s (n + 1) env = some (.nx e) := by
  simp [whileO, h]
theorem lcO_yes {vs : List Nat} {g : MG} {tt : M Bool} {te : M U} {us acc : List U} {e1 e2 e3 : Env} (h1 : g u (wipeE env vs) = some e1) (h2 : tt e1 = some (true, e2)) (h3 : te e2 = some (y, e3)) (h4 : acc.length < sizeLine) : lcO vs g tt te (u :: us) acc env = lcO vs g tt te us (acc ++ [y]) (restE env e3 vs) := by
  simp [lcO, h1, h2, h3, h4]
theorem lcO_no {vs : List Nat} {g : MG} {tt : M Bool} {te : M U} {us acc : List U} {e1 e2 : Env} (h1 : g u (wipeE env vs) = some e1) (h2 : tt e1 = some (false, e2)) : lcO vs g tt te (u :: us) acc env = lcO vs g tt te us acc (restE env e2 vs) := by
  simp [lcO, h1, h2]
@[simp] theorem lcO_nil {vs : List Nat} {g : MG} {tt : M Bool} {te : M U} {acc : List U} : lcO vs g tt te [] acc env = some (acc, env) := rfl
/-- a comprehension without a test whose parts leave the slots as they are -/
theorem lc_map {vs : List Nat} {g : MG} {te : M U} (f : U → U) (hr : restE env env vs = env) : ∀ (us acc : List U), (∀ u ∈ us, ∃ e, g u (wipeE env vs) = some e ∧ ∃ e', te e = some (f u, e') ∧ restE env e' vs = env) → acc.length + us.length < sizeLine → lcO vs g mYes te us acc env = some (acc ++ us.map f, env)
  | [], acc, _, _ => by simp
  | u :: us, acc, h, hl => by
    obtain ⟨e, h1, e', h2, h3⟩ := h u (by simp)
    rw [lcO_yes (e1 := e) (e2 := e) h1 rfl h2 (by simp at hl; omega), h3, lc_map f hr us (acc ++ [f u]) (fun v hv => h v (by simp [hv])) (by simp at hl ⊢; omega)]
    simp
theorem fnP_rt {n nl : Nat} {s : MS} {us : List U} {e : Env} (hn : us.length = n) (h : s (env0 (us.map .p) nl) = some (.rt (.p u) e)) : fnP n nl s us = some u := by
  unfold fnP
  rw [if_pos hn, h]
  rfl
theorem fnI_rt {n nl : Nat} {s : MS} {w w' : Ow} {us : List U} {e : Env} (hn : us.length + 1 = n) (h : s (env0 (w :: us.map .p) nl) = some (.rt (.p u) e)) (h' : e[0]? = some (some w')) : fnI n nl s w us = some (u, w') := by
  unfold fnI
  rw [if_pos hn, h]
  simp [atS, h']
theorem fnI_nx {n nl : Nat} {s : MS} {w w' : Ow} {us : List U} {e : Env} (hn : us.length + 1 = n) (h : s (env0 (w :: us.map .p) nl) = some (.nx e)) (h' : e[0]? = some (some w')) : fnI n nl s w us = some (.non, w') := by
  unfold fnI
  rw [if_pos hn, h]
  simp [atS, h']
theorem atI_nat' {α : Type} {l : List α} {n : Nat} {a : α} (h : l[n]? = some a) : atI l (n : Int) = some a := atI_nat h
@[simp] theorem atI_0 {α : Type} {a : α} {r : List α} : atI (a :: r) 0 = some a := atI_nat (xs := a :: r) (j := 0) rfl
@[simp] theorem atI_1 {α : Type} {a b : α} {r : List α} : atI (a :: b :: r) 1 = some b := atI_nat (xs := a :: b :: r) (j := 1) rfl
@[simp] theorem get_0 {α : Type} {a : α} {r : List α} : (a :: r)[0]? = some a := rfl
@[simp] theorem get_s {α : Type} {a : α} {r : List α} {n : Nat} : (a :: r)[n + 1]? = r[n]? := rfl
@[simp] theorem atI_2 {α : Type} {a b c : α} {r : List α} : atI (a :: b :: c :: r) 2 = some c := atI_nat (xs := a :: b :: c :: r) (j := 2) rfl
@[simp] theorem atI_3 {α : Type} {a b c d : α} {r : List α} : atI (a :: b :: c :: d :: r) 3 = some d := atI_nat (xs := a :: b :: c :: d :: r) (j := 3) rfl
@[simp] theorem atI_4 {α : Type} {a b c d e : α} {r : List α} : atI (a :: b :: c :: d :: e :: r) 4 = some e := atI_nat (xs := a :: b :: c :: d :: e :: r) (j := 4) rfl
@[simp] theorem atI_5 {α : Type} {a b c d e f : α} {r : List α} : atI (a :: b :: c :: d :: e :: f :: r) 5 = some f := atI_nat (xs := a :: b :: c :: d :: e :: f :: r) (j := 5) rfl
@[simp] theorem ixU_l {us : List U} {n : Int} : ixU (.lst us) (.int n) = atI us n := rfl
@[simp] theorem ixU_t {us : List U} {n : Int} : ixU (.tup us) (.int n) = atI us n := rfl
@[simp] theorem lenU_l {us : List U} : lenU [.lst us] = some (.int us.length) := rfl
@[simp] theorem lenU_t {us : List U} : lenU [.tup us] = some (.int us.length) := rfl
end

/-! slots -/
section
variable {env : Env} {i j l : Nat} {u v x y : U} {a b c k : M U} {w : Ow} {ws : List Ow}
def isLw : Ow → Option (List Ow)
  | .l ws => some ws
  | _ => none
def getL (env : Env) (i : Nat) : Option (List Ow) := (atS env i).bind isLw
@[simp] theorem isLw_l : isLw (.l ws) = some ws := rfl
@[simp] theorem atS_0 {e : Env} : atS (some w :: e) 0 = some w := rfl
@[simp] theorem atS_s {z : Option Ow} {e : Env} : atS (z :: e) (i + 1) = atS e i := rfl
@[simp] theorem getL_0 {e : Env} : getL (some (.l ws) :: e) 0 = some ws := rfl
@[simp] theorem getL_s {z : Option Ow} {e : Env} : getL (z :: e) (i + 1) = getL e i := rfl
@[simp] theorem hasS_d : hasS env i = (atS env i).bind fun _ => some () := by
  unfold hasS atS
  rcases env[i]? with _ | _ | w <;> rfl
@[simp] theorem isL_d : isL env i = (getL env i).bind fun _ => some () := by
  unfold isL getL atS isLw
  rcases env[i]? with _ | _ | w
  · rfl
  · rfl
  · cases w <;> rfl
theorem matchL {α : Type} (e : Env) (i : Nat) (f : List Ow → Option α) : (match e[i]? with
    | some (some (.l ws)) => f ws
    | _ => none) = (getL e i).bind f := by
  unfold getL atS isLw
  rcases e[i]? with _ | _ | w
  · rfl
  · rfl
  · cases w <;> rfl
@[simp] theorem mIxV_d : mIxV i k env = (getL env i).bind fun _ => (k env).bind fun y => (getL y.2 i).bind fun ws => (isI y.1).bind fun j => (atI ws j).bind fun w => (isP w).bind fun u => some (u, y.2) := by
  unfold mIxV
  rw [isL_d]
  cases getL env i with
  | none => rfl
  | some _ =>
    cases k env with
    | none => rfl
    | some y =>
      exact matchL y.2 i _
@[simp] theorem mAppV_d : mAppV i a env = (getL env i).bind fun _ => (a env).bind fun y => (getL y.2 i).bind fun ws => if ws.length < sizeLine then some (.non, y.2.set i (some (.l (ws ++ [.p y.1])))) else none := by
  unfold mAppV
  rw [isL_d]
  cases getL env i with
  | none => rfl
  | some _ =>
    cases a env with
    | none => rfl
    | some y =>
      exact matchL y.2 i _
def lstU : U → Option (List U)
  | .lst us => some us
  | _ => none
@[simp] theorem lstU_l {us : List U} : lstU (.lst us) = some us := rfl
@[simp] theorem mExtV_d : mExtV i a env = (getL env i).bind fun _ => (a env).bind fun y => (getL y.2 i).bind fun ws => (lstU y.1).bind fun us => if ws.length + us.length ≤ sizeLine then some (.non, y.2.set i (some (.l (ws ++ us.map .p)))) else none := by
  unfold mExtV
  rw [isL_d]
  cases getL env i with
  | none => rfl
  | some _ =>
    cases a env with
    | none => rfl
    | some y =>
      obtain ⟨u, e⟩ := y
      cases u <;> exact matchL e i _
@[simp] theorem mInsV_d : mInsV i k a env = (getL env i).bind fun _ => (k env).bind fun y => (a y.2).bind fun x => (getL x.2 i).bind fun ws => (isI y.1).bind fun j => if ws.length < sizeLine ∧ 0 ≤ j ∧ j < 2 ^ 63 then some (.non, x.2.set i (some (.l (ws.take j.toNat ++ [.p x.1] ++ ws.drop j.toNat)))) else none := by
  unfold mInsV
  rw [isL_d]
  cases getL env i with
  | none => rfl
  | some _ =>
    cases k env with
    | none => rfl
    | some y =>
      show (a y.2).bind _ = (a y.2).bind _
      cases a y.2 with
      | none => rfl
      | some x =>
        exact matchL x.2 i _
@[simp] theorem mPopV_d : mPopV i env = (getL env i).bind fun ws => (ws[ws.length - 1]?).bind fun w => (isP w).bind fun u => some (u, env.set i (some (.l ws.dropLast))) := by
  unfold mPopV getL atS isLw
  rcases env[i]? with _ | _ | w
  · rfl
  · rfl
  · cases w <;> rfl
@[simp] theorem mLenV_d : mLenV i env = (getL env i).bind fun ws => some (.int ws.length, env) := by
  unfold mLenV getL atS isLw
  rcases env[i]? with _ | _ | w
  · rfl
  · rfl
  · cases w <;> rfl
@[simp] theorem mNeNilV_d : mNeNilV i env = (getL env i).bind fun ws => some (.bl (!ws.isEmpty), env) := by
  unfold mNeNilV getL atS isLw
  rcases env[i]? with _ | _ | w
  · rfl
  · rfl
  · cases w <;> rfl
@[simp] theorem mFrz_d : mFrz i env = (atS env i).bind fun w => some (frz w, env.set i (some (.p (frz w)))) := by
  unfold mFrz atS
  rcases env[i]? with _ | _ | w <;> rfl
@[simp] theorem mMov_d : mMov i env = (atS env i).bind fun w => some (w, env.set i none) := by
  unfold mMov atS
  rcases env[i]? with _ | _ | w <;> rfl
@[simp] theorem sSetV_d : sSetV i k a env = (a env).bind fun x => (getL x.2 i).bind fun _ => (k x.2).bind fun y => (getL y.2 i).bind fun ws => (isI y.1).bind fun j => (ixN ws.length j).bind fun n => (ws[n]?).bind fun w => (isP w).bind fun _ => some (.nx (y.2.set i (some (.l (ws.set n (.p x.1)))))) := by
  unfold sSetV
  cases a env with
  | none => rfl
  | some x =>
    show (isL x.2 i).bind _ = (getL x.2 i).bind _
    rw [isL_d]
    cases getL x.2 i with
    | none => rfl
    | some _ =>
      show (k x.2).bind _ = (k x.2).bind _
      cases k x.2 with
      | none => rfl
      | some y =>
        exact matchL y.2 i _
@[simp] theorem mCallI_d {f : Ow → List U → Option (U × Ow)} {r : M (List U)} : mCallI i f r env = (atS env i).bind fun _ => (r env).bind fun x => (atS x.2 i).bind fun w => (f w x.1).bind fun z => some (z.1, x.2.set i (some z.2)) := by
  unfold mCallI
  rw [hasS_d]
  cases atS env i <;> rfl
@[simp] theorem frz_l : frz (.l (ws)) = .lst (frzs ws) := rfl
@[simp] theorem frzs_m {us : List U} : frzs (us.map .p) = us := frzs_map us
theorem allP_map (us : List U) : allP (us.map .p) = some us := by
  induction us with
  | nil => rfl
  | cons u us ih => simp [allP, ih]
@[simp] theorem mLcV_d {vs : List Nat} {g : MG} {tt : M Bool} {te : M U} : mLcV i vs g tt te env = (getL env i).bind fun ws => (allP ws).bind fun us => (lcO vs g tt te us [] (env.set i none)).bind fun x => some (.lst x.1, x.2.set i (some (.l ws))) := by
  unfold mLcV mLcLV getL atS isLw
  rcases env[i]? with _ | _ | w
  · rfl
  · rfl
  · cases w with
    | l ws =>
      show Option.bind (Option.bind (allP ws) _) _ = Option.bind (allP ws) _
      cases allP ws with
      | none => rfl
      | some us =>
        show Option.bind (Option.bind (lcO vs g tt te us [] (env.set i none)) _) _ = Option.bind (lcO vs g tt te us [] (env.set i none)) _
        cases lcO vs g tt te us [] (env.set i none) <;> rfl
    | _ => rfl
def parOK (i j : Nat) : List Ow × Env → Option Fl
  | ([u, v], e) => some (.nx ((e.set i (some u)).set j (some v)))
  | _ => none
@[simp] theorem parOK_d {e : Env} {u v : Ow} : parOK i j ([u, v], e) = some (.nx ((e.set i (some u)).set j (some v))) := rfl
@[simp] theorem sParO_d {r : M (List Ow)} : sParO i j r env = (r env).bind (parOK i j) := by
  unfold sParO
  cases r env with
  | none => rfl
  | some x =>
    obtain ⟨us, e⟩ := x
    rcases us with _ | ⟨a, _ | ⟨b, _ | ⟨c, us⟩⟩⟩ <;> rfl
def par3OK (i j l : Nat) : List Ow × Env → Option Fl
  | ([u, v, w], e) => some (.nx (((e.set i (some u)).set j (some v)).set l (some w)))
  | _ => none
@[simp] theorem par3OK_d {e : Env} {u v w : Ow} : par3OK i j l ([u, v, w], e) = some (.nx (((e.set i (some u)).set j (some v)).set l (some w))) := rfl
@[simp] theorem sPar3O_d {r : M (List Ow)} : sPar3O i j l r env = (r env).bind (par3OK i j l) := by
  unfold sPar3O
  cases r env with
  | none => rfl
  | some x =>
    obtain ⟨us, e⟩ := x
    rcases us with _ | ⟨a, _ | ⟨b, _ | ⟨c, _ | ⟨d, us⟩⟩⟩⟩ <;> rfl
@[simp] theorem oNil_d : oNil env = some ([], env) := rfl
@[simp] theorem oCons_d {a : M Ow} {r : M (List Ow)} : oCons a r env = (a env).bind fun x => (r x.2).bind fun y => some (x.1 :: y.1, y.2) := rfl
def rng1K : List U × Env → Option (List U × Env)
  | ([.int n], e) => some (rngU 0 n.toNat, e)
  | _ => none
end
end UL
set_option Elab.async false
set_option linter.all false
set_option maxRecDepth 100000
set_option maxHeartbeats 2000000
/-! mirrors: loops and comprehensions by what stays true -/
namespace UL
open PySem L2 LM
theorem for_inv {α : Type} (enc : α → U) (I : Nat → Env → Prop) {g : MG} {s : MS} : ∀ {xs : List α} {k : Nat} {env : Env}, I k env →
    (∀ j x env, xs[j]? = some x → I (k + j) env → ∃ e, g (enc x) env = some e ∧ ∃ env', s e = some (.nx env') ∧ I (k + j + 1) env') →
    ∃ env', forO g s (xs.map enc) env = some (.nx env') ∧ I (k + xs.length) env'
  | [], k, env, h0, _ => ⟨env, rfl, h0⟩
  | x :: xs, k, env, h0, hs => by
    obtain ⟨e, h1, e', h2, h3⟩ := hs 0 x env rfl h0
    obtain ⟨e2, h4, h5⟩ := for_inv enc I (xs := xs) (k := k + 1) (env := e') h3 (fun j y env hj hI => by
      have := hs (j + 1) y env (by simpa using hj) (by rw [show k + (j + 1) = k + 1 + j by omega]; exact hI)
      rw [show k + (j + 1) + 1 = k + 1 + j + 1 by omega] at this
      exact this)
    refine ⟨e2, ?_, by rw [List.length_cons, show k + (xs.length + 1) = k + 1 + xs.length by omega]; exact h5⟩
    rw [List.map_cons, forO_cons h1 h2, h4]
theorem while_inv {c : M Bool} {s : MS} (I : Nat → Env → Prop) (D : Env → Prop)
    (h : ∀ n env, I n env → (∃ e, c env = some (false, e) ∧ D e) ∨ ∃ e, c env = some (true, e) ∧ ∃ env', s e = some (.nx env') ∧ ∃ m, m < n ∧ I m env') :
    ∀ (k n : Nat) (env : Env), n < k → I n env → ∃ env', whileO c s k env = some (.nx env') ∧ D env'
  | 0, n, env, hk, _ => by omega
  | k + 1, n, env, hk, hI => by
    rcases h n env hI with ⟨e, h1, h2⟩ | ⟨e, h1, e', h2, m, hm, h3⟩
    · exact ⟨e, while_stop h1, h2⟩
    · obtain ⟨z, h4, h5⟩ := while_inv I D h k m e' (by omega) h3
      exact ⟨z, (while_go h1 h2).trans h4, h5⟩
/-- a comprehension: what stays true of what was made and of the slots -/
theorem lc_inv {α : Type} (enc : α → U) {vs : List Nat} {g : MG} {tt : M Bool} {te : M U} (I : Nat → List U → Env → Prop) : ∀ {xs : List α} {k : Nat} {acc : List U} {env : Env}, I k acc env → acc.length + xs.length < sizeLine →
    (∀ j x acc env, xs[j]? = some x → I (k + j) acc env → ∃ e1, g (enc x) (wipeE env vs) = some e1 ∧ ∃ b e2, tt e1 = some (b, e2) ∧
      (b = true → ∃ y e3, te e2 = some (y, e3) ∧ I (k + j + 1) (acc ++ [y]) (restE env e3 vs)) ∧ (b = false → I (k + j + 1) acc (restE env e2 vs))) →
    ∃ acc' env', lcO vs g tt te (xs.map enc) acc env = some (acc', env') ∧ I (k + xs.length) acc' env'
  | [], k, acc, env, h0, _, _ => ⟨acc, env, rfl, h0⟩
  | x :: xs, k, acc, env, h0, hl, hs => by
    have hs' : ∀ j y acc env, xs[j]? = some y → I (k + 1 + j) acc env → ∃ e1, g (enc y) (wipeE env vs) = some e1 ∧ ∃ b e2, tt e1 = some (b, e2) ∧
      (b = true → ∃ y e3, te e2 = some (y, e3) ∧ I (k + 1 + j + 1) (acc ++ [y]) (restE env e3 vs)) ∧ (b = false → I (k + 1 + j + 1) acc (restE env e2 vs)) := fun j y acc env hj hI => by
      have := hs (j + 1) y acc env (by simpa using hj) (by rw [show k + (j + 1) = k + 1 + j by omega]; exact hI)
      rw [show k + (j + 1) + 1 = k + 1 + j + 1 by omega] at this
      exact this
    obtain ⟨e1, h1, b, e2, h2, h3, h4⟩ := hs 0 x acc env rfl h0
    rw [List.length_cons] at hl
    rw [List.map_cons]
    cases b with
    | true =>
      obtain ⟨y, e3, h5, h6⟩ := h3 rfl
      obtain ⟨a', e', h7, h8⟩ := lc_inv enc I (xs := xs) (k := k + 1) (acc := acc ++ [y]) (env := restE env e3 vs) h6 (by simp; omega) hs'
      exact ⟨a', e', (lcO_yes h1 h2 h5 (by omega)).trans h7, by rw [List.length_cons, show k + (xs.length + 1) = k + 1 + xs.length by omega]; exact h8⟩
    | false =>
      obtain ⟨a', e', h7, h8⟩ := lc_inv enc I (xs := xs) (k := k + 1) (acc := acc) (env := restE env e2 vs) (h4 rfl) (by omega) hs'
      exact ⟨a', e', (lcO_no h1 h2).trans h7, by rw [List.length_cons, show k + (xs.length + 1) = k + 1 + xs.length by omega]; exact h8⟩
/-- a comprehension whose parts leave the slots as they are -/
theorem lc_eq {α : Type} (enc : α → U) (p : α → Bool) (f : α → U) {vs : List Nat} {g : MG} {tt : M Bool} {te : M U} {xs : List α} {env : Env} (hl : xs.length < sizeLine)
    (h : ∀ x ∈ xs, ∃ e1, g (enc x) (wipeE env vs) = some e1 ∧ ∃ e2, tt e1 = some (p x, e2) ∧
      (p x = true → ∃ e3, te e2 = some (f x, e3) ∧ restE env e3 vs = env) ∧ (p x = false → restE env e2 vs = env)) :
    lcO vs g tt te (xs.map enc) [] env = some ((xs.filter p).map f, env) := by
  obtain ⟨a, e, h1, h2, h3⟩ := lc_inv enc (vs := vs) (g := g) (tt := tt) (te := te) (fun k acc e => acc = ((xs.take k).filter p).map f ∧ e = env) (xs := xs) (k := 0) (acc := []) (env := env) ⟨by simp, rfl⟩ (by simpa using hl) (fun j x acc e hj hI => by
    obtain ⟨rfl, rfl⟩ := hI
    rw [Nat.zero_add]
    have hx : x ∈ xs := List.mem_of_getElem? hj
    obtain ⟨e1, h1, e2, h2, h3, h4⟩ := h x hx
    have ht : xs.take (j + 1) = xs.take j ++ [x] := by rw [List.take_add_one, hj]; rfl
    refine ⟨e1, h1, p x, e2, h2, fun hp => ?_, fun hp => ?_⟩
    · obtain ⟨e3, h5, h6⟩ := h3 hp
      exact ⟨f x, e3, h5, by rw [ht]; simp [hp], h6⟩
    · exact ⟨by rw [ht]; simp [hp], h4 hp⟩)
  rw [h1, h2, h3, Nat.zero_add, List.take_length]
theorem fnP_nx {n nl : Nat} {s : MS} {us : List U} {e : Env} (hn : us.length = n) (h : s (env0 (us.map .p) nl) = some (.nx e)) : fnP n nl s us = some .non := by
  unfold fnP
  rw [if_pos hn, h]
  rfl
theorem exN {α : Type} {P Q : α → Prop} {a : α} (h : P a) (k : Q a) : ∃ a, P a ∧ Q a := ⟨a, h, k⟩
theorem size1 : (1000 : Nat) < sizeLine := by decide
theorem fuel_big {n k : Nat} (h : n < 2 ^ k) (hk : k ≤ 20000) : n < fuel := Nat.lt_of_lt_of_le h (Nat.pow_le_pow_right (by decide) hk)
end UL
set_option Elab.async false
set_option linter.all false
set_option maxRecDepth 100000
set_option maxHeartbeats 4000000
/-! draws -/
namespace UL
open PySem L2 LM
def Ex (s : MS) (env : Env) (Q : Fl → Prop) : Prop := ∃ f, s env = some f ∧ Q f
theorem Ex.seq {s t : MS} {env e : Env} {Q : Fl → Prop} (h : s env = some (.nx e)) (k : Ex t e Q) : Ex (sSeq s t) env Q := by
  obtain ⟨f, h1, h2⟩ := k
  exact ⟨f, (sSeq_nx h).trans h1, h2⟩
theorem Ex.seq' {s t : MS} {env : Env} {P : Env → Prop} {Q : Fl → Prop} (h : ∃ e, s env = some (.nx e) ∧ P e) (k : ∀ e, P e → Ex t e Q) : Ex (sSeq s t) env Q := by
  obtain ⟨e, h1, h2⟩ := h
  exact Ex.seq h1 (k e h2)
theorem Ex.fnI {n nl : Nat} {s : MS} {w : Ow} {us : List U} {P : U → Ow → Prop} (hn : us.length + 1 = n) (h : Ex s (env0 (w :: us.map .p) nl) fun f => match f with
    | .rt r e => ∃ u w', r = .p u ∧ e[0]? = some (some w') ∧ P u w'
    | .nx e => ∃ w', e[0]? = some (some w') ∧ P .non w'
    | .bk _ => False) : ∃ u w', UL.fnI n nl s w us = some (u, w') ∧ P u w' := by
  obtain ⟨f, h1, h2⟩ := h
  cases f with
  | nx e =>
    obtain ⟨w', h3, h4⟩ := h2
    exact ⟨_, w', fnI_nx hn h1 h3, h4⟩
  | rt r e =>
    obtain ⟨u, w', rfl, h3, h4⟩ := h2
    exact ⟨u, w', fnI_rt hn h1 h3, h4⟩
  | bk e => exact h2.elim
end UL
namespace UM
open PySem L2 UL LM
def StW (w : Ow) : Prop := ∃ (ns : List Int) (n l : Int) (m : Bool), w = .l [.p (.lst (ns.map .int)), .p (.int n), .p (.int l), .p (.bl m)] ∧ ns.length ≤ 63
def prs : List (Int × Int) := [(0, 2147483647), (1, 2147483629), (2, 2147483587), (3, 2147483579), (4, 2147483563)]
theorem prs_ok : ∀ x ∈ prs, 0 ≤ x.1 ∧ x.1 ≤ 4 ∧ 0 < x.2 ∧ x.2 ≤ 2147483647 := by decide
theorem fill_spec {cs : List String} {w : Ow} (h : StW w) : ∃ u w', m__law_fill cs w [] = some (u, w') ∧ StW w' := by
  obtain ⟨ns, n, l, m, rfl, hl⟩ := h
  unfold m__law_fill b__law_fill
  refine Ex.fnI (P := fun _ w => StW w) rfl ?_
  apply Ex.seq
  · simp [env0]
    rfl
  apply Ex.seq
  · simp (disch := decide) [mulU_l]
    rfl
  refine Ex.seq' (P := fun e => ∃ x, e = [some (.l [.p (.lst (ns.map .int)), .p (.int n), .p (.int l), .p (.bl m)]), some (.p (.lst (ns.map .int))), some (.p (.int n)), some (.p (.int x)), none, none, none]) ?_ ?_
  · by_cases h0 : ns = []
    · subst h0
      simp
    · have hp : 0 < ns.length := List.length_pos_iff.mpr h0
      have hm : ∃ j : Nat, n.fmod ns.length = j ∧ j < ns.length := ⟨(n.fmod ns.length).toNat, by
        have := Int.fmod_nonneg_of_pos n (b := ns.length) (by omega)
        have := Int.fmod_lt_of_pos n (b := ns.length) (by omega)
        omega⟩
      obtain ⟨j, hj, hj2⟩ := hm
      have hb : (ns.length : Int).natAbs < 2 ^ 9000 := Nat.lt_of_le_of_lt (m := 63) (by omega) (by decide)
      have h1 : (ns.map U.int)[j]? = some (.int ns[j]) := by simp [hj2]
      simp (disch := first | decide | omega | assumption) [mulU_l, fdivU_ii, intU, modU_ii, hj, hp, atI_nat' h1]
  rintro e ⟨x, rfl⟩
  apply Ex.seq
  · simp [ixN]
    rfl
  refine Ex.seq' (P := fun e => ∃ b, e = [some (.l [.p (.lst (ns.map .int)), .p (.int (n + 1)), .p (.int l), .p (.bl b)]), some (.p (.lst (ns.map .int))), some (.p (.int n)), some (.p (.int x)), none, none, none]) ?_ ?_
  · by_cases hc : (ns.length : Int) ≤ n
    · simp [ixN, hc, powU]
    · simp [ixN, hc, powU]
      omega
  rintro e ⟨b, rfl⟩
  apply Ex.seq
  · simp [ixN, powU]
    rfl
  cases b
  · refine ⟨_, by simp []; rfl, ?_⟩
    exact ⟨_, rfl, ns, _, _, _, rfl, hl⟩
  · have key : ∃ e, (sSeq (sSetV 0 (mC (.int 2)) (mC (.int 0)))
    (sFor (mEnumS (mCons (mTup (mCons (mC (.int 2147483647)) (mCons (mC (.int 2147483629)) (mCons (mC (.int 2147483587)) (mCons (mC (.int 2147483579)) (mCons (mC (.int 2147483563)) mNil)))))) mNil)) (gT 2 (gsCons (gN 4) (gsCons (gN 5) gsNil))) (sSeq (sSet 6 (mP (m2 modU (mN intU (mCons (m2 mulU (m2 addU (m2 addU (mVar 3) (m2 mulU (m2 mulU (mC (.int 10007)) (mVar 4)) (mVar 4))) (m2 mulU (mC (.int 101)) (mVar 4))) (m2 addU (mC (.int 48271)) (m2 mulU (mC (.int 2)) (mVar 4)))) mNil)) (mVar 5))))
    (sSetV 0 (mC (.int 2)) (m2 addU (m2 mulU (mIxV 0 (mC (.int 2))) (mVar 5)) (m2 modU (mN intU (mCons (m2 powU (mVar 6) (mC (.int 5))) mNil)) (mVar 5))))))) [some (.l [.p (.lst (ns.map .int)), .p (.int (n + 1)), .p (.int (x - 1000000000000000000)), .p (.bl true)]), some (.p (.lst (ns.map .int))), some (.p (.int n)), some (.p (.int x)), none, none, none] = some (.nx e) ∧ ∃ w, e[0]? = some (some w) ∧ StW w := by
      obtain ⟨e, h1, h2⟩ := for_inv (fun p : Int × Int => .tup [.int p.1, .int p.2]) (fun _ e => ∃ l a b c, e = [some (.l [.p (.lst (ns.map .int)), .p (.int (n + 1)), .p (.int l), .p (.bl true)]), some (.p (.lst (ns.map .int))), some (.p (.int n)), some (.p (.int x)), a, b, c])
        (g := gT 2 (gsCons (gN 4) (gsCons (gN 5) gsNil))) (s := sSeq (sSet 6 (mP (m2 modU (mN intU (mCons (m2 mulU (m2 addU (m2 addU (mVar 3) (m2 mulU (m2 mulU (mC (.int 10007)) (mVar 4)) (mVar 4))) (m2 mulU (mC (.int 101)) (mVar 4))) (m2 addU (mC (.int 48271)) (m2 mulU (mC (.int 2)) (mVar 4)))) mNil)) (mVar 5))))
    (sSetV 0 (mC (.int 2)) (m2 addU (m2 mulU (mIxV 0 (mC (.int 2))) (mVar 5)) (m2 modU (mN intU (mCons (m2 powU (mVar 6) (mC (.int 5))) mNil)) (mVar 5)))))
        (xs := prs) (k := 0) (env := [some (.l [.p (.lst (ns.map .int)), .p (.int (n + 1)), .p (.int 0), .p (.bl true)]), some (.p (.lst (ns.map .int))), some (.p (.int n)), some (.p (.int x)), none, none, none]) ⟨_, _, _, _, rfl⟩ (by
          rintro j y e hj ⟨l, a, b, c, rfl⟩
          obtain ⟨h1, h2, h3, h4⟩ := prs_ok y (List.mem_of_getElem? hj)
          obtain ⟨k, p⟩ := y
          dsimp only at h1 h2 h3 h4
          refine ⟨[some (.l [.p (.lst (ns.map .int)), .p (.int (n + 1)), .p (.int l), .p (.bl true)]), some (.p (.lst (ns.map .int))), some (.p (.int n)), some (.p (.int x)), some (.p (.int k)), some (.p (.int p)), c], by simp, ?_⟩
          have hf := Int.fmod_nonneg_of_pos ((x + 10007 * k * k + 101 * k) * (48271 + 2 * k)) (b := p) (by omega)
          have hg := Int.fmod_lt_of_pos ((x + 10007 * k * k + 101 * k) * (48271 + 2 * k)) (b := p) (by omega)
          have hpw : powU (.int (((x + 10007 * k * k + 101 * k) * (48271 + 2 * k)).fmod p)) (.int 5) = some (.int ((((x + 10007 * k * k + 101 * k) * (48271 + 2 * k)).fmod p) ^ 5)) := by
            dsimp only [powU]
            rw [if_pos ⟨by decide, by decide, by omega⟩]
            rfl
          apply exN
          · simp (disch := first | decide | omega) [mulU_r, modU_ii, intU, hpw, ixN]
            rfl
          · exact ⟨_, _, _, _, rfl⟩)
      obtain ⟨l', a, b, c, rfl⟩ := h2
      refine ⟨[some (.l [.p (.lst (ns.map .int)), .p (.int (n + 1)), .p (.int l'), .p (.bl true)]), some (.p (.lst (ns.map .int))), some (.p (.int n)), some (.p (.int x)), a, b, c], ?_, _, rfl, ns, _, _, _, rfl, hl⟩
      have e5 : enumU [.int 2147483647, .int 2147483629, .int 2147483587, .int 2147483579, .int 2147483563] = prs.map fun p : Int × Int => .tup [.int p.1, .int p.2] := by simp [enumU, prs]
      rw [sSeq_nx (e := [some (.l [.p (.lst (ns.map .int)), .p (.int (n + 1)), .p (.int 0), .p (.bl true)]), some (.p (.lst (ns.map .int))), some (.p (.int n)), some (.p (.int x)), none, none, none]) (by simp [ixN])]
      simp only [sFor_d, mEnumS, mCons_d, mTup_d, mC_d, mNil_d, Option.bind_some, seq1, e5]
      exact h1
    obtain ⟨e, h1, w, h2, h3⟩ := key
    refine ⟨.nx e, ?_, w, h2, h3⟩
    simp only [sIf_d]
    simp []
    exact h1
theorem take_spec {cs : List String} {w : Ow} (h : StW w) {z : Int} (h0 : 0 < z) (h1 : z.natAbs < 2 ^ 9000) : ∃ u w', m__law_take cs w [.int z] = some (u, w') ∧ ∃ d, u = .int d ∧ 0 ≤ d ∧ d < z ∧ StW w' := by
  unfold m__law_take b__law_take
  refine Ex.fnI (P := fun u w' => ∃ d, u = .int d ∧ 0 ≤ d ∧ d < z ∧ StW w') rfl ?_
  apply Ex.seq
  · simp [env0]
    rfl
  refine Ex.seq' (P := fun e => ∃ w x y, e = [some w, some (.p (.int z)), x, y] ∧ StW w) (while_inv (fun n e => ∃ w x, e = [some w, some (.p (.int z)), some (.p (.int x)), none] ∧ StW w ∧ x + (n : Int) = 64) _ ?_ fuel 64 _ (fuel_big (k := 7) (by decide) (by decide)) ⟨w, 0, rfl, h, rfl⟩) ?_
  · rintro n e ⟨w, x, rfl, hw, hx⟩
    obtain ⟨u1, w1, f1, k1⟩ := fill_spec (cs := cs) hw
    obtain ⟨ns1, n1, l1, m1, rfl, q1⟩ := k1
    obtain ⟨ns, n0, l, m, rfl, hl⟩ := id hw
    have hc : (mAnd (mTest (m2 ltU (mVar 2) (mC (.int 64)))) (mOr (mTest (m2 (eqU 0) (mIxV 0 (mC (.int 2))) (mC (.int 0)))) (mAnd (mTest (mIxV 0 (mC (.int 3)))) (mTest (m2 ltU (mIxV 0 (mC (.int 2))) (m2 mulU (mVar 1) (mC (.int 4096)))))))) [some (.l [.p (.lst (ns.map .int)), .p (.int n0), .p (.int l), .p (.bl m)]), some (.p (.int z)), some (.p (.int x)), none] = some (decide (x < 64) && (decide (l = 0) || (m && decide (l < z * 4096))), [some (.l [.p (.lst (ns.map .int)), .p (.int n0), .p (.int l), .p (.bl m)]), some (.p (.int z)), some (.p (.int x)), none]) := by
      by_cases c1 : x < 64 <;> by_cases c2 : l = 0 <;> cases m <;> simp (disch := decide) [c1, c2, mulU_r]
    cases hb : decide (x < 64) && (decide (l = 0) || (m && decide (l < z * 4096))) with
    | false =>
      left
      rw [hb] at hc
      exact ⟨_, hc, _, _, _, rfl, hw⟩
    | true =>
      right
      rw [hb] at hc
      refine ⟨_, hc, ?_⟩
      rw [Bool.and_eq_true] at hb
      have c1 := of_decide_eq_true hb.1
      have hm : ∃ k : Int, l1.fmod 4093 = k ∧ 0 ≤ k ∧ k < 4093 := ⟨_, rfl, Int.fmod_nonneg_of_pos l1 (by decide), Int.fmod_lt_of_pos l1 (by decide)⟩
      obtain ⟨k, hk, hk0, hk1⟩ := hm
      have hs : ∃ l2, (sIf (mAnd (mTest (mIxV 0 (mC (.int 3)))) (mTest (m2 ltU (mIxV 0 (mC (.int 2))) (m2 mulU (mVar 1) (mC (.int 4096)))))) (sSetV 0 (mC (.int 2)) (m2 addU (mIxV 0 (mC (.int 2))) (m2 mulU (m2 mulU (mVar 1) (mC (.int 4096))) (m2 addU (mC (.int 1)) (m2 modU (mN intU (mCons (mIxV 0 (mC (.int 2))) mNil)) (mC (.int 4093))))))) sNext) [some (.l [.p (.lst (ns1.map .int)), .p (.int n1), .p (.int l1), .p (.bl m1)]), some (.p (.int z)), some (.p (.int (x + 1))), none] = some (.nx [some (.l [.p (.lst (ns1.map .int)), .p (.int n1), .p (.int l2), .p (.bl m1)]), some (.p (.int z)), some (.p (.int (x + 1))), none]) := by
        cases m1
        · exact ⟨l1, by simp⟩
        · by_cases c4 : l1 < z * 4096
          · refine ⟨l1 + z * 4096 * (1 + k), ?_⟩
            simp (disch := first | decide | omega) [c4, mulU_r, modU_ii, intU, hk, ixN]
          · exact ⟨l1, by simp (disch := decide) [c4, mulU_r]⟩
      obtain ⟨l2, hs⟩ := hs
      refine ⟨_, ?_, n - 1, by omega, _, x + 1, rfl, ⟨ns1, n1, l2, m1, rfl, q1⟩, ?_⟩
      · rw [sSeq_nx (e := [some (.l [.p (.lst (ns1.map .int)), .p (.int n1), .p (.int l1), .p (.bl m1)]), some (.p (.int z)), some (.p (.int x)), none]) (by simp [f1])]
        rw [sSeq_nx (e := [some (.l [.p (.lst (ns1.map .int)), .p (.int n1), .p (.int l1), .p (.bl m1)]), some (.p (.int z)), some (.p (.int (x + 1))), none]) (by simp)]
        exact hs
      · omega
  · rintro e ⟨w, x, y, rfl, hw⟩
    obtain ⟨ns, n0, l, m, rfl, hl⟩ := hw
    refine ⟨_, by simp (disch := first | assumption | omega) [intU, modU_ii, ixN, fdivU_ii]; rfl, ?_⟩
    exact ⟨_, _, rfl, rfl, _, rfl, Int.fmod_nonneg_of_pos l h0, Int.fmod_lt_of_pos l h0, ns, _, _, _, rfl, hl⟩
theorem one_spec {cs : List String} {w : Ow} (h : StW w) {us : List U} (h0 : us ≠ []) (h1 : us.length ≤ 1000) : ∃ u w', m__law_one cs w [.lst us] = some (u, w') ∧ u ∈ us ∧ StW w' := by
  have hp : 0 < us.length := List.length_pos_iff.mpr h0
  obtain ⟨u, w', h2, d, rfl, h3, h4, h5⟩ := take_spec (cs := cs) h (z := us.length) (by omega) (Nat.lt_of_le_of_lt (m := 1000) (by omega) (by decide))
  unfold m__law_one b__law_one
  refine Ex.fnI (P := fun u w' => u ∈ us ∧ StW w') rfl ?_
  obtain ⟨j, rfl⟩ : ∃ j : Nat, d = j := ⟨d.toNat, by omega⟩
  have hj : us[j]? = some us[j] := by simp
  refine ⟨_, by simp [env0, h2, atI_nat' hj]; rfl, ?_⟩
  exact ⟨_, _, rfl, rfl, List.mem_of_getElem? hj, h5⟩
end UM
set_option Elab.async false
set_option linter.all false
set_option maxRecDepth 100000
set_option maxHeartbeats 4000000
/-! fractions as pairs -/
namespace UL
open PySem L2 LM
theorem Ex.fnP {n nl : Nat} {s : MS} {us : List U} {u : U} (hn : us.length = n) (h : Ex s (env0 (us.map .p) nl) fun f => match f with
    | .rt r e => r = .p u
    | .nx e => u = .non
    | .bk _ => False) : UL.fnP n nl s us = some u := by
  obtain ⟨f, h1, h2⟩ := h
  cases f with
  | nx e =>
    cases h2
    exact fnP_nx hn h1
  | rt r e =>
    cases h2
    exact fnP_rt hn h1
  | bk e => exact h2.elim
end UL
namespace UM
open PySem L2 UL LM
def fr (r : Rat) : U := .tup [.int r.num, .int r.den]
theorem gcd_eq {cs : List String} {a b : Int} (hb : b.natAbs < 2 ^ 20000) : m__law_gcd cs [.int a, .int b] = some (.int (a.gcd b)) := by
  unfold m__law_gcd b__law_gcd
  refine Ex.fnP rfl ?_
  refine Ex.seq' (P := fun e => ∃ x : Int, e = [some (.p (.int x)), some (.p (.int 0))] ∧ x.natAbs = a.gcd b) (while_inv (fun n e => ∃ x y : Int, e = [some (.p (.int x)), some (.p (.int y))] ∧ y.natAbs = n ∧ x.gcd y = a.gcd b) _ ?_ fuel b.natAbs _ hb ⟨a, b, rfl, rfl, rfl⟩) ?_
  · rintro n e ⟨x, y, rfl, hy, hg⟩
    by_cases h0 : y = 0
    · subst h0
      left
      exact ⟨[some (.p (.int x)), some (.p (.int 0))], by simp, x, rfl, by simpa using hg⟩
    · right
      refine ⟨[some (.p (.int x)), some (.p (.int y))], by simp [h0], [some (.p (.int y)), some (.p (.int (x.fmod y)))], by simp (disch := assumption) [modU_ii], _, ?_, _, _, rfl, rfl, ?_⟩
      · rw [← hy]
        exact fmod_lt x y h0
      · rw [gcd_step]
        exact hg
  · rintro e ⟨x, rfl, hx⟩
    by_cases hp : 0 < x
    · refine ⟨_, by simp [hp]; rfl, ?_⟩
      show Ow.p _ = Ow.p _
      congr 2
      omega
    · refine ⟨_, by simp [hp]; rfl, ?_⟩
      show Ow.p _ = Ow.p _
      congr 2
      omega
theorem frac_eq {cs : List String} {o u : Int} (h0 : u ≠ 0) (hb : u.natAbs < 2 ^ 8500) : m__law_frac cs [.int o, .int u] = some (fr (Rat.divInt o u)) := by
  have hg := gcd_eq (cs := cs) (a := o) (b := u) (Nat.lt_of_lt_of_le hb (Nat.pow_le_pow_right (by decide) (by decide)))
  have hw : (rwh o u).natAbs < 2 ^ 9000 := Nat.lt_of_le_of_lt (abs_rwh h0) (Nat.lt_of_lt_of_le hb (Nat.pow_le_pow_right (by decide) (by decide)))
  have hn := rwh_ne (o := o) h0
  obtain ⟨e1, e2⟩ := rat_of (o := o) h0
  unfold m__law_frac b__law_frac fr
  refine Ex.fnP rfl ?_
  rw [← e1, ← e2]
  unfold rO rD
  refine Ex.seq (e := [some (.p (.int o)), some (.p (.int u)), some (.p (.int (o.gcd u)))]) (by simp [env0, hg]) ?_
  refine Ex.seq (e := [some (.p (.int o)), some (.p (.int u)), some (.p (.int (rwh o u)))]) (by
    unfold rwh
    by_cases h : u < 0 <;> simp [h]) ?_
  refine ⟨_, by simp (disch := assumption) [fdivU_ii]; rfl, rfl⟩
section
variable {cs : List String} {a b : Rat} {n m : Nat}
theorem mulU_ht {x y : Int} (hx : x.natAbs < 2 ^ 4000) (hy : y.natAbs < 2 ^ 4000) : mulU (.int x) (.int y) = some (.int (x * y)) := mulU_ii (mulOk_b (Nat.lt_of_lt_of_le hx (Nat.pow_le_pow_right (by decide) (by decide))) (Nat.lt_of_lt_of_le hy (Nat.pow_le_pow_right (by decide) (by decide))))
theorem num_lt [h : HtC n a] (hn : n ≤ 4000) : a.num.natAbs < 2 ^ 4000 := (h.h.mono hn).1
theorem den_lt [h : HtC n a] (hn : n ≤ 4000) : (a.den : Int).natAbs < 2 ^ 4000 := (h.h.mono hn).2
theorem dd_lt [h : HtC n a] [h' : HtC m b] (hn : n ≤ 4000) (hm : m ≤ 4000) : ((a.den : Int) * (b.den : Int)).natAbs < 2 ^ 8500 := by
  rw [Int.natAbs_mul]
  exact Nat.lt_of_lt_of_le (mul_lt2 (den_lt (a := a) hn) (den_lt (a := b) hm)) (Nat.pow_le_pow_right (by decide) (by decide))
theorem add_eq [HtC n a] [HtC m b] (hn : n ≤ 4000) (hm : m ≤ 4000) : m__law_add cs [fr a, fr b] = some (fr (a + b)) := by
  have h0 : (a.den : Int) * (b.den : Int) ≠ 0 := Int.mul_ne_zero (den0 a) (den0 b)
  have hf := frac_eq (cs := cs) (o := a.num * b.den + b.num * a.den) h0 (dd_lt hn hm)
  unfold m__law_add b__law_add fr
  refine Ex.fnP rfl ⟨_, by
    simp [env0, mulU_ht (num_lt (a := a) hn) (den_lt (a := b) hm), mulU_ht (num_lt (a := b) hm) (den_lt (a := a) hn), mulU_ht (den_lt (a := a) hn) (den_lt (a := b) hm), hf]
    rfl, ?_⟩
  rw [q_add]
  rfl
theorem mul_eq [HtC n a] [HtC m b] (hn : n ≤ 4000) (hm : m ≤ 4000) : m__law_mul cs [fr a, fr b] = some (fr (a * b)) := by
  have h0 : (a.den : Int) * (b.den : Int) ≠ 0 := Int.mul_ne_zero (den0 a) (den0 b)
  have hf := frac_eq (cs := cs) (o := a.num * b.num) h0 (dd_lt hn hm)
  unfold m__law_mul b__law_mul fr
  refine Ex.fnP rfl ⟨_, by
    simp [env0, mulU_ht (num_lt (a := a) hn) (num_lt (a := b) hm), mulU_ht (den_lt (a := a) hn) (den_lt (a := b) hm), hf]
    rfl, ?_⟩
  rw [q_mul]
  rfl
theorem less_eq [HtC n a] [HtC m b] (hn : n ≤ 4000) (hm : m ≤ 4000) : m__law_less cs [fr a, fr b] = some (.bl (decide (a < b))) := by
  unfold m__law_less b__law_less fr
  refine Ex.fnP rfl ⟨_, by
    simp [env0, mulU_ht (num_lt (a := a) hn) (den_lt (a := b) hm), mulU_ht (num_lt (a := b) hm) (den_lt (a := a) hn)]
    rfl, ?_⟩
  show Ow.p (.bl _) = Ow.p (.bl _)
  congr 2
  rw [decide_eq_decide]
  exact (Rat.lt_iff a b).symm
theorem over_eq [HtC n a] (h0 : a ≠ 0) (hn : n ≤ 4000) : m__law_over cs [fr a] = some (fr (1 / a)) := by
  have hf := frac_eq (cs := cs) (o := a.den) (num0 h0) (Nat.lt_of_lt_of_le (num_lt (a := a) hn) (Nat.pow_le_pow_right (by decide) (by decide)))
  unfold m__law_over b__law_over fr
  refine Ex.fnP rfl ⟨_, by
    simp [env0, hf]
    rfl, ?_⟩
  have := q_div 1 a
  simp at this
  rw [this]
  rfl
/-- a number as it is told -/
def pl (r : Rat) : U := if r.den = 1 then .int r.num else .q r
theorem plain_eq [HtC n a] (hn : n ≤ 4000) : m__law_plain cs [fr a] = some (pl a) := by
  unfold m__law_plain b__law_plain fr pl
  refine Ex.fnP rfl ?_
  by_cases h : a.den = 1
  · refine ⟨_, by simp [env0, h]; rfl, ?_⟩
    simp [h]
  · have hb : bigI a.den = true := decide_eq_true (Nat.lt_of_lt_of_le (den_lt (a := a) hn) (Nat.pow_le_pow_right (by decide) (by decide)))
    have hd : ¬ (a.den : Int) = 1 := by omega
    refine ⟨_, by simp [env0, hd, mkF, den0 a, a.den_nz, hb]; rfl, ?_⟩
    simp [h, Rat.num_divInt_den]
theorem fr_neg : U.tup [.int (-a.num), .int a.den] = fr (-a) := by
  unfold fr
  rw [Rat.neg_num, Rat.neg_den]
end
end UM
set_option Elab.async false
set_option linter.all false
set_option maxRecDepth 100000
set_option maxHeartbeats 4000000
/-! lines as rows of points: the law's own height -/
namespace UM
open PySem L2 UL LM
structure Crs (N L : Nat) (a b : Rat) (ps : List Pt) : Prop where
  l2 : 2 ≤ ps.length
  inc : Inc ps
  h0 : ∃ y, ps[0]? = some (a, y)
  hn : ∃ y, ps[ps.length - 1]? = some (b, y)
  ht : ∀ p ∈ ps, Ht N p.1 ∧ Ht N p.2
  len : ps.length ≤ L
def qf (p : Pt) : U := .tup [fr p.1, fr p.2]
def crs (ps : List Pt) : U := .lst (ps.map qf)
theorem lin_ht {p q : Pt} {t : Rat} {N M : Nat} (h1 : Ht N p.1) (h2 : Ht N p.2) (h3 : Ht N q.1) (h4 : Ht N q.2) (ht : Ht M t) : Ht (6 * N + M + 5) (lin p q t) := by
  unfold lin slp
  exact (h2.add ((Ht.div' (h4.sub h2) (h3.sub h1)).mul (ht.sub h1))).mono (by omega)
theorem hgt_ht {N M : Nat} {t : Rat} (hm : Ht M t) : ∀ {ps : List Pt}, (∀ p ∈ ps, Ht N p.1 ∧ Ht N p.2) → Ht (6 * N + M + 5) (hgt ps t)
  | [], _ => ⟨by show 0 < _; exact Nat.two_pow_pos _, Nat.one_lt_two_pow (by omega)⟩
  | [p], _ => ⟨by show 0 < _; exact Nat.two_pow_pos _, Nat.one_lt_two_pow (by omega)⟩
  | [p, q], h => lin_ht (h p (by simp)).1 (h p (by simp)).2 (h q (by simp)).1 (h q (by simp)).2 hm
  | p :: q :: s :: r, h => by
    rw [hgt_cons]
    split
    · exact lin_ht (h p (by simp)).1 (h p (by simp)).2 (h q (by simp)).1 (h q (by simp)).2 hm
    · exact hgt_ht hm (ps := q :: s :: r) (fun x hx => h x (by simp at hx ⊢; right; exact hx))
theorem cut_mid {us : List U} (h : 2 ≤ us.length) : cutU us (some 1) (some (-1)) = (us.drop 1).dropLast := by
  unfold cutU
  have e1 : HT.sIx us.length 0 (some 1) = 1 := by
    simp only [HT.sIx]
    rw [if_neg (by decide)]
    show min 1 us.length = 1
    omega
  have e2 : HT.sIx us.length us.length (some (-1)) = us.length - 1 := by
    simp only [HT.sIx]
    rw [if_pos (by decide)]
    omega
  rw [e1, e2, List.dropLast_eq_take, List.length_drop]
theorem on_eq {cs : List String} {N M L : Nat} {a b t : Rat} {ps : List Pt} (c : Crs N L a b ps) (h1 : a ≤ t) (h2 : t ≤ b) (hM : Ht M t) (hN : 6 * N + M ≤ 3900) (hL : L ≤ 1000) : m__law_on cs [crs ps, fr t] = some (fr (hgt ps t)) := by
  obtain ⟨y0, h0⟩ := c.h0
  obtain ⟨yn, hn⟩ := c.hn
  obtain ⟨p, q, g1, g2, g3, g4⟩ := cnt_seg c.inc c.l2 h0 hn h1 h2
  have hcut : slU (crs ps) (some 1) (some (-1)) = some (.lst (((ps.drop 1).dropLast).map qf)) := by
    show some (U.lst (cutU _ _ _)) = _
    rw [cut_mid (by rw [List.length_map]; exact c.l2), ← List.map_drop, List.map_dropLast]
  have hmem : ∀ x ∈ (ps.drop 1).dropLast, x ∈ ps := fun x hx => List.mem_of_mem_drop ((List.dropLast_sublist _).mem hx)
  have hlen : ((ps.drop 1).dropLast).length < sizeLine := by
    have := c.len
    have := size1
    rw [List.length_dropLast, List.length_drop]
    omega
  generalize (ps.drop 1).dropLast = ms at g1 g2 hcut hmem hlen
  have hlc := lc_eq (xs := ms) qf (fun p => decide (p.1 ≤ t)) qf (vs := [4]) (g := gN 4) (tt := mNot (mTest (mN (m__law_less cs) (mCons (mVar 1) (mCons (m2 ixU (mVar 4) (mC (.int 0))) mNil))))) (te := mVar 4) (env := [some (.p (crs ps)), some (.p (fr t)), none, none, none, none, none, none, none, none]) hlen (by
    intro x hx
    have hx : x ∈ ps := hmem x hx
    haveI : HtC M t := ⟨hM⟩
    haveI : HtC N x.1 := ⟨(c.ht x hx).1⟩
    have hl := less_eq (cs := cs) (a := t) (b := x.1) (by omega) (by omega)
    rw [show decide (t < x.1) = !decide (x.1 ≤ t) by simp [← Rat.not_le]] at hl
    refine ⟨_, by simp [wipeE]; rfl, _, by simp [qf, hl]; rfl, fun _ => ⟨_, by simp [qf]; rfl, by simp [restE, keepP]⟩, fun _ => by simp [restE, keepP]⟩)
  generalize hk : (ms.filter fun p => decide (p.1 ≤ t)).length = k at g1 g2
  have hp : p ∈ ps := List.mem_of_getElem? g1
  have hq : q ∈ ps := List.mem_of_getElem? g2
  have hpq : p.1 < q.1 := inc_get c.inc g1 g2 (by omega)
  have he : hgt ps t = lin p q t := on_one c.inc (hgt_on c.l2 h0 hn h1 h2) (on_get g1 g2 g3 g4)
  have u1 : (ps.map qf)[k]? = some (qf p) := by rw [List.getElem?_map, g1]; rfl
  have u2 : (ps.map qf)[k + 1]? = some (qf q) := by rw [List.getElem?_map, g2]; rfl
  have i1 := atI_nat' u1
  have i2 := atI_nat' u2
  rw [Int.natCast_succ] at i2
  haveI : HtC M t := ⟨hM⟩
  haveI : HtC N p.1 := ⟨(c.ht p hp).1⟩
  haveI : HtC N p.2 := ⟨(c.ht p hp).2⟩
  haveI : HtC N q.1 := ⟨(c.ht q hq).1⟩
  haveI : HtC N q.2 := ⟨(c.ht q hq).2⟩
  have a1 := add_eq (cs := cs) (a := t) (b := -p.1) (by omega) (by omega)
  have a2 := add_eq (cs := cs) (a := q.1) (b := -p.1) (by omega) (by omega)
  have hne : q.1 + -p.1 ≠ 0 := by grind
  have hd0 : ((t + -p.1).den : Int) * (q.1 + -p.1).num ≠ 0 := Int.mul_ne_zero (den0 _) (num0 hne)
  have z1 := num_lt (a := t + -p.1) (n := M + N + 1) (by omega)
  have z2 := den_lt (a := t + -p.1) (n := M + N + 1) (by omega)
  have z3 := num_lt (a := q.1 + -p.1) (n := N + N + 1) (by omega)
  have z4 := den_lt (a := q.1 + -p.1) (n := N + N + 1) (by omega)
  have f1 := frac_eq (cs := cs) (o := (t + -p.1).num * (q.1 + -p.1).den) hd0 (by
    rw [Int.natAbs_mul]
    exact Nat.lt_of_lt_of_le (mul_lt2 z2 z3) (Nat.pow_le_pow_right (by decide) (by decide)))
  rw [q_div] at f1
  have a3 := add_eq (cs := cs) (a := q.2) (b := -p.2) (by omega) (by omega)
  have a4 := mul_eq (cs := cs) (a := (t + -p.1) / (q.1 + -p.1)) (b := q.2 + -p.2) (by omega) (by omega)
  have a5 := add_eq (cs := cs) (a := p.2) (b := (t + -p.1) / (q.1 + -p.1) * (q.2 + -p.2)) (by omega) (by omega)
  have hx : p.2 + (t + -p.1) / (q.1 + -p.1) * (q.2 + -p.2) = hgt ps t := by
    rw [he]
    unfold lin slp
    grind
  rw [hx] at a5
  unfold m__law_on b__law_on
  refine Ex.fnP rfl ?_
  refine Ex.seq (e := [some (.p (crs ps)), some (.p (fr t)), some (.p (.int k)), none, none, none, none, none, none, none]) (by
    simp [env0, mSl, mPart, hcut, hlc, hk]) ?_
  refine Ex.seq (e := [some (.p (crs ps)), some (.p (fr t)), some (.p (.int k)), some (.p (fr p.1)), some (.p (fr p.2)), some (.p (fr q.1)), some (.p (fr q.2)), none, none, none]) (by
    simp [crs, i1, i2, qf]) ?_
  refine Ex.seq (e := [some (.p (crs ps)), some (.p (fr t)), some (.p (.int k)), some (.p (fr p.1)), some (.p (fr p.2)), some (.p (fr q.1)), some (.p (fr q.2)), some (.p (fr (t + -p.1))), some (.p (fr (q.1 + -p.1))), none]) (by
    rw [← fr_neg] at a1 a2
    simp [fr] at a1 a2
    simp [fr, a1, a2]) ?_
  refine Ex.seq (e := [some (.p (crs ps)), some (.p (fr t)), some (.p (.int k)), some (.p (fr p.1)), some (.p (fr p.2)), some (.p (fr q.1)), some (.p (fr q.2)), some (.p (fr (t + -p.1))), some (.p (fr (q.1 + -p.1))), some (.p (fr ((t + -p.1) / (q.1 + -p.1))))]) (by
    simp [fr] at f1
    simp [fr, mulU_ht z1 z4, mulU_ht z2 z3, f1]) ?_
  refine ⟨_, by
    rw [← fr_neg] at a3
    simp only [fr] at a3 a4 a5
    simp [fr, a3, a4, a5]
    rfl, rfl⟩
end UM
set_option Elab.async false
set_option linter.all false
set_option maxRecDepth 100000
set_option maxHeartbeats 4000000
/-! the program's lines -/
namespace UM
open PySem L2 UL LM
def qp (p : Pt) : U := .tup [.q p.1, .q p.2]
def rws (ps : List Pt) : U := .lst (ps.map qp)
section
variable {cs : List String}
theorem slope_eq {p q : Pt} {n m k l : Nat} [HtC n p.1] [HtC m p.2] [HtC k q.1] [HtC l q.2] (h : p.1 < q.1) (hn : n + m + k + l ≤ 3900) : m_slope cs [qp p, qp q] = some (.q (slp p q)) := by
  have h0 : q.1 - p.1 ≠ 0 := by grind
  unfold m_slope fnP
  have hr : ∀ r : Rat, rcv "Exact" "by" (.q r) = some () := fun r => by
    simp only [rcv]
    rw [if_pos ⟨trivial, by decide, by decide⟩]
  simp (disch := first | assumption | omega) [b_slope, env0, qp, mMeth, hr, slp]
theorem height_eq {N M L : Nat} {a b t : Rat} {ps : List Pt} (c : Crs N L a b ps) (h1 : a ≤ t) (h2 : t ≤ b) (hM : Ht M t) (hN : 6 * N + M ≤ 3900) (hL : L ≤ 1000) : m_height_at cs [rws ps, .q t] = some (.q (hgt ps t)) := by
  obtain ⟨y0, h0⟩ := c.h0
  obtain ⟨yn, hn⟩ := c.hn
  have l2 := c.l2
  unfold m_height_at b_height_at
  refine Ex.fnP rfl ?_
  refine Ex.seq (e := [some (.p (rws ps)), some (.p (.q t)), some (.p (.int 1)), none, none]) (by simp [env0]) ?_
  refine Ex.seq' (P := fun e => ∃ (i : Nat) (p q : Pt), e = [some (.p (rws ps)), some (.p (.q t)), some (.p (.int ((i : Int) + 1))), none, none] ∧ ps[i]? = some p ∧ ps[i + 1]? = some q ∧ p.1 ≤ t ∧ t ≤ q.1) (while_inv (fun n e => ∃ (i : Nat) (p : Pt), e = [some (.p (rws ps)), some (.p (.q t)), some (.p (.int ((i : Int) + 1))), none, none] ∧ i + 1 < ps.length ∧ ps.length - i = n ∧ ps[i]? = some p ∧ p.1 ≤ t) _ ?_ fuel ps.length _ (fuel_big (k := 10) (by have := c.len; omega) (by decide)) ⟨0, _, rfl, by omega, by omega, h0, h1⟩) ?_
  · rintro n e ⟨i, p, rfl, hi, hn', hp, hpt⟩
    have hq : ps[i + 1]? = some ps[i + 1] := by simp [hi]
    have u2 : (ps.map qp)[i + 1]? = some (qp ps[i + 1]) := by rw [List.getElem?_map, hq]; rfl
    have i2 := atI_nat' u2
    rw [Int.natCast_succ] at i2
    generalize hqq : ps[i + 1] = q at hq i2 u2
    haveI : HtC M t := ⟨hM⟩
    haveI : HtC N q.1 := ⟨(c.ht q (List.mem_of_getElem? hq)).1⟩
    by_cases hl : q.1 < t
    · right
      refine ⟨_, by simp (disch := omega) [rws, i2, qp, hl]; rfl, _, by simp; rfl, ps.length - (i + 1), by omega, i + 1, q, by simp [rws], ?_, rfl, hq, Rat.le_of_lt hl⟩
      rcases Nat.lt_or_ge (i + 1 + 1) ps.length with z | z
      · exact z
      · have : ps.length - 1 = i + 1 := by omega
        rw [this, hq] at hn
        cases hn
        grind
    · left
      refine ⟨[some (.p (rws ps)), some (.p (.q t)), some (.p (.int ((i : Int) + 1))), none, none], by simp (disch := omega) [rws, i2, qp, hl], i, p, q, rfl, hp, hq, hpt, by grind⟩
  · rintro e ⟨i, p, q, rfl, hp, hq, h3, h4⟩
    have hpq : p.1 < q.1 := inc_get c.inc hp hq (by omega)
    have he : hgt ps t = lin p q t := on_one c.inc (hgt_on c.l2 h0 hn h1 h2) (on_get hp hq h3 h4)
    have u1 : (ps.map qp)[i]? = some (qp p) := by rw [List.getElem?_map, hp]; rfl
    have u2 : (ps.map qp)[i + 1]? = some (qp q) := by rw [List.getElem?_map, hq]; rfl
    have i1 := atI_nat' u1
    have i2 := atI_nat' u2
    rw [Int.natCast_succ] at i2
    haveI : HtC M t := ⟨hM⟩
    haveI : HtC N p.1 := ⟨(c.ht p (List.mem_of_getElem? hp)).1⟩
    haveI : HtC N p.2 := ⟨(c.ht p (List.mem_of_getElem? hp)).2⟩
    haveI : HtC N q.1 := ⟨(c.ht q (List.mem_of_getElem? hq)).1⟩
    haveI : HtC N q.2 := ⟨(c.ht q (List.mem_of_getElem? hq)).2⟩
    have hs := slope_eq (cs := cs) hpq (by omega)
    haveI : HtC (N + N + 1 + (N + N + 1) + 1) (slp p q) := by
      unfold slp
      infer_instance
    refine Ex.seq (e := [some (.p (rws ps)), some (.p (.q t)), some (.p (.int ((i : Int) + 1))), some (.p (qp p)), some (.p (qp q))]) (by
      simp [rws, i1, i2, Int.add_sub_cancel]) ?_
    refine ⟨_, by
      simp only [qp] at hs
      simp (disch := omega) [qp, hs]
      rfl, ?_⟩
    show Ow.p (.q _) = Ow.p (.q _)
    rw [he]
    rfl
end
end UM
set_option Elab.async false
set_option linter.all false
set_option maxRecDepth 100000
set_option maxHeartbeats 4000000
/-! the program's lines: points checked and bent -/
namespace UL
open PySem L2 LM
theorem atI_end {α : Type} {xs ys : List α} {n : Nat} (h : n < ys.length) : atI (xs ++ ys) (-((n : Int) + 1)) = ys[ys.length - (n + 1)]? := by
  unfold atI ixN
  rw [if_neg (by omega), if_pos (by simp; omega)]
  show (xs ++ ys)[_]? = _
  have : ((-((n : Int) + 1)) + ((xs ++ ys).length : Nat)).toNat = xs.length + (ys.length - (n + 1)) := by simp; omega
  rw [this, List.getElem?_append_right (by omega)]
  congr 1
  omega
@[simp] theorem atI_m1 {α : Type} {xs : List α} {a : α} : atI (xs ++ [a]) (-1) = some a := atI_end (n := 0) (ys := [a]) (by simp)
@[simp] theorem atI_m12 {α : Type} {xs : List α} {a b : α} : atI (xs ++ [a, b]) (-1) = some b := atI_end (n := 0) (ys := [a, b]) (by simp)
@[simp] theorem atI_m2 {α : Type} {xs : List α} {a b : α} : atI (xs ++ [a, b]) (-2) = some a := atI_end (n := 1) (ys := [a, b]) (by simp)
end UL
namespace UM
open PySem L2 UL LM
def stW (ps : List Pt) : Ow := .l (ps.map fun p => .p (qp p))
section
variable {cs : List String}
abbrev bentC (cs : List String) : M Bool := mAnd (mTest (m2 gtU (mLenV 1) (mC (.int 1)))) (mTest (m2 (eqU 0) (mN (m_slope cs) (mCons (mIxV 1 (m1 negU (mC (.int 2)))) (mCons (mIxV 1 (m1 negU (mC (.int 1)))) mNil))) (mN (m_slope cs) (mCons (mIxV 1 (m1 negU (mC (.int 1)))) (mCons (mVar 2) mNil)))))
theorem bentC_short {ps st : List Pt} {q : Pt} (h : st.length ≤ 1) : bentC cs [some (.p (rws ps)), some (stW st), some (.p (qp q))] = some (false, [some (.p (rws ps)), some (stW st), some (.p (qp q))]) := by
  have : ¬ (1 : Int) < st.length := by omega
  simp [stW, this]
theorem bentC_two {N : Nat} {ps G : List Pt} {f p q : Pt} (hN : 4 * N ≤ 3900) (h1 : Ht N f.1 ∧ Ht N f.2) (h2 : Ht N p.1 ∧ Ht N p.2) (h3 : Ht N q.1 ∧ Ht N q.2) (l1 : f.1 < p.1) (l2 : p.1 < q.1) : bentC cs [some (.p (rws ps)), some (stW (G ++ [f, p])), some (.p (qp q))] = some (decide (slp f p = slp p q), [some (.p (rws ps)), some (stW (G ++ [f, p])), some (.p (qp q))]) := by
  haveI : HtC N f.1 := ⟨h1.1⟩
  haveI : HtC N f.2 := ⟨h1.2⟩
  haveI : HtC N p.1 := ⟨h2.1⟩
  haveI : HtC N p.2 := ⟨h2.2⟩
  haveI : HtC N q.1 := ⟨h3.1⟩
  haveI : HtC N q.2 := ⟨h3.2⟩
  have s1 := slope_eq (cs := cs) l1 (by omega)
  have s2 := slope_eq (cs := cs) l2 (by omega)
  have : (1 : Int) < ((G.length : Int) + 1 + 1) := by omega
  simp [stW, this, s1, s2]
  omega
theorem stW_app {st : List Pt} {q : Pt} : Ow.l ((st.map fun p => Ow.p (qp p)) ++ [.p (qp q)]) = stW (st ++ [q]) := by simp [stW]
theorem stW_frz {st : List Pt} : frz (stW st) = rws st := by
  unfold stW rws
  rw [frz_l, ← frzs_m (us := st.map qp), List.map_map]
  rfl
theorem fuel2 : ∃ m, fuel = m + 2 := ⟨fuel - 2, by have := fuel_big (n := 2) (k := 2) (by decide) (by decide); omega⟩
theorem bent_eq {N : Nat} {ps : List Pt} (hN : 4 * N ≤ 3900) (inc : Inc ps) (l2 : 2 ≤ ps.length) (hl : ps.length ≤ 1000) (ht : ∀ p ∈ ps, Ht N p.1 ∧ Ht N p.2) : m_bent cs [rws ps] = some (rws (bends ps)) := by
  unfold m_bent b_bent
  refine Ex.fnP rfl ?_
  refine Ex.seq (e := [some (.p (rws ps)), some (stW []), none]) (by simp [env0, stW]) ?_
  refine Ex.seq' (P := fun e => ∃ a, e = [some (.p (rws ps)), some (stW (bends ps)), a]) ?_ ?_
  · obtain ⟨e, h1, st, a, rfl, h2, _⟩ := for_inv qp (fun k e => ∃ st a, e = [some (.p (rws ps)), some (stW st), a] ∧ StkOk ps k st ∧ st.length ≤ k) (xs := ps) (k := 0) (g := gN 2) (s := sSeq (whileO (bentC cs) (sDrop (mPopV 1)) fuel) (sDrop (mAppV 1 (mVar 2)))) (env := [some (.p (rws ps)), some (stW []), none]) ⟨[], none, rfl, .inl ⟨rfl, rfl⟩, Nat.le_refl 0⟩ (by
      rintro i q e hq ⟨st, a, rfl, hs, hsl⟩
      rw [Nat.zero_add] at hs hsl ⊢
      have hi := (List.getElem?_eq_some_iff.mp hq).1
      have hsz : st.length < sizeLine := by have := size1; omega
      obtain ⟨m, hm⟩ := fuel2
      refine ⟨[some (.p (rws ps)), some (stW st), some (.p (qp q))], by simp, ?_⟩
      have fin : ∀ st', st'.length < sizeLine → st'.length ≤ i → StkOk ps (i + 1) (st' ++ [q]) → whileO (bentC cs) (sDrop (mPopV 1)) fuel [some (.p (rws ps)), some (stW st), some (.p (qp q))] = some (.nx [some (.p (rws ps)), some (stW st'), some (.p (qp q))]) → ∃ env', sSeq (whileO (bentC cs) (sDrop (mPopV 1)) fuel) (sDrop (mAppV 1 (mVar 2))) [some (.p (rws ps)), some (stW st), some (.p (qp q))] = some (.nx env') ∧ ∃ st a, env' = [some (.p (rws ps)), some (stW st), a] ∧ StkOk ps (i + 1) st ∧ st.length ≤ i + 1 := by
        intro st' hz hle hok hw
        refine ⟨[some (.p (rws ps)), some (stW (st' ++ [q])), some (.p (qp q))], ?_, st' ++ [q], _, rfl, hok, by simp; omega⟩
        rw [sSeq_nx hw]
        simp [stW, hz]
      rcases hs with ⟨rfl, rfl⟩ | ⟨rfl, p, r, e, rfl⟩ | ⟨G, f, p, rfl, s⟩
      · refine fin [] hsz (by simp) (stk0 hq) ?_
        rw [hm]
        exact while_stop (bentC_short (by simp))
      · refine fin [p] hsz (by simp) (stk1 inc e hq) ?_
        rw [hm]
        exact while_stop (bentC_short (by simp))
      · obtain ⟨m1, m2, m3⟩ := stkG_mem s
        have mq := List.mem_of_getElem? hq
        have hpq := stkG_inc inc s hq
        have hfp : f.1 < p.1 := s.choose_spec.2.2.2.1
        have hc := bentC_two (cs := cs) (ps := ps) (G := G) hN (ht f m2) (ht p m3) (ht q mq) hfp hpq
        by_cases c : slp f p = slp p q
        · rw [decide_eq_true c] at hc
          refine fin (G ++ [f]) (by simp at hsz ⊢; omega) (by simp at hsl ⊢; omega) (by simpa using stk_pop inc s hq c) ?_
          rw [hm, while_go (e' := [some (.p (rws ps)), some (stW (G ++ [f])), some (.p (qp q))]) hc (by simp [stW])]
          rcases List.eq_nil_or_concat G with rfl | ⟨G', e, rfl⟩
          · exact while_stop (bentC_short (by simp))
          · rw [List.concat_eq_append] at s m1 ⊢
            obtain ⟨n1, n2, n3⟩ := stk_stop inc s hq c
            have hc2 := bentC_two (cs := cs) (ps := ps) (G := G') hN (ht e (m1 e (by simp))) (ht f m2) (ht q mq) n2 n3
            rw [decide_eq_false n1] at hc2
            rw [List.append_assoc]
            exact while_stop hc2
        · rw [decide_eq_false c] at hc
          refine fin (G ++ [f, p]) hsz hsl (stk_push inc s hq c) ?_
          rw [hm]
          exact while_stop hc)
    rw [Nat.zero_add] at h2
    rw [← stk_end l2 h2]
    exact ⟨_, by simp [rws]; exact h1, a, rfl⟩
  · rintro e ⟨a, rfl⟩
    refine ⟨_, by simp; rfl, ?_⟩
    rw [stW_frz]
end
end UM
set_option Elab.async false
set_option linter.all false
set_option maxRecDepth 100000
set_option maxHeartbeats 4000000
/-! the program's lines: points checked, objects -/
namespace UM
open PySem L2 UL LM
/-- a number, as an int or as an Exact -/
def NumU (u : U) (r : Rat) : Prop := u = .q r ∨ ∃ i : Int, u = .int i ∧ r = i
section
variable {cs : List String}
theorem num_pl (r : Rat) : NumU (pl r) r := by
  unfold pl
  split
  · rename_i h
    exact .inr ⟨r.num, rfl, Rat.ext (by rw [Rat.num_intCast]) (by rw [Rat.den_intCast, h])⟩
  · exact .inl rfl
theorem num_part {u : U} {r : Rat} (h : NumU u r) : partF [u] = some (.q r) := by
  rcases h with rfl | ⟨i, rfl, rfl⟩ <;> rfl
theorem num_is {u : U} {r : Rat} (h : NumU u r) : isNumF cs [u] = some (.bl true) := by
  rcases h with rfl | ⟨i, rfl, rfl⟩
  · simp [isNumF, kwn, isiN, tyU]
  · simp [isNumF, kwn, isiN, tyU]
theorem num_lt2 {u : U} {a r : Rat} {n m : Nat} (h : NumU u r) (ha : Ht n a) (hr : Ht m r) (hn : n ≤ 4000) (hm : m ≤ 4000) : ltU (.q a) u = some (.bl (decide (a < r))) := by
  haveI : HtC n a := ⟨ha⟩
  haveI : HtC m r := ⟨hr⟩
  rcases h with rfl | ⟨i, rfl, rfl⟩
  · exact okQ_of hn hm
  · exact okQ_of hn hm
def isPt (u : U) (p : Pt) : Prop := ∃ x y, u = .tup [x, y] ∧ NumU x p.1 ∧ NumU y p.2
theorem enum_map {α : Type} (enc : α → U) (xs : List α) : enumU (xs.map enc) = xs.zipIdx.map fun x => .tup [.int x.2, enc x.1] := by
  simp [enumU, List.zipIdx_map]
theorem isList_l {us : List U} : m_is_list cs [.lst us] = some (.bl true) := by
  unfold m_is_list fnP
  simp [b_is_list, env0, isiA, kwn, isiN, tyU]
theorem isList_t {us : List U} : m_is_list cs [.tup us] = some (.bl true) := by
  unfold m_is_list fnP
  simp [b_is_list, env0, isiA, kwn, isiN, tyU]
theorem checked_eq {N : Nat} {ps : List Pt} (enc : Pt → U) (henc : ∀ p ∈ ps, isPt (enc p) p) (hN : N ≤ 3900) (inc : Inc ps) (l2 : 2 ≤ ps.length) (hl : ps.length ≤ 1000) (ht : ∀ p ∈ ps, Ht N p.1 ∧ Ht N p.2) : m_checked_points cs [.lst (ps.map enc)] = some (rws ps) := by
  unfold m_checked_points b_checked_points
  refine Ex.fnP rfl ?_
  have e0 : ps ≠ [] := fun z => by subst z; simp at l2
  have e1 : ¬ ((ps.length : Int) = 1) := by omega
  refine Ex.seq (e := [some (.p (.lst (ps.map enc))), none, none, none, none]) (by simp [env0, isList_l, e0]) ?_
  refine Ex.seq (e := [some (.p (.lst (ps.map enc))), some (stW []), none, none, none]) (by simp [stW]) ?_
  refine Ex.seq' (P := fun e => ∃ a b c, e = [some (.p (.lst (ps.map enc))), some (stW ps), a, b, c]) ?_ ?_
  · obtain ⟨e, h1, a, b, rfl⟩ := for_inv (fun x : Pt × Nat => .tup [.int x.2, enc x.1]) (fun k e => ∃ a b, e = [some (.p (.lst (ps.map enc))), some (stW (ps.take k)), a, b, none]) (xs := ps.zipIdx) (k := 0) (g := gT 2 (gsCons (gN 2) (gsCons (gN 3) gsNil))) (s := (sSeq (sIf (mOr (mNot (mTest (mN (m_is_list cs) (mCons (mVar 3) mNil)))) (mOr (mTest (m2 neU (mN lenU (mCons (mVar 3) mNil)) (mC (.int 2)))) (mNot (mTest (mN allU (mCons (mLc [4] (mSeq (mVar 3)) (gN 4) mYes (mN (isNumF cs) (mCons (mVar 4) mNil))) mNil)))))) sNever sNext)
    (sSeq (sIf (mAnd (mTest (mNeNilV 1)) (mNot (mTest (m2 ltU (m2 ixU (mIxV 1 (m1 negU (mC (.int 1)))) (mC (.int 0))) (m2 ixU (mVar 3) (mC (.int 0))))))) sNever sNext)
    (sDrop (mAppV 1 (mTup (mCons (mN partF (mCons (m2 ixU (mVar 3) (mC (.int 0))) mNil)) (mCons (mN partF (mCons (m2 ixU (mVar 3) (mC (.int 1))) mNil)) mNil)))))))) (env := [some (.p (.lst (ps.map enc))), some (stW []), none, none, none]) ⟨none, none, rfl⟩ (by
      rintro i ⟨p, j⟩ e hp ⟨a, b, rfl⟩
      rw [Nat.zero_add]
      rw [List.getElem?_zipIdx] at hp
      obtain ⟨q, hq0, hz⟩ := Option.map_eq_some_iff.mp hp
      rw [Nat.zero_add] at hz
      cases hz
      replace hp := hq0
      have hi := (List.getElem?_eq_some_iff.mp hp).1
      obtain ⟨x, y, hxy, hx, hy⟩ := henc p (List.mem_of_getElem? hp)
      have hsz : i < sizeLine := by have := size1; omega
      have hmn : min i ps.length < sizeLine := by omega
      have htk : ps.take (i + 1) = ps.take i ++ [p] := by rw [List.take_add_one, hp]; rfl
      refine ⟨[some (.p (.lst (ps.map enc))), some (stW (ps.take i)), some (.p (.int i)), some (.p (.tup [x, y])), none], by simp [hxy], ?_⟩
      refine ⟨[some (.p (.lst (ps.map enc))), some (stW (ps.take (i + 1))), some (.p (.int i)), some (.p (.tup [x, y])), none], ?_, _, _, rfl⟩
      rw [sSeq_nx (e := [some (.p (.lst (ps.map enc))), some (stW (ps.take i)), some (.p (.int i)), some (.p (.tup [x, y])), none]) (by
        have hlc : lcO [4] (gN 4) mYes (mN (isNumF cs) (mCons (mVar 4) mNil)) [x, y] [] [some (.p (.lst (ps.map enc))), some (stW (ps.take i)), some (.p (.int i)), some (.p (.tup [x, y])), none] = some ([.bl true, .bl true], [some (.p (.lst (ps.map enc))), some (stW (ps.take i)), some (.p (.int i)), some (.p (.tup [x, y])), none]) := by
          have s0 : 0 < sizeLine := by decide
          have s1 : 1 < sizeLine := by decide
          simp [lcO, wipeE, restE, keepP, num_is hx, num_is hy, s0, s1]
        simp [isList_t, hlc, allU, allB])]
      rw [sSeq_nx (e := [some (.p (.lst (ps.map enc))), some (stW (ps.take i)), some (.p (.int i)), some (.p (.tup [x, y])), none]) (by
        cases i with
        | zero => simp [stW]
        | succ i =>
          obtain ⟨q, hq⟩ : ∃ q, ps[i]? = some q := ⟨ps[i], by simp⟩
          have hqp : q.1 < p.1 := inc_get inc hq hp (by omega)
          obtain ⟨tk, htk2⟩ : ∃ tk, ps.take (i + 1) = tk ++ [q] := ⟨ps.take i, by rw [List.take_add_one, hq]; rfl⟩
          rw [htk2]
          have hl := num_lt2 hx (ht q (List.mem_of_getElem? hq)).1 (ht p (List.mem_of_getElem? hp)).1 (by omega) (by omega)
          rw [decide_eq_true hqp] at hl
          simp [stW, qp, hl])]
      rw [htk]
      simp [stW, num_part hx, num_part hy, hmn, qp])
    rw [Nat.zero_add, List.length_zipIdx, List.take_length] at *
    refine ⟨_, ?_, a, b, none, rfl⟩
    simp [mEnumS, seq1]
    rw [enum_map]
    exact h1
  · rintro e ⟨a, b, c, rfl⟩
    refine ⟨_, by simp [e1, stW]; rfl, ?_⟩
    show Ow.p (frz (stW ps)) = _
    rw [stW_frz]
end
end UM
set_option Elab.async false
set_option linter.all false
set_option maxRecDepth 100000
set_option maxHeartbeats 4000000
/-! the program's lines: moments of two rows -/
namespace UM
open PySem L2 UL LM
section
variable {cs : List String}
def qW (ms : List Rat) : Ow := .l (ms.map fun m => .p (.q m))
theorem qW_frz {ms : List Rat} : frz (qW ms) = .lst (ms.map .q) := by
  unfold qW
  rw [frz_l, ← frzs_m (us := ms.map .q), List.map_map]
  rfl
def MS1 (xs ys fs : List Rat) (i j : Nat) : Prop :=
  Srt fs ∧ (∀ z, z ∈ fs ↔ z ∈ xs.take i ∨ z ∈ ys.take j) ∧ (∀ z ∈ fs, ∀ w, w ∈ xs.drop i ∨ w ∈ ys.drop j → z < w) ∧ i ≤ xs.length ∧ j ≤ ys.length ∧ fs.length ≤ i + j
theorem mem_drop_iff {xs : List Rat} {i : Nat} {x : Rat} (h : xs[i]? = some x) (z : Rat) : z ∈ xs.drop i ↔ z = x ∨ z ∈ xs.drop (i + 1) := by
  have hi := (List.getElem?_eq_some_iff.mp h).1
  rw [List.drop_eq_getElem_cons hi]
  have : xs[i] = x := by simpa [hi] using h
  rw [this]
  simp
theorem mem_take_iff {xs : List Rat} {i : Nat} {x : Rat} (h : xs[i]? = some x) (z : Rat) : z ∈ xs.take (i + 1) ↔ z ∈ xs.take i ∨ z = x := by
  rw [List.take_add_one, h]
  simp
theorem srt_next {xs : List Rat} (hs : Srt xs) {i : Nat} {x z : Rat} (h : xs[i]? = some x) (hz : z ∈ xs.drop (i + 1)) : x < z := by
  have hi := (List.getElem?_eq_some_iff.mp h).1
  have h2 : Srt (xs.drop i) := List.Pairwise.sublist (List.drop_sublist i xs) hs
  rw [List.drop_eq_getElem_cons hi] at h2
  have : xs[i] = x := by simpa [hi] using h
  rw [this] at h2
  exact (List.pairwise_cons.mp h2).1 z hz
/-- one step: the least of what is left goes on -/
theorem ms_step {xs ys fs : List Rat} {i j di dj : Nat} {m : Rat} (hx : Srt xs) (hy : Srt ys) (h : MS1 xs ys fs i j)
    (h1 : (di = 1 ∧ xs[i]? = some m) ∨ (di = 0 ∧ ∀ z ∈ xs.drop i, m < z)) (h2 : (dj = 1 ∧ ys[j]? = some m) ∨ (dj = 0 ∧ ∀ z ∈ ys.drop j, m < z)) (h3 : di + dj ≥ 1) : MS1 xs ys (fs ++ [m]) (i + di) (j + dj) := by
  obtain ⟨s1, s2, s3, s4, s5, s6⟩ := h
  have hm : ∀ z ∈ fs, z < m := by
    intro z hz
    rcases h1 with ⟨rfl, e⟩ | ⟨rfl, e⟩
    · exact s3 z hz m (.inl ((mem_drop_iff e m).mpr (.inl rfl)))
    · rcases h2 with ⟨rfl, e2⟩ | ⟨rfl, e2⟩
      · exact s3 z hz m (.inr ((mem_drop_iff e2 m).mpr (.inl rfl)))
      · omega
  refine ⟨?_, fun z => ?_, fun z hz w hw => ?_, ?_, ?_, ?_⟩
  · exact List.pairwise_append.mpr ⟨s1, by simp, fun a ha b hb => by simp at hb; subst hb; exact hm a ha⟩
  · rw [List.mem_append, s2 z, List.mem_singleton]
    rcases h1 with ⟨rfl, e⟩ | ⟨rfl, e⟩ <;> rcases h2 with ⟨rfl, e2⟩ | ⟨rfl, e2⟩
    · rw [mem_take_iff e, mem_take_iff e2]; grind
    · rw [mem_take_iff e, Nat.add_zero]; grind
    · rw [mem_take_iff e2, Nat.add_zero]; grind
    · omega
  · have hw' : w ∈ xs.drop i ∨ w ∈ ys.drop j := by
      rcases hw with hw | hw
      · exact .inl ((List.drop_sublist_drop_left xs (by omega)).mem hw)
      · exact .inr ((List.drop_sublist_drop_left ys (by omega)).mem hw)
    rcases List.mem_append.mp hz with hz | hz
    · exact s3 z hz w hw'
    · simp at hz
      subst hz
      rcases hw with hw | hw
      · rcases h1 with ⟨rfl, e⟩ | ⟨rfl, e⟩
        · exact srt_next hx e hw
        · exact e w hw
      · rcases h2 with ⟨rfl, e⟩ | ⟨rfl, e⟩
        · exact srt_next hy e hw
        · exact e w hw
  · rcases h1 with ⟨rfl, e⟩ | ⟨rfl, e⟩
    · exact (List.getElem?_eq_some_iff.mp e).1
    · exact s4
  · rcases h2 with ⟨rfl, e⟩ | ⟨rfl, e⟩
    · exact (List.getElem?_eq_some_iff.mp e).1
    · exact s5
  · simp
    omega
end
end UM
set_option Elab.async false
set_option linter.all false
set_option maxRecDepth 100000
set_option maxHeartbeats 4000000
namespace UM
open PySem L2 UL LM
section
variable {cs : List String}
abbrev mrgB : MS := (sSeq (sIf (mOr (mTest (m2 (eqU 0) (mVar 4) (mN lenU (mCons (mVar 1) mNil)))) (mAnd (mTest (m2 ltU (mVar 3) (mN lenU (mCons (mVar 0) mNil)))) (mTest (m2 ltU (m2 ixU (m2 ixU (mVar 0) (mVar 3)) (mC (.int 0))) (m2 ixU (m2 ixU (mVar 1) (mVar 4)) (mC (.int 0))))))) (sSet 5 (mP (m2 ixU (m2 ixU (mVar 0) (mVar 3)) (mC (.int 0))))) (sSet 5 (mP (m2 ixU (m2 ixU (mVar 1) (mVar 4)) (mC (.int 0))))))
    (sSeq (sAug 3 addI (mN intU (mCons (mAndV (m2 ltU (mVar 3) (mN lenU (mCons (mVar 0) mNil))) (m2 (eqU 0) (m2 ixU (m2 ixU (mVar 0) (mVar 3)) (mC (.int 0))) (mVar 5))) mNil)))
    (sSeq (sAug 4 addI (mN intU (mCons (mAndV (m2 ltU (mVar 4) (mN lenU (mCons (mVar 1) mNil))) (m2 (eqU 0) (m2 ixU (m2 ixU (mVar 1) (mVar 4)) (mC (.int 0))) (mVar 5))) mNil)))
    (sDrop (mAppV 2 (mVar 5))))))
def mrgE (ps qs : List Pt) (fs : List Rat) (i j : Nat) (a : Option Ow) : UL.Env := [some (.p (rws ps)), some (.p (rws qs)), some (qW fs), some (.p (.int i)), some (.p (.int j)), a]
theorem mrg_body {N : Nat} {ps qs : List Pt} {fs : List Rat} {i j : Nat} {a : Option Ow} (hN : N ≤ 4000) (ix : Inc ps) (iy : Inc qs) (hp : ∀ p ∈ ps, Ht N p.1) (hq : ∀ p ∈ qs, Ht N p.1) (hf : fs.length < sizeLine) (h : MS1 (ps.map (·.1)) (qs.map (·.1)) fs i j) (hlt : i < ps.length ∨ j < qs.length) :
    ∃ fs' i' j' a', mrgB (mrgE ps qs fs i j a) = some (.nx (mrgE ps qs fs' i' j' a')) ∧ MS1 (ps.map (·.1)) (qs.map (·.1)) fs' i' j' ∧ i + j < i' + j' ∧ fs'.length = fs.length + 1 := by
  have hi : i ≤ ps.length := by have := h.2.2.2.1; simpa using this
  have hj : j ≤ qs.length := by have := h.2.2.2.2.1; simpa using this
  have sx : Srt (ps.map (·.1)) := List.pairwise_map.mpr ix
  have sy : Srt (qs.map (·.1)) := List.pairwise_map.mpr iy
  have kx : ∀ {p : Pt}, ps[i]? = some p → (ps.map (·.1))[i]? = some p.1 := fun e => by rw [List.getElem?_map, e]; rfl
  have ky : ∀ {p : Pt}, qs[j]? = some p → (qs.map (·.1))[j]? = some p.1 := fun e => by rw [List.getElem?_map, e]; rfl
  have ax : ∀ {p : Pt}, ps[i]? = some p → atI (ps.map qp) i = some (qp p) := fun e => atI_nat' (by rw [List.getElem?_map, e]; rfl)
  have ay : ∀ {p : Pt}, qs[j]? = some p → atI (qs.map qp) j = some (qp p) := fun e => atI_nat' (by rw [List.getElem?_map, e]; rfl)
  cases ox : ps[i]? with
  | none =>
    have hi2 : i = ps.length := by have := List.getElem?_eq_none_iff.mp ox; omega
    cases oy : qs[j]? with
    | none =>
      have := List.getElem?_eq_none_iff.mp oy
      omega
    | some q =>
      have hj2 := (List.getElem?_eq_some_iff.mp oy).1
      have c1 : ¬ (j : Int) = qs.length := by omega
      have c2 : ¬ (i : Int) < ps.length := by omega
      have c3 : (j : Int) < qs.length := by omega
      refine ⟨fs ++ [q.1], i, j + 1, some (.p (.q q.1)), ?_, ms_step (di := 0) (dj := 1) sx sy h (.inr ⟨rfl, fun z hz => ?_⟩) (.inl ⟨rfl, ky oy⟩) (by omega), by omega, by simp⟩
      · simp [mrgE, rws, c1, c2, c3, ay oy, qp, intU, qW, hf]
      · rw [List.drop_of_length_le (by simp; omega)] at hz
        simp at hz
  | some p =>
    have hi2 := (List.getElem?_eq_some_iff.mp ox).1
    have d2 : (i : Int) < ps.length := by omega
    have fx : ∀ z ∈ (ps.map (·.1)).drop i, p.1 ≤ z := fun z hz => by
      rcases (mem_drop_iff (kx ox) z).mp hz with rfl | hz
      · exact Rat.le_refl
      · exact Rat.le_of_lt (srt_next sx (kx ox) hz)
    cases oy : qs[j]? with
    | none =>
      have hj2 : j = qs.length := by have := List.getElem?_eq_none_iff.mp oy; omega
      have c1 : (j : Int) = qs.length := by omega
      have c3 : ¬ (j : Int) < qs.length := by omega
      refine ⟨fs ++ [p.1], i + 1, j, some (.p (.q p.1)), ?_, ms_step (di := 1) (dj := 0) sx sy h (.inl ⟨rfl, kx ox⟩) (.inr ⟨rfl, fun z hz => ?_⟩) (by omega), by omega, by simp⟩
      · simp [mrgE, rws, hj2, d2, ax ox, qp, intU, qW, hf]
      · rw [List.drop_of_length_le (by simp; omega)] at hz
        simp at hz
    | some q =>
      have hj2 := (List.getElem?_eq_some_iff.mp oy).1
      have c1 : ¬ (j : Int) = qs.length := by omega
      have c3 : (j : Int) < qs.length := by omega
      have fy : ∀ z ∈ (qs.map (·.1)).drop j, q.1 ≤ z := fun z hz => by
        rcases (mem_drop_iff (ky oy) z).mp hz with rfl | hz
        · exact Rat.le_refl
        · exact Rat.le_of_lt (srt_next sy (ky oy) hz)
      haveI : HtC N p.1 := ⟨hp p (List.mem_of_getElem? ox)⟩
      haveI : HtC N q.1 := ⟨hq q (List.mem_of_getElem? oy)⟩
      have hl := ltU_qq (a := p.1) (b := q.1) hN hN
      by_cases hlt : p.1 < q.1
      · have hne : ¬ q.1 = p.1 := by grind
        refine ⟨fs ++ [p.1], i + 1, j, some (.p (.q p.1)), ?_, ms_step (di := 1) (dj := 0) sx sy h (.inl ⟨rfl, kx ox⟩) (.inr ⟨rfl, fun z hz => ?_⟩) (by omega), by omega, by simp⟩
        · simp [mrgE, rws, c1, c3, d2, ax ox, ay oy, qp, intU, qW, hf, hl, hlt, hne]
        · have := fy z hz
          grind
      · by_cases heq : p.1 = q.1
        · refine ⟨fs ++ [q.1], i + 1, j + 1, some (.p (.q q.1)), ?_, ms_step (di := 1) (dj := 1) sx sy h (.inl ⟨rfl, by rw [← heq]; exact kx ox⟩) (.inl ⟨rfl, ky oy⟩) (by omega), by omega, by simp⟩
          have hl2 := ltU_qq (a := q.1) (b := q.1) hN hN
          have hlt2 : ¬ q.1 < q.1 := by grind
          simp [mrgE, rws, c1, c3, d2, ax ox, ay oy, qp, intU, qW, hf, hl2, hlt2, heq]
        · refine ⟨fs ++ [q.1], i, j + 1, some (.p (.q q.1)), ?_, ms_step (di := 0) (dj := 1) sx sy h (.inr ⟨rfl, fun z hz => ?_⟩) (.inl ⟨rfl, ky oy⟩) (by omega), by omega, by simp⟩
          · simp [mrgE, rws, c1, c3, d2, ax ox, ay oy, qp, intU, qW, hf, hl, hlt, heq]
          · have := fx z hz
            grind
theorem merged_eq {N : Nat} {ps qs : List Pt} (hN : N ≤ 4000) (ix : Inc ps) (iy : Inc qs) (hp : ∀ p ∈ ps, Ht N p.1) (hq : ∀ p ∈ qs, Ht N p.1) (hl : ps.length + qs.length ≤ 1000) :
    ∃ ms : List Rat, m_merged cs [rws ps, rws qs] = some (.lst (ms.map .q)) ∧ Srt ms ∧ (∀ z, z ∈ ms ↔ z ∈ ps.map (·.1) ∨ z ∈ qs.map (·.1)) ∧ ms.length ≤ ps.length + qs.length := by
  have key : ∃ e, whileO (mOr (mTest (m2 ltU (mVar 3) (mN lenU (mCons (mVar 0) mNil)))) (mTest (m2 ltU (mVar 4) (mN lenU (mCons (mVar 1) mNil))))) mrgB fuel (mrgE ps qs [] 0 0 none) = some (.nx e) ∧ ∃ fs a, e = mrgE ps qs fs ps.length qs.length a ∧ MS1 (ps.map (·.1)) (qs.map (·.1)) fs ps.length qs.length := by
    refine while_inv (fun n e => ∃ fs i j a, e = mrgE ps qs fs i j a ∧ MS1 (ps.map (·.1)) (qs.map (·.1)) fs i j ∧ ps.length + qs.length - (i + j) = n) _ ?_ fuel (ps.length + qs.length) _ (fuel_big (k := 10) (by omega) (by decide)) ⟨[], 0, 0, none, rfl, ⟨by simp, by simp, by simp, by omega, by omega, by simp⟩, rfl⟩
    rintro n e ⟨fs, i, j, a, rfl, h, hn⟩
    have hi : i ≤ ps.length := by have := h.2.2.2.1; simpa using this
    have hj : j ≤ qs.length := by have := h.2.2.2.2.1; simpa using this
    by_cases hc : i < ps.length ∨ j < qs.length
    · right
      have hf : fs.length < sizeLine := by have := h.2.2.2.2.2; have := size1; omega
      obtain ⟨fs', i', j', a', h1, h2, h3, h4⟩ := mrg_body (a := a) hN ix iy hp hq hf h hc
      refine ⟨mrgE ps qs fs i j a, ?_, _, h1, _, ?_, fs', i', j', a', rfl, h2, rfl⟩
      · by_cases c : i < ps.length
        · have : (i : Int) < ps.length := by omega
          simp [mrgE, rws, c]
        · have : j < qs.length := by omega
          simp [mrgE, rws, c, this]
      · omega
    · left
      have e1 : i = ps.length := by omega
      have e2 : j = qs.length := by omega
      subst e1
      subst e2
      exact ⟨mrgE ps qs fs _ _ a, by simp [mrgE, rws], fs, a, rfl, h⟩
  obtain ⟨e, h1, fs, a, rfl, h2⟩ := key
  refine ⟨fs, ?_, h2.1, fun z => ?_, h2.2.2.2.2.2⟩
  · unfold m_merged b_merged
    refine Ex.fnP rfl ?_
    refine Ex.seq (e := mrgE ps qs [] 0 0 none) (by simp [env0, mrgE, qW]) ?_
    refine Ex.seq h1 ?_
    refine ⟨_, by simp [mrgE]; rfl, ?_⟩
    rw [qW_frz]
  · rw [h2.2.1 z, List.take_of_length_le (by simp), List.take_of_length_le (by simp)]
end
end UM
set_option Elab.async false
set_option linter.all false
set_option maxRecDepth 100000
set_option maxHeartbeats 4000000
namespace UM
open PySem L2 UL LM
def selR (gr : Bool) (x y : Rat) : Rat := if decide (0 < x - y) = gr then x else y
def chX (f g : Rat → Rat) (m : Rat) : Option Rat → List Pt
  | none => []
  | some a => if (f a - g a) * (f m - g m) < 0 then [(cross f g a m, f (cross f g a m))] else []
theorem chX_len {f g : Rat → Rat} {m : Rat} {ah : Option Rat} : (chX f g m ah).length ≤ 1 := by
  cases ah with
  | none => exact Nat.zero_le 1
  | some a =>
    show (if _ then _ else _ : List Pt).length ≤ 1
    split
    · exact Nat.le_refl 1
    · exact Nat.zero_le 1
def chFrom (gr : Bool) (f g : Rat → Rat) : Option Rat → List Rat → List Pt
  | _, [] => []
  | ah, m :: r => chX f g m ah ++ (m, selR gr (f m) (g m)) :: chFrom gr f g (some m) r
def ahU (f g : Rat → Rat) : Option Rat → U
  | none => .non
  | some a => .tup [.q a, .q (f a - g a)]
section
variable {cs : List String}
abbrev choB (cs : List String) : MS := (sSeq (sPar 6 7 (mCons (mN (m_height_at cs) (mCons (mVar 0) (mCons (mVar 5) mNil))) (mCons (mN (m_height_at cs) (mCons (mVar 1) (mCons (mVar 5) mNil))) mNil)))
    (sSeq (sSet 8 (mP (m2 subU (mVar 6) (mVar 7))))
    (sSeq (sIf (mAnd (mTest (mNotN (mVar 4))) (mTest (m2 ltU (m2 mulU (m2 ixU (mVar 4) (mC (.int 1))) (mVar 8)) (mC (.int 0))))) (sSeq (sSet 9 (mP (m2 addU (m2 ixU (mVar 4) (mC (.int 0))) (m2 mulU (m2 subU (mVar 5) (m2 ixU (mVar 4) (mC (.int 0)))) (mMeth "Exact" "by" byF (m2 ixU (mVar 4) (mC (.int 1))) (mCons (m2 subU (m2 ixU (mVar 4) (mC (.int 1))) (mVar 8)) mNil))))))
    (sDrop (mAppV 3 (mTup (mCons (mVar 9) (mCons (mN (m_height_at cs) (mCons (mVar 0) (mCons (mVar 9) mNil))) mNil)))))) sNext)
    (sSeq (sDrop (mAppV 3 (mTup (mCons (mVar 5) (mCons (mIf (mTest (m2 (eqU 0) (m2 gtU (mVar 8) (mC (.int 0))) (mVar 2))) (mVar 6) (mVar 7)) mNil)))))
    (sSet 4 (mP (mTup (mCons (mVar 5) (mCons (mVar 8) mNil)))))))))
theorem ne_of_neg {x y : Rat} (h : x * y < 0) : x - y ≠ 0 := by
  intro z
  have e : x = y := by grind
  subst e
  rcases Rat.le_total (a := 0) (b := x) with k | k
  · have := Rat.mul_nonneg k k
    grind
  · have k' : 0 ≤ -x := by grind
    have := Rat.mul_nonneg k' k'
    grind
theorem rcv_by (r : Rat) : rcv "Exact" "by" (.q r) = some () := by
  simp only [rcv]
  rw [if_pos ⟨trivial, by decide, by decide⟩]
theorem cho_loop {N M L : Nat} {a b : Rat} {ps qs : List Pt} {gr : Bool} (c : Crs N L a b ps) (d : Crs N L a b qs) (hN : 6 * N + (3 * M + 6 * (6 * N + M + 5) + 10) ≤ 3900) (hL : L ≤ 1000) :
    ∀ (ms : List Rat) (ah : Option Rat) (acc : List Pt) (x5 x6 x7 x8 x9 : Option Ow), (∀ m ∈ ms, a ≤ m ∧ m ≤ b ∧ Ht M m) → Srt ms → (∀ z, ah = some z → a ≤ z ∧ Ht M z ∧ ∀ m ∈ ms, z < m) → acc.length + 2 * ms.length < sizeLine →
    ∃ w4 w5 w6 w7 w8 w9, forO (gN 5) (choB cs) (ms.map .q) [some (.p (rws ps)), some (.p (rws qs)), some (.p (.bl gr)), some (stW acc), some (.p (ahU (hgt ps) (hgt qs) ah)), x5, x6, x7, x8, x9] = some (.nx [some (.p (rws ps)), some (.p (rws qs)), some (.p (.bl gr)), some (stW (acc ++ chFrom gr (hgt ps) (hgt qs) ah ms)), w4, w5, w6, w7, w8, w9])
  | [], ah, acc, x5, x6, x7, x8, x9, _, _, _, _ => ⟨some (.p (ahU (hgt ps) (hgt qs) ah)), x5, x6, x7, x8, x9, by simp [chFrom]⟩
  | m :: ms, ah, acc, x5, x6, x7, x8, x9, hm, hs, hah, hl => by
    obtain ⟨m1, m2, m3⟩ := hm m (by simp)
    obtain ⟨s1, s2⟩ := List.pairwise_cons.mp hs
    have e1 := height_eq (cs := cs) c m1 m2 m3 (by omega) hL
    have e2 := height_eq (cs := cs) d m1 m2 m3 (by omega) hL
    haveI : HtC M m := ⟨m3⟩
    haveI : HtC (6 * N + M + 5) (hgt ps m) := ⟨hgt_ht m3 c.ht⟩
    haveI : HtC (6 * N + M + 5) (hgt qs m) := ⟨hgt_ht m3 d.ht⟩
    have l1 : acc.length < sizeLine := by simp at hl; omega
    have l2 : acc.length + 1 < sizeLine := by simp at hl; omega
    have body : ∃ y9, choB cs [some (.p (rws ps)), some (.p (rws qs)), some (.p (.bl gr)), some (stW acc), some (.p (ahU (hgt ps) (hgt qs) ah)), some (.p (.q m)), x6, x7, x8, x9] = some (.nx [some (.p (rws ps)), some (.p (rws qs)), some (.p (.bl gr)), some (stW (acc ++ (chX (hgt ps) (hgt qs) m ah ++ [(m, selR gr (hgt ps m) (hgt qs m))]))), some (.p (ahU (hgt ps) (hgt qs) (some m))), some (.p (.q m)), some (.p (.q (hgt ps m))), some (.p (.q (hgt qs m))), some (.p (.q (hgt ps m - hgt qs m))), y9]) := by
      cases ah with
      | none =>
        refine ⟨x9, ?_⟩
        by_cases hg : decide (0 < hgt ps m - hgt qs m) = gr
        · simp (disch := omega) [e1, e2, ahU, isN, stW, l1, hg, selR, qp, chX]
        · simp (disch := omega) [e1, e2, ahU, isN, stW, l1, hg, selR, qp, chX]
      | some z =>
        obtain ⟨z1, z2, z3⟩ := hah z rfl
        have zm := z3 m (by simp)
        haveI : HtC M z := ⟨z2⟩
        haveI : HtC (6 * N + M + 5) (hgt ps z) := ⟨hgt_ht z2 c.ht⟩
        haveI : HtC (6 * N + M + 5) (hgt qs z) := ⟨hgt_ht z2 d.ht⟩
        by_cases hc : (hgt ps z - hgt qs z) * (hgt ps m - hgt qs m) < 0
        · obtain ⟨k1, k2⟩ := cross_in (f := hgt ps) (g := hgt qs) zm hc
          have hx : HtC (M + (M + M + 1 + (6 * N + M + 5 + (6 * N + M + 5) + 1 + (6 * N + M + 5 + (6 * N + M + 5) + 1 + (6 * N + M + 5 + (6 * N + M + 5) + 1) + 1) + 1)) + 1) (cross (hgt ps) (hgt qs) z m) := by
            unfold cross
            infer_instance
          have e3 := height_eq (cs := cs) c (t := cross (hgt ps) (hgt qs) z m) (by grind) (by grind) hx.h (by omega) hL
          have hne := ne_of_neg hc
          refine ⟨some (.p (.q (cross (hgt ps) (hgt qs) z m))), ?_⟩
          have ec : z + (m - z) * ((hgt ps z - hgt qs z) / (hgt ps z - hgt qs z - (hgt ps m - hgt qs m))) = cross (hgt ps) (hgt qs) z m := rfl
          by_cases hg : decide (0 < hgt ps m - hgt qs m) = gr
          · simp (disch := first | assumption | omega) [e1, e2, ahU, isN, stW, l1, l2, hg, selR, qp, chX, hc, mMeth, rcv_by, ec, e3]
          · simp (disch := first | assumption | omega) [e1, e2, ahU, isN, stW, l1, l2, hg, selR, qp, chX, hc, mMeth, rcv_by, ec, e3]
        · refine ⟨x9, ?_⟩
          by_cases hg : decide (0 < hgt ps m - hgt qs m) = gr
          · simp (disch := first | assumption | omega) [e1, e2, ahU, isN, stW, l1, l2, hg, selR, qp, chX, hc]
          · simp (disch := first | assumption | omega) [e1, e2, ahU, isN, stW, l1, l2, hg, selR, qp, chX, hc]
    obtain ⟨y9, hb⟩ := body
    obtain ⟨z4, z5, z6, z7, z8, z9, h⟩ := cho_loop (gr := gr) c d hN hL ms (some m) (acc ++ (chX (hgt ps) (hgt qs) m ah ++ [(m, selR gr (hgt ps m) (hgt qs m))])) (some (.p (.q m))) (some (.p (.q (hgt ps m)))) (some (.p (.q (hgt qs m)))) (some (.p (.q (hgt ps m - hgt qs m)))) y9 (fun x hx => hm x (by simp [hx])) s2 (fun z hz => by cases hz; exact ⟨m1, m3, s1⟩) (by
      have := chX_len (f := hgt ps) (g := hgt qs) (m := m) (ah := ah)
      simp only [List.length_append, List.length_cons, List.length_nil] at hl ⊢
      omega)
    refine ⟨z4, z5, z6, z7, z8, z9, ?_⟩
    rw [List.map_cons, forO_cons (e := [some (.p (rws ps)), some (.p (rws qs)), some (.p (.bl gr)), some (stW acc), some (.p (ahU (hgt ps) (hgt qs) ah)), some (.p (.q m)), x6, x7, x8, x9]) (by simp) hb, h]
    simp only [chFrom, List.append_assoc, List.cons_append, List.nil_append]
theorem ch_low {f g : Rat → Rat} : ∀ (r : List Rat) (a : Rat), chFrom false f g (some a) r = lowFrom f g a r
  | [], a => rfl
  | b :: r, a => by
    have e : selR false (f b) (g b) = mn (f b) (g b) := by
      unfold selR mn
      by_cases h : f b ≤ g b
      · rw [if_pos h, if_pos (by simp; grind)]
      · rw [if_neg h, if_neg (by simp; grind)]
    show chX f g b (some a) ++ _ :: _ = _
    rw [e, ch_low r b]
    rfl
theorem ch_lowP {f g : Rat → Rat} : ∀ (ms : List Rat), chFrom false f g none ms = lowPts f g ms
  | [] => rfl
  | a :: r => by
    have e : selR false (f a) (g a) = mn (f a) (g a) := by
      unfold selR mn
      by_cases h : f a ≤ g a
      · rw [if_pos h, if_pos (by simp; grind)]
      · rw [if_neg h, if_neg (by simp; grind)]
    show [] ++ _ :: _ = _
    rw [e, ch_low r a]
    rfl
theorem sel_up {f g : Rat → Rat} {b : Rat} : (b, selR true (f b) (g b)) = ng (b, mn (-f b) (-g b)) := by
  unfold selR mn ng
  by_cases h : 0 < f b - g b
  · rw [if_pos (by simp [h]), if_pos (by grind)]
    simp
  · by_cases h2 : f b = g b
    · rw [if_neg (by simp [h]), if_pos (by grind)]
      simp [h2]
    · rw [if_neg (by simp [h]), if_neg (by grind)]
      simp
theorem neg_div_neg (x y : Rat) : -x / -y = x / y := by
  by_cases h : y = 0
  · subst h
    simp [Rat.div_def]
  · have h' : -y ≠ 0 := by grind
    grind
theorem cross_up {f g : Rat → Rat} {a b : Rat} : cross (fun t => -f t) (fun t => -g t) a b = cross f g a b := by
  unfold cross
  have e1 : -f a - -g a = -(f a - g a) := by grind
  have e2 : -(f a - g a) - (-f b - -g b) = -((f a - g a) - (f b - g b)) := by grind
  rw [e1, e2, neg_div_neg]
theorem ch_up {f g : Rat → Rat} : ∀ (r : List Rat) (a : Rat), chFrom true f g (some a) r = (lowFrom (fun t => -f t) (fun t => -g t) a r).map ng
  | [], a => rfl
  | b :: r, a => by
    show chX f g b (some a) ++ _ :: _ = _
    rw [sel_up, ch_up r b, lowFrom, List.map_append, List.map_cons]
    congr 1
    show (if _ then _ else _ : List Pt) = _
    have e : (-f a - -g a) * (-f b - -g b) = (f a - g a) * (f b - g b) := by grind
    rw [e, cross_up]
    split
    · simp [ng]
    · rfl
theorem ch_upP {f g : Rat → Rat} : ∀ (ms : List Rat), chFrom true f g none ms = (lowPts (fun t => -f t) (fun t => -g t) ms).map ng
  | [] => rfl
  | a :: r => by
    show [] ++ _ :: _ = _
    rw [sel_up, ch_up r a]
    rfl
end
end UM
set_option Elab.async false
set_option linter.all false
set_option maxRecDepth 100000
set_option maxHeartbeats 4000000
/-! the program's lines: objects -/
namespace UM
open PySem L2 UL LM
theorem Crs.ends {N L : Nat} {a b : Rat} {ps : List Pt} (c : Crs N L a b ps) : Ends2 ps a b := ⟨c.l2, c.inc, c.h0, c.hn⟩
theorem Crs.of {N L : Nat} {a b : Rat} {ps : List Pt} (e : Ends2 ps a b) (ht : ∀ p ∈ ps, Ht N p.1 ∧ Ht N p.2) (len : ps.length ≤ L) : Crs N L a b ps := ⟨e.l2, e.inc, e.h0, e.hn, ht, len⟩
theorem Crs.bends {N L : Nat} {a b : Rat} {ps : List Pt} (c : Crs N L a b ps) : Crs N L a b (bends ps) := .of c.ends.bends (fun p hp => c.ht p ((bends_sub ps).subset hp)) (Nat.le_trans (bends_sub ps).length_le c.len)
theorem Crs.ng {N L : Nat} {a b : Rat} {ps : List Pt} (c : Crs N L a b ps) : Crs N L a b (ps.map ng) := .of c.ends.ng (fun p hp => by
  obtain ⟨q, hq, rfl⟩ := List.mem_map.mp hp
  exact ⟨(c.ht q hq).1, (c.ht q hq).2.neg⟩) (by simpa using c.len)
def lineU (ps : List Pt) : U := .obj "Line" ["rows"] [rws ps]
section
variable {cs : List String}
theorem Stops.of2 {ms : List Rat} {a b : Rat} {ps qs : List Pt} (hs : Srt ms) (hm : ∀ z, z ∈ ms ↔ z ∈ ps.map (·.1) ∨ z ∈ qs.map (·.1)) (e : Ends2 ps a b) (k : Ends2 qs a b) : Stops ms a b (ps.map (·.1) ++ qs.map (·.1)) := by
  refine ⟨hs, (hm a).mpr (.inl e.mem.1), (hm b).mpr (.inl e.mem.2.1), fun z hz => ?_, fun z hz => (hm z).mpr (List.mem_append.mp hz)⟩
  rcases (hm z).mp hz with h | h
  · exact e.mem.2.2 z h
  · exact k.mem.2.2 z h
theorem chosen_eq {N L : Nat} {a b : Rat} {ps qs : List Pt} {gr : Bool} (c : Crs N L a b ps) (d : Crs N L a b qs) (hN : 6 * N + (3 * N + 6 * (6 * N + N + 5) + 10) ≤ 3900) (hL : L ≤ 400) :
    ∃ ms, m_chosen cs [rws ps, rws qs, .bl gr] = some (rws (chFrom gr (hgt ps) (hgt qs) none ms)) ∧ Stops ms a b (ps.map (·.1) ++ qs.map (·.1)) ∧ (∀ m ∈ ms, Ht N m) ∧ ms.length ≤ 2 * L := by
  obtain ⟨ms, h1, h2, h3, h4⟩ := merged_eq (cs := cs) (N := N) (by omega) c.inc d.inc (fun p hp => (c.ht p hp).1) (fun p hp => (d.ht p hp).1) (by have := c.len; have := d.len; omega)
  have st := Stops.of2 h2 h3 c.ends d.ends
  have hml : ms.length ≤ 2 * L := by have := c.len; have := d.len; omega
  have hm : ∀ m ∈ ms, Ht N m := fun m hm => by
    rcases (h3 m).mp hm with h | h
    · obtain ⟨p, hp, rfl⟩ := List.mem_map.mp h
      exact (c.ht p hp).1
    · obtain ⟨p, hp, rfl⟩ := List.mem_map.mp h
      exact (d.ht p hp).1
  refine ⟨ms, ?_, st, hm, hml⟩
  obtain ⟨w4, w5, w6, w7, w8, w9, hl⟩ := cho_loop (cs := cs) (M := N) (gr := gr) c d hN (by omega) ms none [] none none none none none (fun m h => ⟨(st.lim m h).1, (st.lim m h).2, hm m h⟩) h2 (fun z hz => nomatch hz) (Nat.lt_of_le_of_lt (m := 5000) (by simp; omega) (by decide))
  unfold m_chosen b_chosen
  refine Ex.fnP rfl ?_
  refine Ex.seq (e := [some (.p (rws ps)), some (.p (rws qs)), some (.p (.bl gr)), some (stW []), some (.p .non), none, none, none, none, none]) (by simp [env0, stW]) ?_
  refine Ex.seq (by simp [h1]; exact hl) ?_
  refine ⟨_, by simp; rfl, ?_⟩
  rw [stW_frz]
theorem beside_eq {N L : Nat} {a b : Rat} {ps qs : List Pt} (hcs : "Line" ∈ cs) (c : Crs N L a b ps) (d : Crs N L a b qs) : m_rows_beside cs [rws ps, lineU qs] = some (rws qs) := by
  obtain ⟨y0, h0⟩ := c.h0
  obtain ⟨yn, hn⟩ := c.hn
  obtain ⟨z0, k0⟩ := d.h0
  obtain ⟨zn, kn⟩ := d.hn
  have a0 : atI (ps.map qp) 0 = some (qp (a, y0)) := atI_nat' (n := 0) (by rw [List.getElem?_map, h0]; rfl)
  have b0 : atI (qs.map qp) 0 = some (qp (a, z0)) := atI_nat' (n := 0) (by rw [List.getElem?_map, k0]; rfl)
  have an : atI (ps.map qp) (-1) = some (qp (b, yn)) := by
    have := atI_end (xs := []) (ys := ps.map qp) (n := 0) (by have := c.l2; simp; omega)
    simp at this
    rw [this, hn]
    rfl
  have bn : atI (qs.map qp) (-1) = some (qp (b, zn)) := by
    have := atI_end (xs := []) (ys := qs.map qp) (n := 0) (by have := d.l2; simp; omega)
    simp at this
    rw [this, kn]
    rfl
  unfold m_rows_beside fnP
  have hne : ∀ r : Rat, neU (.q r) (.q r) = some (.bl false) := fun r => by simp [neU]
  simp [b_rows_beside, env0, lineU, isiU, kwn, hcs, isiN, tyU, fldC, ixF, rws, a0, b0, an, bn, qp, hne]
theorem init_eq {N L : Nat} {a b : Rat} {ps : List Pt} (enc : Pt → U) (henc : ∀ p ∈ ps, isPt (enc p) p) (c : Crs N L a b ps) (hN : 4 * N ≤ 3900) (hL : L ≤ 1000) : m_Line___init__ cs (.o "Line" [] []) [.lst (ps.map enc)] = some (.non, .o "Line" ["rows"] [.p (rws (bends ps))]) := by
  have hl : ps.length ≤ 1000 := Nat.le_trans c.len hL
  have h1 := checked_eq (cs := cs) enc henc (by omega) c.inc c.l2 hl c.ht
  have h2 := bent_eq (cs := cs) hN c.inc c.l2 hl c.ht
  unfold m_Line___init__ fnI
  simp [b_Line___init__, env0, h1, h2, sFldV, ixF]
theorem mk_eq {N L : Nat} {a b : Rat} {ps : List Pt} (enc : Pt → U) (henc : ∀ p ∈ ps, isPt (enc p) p) (c : Crs N L a b ps) (hN : 4 * N ≤ 3900) (hL : L ≤ 1000) {env e : UL.Env} {m : M U} (h : m env = some (.lst (ps.map enc), e)) : mF (mMk "Line" (m_Line___init__ cs) (mCons m mNil)) env = some (lineU (bends ps), e) := by
  simp [mMk, h, init_eq enc henc c hN hL, frz, frzs, lineU]
theorem qp_pt {ps : List Pt} : ∀ p ∈ ps, isPt (qp p) p := fun p _ => ⟨_, _, rfl, .inl rfl, .inl rfl⟩
end
end UM
set_option Elab.async false
set_option linter.all false
set_option maxRecDepth 100000
set_option maxHeartbeats 4000000
/-! the program's lines: the lower and the upper of two -/
namespace LM
theorem low_mem {f g : Rat → Rat} : ∀ {r : List Rat} {a : Rat} {p : Pt}, p ∈ lowFrom f g a r → (∃ m ∈ r, p = (m, mn (f m) (g m))) ∨ ∃ x ∈ a :: r, ∃ m ∈ r, p = (cross f g x m, f (cross f g x m))
  | [], a, p, h => by simp [lowFrom] at h
  | b :: r, a, p, h => by
    rw [lowFrom] at h
    rcases List.mem_append.mp h with h | h
    · split at h
      · simp at h
        exact .inr ⟨a, by simp, b, by simp, h⟩
      · simp at h
    · rcases List.mem_cons.mp h with h | h
      · exact .inl ⟨b, by simp, h⟩
      · rcases low_mem h with ⟨m, hm, e⟩ | ⟨x, hx, m, hm, e⟩
        · exact .inl ⟨m, by simp [hm], e⟩
        · exact .inr ⟨x, by simp at hx ⊢; exact .inr hx, m, by simp [hm], e⟩
theorem low_len {f g : Rat → Rat} : ∀ {r : List Rat} {a : Rat}, (lowFrom f g a r).length ≤ 2 * r.length
  | [], a => by simp [lowFrom]
  | b :: r, a => by
    have := low_len (f := f) (g := g) (r := r) (a := b)
    rw [lowFrom]
    split <;> simp <;> omega
theorem low_lst {f g : Rat → Rat} : ∀ {r : List Rat} {a z : Rat}, r.getLast? = some z → ∃ y, (lowFrom f g a r).getLast? = some (z, y)
  | [], a, z, h => by simp at h
  | [b], a, z, h => by
    simp at h
    subst h
    exact ⟨mn (f b) (g b), by simp [lowFrom]⟩
  | b :: c :: r, a, z, h => by
    obtain ⟨y, hy⟩ := low_lst (f := f) (g := g) (r := c :: r) (a := b) (z := z) (by simpa using h)
    refine ⟨y, ?_⟩
    rw [lowFrom, List.getLast?_append, List.getLast?_cons, hy]
    rfl
theorem srt_last {ms : List Rat} {b : Rat} (hs : Srt ms) (hb : b ∈ ms) (hl : ∀ z ∈ ms, z ≤ b) : ms.getLast? = some b := by
  rw [List.getLast?_eq_getElem?]
  obtain ⟨i, hi⟩ := List.getElem?_of_mem hb
  have hl2 := (List.getElem?_eq_some_iff.mp hi).1
  rcases Nat.lt_or_ge i (ms.length - 1) with h | h
  · have h2 : ms[ms.length - 1]? = some ms[ms.length - 1] := by simp
    have := hl _ (List.mem_of_getElem? h2)
    have h3 := List.pairwise_iff_getElem.mp hs i (ms.length - 1) hl2 (by omega) h
    have : ms[i] = b := by simpa [hl2] using hi
    grind
  · have : i = ms.length - 1 := by omega
    rw [← this]
    exact hi
theorem Stops.ends {ms xs : List Rat} {a b : Rat} {ps qs : List Pt} (s : Stops ms a b xs) (e : Ends2 ps a b) (k : Ends2 qs a b) (h1 : ∀ p ∈ ps, p.1 ∈ xs) (h2 : ∀ p ∈ qs, p.1 ∈ xs) : Ends2 (lowPts (hgt ps) (hgt qs) ms) a b := by
  have fn := s.low e k h1 h2
  have hb := srt_last s.srt s.bin fun z hz => (s.lim z hz).2
  obtain ⟨r, rfl, hr⟩ := s.cons e.lt
  refine ⟨fn.l2, fn.inc, ⟨_, rfl⟩, ?_⟩
  have hb' : r.getLast? = some b := by
    cases r with
    | nil => exact absurd rfl hr
    | cons c r => simpa using hb
  obtain ⟨y, hy⟩ := low_lst (f := hgt ps) (g := hgt qs) (a := a) hb'
  refine ⟨y, ?_⟩
  rw [← List.getLast?_eq_getElem?]
  show (_ :: lowFrom (hgt ps) (hgt qs) a r).getLast? = _
  rw [List.getLast?_cons, hy]
  rfl
end LM
namespace UM
open PySem L2 UL LM
theorem Ht.mn {x y : Rat} {n : Nat} (h1 : Ht n x) (h2 : Ht n y) : Ht n (LM.mn x y) := by
  unfold LM.mn
  split
  · exact h1
  · exact h2
theorem low_crs {N L : Nat} {a b : Rat} {ps qs : List Pt} {ms xs : List Rat} (c : Crs N L a b ps) (d : Crs N L a b qs) (s : Stops ms a b xs) (h1 : ∀ p ∈ ps, p.1 ∈ xs) (h2 : ∀ p ∈ qs, p.1 ∈ xs) (hm : ∀ m ∈ ms, Ht N m) (hl : ms.length ≤ 2 * L) : Crs (51 * N + 60) (4 * L + 1) a b (lowPts (hgt ps) (hgt qs) ms) := by
  refine .of (s.ends c.ends d.ends h1 h2) ?_ ?_
  · obtain ⟨r, rfl, hr⟩ := s.cons c.ends.lt
    have mid : ∀ m ∈ a :: r, Ht (51 * N + 60) m ∧ Ht (51 * N + 60) (mn (hgt ps m) (hgt qs m)) := fun m h => ⟨(hm m h).mono (by omega), (Ht.mn (hgt_ht (hm m h) c.ht) (hgt_ht (hm m h) d.ht)).mono (by omega)⟩
    intro p hp
    rcases List.mem_cons.mp hp with rfl | hp
    · exact mid a (by simp)
    · rcases low_mem hp with ⟨m, h, rfl⟩ | ⟨x, hx, m, h, rfl⟩
      · exact mid m (by simp [h])
      · have hm1 := hm x hx
        have hm2 := hm m (by simp [h])
        haveI : HtC N x := ⟨hm1⟩
        haveI : HtC N m := ⟨hm2⟩
        haveI : HtC (6 * N + N + 5) (hgt ps m) := ⟨hgt_ht hm2 c.ht⟩
        haveI : HtC (6 * N + N + 5) (hgt qs m) := ⟨hgt_ht hm2 d.ht⟩
        haveI : HtC (6 * N + N + 5) (hgt ps x) := ⟨hgt_ht hm1 c.ht⟩
        haveI : HtC (6 * N + N + 5) (hgt qs x) := ⟨hgt_ht hm1 d.ht⟩
        have hx : HtC (N + (N + N + 1 + (6 * N + N + 5 + (6 * N + N + 5) + 1 + (6 * N + N + 5 + (6 * N + N + 5) + 1 + (6 * N + N + 5 + (6 * N + N + 5) + 1) + 1) + 1)) + 1) (cross (hgt ps) (hgt qs) x m) := by
          unfold cross
          infer_instance
        exact ⟨hx.h.mono (by omega), (hgt_ht hx.h c.ht).mono (by omega)⟩
  · obtain ⟨r, rfl, hr⟩ := s.cons c.ends.lt
    have := low_len (f := hgt ps) (g := hgt qs) (r := r) (a := a)
    show (lowFrom (hgt ps) (hgt qs) a r).length + 1 ≤ _
    simp at hl
    omega
theorem Stops.mono {ms xs ys : List Rat} {a b : Rat} (s : Stops ms a b xs) (h : ∀ z ∈ ys, z ∈ xs) : Stops ms a b ys := ⟨s.srt, s.ain, s.bin, s.lim, fun z hz => s.all z (h z hz)⟩
section
variable {cs : List String}
theorem memL {ps qs : List Pt} : ∀ p ∈ ps, p.1 ∈ ps.map (·.1) ++ qs.map (·.1) := fun p hp => List.mem_append.mpr (.inl (List.mem_map.mpr ⟨p, hp, rfl⟩))
theorem memR {ps qs : List Pt} : ∀ p ∈ qs, p.1 ∈ ps.map (·.1) ++ qs.map (·.1) := fun p hp => List.mem_append.mpr (.inr (List.mem_map.mpr ⟨p, hp, rfl⟩))
theorem times_ng (ps : List Pt) : (ps.map ng).map (·.1) = ps.map (·.1) := by
  rw [List.map_map]
  rfl
/-- the lower of two lines -/
theorem lower_eq {N L : Nat} {a b : Rat} {ps qs : List Pt} (hcs : "Line" ∈ cs) (c : Crs N L a b ps) (d : Crs N L a b qs) (hN : 204 * N + 240 ≤ 3900) (hL : L ≤ 100) :
    ∃ rs, m_Line_lower cs [lineU ps, lineU qs] = some (lineU (bends rs)) ∧ Crs (51 * N + 60) (4 * L + 1) a b rs ∧ Fn rs a b fun t => mn (hgt ps t) (hgt qs t) := by
  obtain ⟨ms, h1, h2, h3, h4⟩ := chosen_eq (cs := cs) (gr := false) c d (by omega) (by omega)
  rw [ch_lowP] at h1
  have lc := low_crs c d h2 memL memR h3 h4
  refine ⟨_, ?_, lc, h2.low c.ends d.ends memL memR⟩
  unfold m_Line_lower b_Line_lower
  refine Ex.fnP rfl ⟨_, by
    simp only [sRet_d, mP_d]
    rw [mk_eq qp qp_pt lc (by omega) (by omega) (e := [some (.p (lineU ps)), some (.p (lineU qs))]) (by
      have hb := beside_eq (cs := cs) hcs c d
      simp only [lineU] at hb
      simp [env0, lineU, fldC, ixF, hb, h1]
      rfl)]
    rfl, rfl⟩
theorem upper_eq {N L : Nat} {a b : Rat} {ps qs : List Pt} (hcs : "Line" ∈ cs) (c : Crs N L a b ps) (d : Crs N L a b qs) (hN : 204 * N + 240 ≤ 3900) (hL : L ≤ 100) :
    ∃ rs, m_Line_upper cs [lineU ps, lineU qs] = some (lineU (bends rs)) ∧ Crs (51 * N + 60) (4 * L + 1) a b rs ∧ Fn rs a b fun t => - mn (- hgt ps t) (- hgt qs t) := by
  obtain ⟨ms, h1, h2, h3, h4⟩ := chosen_eq (cs := cs) (gr := true) c d (by omega) (by omega)
  have e1 : (fun t => - hgt ps t) = hgt (ps.map ng) := funext fun t => (hgt_ng t ps).symm
  have e2 : (fun t => - hgt qs t) = hgt (qs.map ng) := funext fun t => (hgt_ng t qs).symm
  rw [ch_upP, e1, e2] at h1
  rw [← times_ng ps, ← times_ng qs] at h2
  have lc := (low_crs c.ng d.ng h2 memL memR h3 h4).ng
  have fn := (h2.low c.ng.ends d.ng.ends memL memR).ng
  generalize (lowPts (hgt (ps.map ng)) (hgt (qs.map ng)) ms).map ng = rs at h1 lc fn
  refine ⟨rs, ?_, lc, fn.congr fun t _ _ => by rw [hgt_ng, hgt_ng]⟩
  unfold m_Line_upper b_Line_upper
  refine Ex.fnP rfl ⟨_, by
    simp only [sRet_d, mP_d]
    rw [mk_eq qp qp_pt lc (by omega) (by omega) (e := [some (.p (lineU ps)), some (.p (lineU qs))]) (by
      have hb := beside_eq (cs := cs) hcs c d
      simp only [lineU] at hb
      simp [env0, lineU, fldC, ixF, hb, h1]
      rfl)]
    rfl, rfl⟩
theorem below_eq {N L : Nat} {a b : Rat} {ps qs : List Pt} (hcs : "Line" ∈ cs) (c : Crs N L a b ps) (d : Crs N L a b qs) (hN : 7 * N ≤ 3900) (hL : L ≤ 450) :
    ∃ r : Bool, m_Line_is_below cs [lineU ps, lineU qs] = some (.bl r) ∧ (r = true ↔ ∀ t, a ≤ t → t ≤ b → hgt ps t ≤ hgt qs t) := by
  obtain ⟨ms, h1, h2, h3, h4⟩ := merged_eq (cs := cs) (N := N) (by omega) c.inc d.inc (fun p hp => (c.ht p hp).1) (fun p hp => (d.ht p hp).1) (by have := c.len; have := d.len; omega)
  have st := Stops.of2 h2 h3 c.ends d.ends
  have hm : ∀ m ∈ ms, Ht N m := fun m hm => by
    rcases (h3 m).mp hm with h | h
    · obtain ⟨p, hp, rfl⟩ := List.mem_map.mp h
      exact (c.ht p hp).1
    · obtain ⟨p, hp, rfl⟩ := List.mem_map.mp h
      exact (d.ht p hp).1
  have hb := beside_eq (cs := cs) hcs c d
  have hlc := lc_eq (xs := ms) U.q (fun _ => true) (fun m => .bl (decide (hgt ps m ≤ hgt qs m))) (vs := [3]) (g := gN 3) (tt := mYes) (te := m2 leU (mN (m_height_at cs) (mCons (m1 (fldC "Line" "rows") (mVar 0)) (mCons (mVar 3) mNil))) (mN (m_height_at cs) (mCons (mVar 2) (mCons (mVar 3) mNil)))) (env := [some (.p (lineU ps)), some (.p (lineU qs)), some (.p (rws qs)), none]) (Nat.lt_of_le_of_lt (m := 5000) (by have := c.len; have := d.len; omega) (by decide)) (by
    intro m hx
    obtain ⟨k1, k2⟩ := st.lim m hx
    have k3 := hm m hx
    have e1 := height_eq (cs := cs) c k1 k2 k3 (by omega) (by omega)
    have e2 := height_eq (cs := cs) d k1 k2 k3 (by omega) (by omega)
    haveI : HtC (6 * N + N + 5) (hgt ps m) := ⟨hgt_ht k3 c.ht⟩
    haveI : HtC (6 * N + N + 5) (hgt qs m) := ⟨hgt_ht k3 d.ht⟩
    refine ⟨_, by simp [wipeE]; rfl, _, by simp; rfl, fun _ => ⟨_, by simp (disch := omega) [lineU, fldC, ixF, e1, e2]; rfl, by simp [restE, keepP, lineU]⟩, fun h => by cases h⟩)
  refine ⟨ms.all fun m => decide (hgt ps m ≤ hgt qs m), ?_, ?_⟩
  · unfold m_Line_is_below b_Line_is_below
    have hall : ∀ ms : List Rat, allB (ms.map fun m => .bl (decide (hgt ps m ≤ hgt qs m))) = some (ms.map fun m => decide (hgt ps m ≤ hgt qs m)) := by
      intro ms
      induction ms with
      | nil => rfl
      | cons m r ih => simp [allB, ih]
    refine Ex.fnP rfl ?_
    refine Ex.seq (e := [some (.p (lineU ps)), some (.p (lineU qs)), some (.p (rws qs)), none]) (by
      simp only [lineU] at hb
      simp [env0, lineU, fldC, ixF, hb]) ?_
    have hf : (fldC "Line" "rows") (lineU ps) = some (rws ps) := by simp [lineU, fldC, ixF]
    refine ⟨_, by
      simp only [sRet_d, mP_d, mN_d, mCons_d, mLc_d, mSeq_d, m1_d, mVar_d, getP_0, getP_s, Option.bind_some, hf, mNil_d, h1, seqU_l, hlc, List.filter_eq_self.mpr (fun _ _ => rfl), allU, hall]
      rfl, ?_⟩
    simp [List.all_map, Function.comp_def]
  · rw [List.all_eq_true]
    constructor
    · intro h t ta tb
      exact st.le c.ends d.ends memL memR (fun m hm => of_decide_eq_true (h m hm)) ta tb
    · intro h m hm
      exact decide_eq_true (h m (st.lim m hm).1 (st.lim m hm).2)
theorem eqs_eq : ∀ (ps qs : List Pt), ps.length = qs.length → allEq (eqN 1) (ps.map qp) (qs.map qp) = some (decide (ps = qs))
  | [], [], _ => rfl
  | p :: ps, q :: qs, h => by
    have ih := eqs_eq ps qs (by simpa using h)
    have e : eqN 1 (qp p) (qp q) = some (decide (p = q)) := by
      show (if _ then _ else _) = _
      rw [if_pos (show ([U.q p.1, U.q p.2]).length = ([U.q q.1, U.q q.2]).length from rfl)]
      simp [allEq, eqN, eqF]
      obtain ⟨x, y⟩ := p
      obtain ⟨z, w⟩ := q
      by_cases h1 : x = z <;> by_cases h2 : y = w <;> simp [h1, h2]
    simp only [List.map_cons, allEq, e, ih, Option.bind_some]
    by_cases h1 : p = q <;> by_cases h2 : ps = qs <;> simp [h1, h2]
  | [], _ :: _, h => by simp at h
  | _ :: _, [], h => by simp at h
theorem eq_eq {ps qs : List Pt} (hcs : "Line" ∈ cs) : m_Line___eq__ cs [lineU ps, lineU qs] = some (.bl (decide (ps = qs))) := by
  have h : eqU 2 (rws ps) (rws qs) = some (.bl (decide (ps = qs))) := by
    unfold UL.eqU rws
    show (if _ then _ else _ : Option Bool).bind _ = _
    by_cases hl : ps.length = qs.length
    · rw [if_pos (by simpa using hl), eqs_eq ps qs hl]
      rfl
    · rw [if_neg (by simpa using hl)]
      have : ps ≠ qs := fun z => hl (by rw [z])
      simp [this]
  unfold m_Line___eq__ fnP
  simp [b_Line___eq__, env0, lineU, isiU, kwn, hcs, isiN, tyU, fldC, ixF, h]
end
end UM
set_option Elab.async false
set_option linter.all false
set_option maxRecDepth 100000
set_option maxHeartbeats 4000000
/-! the law's own lines -/
namespace UM
open PySem L2 UL LM
section
variable {cs : List String}
theorem fr_inj {a b : Rat} (h : fr a = fr b) : a = b := by
  unfold fr at h
  injection h with h
  injection h with h1 h2
  injection h1 with h1
  injection h2 with h2
  injection h2 with h2
  exact Rat.ext h1 (by omega)
theorem ne_fr (a b : Rat) : neU (fr a) (fr b) = some (.bl (!decide (a = b))) := by
  have e : (a.num == b.num && (a.den : Int) == (b.den : Int)) = decide (a = b) := by
    by_cases h : a = b
    · subst h
      simp
    · rw [decide_eq_false h]
      by_cases h1 : a.num = b.num
      · by_cases h2 : a.den = b.den
        · exact absurd (Rat.ext h1 h2) h
        · simp [h2]
          omega
      · simp [h1]
  unfold fr
  simp [neU, toD, toDs, SeqAt.shaped, PyData.canLay0, PyData.canLayAll0, PyData.depth, PyData.eqv, PyData.eqvAll]
  refine ⟨⟨by simp [PyData.depthAll, PyData.depth], by simp [PyData.depthAll, PyData.depth]⟩, ?_⟩
  rw [← e]
  simp [Bool.not_and]
def frW (ms : List Rat) : Ow := .l (ms.map fun m => .p (fr m))
theorem frW_frz {ms : List Rat} : frz (frW ms) = .lst (ms.map fr) := by
  unfold frW
  rw [frz_l, ← frzs_m (us := ms.map fr), List.map_map]
  rfl
theorem srt_cnt {t : Rat} : ∀ {fs : List Rat}, Srt fs → (∀ z ∈ fs.take (fs.filter fun x => decide (x < t)).length, z < t) ∧ ∀ z ∈ fs.drop (fs.filter fun x => decide (x < t)).length, t ≤ z
  | [], _ => by simp
  | x :: fs, h => by
    obtain ⟨h1, h2⟩ := List.pairwise_cons.mp h
    obtain ⟨i1, i2⟩ := srt_cnt (t := t) h2
    by_cases hx : x < t
    · simp only [List.filter_cons, decide_eq_true hx, if_true, List.length_cons, List.take_succ_cons, List.drop_succ_cons]
      refine ⟨fun z hz => ?_, i2⟩
      rcases List.mem_cons.mp hz with rfl | hz
      · exact hx
      · exact i1 z hz
    · have e : fs.filter (fun x => decide (x < t)) = [] := by
        rw [List.filter_eq_nil_iff]
        intro z hz
        have := h1 z hz
        simp
        grind
      simp only [List.filter_cons, decide_eq_false hx, e]
      refine ⟨by simp, fun z hz => ?_⟩
      rcases List.mem_cons.mp (by simpa using hz) with rfl | hz
      · grind
      · have := h1 z hz
        grind
theorem srt_ins {t : Rat} {fs : List Rat} {k : Nat} (h : Srt fs) (h1 : ∀ z ∈ fs.take k, z < t) (h2 : ∀ z ∈ fs.drop k, t < z) : Srt (fs.take k ++ [t] ++ fs.drop k) := by
  have hs : Srt (fs.take k ++ fs.drop k) := by rw [List.take_append_drop]; exact h
  obtain ⟨a, b, c⟩ := List.pairwise_append.mp hs
  rw [List.append_assoc]
  refine List.pairwise_append.mpr ⟨a, List.pairwise_append.mpr ⟨by simp, b, fun x hx y hy => ?_⟩, fun x hx y hy => ?_⟩
  · simp at hx
    subst hx
    exact h2 y hy
  · rcases List.mem_append.mp hy with hy | hy
    · simp at hy
      subst hy
      exact h1 x hx
    · exact c x hx y hy
theorem moments_eq {N : Nat} {xs : List Rat} (hN : N ≤ 4000) (hx : ∀ x ∈ xs, Ht N x) (hl : xs.length ≤ 1000) : ∃ ms, m__law_moments cs [.lst (xs.map fr)] = some (.lst (ms.map fr)) ∧ Srt ms ∧ (∀ z, z ∈ ms ↔ z ∈ xs) ∧ ms.length ≤ xs.length := by
  have key := for_inv fr (fun k e => ∃ fs a b, e = [some (.p (.lst (xs.map fr))), some (frW fs), a, b, none] ∧ Srt fs ∧ (∀ z, z ∈ fs ↔ z ∈ xs.take k) ∧ fs.length ≤ k) (xs := xs) (k := 0) (g := gN 2) (s := (sSeq (sSet 3 (mP (mN lenU (mCons (mLcV 1 [4] (gN 4) (mTest (mN (m__law_less cs) (mCons (mVar 4) (mCons (mVar 2) mNil)))) (mVar 4)) mNil))))
    (sIf (mOr (mTest (m2 (eqU 0) (mVar 3) (mLenV 1))) (mTest (m2 neU (mIxV 1 (mVar 3)) (mVar 2)))) (sDrop (mInsV 1 (mVar 3) (mVar 2))) sNext))) (env := [some (.p (.lst (xs.map fr))), some (frW []), none, none, none]) ⟨[], none, none, rfl, by simp, by simp, by simp⟩ (by
    rintro i t e ht ⟨fs, a, b, rfl, hs, hm, hfl⟩
    rw [Nat.zero_add] at hm hfl ⊢
    have hi := (List.getElem?_eq_some_iff.mp ht).1
    have htx := List.mem_of_getElem? ht
    have hfx : ∀ z ∈ fs, z ∈ xs := fun z hz => List.mem_of_mem_take ((hm z).mp hz)
    have hsz : fs.length < sizeLine := Nat.lt_of_le_of_lt (m := 1000) (by omega) (by decide)
    obtain ⟨c1, c2⟩ := srt_cnt (t := t) hs
    have hlc := lc_eq (xs := fs) fr (fun x => decide (x < t)) fr (vs := [4]) (g := gN 4) (tt := mTest (mN (m__law_less cs) (mCons (mVar 4) (mCons (mVar 2) mNil)))) (te := mVar 4) (env := [some (.p (.lst (xs.map fr))), none, some (.p (fr t)), b, none]) hsz (by
      intro x hx2
      haveI : HtC N x := ⟨hx x (hfx x hx2)⟩
      haveI : HtC N t := ⟨hx t htx⟩
      have hl := less_eq (cs := cs) (a := x) (b := t) hN hN
      exact ⟨_, by simp [wipeE]; rfl, _, by simp [hl]; rfl, fun _ => ⟨_, by simp; rfl, by simp [restE, keepP]⟩, fun _ => by simp [restE, keepP]⟩)
    generalize hk : (fs.filter fun x => decide (x < t)).length = k at c1 c2
    have hkl : k ≤ fs.length := by rw [← hk]; exact List.length_filter_le _ _
    have hap : allP (fs.map fun m => .p (fr m)) = some (fs.map fr) := by
      have := allP_map (fs.map fr)
      rw [List.map_map] at this
      exact this
    refine ⟨[some (.p (.lst (xs.map fr))), some (frW fs), some (.p (fr t)), b, none], by simp, ?_⟩
    have first : (sSet 3 (mP (mN lenU (mCons (mLcV 1 [4] (gN 4) (mTest (mN (m__law_less cs) (mCons (mVar 4) (mCons (mVar 2) mNil)))) (mVar 4)) mNil)))) [some (.p (.lst (xs.map fr))), some (frW fs), some (.p (fr t)), b, none] = some (.nx [some (.p (.lst (xs.map fr))), some (frW fs), some (.p (fr t)), some (.p (.int k)), none]) := by
      simp [frW, hap, hlc, hk]
    have htk : ∀ z, z ∈ xs.take (i + 1) ↔ z ∈ xs.take i ∨ z = t := mem_take_iff ht
    by_cases hin : t ∈ fs
    · have hgt : fs[k]? = some t := by
        obtain ⟨j, hj⟩ := List.getElem?_of_mem hin
        have hjl := (List.getElem?_eq_some_iff.mp hj).1
        have hjk : k ≤ j := by
          rcases Nat.lt_or_ge j k with h | h
          · have : t ∈ fs.take k := List.mem_of_getElem? (i := j) (by rw [List.getElem?_take]; simp [h, hj])
            have := c1 t this
            grind
          · exact h
        have hkl2 : k < fs.length := by omega
        have hk1 : fs[k]? = some fs[k] := by simp [hkl2]
        rcases Nat.eq_or_lt_of_le hjk with h | h
        · rw [h]
          exact hj
        · have h3 := List.pairwise_iff_getElem.mp hs k j hkl2 hjl h
          have h4 : fs[j] = t := by simpa [hjl] using hj
          have h5 := c2 fs[k] (by rw [List.drop_eq_getElem_cons hkl2]; exact List.mem_cons_self)
          grind
      have hkl2 := (List.getElem?_eq_some_iff.mp hgt).1
      have hat : atI (fs.map fun m => Ow.p (fr m)) k = some (.p (fr t)) := atI_nat' (by rw [List.getElem?_map, hgt]; rfl)
      have hne : ¬ (k : Int) = fs.length := by omega
      refine ⟨[some (.p (.lst (xs.map fr))), some (frW fs), some (.p (fr t)), some (.p (.int k)), none], ?_, fs, _, _, rfl, hs, fun z => ?_, by omega⟩
      · rw [sSeq_nx first]
        simp [frW, hat, ne_fr, hne]
      · rw [htk, ← hm]
        exact ⟨.inl, fun h => by rcases h with h | rfl; exact h; exact hin⟩
    · have hlt : ∀ z ∈ fs.drop k, t < z := fun z hz => by
        have h1 := c2 z hz
        have : z ≠ t := fun e => hin (e ▸ List.mem_of_mem_drop hz)
        grind
      have ins : ∀ (hc : ∃ v, (mOr (mTest (m2 (eqU 0) (mVar 3) (mLenV 1))) (mTest (m2 neU (mIxV 1 (mVar 3)) (mVar 2)))) [some (.p (.lst (xs.map fr))), some (frW fs), some (.p (fr t)), some (.p (.int k)), none] = some (v, [some (.p (.lst (xs.map fr))), some (frW fs), some (.p (fr t)), some (.p (.int k)), none]) ∧ v = true), (sIf (mOr (mTest (m2 (eqU 0) (mVar 3) (mLenV 1))) (mTest (m2 neU (mIxV 1 (mVar 3)) (mVar 2)))) (sDrop (mInsV 1 (mVar 3) (mVar 2))) sNext) [some (.p (.lst (xs.map fr))), some (frW fs), some (.p (fr t)), some (.p (.int k)), none] = some (.nx [some (.p (.lst (xs.map fr))), some (frW (fs.take k ++ [t] ++ fs.drop k)), some (.p (fr t)), some (.p (.int k)), none]) := by
        rintro ⟨v, hv, rfl⟩
        have hk63 : (k : Int) < 9223372036854775808 := by omega
        rw [sIf_d, hv]
        simp [frW, hsz, hk63]
      refine ⟨[some (.p (.lst (xs.map fr))), some (frW (fs.take k ++ [t] ++ fs.drop k)), some (.p (fr t)), some (.p (.int k)), none], ?_, fs.take k ++ [t] ++ fs.drop k, _, _, rfl, srt_ins hs c1 hlt, fun z => ?_, by simp; omega⟩
      · rw [sSeq_nx first]
        apply ins
        refine ⟨true, ?_, rfl⟩
        by_cases he : k = fs.length
        · simp [frW, he]
        · have hkl2 : k < fs.length := by omega
          have he' : ¬ (k : Int) = fs.length := by omega
          have hgt : fs[k]? = some fs[k] := by simp [hkl2]
          have hat : atI (fs.map fun m => Ow.p (fr m)) k = some (.p (fr fs[k])) := atI_nat' (by rw [List.getElem?_map, hgt]; rfl)
          have hne : ¬ fs[k] = t := fun e => hin (e ▸ List.mem_of_getElem? hgt)
          simp [frW, hat, ne_fr, he', hne]
      · rw [htk, ← hm]
        have : z ∈ fs ↔ z ∈ fs.take k ∨ z ∈ fs.drop k := by rw [← List.mem_append, List.take_append_drop]
        rw [this]
        simp only [List.mem_append, List.mem_singleton]
        grind)
  obtain ⟨e, h1, fs, a, b, rfl, h2, h3, h4⟩ := key
  rw [Nat.zero_add, List.take_length] at h3
  refine ⟨fs, ?_, h2, h3, by omega⟩
  unfold m__law_moments b__law_moments
  refine Ex.fnP rfl ?_
  refine Ex.seq (e := [some (.p (.lst (xs.map fr))), some (frW []), none, none, none]) (by simp [env0, frW]) ?_
  refine Ex.seq (by simp; exact h1) ?_
  refine ⟨_, by simp; rfl, ?_⟩
  rw [frW_frz]
end
end UM
set_option Elab.async false
set_option linter.all false
set_option maxRecDepth 100000
set_option maxHeartbeats 4000000
/-! the law's own lines: the lower of two -/
namespace UM
open PySem L2 UL LM
instance : HtC 1 (1 : Rat) := ⟨by decide, by decide⟩
def cW (ps : List Pt) : Ow := .l (ps.map fun p => .p (qf p))
theorem cW_frz {ps : List Pt} : frz (cW ps) = crs ps := by
  unfold cW crs
  rw [frz_l, ← frzs_m (us := ps.map qf), List.map_map]
  rfl
section
variable {cs : List String}
theorem under_eq {ps : List Pt} (hl : ps.length ≤ 1000) : m__law_under cs [crs ps] = some (crs (ps.map ng)) := by
  have hlc := lc_eq (xs := ps) qf (fun _ => true) (fun p => qf (ng p)) (vs := [1]) (g := gN 1) (tt := mYes) (te := (mTup (mCons (m2 ixU (mVar 1) (mC (.int 0))) (mCons (mTup (mCons (m1 negU (m2 ixU (m2 ixU (mVar 1) (mC (.int 1))) (mC (.int 0)))) (mCons (m2 ixU (m2 ixU (mVar 1) (mC (.int 1))) (mC (.int 1))) mNil))) mNil)))) (env := [some (.p (crs ps)), none]) (Nat.lt_of_le_of_lt hl (by decide)) (by
    intro p hp
    refine ⟨_, by simp [wipeE]; rfl, _, by simp; rfl, fun _ => ⟨_, by simp [qf, fr, ng]; rfl, by simp [restE, keepP]⟩, fun h => by cases h⟩)
  unfold m__law_under b__law_under
  refine Ex.fnP rfl ⟨_, by
    simp only [env0, List.map_cons, List.map_nil, List.replicate, List.cons_append, List.nil_append, sRet_d, mP_d, mLc_d, mSeq_d, mVar_d, getP_0, Option.bind_some, show seqU (crs ps) = some (ps.map qf) from rfl, hlc, List.filter_eq_self.mpr (fun _ _ => rfl)]
    rfl, ?_⟩
  show Ow.p (.lst _) = Ow.p (.lst _)
  rw [List.map_map]
  rfl
theorem as_line_eq {N L : Nat} {a b : Rat} {ps : List Pt} (c : Crs N L a b ps) (hN : 4 * N ≤ 3900) (hL : L ≤ 1000) : m__law_as_line cs [crs ps] = some (lineU (bends ps)) := by
  have hlc := lc_eq (xs := ps) qf (fun _ => true) (fun p => .tup [pl p.1, pl p.2]) (vs := [1]) (g := gN 1) (tt := mYes) (te := (mTup (mCons (mN (m__law_plain cs) (mCons (m2 ixU (mVar 1) (mC (.int 0))) mNil)) (mCons (mN (m__law_plain cs) (mCons (m2 ixU (mVar 1) (mC (.int 1))) mNil)) mNil)))) (env := [some (.p (crs ps)), none]) (Nat.lt_of_le_of_lt (Nat.le_trans c.len hL) (by decide)) (by
    intro p hp
    haveI : HtC N p.1 := ⟨(c.ht p hp).1⟩
    haveI : HtC N p.2 := ⟨(c.ht p hp).2⟩
    have e1 := plain_eq (cs := cs) (a := p.1) (by omega)
    have e2 := plain_eq (cs := cs) (a := p.2) (by omega)
    refine ⟨_, by simp [wipeE]; rfl, _, by simp; rfl, fun _ => ⟨_, by simp [qf, e1, e2]; rfl, by simp [restE, keepP]⟩, fun h => by cases h⟩)
  unfold m__law_as_line b__law_as_line
  refine Ex.fnP rfl ⟨_, by
    simp only [sRet_d, mP_d]
    rw [mk_eq (fun p => .tup [pl p.1, pl p.2]) (fun p _ => ⟨_, _, rfl, num_pl _, num_pl _⟩) c hN hL (e := [some (.p (crs ps)), none]) (by
      simp only [env0, List.map_cons, List.map_nil, List.replicate, List.cons_append, List.nil_append, mLc_d, mSeq_d, mVar_d, getP_0, Option.bind_some, show seqU (crs ps) = some (ps.map qf) from rfl, hlc, List.filter_eq_self.mpr (fun _ _ => rfl)])]
    rfl, rfl⟩
abbrev lowB (cs : List String) : MS := (sSeq (sPar 6 7 (mCons (mN (m__law_on cs) (mCons (mVar 0) (mCons (mVar 5) mNil))) (mCons (mN (m__law_on cs) (mCons (mVar 1) (mCons (mVar 5) mNil))) mNil)))
    (sSeq (sIf (mTest (m2 gtU (mVar 4) (mC (.int 0)))) (sSeq (sPar 8 9 (mCons (mN (m__law_on cs) (mCons (mVar 0) (mCons (m2 ixU (mVar 2) (m2 subU (mVar 4) (mC (.int 1)))) mNil))) (mCons (mN (m__law_on cs) (mCons (mVar 1) (mCons (m2 ixU (mVar 2) (m2 subU (mVar 4) (mC (.int 1)))) mNil))) mNil)))
    (sSeq (sPar 10 11 (mCons (mN (m__law_add cs) (mCons (mVar 8) (mCons (mTup (mCons (m1 negU (m2 ixU (mVar 9) (mC (.int 0)))) (mCons (m2 ixU (mVar 9) (mC (.int 1))) mNil))) mNil))) (mCons (mN (m__law_add cs) (mCons (mVar 6) (mCons (mTup (mCons (m1 negU (m2 ixU (mVar 7) (mC (.int 0)))) (mCons (m2 ixU (mVar 7) (mC (.int 1))) mNil))) mNil))) mNil)))
    (sIf (mTest (m2 ltU (m2 mulU (m2 ixU (mVar 10) (mC (.int 0))) (m2 ixU (mVar 11) (mC (.int 0)))) (mC (.int 0)))) (sSeq (sSet 12 (mP (mN (m__law_mul cs) (mCons (mVar 10) (mCons (mN (m__law_over cs) (mCons (mN (m__law_add cs) (mCons (mVar 10) (mCons (mTup (mCons (m1 negU (m2 ixU (mVar 11) (mC (.int 0)))) (mCons (m2 ixU (mVar 11) (mC (.int 1))) mNil))) mNil))) mNil)) mNil)))))
    (sSeq (sSet 13 (mP (mN (m__law_add cs) (mCons (mVar 5) (mCons (mTup (mCons (m1 negU (m2 ixU (m2 ixU (mVar 2) (m2 subU (mVar 4) (mC (.int 1)))) (mC (.int 0)))) (mCons (m2 ixU (m2 ixU (mVar 2) (m2 subU (mVar 4) (mC (.int 1)))) (mC (.int 1))) mNil))) mNil)))))
    (sSeq (sSet 14 (mP (mN (m__law_add cs) (mCons (m2 ixU (mVar 2) (m2 subU (mVar 4) (mC (.int 1)))) (mCons (mN (m__law_mul cs) (mCons (mVar 13) (mCons (mVar 12) mNil))) mNil)))))
    (sDrop (mAppV 3 (mTup (mCons (mVar 14) (mCons (mN (m__law_on cs) (mCons (mVar 0) (mCons (mVar 14) mNil))) mNil)))))))) sNext))) sNext)
    (sDrop (mAppV 3 (mTup (mCons (mVar 5) (mCons (mIf (mTest (mN (m__law_less cs) (mCons (mVar 6) (mCons (mVar 7) mNil)))) (mVar 6) (mVar 7)) mNil)))))))
def lwE (ps qs : List Pt) (ss : List Rat) (acc : List Pt) (k t x : Option Ow) (r : List (Option Ow)) : UL.Env := some (.p (crs ps)) :: some (.p (crs qs)) :: some (.p (.lst (ss.map fr))) :: some (cW acc) :: k :: t :: x :: r
theorem num_sign {x y : Rat} : (x.num * y.num < 0) ↔ x * y < 0 := by
  rw [← Rat.not_le, ← Int.not_le, ← q_mul, Rat.divInt_nonneg_iff_of_pos_right (Int.mul_pos (by have := x.den_pos; omega) (by have := y.den_pos; omega))]
theorem low_loop {N L : Nat} {a b : Rat} {ps qs : List Pt} {ss : List Rat} (c : Crs N L a b ps) (d : Crs N L a b qs) (hN : 60 * N + 100 ≤ 3900) (hL : L ≤ 1000) (hss : ∀ m ∈ ss, a ≤ m ∧ m ≤ b ∧ Ht N m) (hsr : Srt ss) (hsl : ss.length ≤ 1000) :
    ∀ (r pre : List Rat) (acc : List Pt) (x4 x5 x6 x7 x8 x9 x10 x11 x12 x13 x14 : Option Ow), ss = pre ++ r → acc.length + 2 * r.length < sizeLine →
    ∃ w4 w5 w6 w7 w8 w9 w10 w11 w12 w13 w14, forO (gT 2 (gsCons (gN 4) (gsCons (gN 5) gsNil))) (lowB cs) ((r.zipIdx pre.length).map fun x => .tup [.int x.2, fr x.1]) [some (.p (crs ps)), some (.p (crs qs)), some (.p (.lst (ss.map fr))), some (cW acc), x4, x5, x6, x7, x8, x9, x10, x11, x12, x13, x14] = some (.nx [some (.p (crs ps)), some (.p (crs qs)), some (.p (.lst (ss.map fr))), some (cW (acc ++ chFrom false (hgt ps) (hgt qs) pre.getLast? r)), w4, w5, w6, w7, w8, w9, w10, w11, w12, w13, w14])
  | [], pre, acc, x4, x5, x6, x7, x8, x9, x10, x11, x12, x13, x14, _, _ => ⟨x4, x5, x6, x7, x8, x9, x10, x11, x12, x13, x14, by simp [chFrom]⟩
  | m :: r, pre, acc, x4, x5, x6, x7, x8, x9, x10, x11, x12, x13, x14, hs, hl => by
    obtain ⟨ma, mb, mc⟩ := hss m (by rw [hs]; simp)
    have e1 := on_eq (cs := cs) c ma mb mc (by omega) hL
    have e2 := on_eq (cs := cs) d ma mb mc (by omega) hL
    haveI : HtC N m := ⟨mc⟩
    haveI : HtC (6 * N + N + 5) (hgt ps m) := ⟨hgt_ht mc c.ht⟩
    haveI : HtC (6 * N + N + 5) (hgt qs m) := ⟨hgt_ht mc d.ht⟩
    have hle := less_eq (cs := cs) (a := hgt ps m) (b := hgt qs m) (by omega) (by omega)
    have l1 : acc.length < sizeLine := by simp at hl; omega
    have l2 : acc.length + 1 < sizeLine := by simp at hl; omega
    have esel : (if decide (hgt ps m < hgt qs m) = true then fr (hgt ps m) else fr (hgt qs m)) = fr (selR false (hgt ps m) (hgt qs m)) := by
      unfold selR
      by_cases h : hgt ps m < hgt qs m
      · rw [if_pos (decide_eq_true h), if_pos (by simp; grind)]
      · by_cases h2 : hgt ps m = hgt qs m
        · rw [if_neg (by simpa using h), if_pos (by simp; grind), h2]
        · rw [if_neg (by simpa using h), if_neg (by simp; grind)]
    have last : ∀ (acc : List Pt) (y8 y9 y10 y11 y12 y13 y14 : Option Ow), acc.length < sizeLine → (sDrop (mAppV 3 (mTup (mCons (mVar 5) (mCons (mIf (mTest (mN (m__law_less cs) (mCons (mVar 6) (mCons (mVar 7) mNil)))) (mVar 6) (mVar 7)) mNil))))) [some (.p (crs ps)), some (.p (crs qs)), some (.p (.lst (ss.map fr))), some (cW acc), some (.p (.int (pre.length : Nat))), some (.p (fr m)), some (.p (fr (hgt ps m))), some (.p (fr (hgt qs m))), y8, y9, y10, y11, y12, y13, y14] = some (.nx [some (.p (crs ps)), some (.p (crs qs)), some (.p (.lst (ss.map fr))), some (cW (acc ++ [(m, selR false (hgt ps m) (hgt qs m))])), some (.p (.int (pre.length : Nat))), some (.p (fr m)), some (.p (fr (hgt ps m))), some (.p (fr (hgt qs m))), y8, y9, y10, y11, y12, y13, y14]) := by
      intro acc y8 y9 y10 y11 y12 y13 y14 hz
      by_cases h : hgt ps m < hgt qs m
      · rw [decide_eq_true h] at hle esel
        simp only [if_true] at esel
        simp [cW, hle, hz, qf, ← esel]
      · rw [decide_eq_false h] at hle esel
        simp at esel
        simp [cW, hle, hz, qf, ← esel]
    have body : ∃ y8 y9 y10 y11 y12 y13 y14, lowB cs [some (.p (crs ps)), some (.p (crs qs)), some (.p (.lst (ss.map fr))), some (cW acc), some (.p (.int (pre.length : Nat))), some (.p (fr m)), x6, x7, x8, x9, x10, x11, x12, x13, x14] = some (.nx [some (.p (crs ps)), some (.p (crs qs)), some (.p (.lst (ss.map fr))), some (cW (acc ++ (chX (hgt ps) (hgt qs) m pre.getLast? ++ [(m, selR false (hgt ps m) (hgt qs m))]))), some (.p (.int (pre.length : Nat))), some (.p (fr m)), some (.p (fr (hgt ps m))), some (.p (fr (hgt qs m))), y8, y9, y10, y11, y12, y13, y14]) := by
      have st1 : (sPar 6 7 (mCons (mN (m__law_on cs) (mCons (mVar 0) (mCons (mVar 5) mNil))) (mCons (mN (m__law_on cs) (mCons (mVar 1) (mCons (mVar 5) mNil))) mNil))) [some (.p (crs ps)), some (.p (crs qs)), some (.p (.lst (ss.map fr))), some (cW acc), some (.p (.int (pre.length : Nat))), some (.p (fr m)), x6, x7, x8, x9, x10, x11, x12, x13, x14] = some (.nx [some (.p (crs ps)), some (.p (crs qs)), some (.p (.lst (ss.map fr))), some (cW acc), some (.p (.int (pre.length : Nat))), some (.p (fr m)), some (.p (fr (hgt ps m))), some (.p (fr (hgt qs m))), x8, x9, x10, x11, x12, x13, x14]) := by
        simp [e1, e2]
      rcases List.eq_nil_or_concat pre with rfl | ⟨pre', z, rfl⟩
      · refine ⟨x8, x9, x10, x11, x12, x13, x14, ?_⟩
        show sSeq _ _ _ = _
        rw [sSeq_nx st1, sSeq_nx (by simp; rfl)]
        exact last acc _ _ _ _ _ _ _ l1
      · rw [List.concat_eq_append] at *
        obtain ⟨z1, z2, z3⟩ := hss z (by rw [hs]; simp)
        have zm : z < m := by
          rw [hs] at hsr
          exact (List.pairwise_append.mp hsr).2.2 z (by simp) m (by simp)
        have hat : atI (ss.map fr) ((((pre' ++ [z]).length : Nat) : Int) - 1) = some (fr z) := by
          have : ((((pre' ++ [z]).length : Nat) : Int) - 1) = (pre'.length : Nat) := by simp
          rw [this]
          refine atI_nat' ?_
          rw [hs]
          simp
        have hpos : (0 : Int) < ((pre' ++ [z]).length : Nat) := by simp
        have f1 := on_eq (cs := cs) c z1 z2 z3 (by omega) hL
        have f2 := on_eq (cs := cs) d z1 z2 z3 (by omega) hL
        haveI : HtC N z := ⟨z3⟩
        haveI : HtC (6 * N + N + 5) (hgt ps z) := ⟨hgt_ht z3 c.ht⟩
        haveI : HtC (6 * N + N + 5) (hgt qs z) := ⟨hgt_ht z3 d.ht⟩
        have a1 := add_eq (cs := cs) (a := hgt ps z) (b := -hgt qs z) (by omega) (by omega)
        have a2 := add_eq (cs := cs) (a := hgt ps m) (b := -hgt qs m) (by omega) (by omega)
        rw [← fr_neg] at a1 a2
        have n1 := num_lt (a := hgt ps z + -hgt qs z) (n := 6 * N + N + 5 + (6 * N + N + 5) + 1) (by omega)
        have n2 := num_lt (a := hgt ps m + -hgt qs m) (n := 6 * N + N + 5 + (6 * N + N + 5) + 1) (by omega)
        generalize (((pre' ++ [z]).length : Nat) : Int) = K at hat hpos last st1 ⊢
        have s8 : (sPar 8 9 (mCons (mN (m__law_on cs) (mCons (mVar 0) (mCons (m2 ixU (mVar 2) (m2 subU (mVar 4) (mC (.int 1)))) mNil))) (mCons (mN (m__law_on cs) (mCons (mVar 1) (mCons (m2 ixU (mVar 2) (m2 subU (mVar 4) (mC (.int 1)))) mNil))) mNil))) [some (.p (crs ps)), some (.p (crs qs)), some (.p (.lst (ss.map fr))), some (cW acc), some (.p (.int K)), some (.p (fr m)), some (.p (fr (hgt ps m))), some (.p (fr (hgt qs m))), x8, x9, x10, x11, x12, x13, x14] = some (.nx [some (.p (crs ps)), some (.p (crs qs)), some (.p (.lst (ss.map fr))), some (cW acc), some (.p (.int K)), some (.p (fr m)), some (.p (fr (hgt ps m))), some (.p (fr (hgt qs m))), some (.p (fr (hgt ps z))), some (.p (fr (hgt qs z))), x10, x11, x12, x13, x14]) := by
          simp [hat, f1, f2]
        have s10 : (sPar 10 11 (mCons (mN (m__law_add cs) (mCons (mVar 8) (mCons (mTup (mCons (m1 negU (m2 ixU (mVar 9) (mC (.int 0)))) (mCons (m2 ixU (mVar 9) (mC (.int 1))) mNil))) mNil))) (mCons (mN (m__law_add cs) (mCons (mVar 6) (mCons (mTup (mCons (m1 negU (m2 ixU (mVar 7) (mC (.int 0)))) (mCons (m2 ixU (mVar 7) (mC (.int 1))) mNil))) mNil))) mNil))) [some (.p (crs ps)), some (.p (crs qs)), some (.p (.lst (ss.map fr))), some (cW acc), some (.p (.int K)), some (.p (fr m)), some (.p (fr (hgt ps m))), some (.p (fr (hgt qs m))), some (.p (fr (hgt ps z))), some (.p (fr (hgt qs z))), x10, x11, x12, x13, x14] = some (.nx [some (.p (crs ps)), some (.p (crs qs)), some (.p (.lst (ss.map fr))), some (cW acc), some (.p (.int K)), some (.p (fr m)), some (.p (fr (hgt ps m))), some (.p (fr (hgt qs m))), some (.p (fr (hgt ps z))), some (.p (fr (hgt qs z))), some (.p (fr (hgt ps z + -hgt qs z))), some (.p (fr (hgt ps m + -hgt qs m))), x12, x13, x14]) := by
          simp only [fr] at a1 a2
          simp [fr, a1, a2]
        have sg : ∀ u v : Rat, u - v = u + -v := fun u v => Rat.sub_eq_add_neg u v
        by_cases hc : (hgt ps z - hgt qs z) * (hgt ps m - hgt qs m) < 0
        · have hc' : (hgt ps z + -hgt qs z) * (hgt ps m + -hgt qs m) < 0 := by rw [← sg, ← sg]; exact hc
          have hcn := num_sign.mpr hc'
          obtain ⟨k1, k2⟩ := cross_in (f := hgt ps) (g := hgt qs) zm hc
          have hx : HtC (N + (N + N + 1 + (6 * N + N + 5 + (6 * N + N + 5) + 1 + (6 * N + N + 5 + (6 * N + N + 5) + 1 + (6 * N + N + 5 + (6 * N + N + 5) + 1) + 1) + 1)) + 1) (cross (hgt ps) (hgt qs) z m) := by
            unfold cross
            infer_instance
          have e3 := on_eq (cs := cs) c (t := cross (hgt ps) (hgt qs) z m) (by grind) (by grind) hx.h (by omega) hL
          have hne : hgt ps z + -hgt qs z + -(hgt ps m + -hgt qs m) ≠ 0 := by
            have := ne_of_neg hc'
            rw [sg] at this
            exact this
          have b1 := add_eq (cs := cs) (a := hgt ps z + -hgt qs z) (b := -(hgt ps m + -hgt qs m)) (by omega) (by omega)
          rw [← fr_neg] at b1
          have b2 := over_eq (cs := cs) (a := hgt ps z + -hgt qs z + -(hgt ps m + -hgt qs m)) hne (by omega)
          have b3 := mul_eq (cs := cs) (a := hgt ps z + -hgt qs z) (b := 1 / (hgt ps z + -hgt qs z + -(hgt ps m + -hgt qs m))) (by omega) (by omega)
          have b4 := add_eq (cs := cs) (a := m) (b := -z) (by omega) (by omega)
          rw [← fr_neg] at b4
          have b5 := mul_eq (cs := cs) (a := m + -z) (b := (hgt ps z + -hgt qs z) * (1 / (hgt ps z + -hgt qs z + -(hgt ps m + -hgt qs m)))) (by omega) (by omega)
          have b6 := add_eq (cs := cs) (a := z) (b := (m + -z) * ((hgt ps z + -hgt qs z) * (1 / (hgt ps z + -hgt qs z + -(hgt ps m + -hgt qs m))))) (by omega) (by omega)
          have ecr : z + (m + -z) * ((hgt ps z + -hgt qs z) * (1 / (hgt ps z + -hgt qs z + -(hgt ps m + -hgt qs m)))) = cross (hgt ps) (hgt qs) z m := by
            unfold cross
            rw [sg m z, sg (hgt ps z) (hgt qs z), sg (hgt ps m) (hgt qs m), sg (hgt ps z + -hgt qs z), Rat.div_def, Rat.div_def, Rat.one_mul]
          rw [ecr] at b6
          generalize (hgt ps z + -hgt qs z) * (1 / (hgt ps z + -hgt qs z + -(hgt ps m + -hgt qs m))) = sh at *
          generalize hgt ps z + -hgt qs z = bk at *
          generalize hgt ps m + -hgt qs m = hr at *
          refine ⟨some (.p (fr (hgt ps z))), some (.p (fr (hgt qs z))), some (.p (fr bk)), some (.p (fr hr)), some (.p (fr sh)), some (.p (fr (m + -z))), some (.p (fr (cross (hgt ps) (hgt qs) z m))), ?_⟩
          show sSeq _ _ _ = _
          rw [sSeq_nx st1]
          have inner : (sSeq (sSet 12 (mP (mN (m__law_mul cs) (mCons (mVar 10) (mCons (mN (m__law_over cs) (mCons (mN (m__law_add cs) (mCons (mVar 10) (mCons (mTup (mCons (m1 negU (m2 ixU (mVar 11) (mC (.int 0)))) (mCons (m2 ixU (mVar 11) (mC (.int 1))) mNil))) mNil))) mNil)) mNil)))))
    (sSeq (sSet 13 (mP (mN (m__law_add cs) (mCons (mVar 5) (mCons (mTup (mCons (m1 negU (m2 ixU (m2 ixU (mVar 2) (m2 subU (mVar 4) (mC (.int 1)))) (mC (.int 0)))) (mCons (m2 ixU (m2 ixU (mVar 2) (m2 subU (mVar 4) (mC (.int 1)))) (mC (.int 1))) mNil))) mNil)))))
    (sSeq (sSet 14 (mP (mN (m__law_add cs) (mCons (m2 ixU (mVar 2) (m2 subU (mVar 4) (mC (.int 1)))) (mCons (mN (m__law_mul cs) (mCons (mVar 13) (mCons (mVar 12) mNil))) mNil)))))
    (sDrop (mAppV 3 (mTup (mCons (mVar 14) (mCons (mN (m__law_on cs) (mCons (mVar 0) (mCons (mVar 14) mNil))) mNil)))))))) [some (.p (crs ps)), some (.p (crs qs)), some (.p (.lst (ss.map fr))), some (cW acc), some (.p (.int K)), some (.p (fr m)), some (.p (fr (hgt ps m))), some (.p (fr (hgt qs m))), some (.p (fr (hgt ps z))), some (.p (fr (hgt qs z))), some (.p (fr bk)), some (.p (fr hr)), x12, x13, x14] = some (.nx [some (.p (crs ps)), some (.p (crs qs)), some (.p (.lst (ss.map fr))), some (cW (acc ++ [(cross (hgt ps) (hgt qs) z m, hgt ps (cross (hgt ps) (hgt qs) z m))])), some (.p (.int K)), some (.p (fr m)), some (.p (fr (hgt ps m))), some (.p (fr (hgt qs m))), some (.p (fr (hgt ps z))), some (.p (fr (hgt qs z))), some (.p (fr bk)), some (.p (fr hr)), some (.p (fr sh)), some (.p (fr (m + -z))), some (.p (fr (cross (hgt ps) (hgt qs) z m)))]) := by
            rw [sSeq_nx (e := [some (.p (crs ps)), some (.p (crs qs)), some (.p (.lst (ss.map fr))), some (cW acc), some (.p (.int K)), some (.p (fr m)), some (.p (fr (hgt ps m))), some (.p (fr (hgt qs m))), some (.p (fr (hgt ps z))), some (.p (fr (hgt qs z))), some (.p (fr bk)), some (.p (fr hr)), some (.p (fr sh)), x13, x14]) (by
              have i0 : ixU (fr hr) (.int 0) = some (.int hr.num) := rfl
              have i1 : ixU (fr hr) (.int 1) = some (.int hr.den) := rfl
              simp [i0, i1, b1, b2, b3])]
            rw [sSeq_nx (e := [some (.p (crs ps)), some (.p (crs qs)), some (.p (.lst (ss.map fr))), some (cW acc), some (.p (.int K)), some (.p (fr m)), some (.p (fr (hgt ps m))), some (.p (fr (hgt qs m))), some (.p (fr (hgt ps z))), some (.p (fr (hgt qs z))), some (.p (fr bk)), some (.p (fr hr)), some (.p (fr sh)), some (.p (fr (m + -z))), x14]) (by
              have i0 : ixU (fr z) (.int 0) = some (.int z.num) := rfl
              have i1 : ixU (fr z) (.int 1) = some (.int z.den) := rfl
              simp [hat, i0, i1, b4])]
            rw [sSeq_nx (e := [some (.p (crs ps)), some (.p (crs qs)), some (.p (.lst (ss.map fr))), some (cW acc), some (.p (.int K)), some (.p (fr m)), some (.p (fr (hgt ps m))), some (.p (fr (hgt qs m))), some (.p (fr (hgt ps z))), some (.p (fr (hgt qs z))), some (.p (fr bk)), some (.p (fr hr)), some (.p (fr sh)), some (.p (fr (m + -z))), some (.p (fr (cross (hgt ps) (hgt qs) z m)))]) (by
              simp [hat, b5, b6])]
            simp [cW, e3, l1, qf]
          have i0 : ixU (fr hr) (.int 0) = some (.int hr.num) := rfl
          have i1 : ixU (fr bk) (.int 0) = some (.int bk.num) := rfl
          rw [sSeq_nx (by
            rw [sIf_d]
            simp only [mTest_d, m2_d, mVar_d, mC_d, getP_s, getP_0, Option.bind_some, gtU_ii, isB_bl, decide_eq_true hpos, if_true]
            rw [sSeq_nx s8, sSeq_nx s10, sIf_d]
            simp only [mTest_d, m2_d, mVar_d, mC_d, getP_s, getP_0, Option.bind_some, i0, i1, mulU_ht n1 n2, ltU_ii, isB_bl, decide_eq_true hcn, if_true]
            exact inner), last _ _ _ _ _ _ _ _ (by simp; omega)]
          simp [chX, hc]
        · have hc' : ¬ (hgt ps z + -hgt qs z) * (hgt ps m + -hgt qs m) < 0 := by rw [← sg, ← sg]; exact hc
          have hcn := fun h => hc' (num_sign.mp h)
          generalize hgt ps z + -hgt qs z = bk at *
          generalize hgt ps m + -hgt qs m = hr at *
          refine ⟨some (.p (fr (hgt ps z))), some (.p (fr (hgt qs z))), some (.p (fr bk)), some (.p (fr hr)), x12, x13, x14, ?_⟩
          have i0 : ixU (fr hr) (.int 0) = some (.int hr.num) := rfl
          have i1 : ixU (fr bk) (.int 0) = some (.int bk.num) := rfl
          show sSeq _ _ _ = _
          rw [sSeq_nx st1]
          rw [sSeq_nx (e := [some (.p (crs ps)), some (.p (crs qs)), some (.p (.lst (ss.map fr))), some (cW acc), some (.p (.int K)), some (.p (fr m)), some (.p (fr (hgt ps m))), some (.p (fr (hgt qs m))), some (.p (fr (hgt ps z))), some (.p (fr (hgt qs z))), some (.p (fr bk)), some (.p (fr hr)), x12, x13, x14]) (by
            rw [sIf_d]
            simp only [mTest_d, m2_d, mVar_d, mC_d, getP_s, getP_0, Option.bind_some, gtU_ii, isB_bl, decide_eq_true hpos, if_true]
            refine (sSeq_nx s8).trans ((sSeq_nx s10).trans ?_)
            rw [sIf_d]
            simp only [mTest_d, m2_d, mVar_d, mC_d, getP_s, getP_0, Option.bind_some, i0, i1, mulU_ht n1 n2, ltU_ii, isB_bl]
            rw [decide_eq_false hcn]
            rfl), last acc (some (.p (fr (hgt ps z)))) (some (.p (fr (hgt qs z)))) (some (.p (fr bk))) (some (.p (fr hr))) x12 x13 x14 l1]
          simp [chX, hc]
    obtain ⟨y8, y9, y10, y11, y12, y13, y14, hb⟩ := body
    obtain ⟨z4, z5, z6, z7, z8, z9, z10, z11, z12, z13, z14, h⟩ := low_loop c d hN hL hss hsr hsl r (pre ++ [m]) (acc ++ (chX (hgt ps) (hgt qs) m pre.getLast? ++ [(m, selR false (hgt ps m) (hgt qs m))])) (some (.p (.int (pre.length : Nat)))) (some (.p (fr m))) (some (.p (fr (hgt ps m)))) (some (.p (fr (hgt qs m)))) y8 y9 y10 y11 y12 y13 y14 (by rw [hs]; simp) (by
      have := chX_len (f := hgt ps) (g := hgt qs) (m := m) (ah := pre.getLast?)
      simp only [List.length_append, List.length_cons, List.length_nil] at hl ⊢
      omega)
    refine ⟨z4, z5, z6, z7, z8, z9, z10, z11, z12, z13, z14, ?_⟩
    rw [List.zipIdx_cons, List.map_cons, forO_cons (e := [some (.p (crs ps)), some (.p (crs qs)), some (.p (.lst (ss.map fr))), some (cW acc), some (.p (.int (pre.length : Nat))), some (.p (fr m)), x6, x7, x8, x9, x10, x11, x12, x13, x14]) (by simp) hb]
    rw [List.length_append, List.length_singleton] at h
    rw [h]
    simp [chFrom]
theorem law_lower_eq {N L : Nat} {a b : Rat} {ps qs : List Pt} (c : Crs N L a b ps) (d : Crs N L a b qs) (hN : 60 * N + 100 ≤ 3900) (hL : L ≤ 400) :
    ∃ ms, m__law_lower cs [crs ps, crs qs] = some (crs (lowPts (hgt ps) (hgt qs) ms)) ∧ Stops ms a b (ps.map (·.1) ++ qs.map (·.1)) ∧ (∀ m ∈ ms, Ht N m) ∧ ms.length ≤ 2 * L := by
  have hlen : (ps ++ qs).length ≤ 2 * L := by have := c.len; have := d.len; simp; omega
  have hht : ∀ x ∈ (ps ++ qs).map (·.1), Ht N x := fun x hx => by
    obtain ⟨p, hp, rfl⟩ := List.mem_map.mp hx
    rcases List.mem_append.mp hp with h | h
    · exact (c.ht p h).1
    · exact (d.ht p h).1
  obtain ⟨ms, h1, h2, h3, h4⟩ := moments_eq (cs := cs) (N := N) (xs := (ps ++ qs).map (·.1)) (by omega) hht (by simp at hlen ⊢; omega)
  rw [List.length_map] at h4
  rw [List.map_append] at h3
  have st := Stops.of2 h2 (fun z => (h3 z).trans List.mem_append) c.ends d.ends
  have hm : ∀ m ∈ ms, Ht N m := fun m hm => hht m (by rw [List.map_append]; exact (h3 m).mp hm)
  refine ⟨ms, ?_, st, hm, by omega⟩
  obtain ⟨w4, w5, w6, w7, w8, w9, w10, w11, w12, w13, w14, hl⟩ := low_loop (cs := cs) c d hN (by omega) (fun m h => ⟨(st.lim m h).1, (st.lim m h).2, hm m h⟩) h2 (by omega) ms [] [] none none none none none none none none none none none rfl (Nat.lt_of_le_of_lt (m := 5000) (by simp; omega) (by decide))
  have hlc := lc_eq (xs := ps ++ qs) qf (fun _ => true) (fun p => fr p.1) (vs := [6]) (g := gN 6) (tt := mYes) (te := m2 ixU (mVar 6) (mC (.int 0))) (env := [some (.p (crs ps)), some (.p (crs qs)), none, none, none, none, none, none, none, none, none, none, none, none, none]) (Nat.lt_of_le_of_lt (m := 5000) (by omega) (by decide)) (by
    intro p hp
    refine ⟨_, by simp [wipeE]; rfl, _, by simp; rfl, fun _ => ⟨_, by simp [qf]; rfl, by simp [restE, keepP]⟩, fun h => by cases h⟩)
  have hadd : addU (crs ps) (crs qs) = some (.lst ((ps ++ qs).map qf)) := by
    show (if _ then _ else _ : Option U) = _
    rw [if_pos (by rw [List.length_map, List.length_map]; exact Nat.le_of_lt (Nat.lt_of_le_of_lt (m := 5000) (by simp at hlen; omega) (by decide))), List.map_append]
  have h1' : m__law_moments cs [.lst ((ps ++ qs).map fun p => fr p.1)] = some (.lst (ms.map fr)) := by
    rw [← h1, List.map_map]
    rfl
  unfold m__law_lower b__law_lower
  refine Ex.fnP rfl ?_
  refine Ex.seq (e := [some (.p (crs ps)), some (.p (crs qs)), some (.p (.lst (ms.map fr))), none, none, none, none, none, none, none, none, none, none, none, none]) (by
    simp only [env0, List.map_cons, List.map_nil, List.replicate, List.cons_append, List.nil_append, sSet_d, mP_d, mN_d, mCons_d, mNil_d, mLc_d, mSeq_d, m2_d, mVar_d, getP_0, getP_s, Option.bind_some, hadd, seqU_l, hlc, List.filter_eq_self.mpr (fun _ _ => rfl), h1']
    rfl) ?_
  refine Ex.seq (e := [some (.p (crs ps)), some (.p (crs qs)), some (.p (.lst (ms.map fr))), some (cW []), none, none, none, none, none, none, none, none, none, none, none]) (by simp [cW]) ?_
  refine Ex.seq (by
    simp [mEnumS, seq1]
    rw [enum_map]
    exact hl) ?_
  refine ⟨_, by simp; rfl, ?_⟩
  rw [cW_frz]
  show Ow.p (crs (chFrom false (hgt ps) (hgt qs) none ms)) = _
  rw [ch_lowP]
end
end UM
set_option Elab.async false
set_option linter.all false
set_option maxRecDepth 100000
set_option maxHeartbeats 4000000
/-! the law's own lines: drawn courses -/
namespace UM
open PySem L2 UL LM
section
variable {cs : List String}
theorem fr_int (i : Int) : fr (i : Rat) = .tup [.int i, .int 1] := by
  unfold fr
  rw [Rat.num_intCast, Rat.den_intCast]
  rfl
theorem ht_int {i : Int} {n : Nat} (h : i.natAbs < 2 ^ n) (hn : 1 ≤ n) : Ht n (i : Rat) := by
  refine ⟨by rw [Rat.num_intCast]; exact h, ?_⟩
  rw [Rat.den_intCast]
  exact Nat.one_lt_two_pow (by omega)
theorem six_pos : (0 : Rat) < ((6 : Int) : Rat) := by decide
theorem lt6 {n a : Int} (h : a * 6 < n) : (a : Rat) < Rat.divInt n 6 := by
  rw [Rat.divInt_eq_div, Rat.lt_div_iff six_pos, ← Rat.intCast_mul]
  exact Rat.intCast_lt_intCast.mpr h
theorem gt6 {n b : Int} (h : n < b * 6) : Rat.divInt n 6 < (b : Rat) := by
  rw [Rat.divInt_eq_div, Rat.div_lt_iff six_pos, ← Rat.intCast_mul]
  exact Rat.intCast_lt_intCast.mpr h
theorem course_spec {w : Ow} (h : StW w) {a b : Int} (h1 : -4 ≤ a) (h2 : a < b) (h3 : b ≤ 10) : ∃ u w', m__law_drawn_course cs w [.int a, .int b] = some (u, w') ∧ ∃ ps, u = crs ps ∧ Crs 8 6 a b ps ∧ (∀ p ∈ ps, Ht 5 p.2) ∧ StW w' := by
  unfold m__law_drawn_course b__law_drawn_course
  refine Ex.fnI (P := fun u w' => ∃ ps, u = crs ps ∧ Crs 8 6 a b ps ∧ (∀ p ∈ ps, Ht 5 p.2) ∧ StW w') rfl ?_
  refine Ex.seq (e := [some w, some (.p (.int a)), some (.p (.int b)), some (frW [(a : Rat), (b : Rat)]), none, none]) (by simp [env0, frW, fr_int]) ?_
  obtain ⟨u1, w1, t1, d, rfl, d0, d1, k1⟩ := take_spec (cs := cs) h (z := 5) (by decide) (by decide)
  refine Ex.seq' (P := fun e => ∃ fs w x, e = [some w, some (.p (.int a)), some (.p (.int b)), some (frW ((a : Rat) :: (b : Rat) :: fs)), x, none] ∧ StW w ∧ (∀ z ∈ fs, (a : Rat) < z ∧ z < b ∧ Ht 8 z) ∧ fs.length ≤ 4) ?_ ?_
  · have key := for_inv (fun k : Nat => .int (k : Nat)) (fun k e => ∃ fs w x, e = [some w, some (.p (.int a)), some (.p (.int b)), some (frW ((a : Rat) :: (b : Rat) :: fs)), x, none] ∧ StW w ∧ (∀ z ∈ fs, (a : Rat) < z ∧ z < b ∧ Ht 8 z) ∧ fs.length ≤ k) (xs := List.range d.toNat) (k := 0) (g := gN 4) (s := (sDrop (mAppV 3 (mN (m__law_frac cs) (mCons (m2 addU (m2 addU (m2 mulU (mVar 1) (mC (.int 6))) (mC (.int 1))) (mCallI 0 (m__law_take cs) (mCons (m2 subU (m2 mulU (mC (.int 6)) (m2 subU (mVar 2) (mVar 1))) (mC (.int 1))) mNil))) (mCons (mC (.int 6)) mNil)))))) (env := [some w1, some (.p (.int a)), some (.p (.int b)), some (frW [(a : Rat), (b : Rat)]), none, none]) ⟨[], w1, none, rfl, k1, by simp, by simp⟩ (by
      rintro j k e hj ⟨fs, w, x, rfl, hw, hf, hfl⟩
      rw [Nat.zero_add] at hfl ⊢
      have hj2 := (List.getElem?_eq_some_iff.mp hj).1
      obtain ⟨u2, w2, t2, n, rfl, n0, n1, k2⟩ := take_spec (cs := cs) hw (z := 6 * (b - a) - 1) (by omega) (Nat.lt_of_le_of_lt (m := 1000) (by omega) (by decide))
      have hfr := frac_eq (cs := cs) (o := a * 6 + 1 + n) (u := 6) (by decide) (by decide)
      have hsz : fs.length + 1 + 1 < sizeLine := Nat.lt_of_le_of_lt (m := 100) (by simp at hj2; omega) (by decide)
      refine ⟨[some w, some (.p (.int a)), some (.p (.int b)), some (frW ((a : Rat) :: (b : Rat) :: fs)), some (.p (.int k)), none], by simp, ?_⟩
      refine ⟨[some w2, some (.p (.int a)), some (.p (.int b)), some (frW ((a : Rat) :: (b : Rat) :: (fs ++ [Rat.divInt (a * 6 + 1 + n) 6]))), some (.p (.int k)), none], ?_, fs ++ [Rat.divInt (a * 6 + 1 + n) 6], w2, _, rfl, k2, ?_, by simp; omega⟩
      · simp (disch := decide) [mulU_r, mulU_l, t2, hfr, frW, hsz]
      · intro z hz
        rcases List.mem_append.mp hz with hz | hz
        · exact hf z hz
        · simp at hz
          subst hz
          exact ⟨lt6 (by omega), gt6 (by omega), ht_div (by decide) (by omega) (by decide)⟩)
    obtain ⟨e, g1, fs, w', x, rfl, g2, g3, g4⟩ := key
    refine ⟨_, ?_, fs, w', x, rfl, g2, g3, by simp at g4; omega⟩
    have hd : -4611686018427387904 ≤ d ∧ d < 4611686018427387904 := by omega
    simp [mRng1, t1, hd, rngU]
    exact g1
  · rintro e ⟨fs, w, x, rfl, hw, hf, hfl⟩
    obtain ⟨ms, q1, q2, q3, q4⟩ := moments_eq (cs := cs) (N := 8) (xs := (a : Rat) :: (b : Rat) :: fs) (by decide) (by
      intro z hz
      rcases List.mem_cons.mp hz with rfl | hz
      · exact ht_int (by omega) (by decide)
      · rcases List.mem_cons.mp hz with rfl | hz
        · exact ht_int (by omega) (by decide)
        · exact (hf z hz).2.2) (by simp; omega)
    have hab : (a : Rat) < b := Rat.intCast_lt_intCast.mpr h2
    have lim : ∀ z ∈ ms, (a : Rat) ≤ z ∧ z ≤ b ∧ Ht 8 z := by
      intro z hz
      rcases List.mem_cons.mp ((q3 z).mp hz) with rfl | hz
      · exact ⟨Rat.le_refl, Rat.le_of_lt hab, ht_int (by omega) (by decide)⟩
      · rcases List.mem_cons.mp hz with rfl | hz
        · exact ⟨Rat.le_of_lt hab, Rat.le_refl, ht_int (by omega) (by decide)⟩
        · exact ⟨Rat.le_of_lt (hf z hz).1, Rat.le_of_lt (hf z hz).2.1, (hf z hz).2.2⟩
    have ml : ms.length ≤ 6 := by simp at q4; omega
    have key := lc_inv fr (vs := [5]) (g := gN 5) (tt := mYes) (te := (mTup (mCons (mVar 5) (mCons (mN (m__law_frac cs) (mCons (m2 subU (mCallI 0 (m__law_take cs) (mCons (mC (.int 40)) mNil)) (mC (.int 10))) (mCons (mCallI 0 (m__law_one cs) (mCons (mLst (mCons (mC (.int 1)) (mCons (mC (.int 1)) (mCons (mC (.int 2)) (mCons (mC (.int 3)) mNil))))) mNil)) mNil))) mNil)))) (fun k acc e => ∃ (ps : List Pt) (w : Ow), acc = ps.map qf ∧ e = [some w, some (.p (.int a)), some (.p (.int b)), some (.p (.lst (((a : Rat) :: (b : Rat) :: fs).map fr))), x, none] ∧ StW w ∧ ps.map (·.1) = ms.take k ∧ ∀ p ∈ ps, Ht 5 p.2) (xs := ms) (k := 0) (acc := []) (env := [some w, some (.p (.int a)), some (.p (.int b)), some (.p (.lst (((a : Rat) :: (b : Rat) :: fs).map fr))), x, none]) ⟨[], w, rfl, rfl, hw, by simp, by simp⟩ (Nat.lt_of_le_of_lt (m := 100) (by simp; omega) (by decide)) (by
      rintro j t acc e hj ⟨ps, w, rfl, rfl, hw, hp, hh⟩
      rw [Nat.zero_add] at hp ⊢
      obtain ⟨u2, w2, t2, n, rfl, n0, n1, k2⟩ := take_spec (cs := cs) hw (z := 40) (by decide) (by decide)
      obtain ⟨u3, w3, t3, n3, k3⟩ := one_spec (cs := cs) k2 (us := [.int 1, .int 1, .int 2, .int 3]) (by simp) (by simp)
      obtain ⟨y, rfl, y0, y1⟩ : ∃ y : Int, u3 = .int y ∧ 0 < y ∧ y ≤ 3 := by
        simp at n3
        rcases n3 with rfl | rfl | rfl
        · exact ⟨1, rfl, by decide, by decide⟩
        · exact ⟨2, rfl, by decide, by decide⟩
        · exact ⟨3, rfl, by decide, by decide⟩
      have hfr := frac_eq (cs := cs) (o := n - 10) (u := y) (by omega) (Nat.lt_of_le_of_lt (m := 3) (by omega) (by decide))
      refine ⟨_, by simp [wipeE]; rfl, true, _, rfl, fun _ => ?_, fun z => nomatch z⟩
      refine ⟨qf (t, Rat.divInt (n - 10) y), [some w3, some (.p (.int a)), some (.p (.int b)), some (.p (.lst (((a : Rat) :: (b : Rat) :: fs).map fr))), x, some (.p (fr t))], ?_, ps ++ [(t, Rat.divInt (n - 10) y)], w3, by simp, by simp [restE, keepP], k3, ?_, ?_⟩
      · simp [t2, t3, hfr, qf]
      · rw [List.map_append, hp, List.take_add_one, hj]
        rfl
      · intro p hp
        rcases List.mem_append.mp hp with hp | hp
        · exact hh p hp
        · simp at hp
          subst hp
          exact ht_div (by omega) (by omega) (by omega))
    obtain ⟨acc, e, g1, ps, w', rfl, rfl, g2, g3, g4⟩ := key
    rw [Nat.zero_add, List.take_length] at g3
    have frz3 : frz (frW ((a : Rat) :: (b : Rat) :: fs)) = .lst (((a : Rat) :: (b : Rat) :: fs).map fr) := frW_frz
    refine ⟨_, by
      simp only [sRet_d, mP_d, mLc_d, mSeq_d, mN_d, mCons_d, mNil_d, mFrz_d, atS_s, atS_0, Option.bind_some, frz3, List.set_cons_succ, List.set_cons_zero, q1, seqU_l, g1]
      rfl, ?_⟩
    have hlen : ps.length = ms.length := by rw [← g3, List.length_map]
    refine ⟨crs ps, w', rfl, rfl, ps, rfl, ?_, g4, g2⟩
    have inc : Inc ps := by
      have : Srt (ps.map (·.1)) := by rw [g3]; exact q2
      exact List.pairwise_map.mp this
    have st : Stops ms (a : Rat) (b : Rat) [] := ⟨q2, (q3 _).mpr (by simp), (q3 _).mpr (by simp), fun z hz => ⟨(lim z hz).1, (lim z hz).2.1⟩, by simp⟩
    have hlast := srt_last q2 st.bin fun z hz => (st.lim z hz).2
    obtain ⟨r, hr, hr2⟩ := st.cons hab
    have l2 : 2 ≤ ps.length := by
      rw [hlen, hr]
      cases r with
      | nil => exact absurd rfl hr2
      | cons _ _ => simp
    refine ⟨l2, inc, ?_, ?_, fun p hp => ⟨(lim p.1 (by rw [← g3]; exact List.mem_map.mpr ⟨p, hp, rfl⟩)).2.2, (g4 p hp).mono (by decide)⟩, by omega⟩
    · have : (ps.map (·.1))[0]? = some (a : Rat) := by rw [g3, hr]; rfl
      rw [List.getElem?_map] at this
      obtain ⟨p, hp, hp2⟩ := Option.map_eq_some_iff.mp this
      exact ⟨p.2, by rw [hp, ← hp2]⟩
    · rw [List.getLast?_eq_getElem?, ← g3, List.getElem?_map, List.length_map] at hlast
      obtain ⟨p, hp, hp2⟩ := Option.map_eq_some_iff.mp hlast
      exact ⟨p.2, by rw [hp, ← hp2]⟩
end
end UM
set_option Elab.async false
set_option linter.all false
set_option maxRecDepth 100000
set_option maxHeartbeats 4000000
/-! law k12 over the mirrors -/
namespace UM
open PySem L2 UL LM
section
variable {cs : List String}
theorem same_b (n : Nat) (a : Bool) : m__law_same cs (n + 1) [.bl a, .bl a] = some (.bl true) := by
  unfold m__law_same fnP
  simp [b__law_same, env0, isiA, isiU, kwn, isiN, tyU, isBU]
theorem neU_bb {a b : Bool} : neU (.bl a) (.bl b) = some (.bl (!decide (a = b))) := by
  cases a <;> cases b <;> simp [neU, toD, SeqAt.shaped, PyData.canLay0, PyData.depth, PyData.eqv]
theorem same_3 (a b c : Bool) : m__law_same cs 3 [.lst [.bl a, .bl b, .bl c], .lst [.bl a, .bl b, .bl c]] = some (.bl true) := by
  have e := fun a => same_b (cs := cs) 1 a
  have s0 : 0 < sizeLine := by decide
  have s1 : 1 < sizeLine := by decide
  have s2 : 2 < sizeLine := by decide
  unfold m__law_same fnP
  simp [b__law_same, env0, isiA, isiU, kwn, isiN, tyU, isBU, mZip, zipU, lcO, wipeE, restE, keepP, e, s0, s1, s2, allU, allB, neU_bb]
/-- whether two lines are the same line -/
theorem neL {ps qs : List Pt} (hcs : "Line" ∈ cs) : neOb "Line" (m_Line___eq__ cs) (lineU ps) (lineU qs) = some (.bl (!decide (ps = qs))) := by
  unfold neOb
  rw [eq_eq hcs]
  simp [lineU, isO]
theorem eqL {ps qs : List Pt} (hcs : "Line" ∈ cs) : eqOb "Line" (m_Line___eq__ cs) (lineU ps) (lineU qs) = some (.bl (decide (ps = qs))) := by
  unfold eqOb
  rw [eq_eq hcs]
  simp [lineU, isO]
theorem rcvL {m : Str} {ps : List Pt} (h : m ≠ "rows") : rcv "Line" m (lineU ps) = some () := by
  have : ¬ ("rows" : Str) = m := fun z => h z.symm
  simp [rcv, lineU, ixF, this]
theorem mn_comm (x y : Rat) : mn x y = mn y x := by
  unfold mn
  by_cases h : x ≤ y
  · by_cases h2 : y ≤ x
    · rw [if_pos h, if_pos h2]
      grind
    · rw [if_pos h, if_neg h2]
  · rw [if_neg h, if_pos (by grind)]
theorem mn_eq {x y : Rat} : mn x y = x ↔ x ≤ y := by
  unfold mn
  by_cases h : x ≤ y
  · simp [h]
  · rw [if_neg h]
    constructor <;> intro z <;> grind
theorem mn_self (x : Rat) : mn x x = x := mn_eq.mpr Rat.le_refl
/-- what one turn asks -/
theorem ask {a b : Rat} {ps qs : List Pt} (hcs : "Line" ∈ cs) (c : Crs 8 6 a b ps) (d : Crs 8 6 a b qs) : ∃ low high,
    m__law_as_line cs [crs ps] = some (lineU (bends ps)) ∧ m__law_as_line cs [crs qs] = some (lineU (bends qs)) ∧
    m__law_lower cs [crs ps, crs qs] = some (crs low) ∧ (∃ h', m__law_under cs [crs ps] = some (crs (ps.map ng)) ∧ m__law_under cs [crs qs] = some (crs (qs.map ng)) ∧ m__law_lower cs [crs (ps.map ng), crs (qs.map ng)] = some (crs h') ∧ m__law_under cs [crs h'] = some (crs high)) ∧
    m__law_as_line cs [crs low] = some (lineU (bends low)) ∧ m__law_as_line cs [crs high] = some (lineU (bends high)) ∧
    m_Line_lower cs [lineU (bends ps), lineU (bends qs)] = some (lineU (bends low)) ∧ m_Line_lower cs [lineU (bends qs), lineU (bends ps)] = some (lineU (bends low)) ∧
    m_Line_upper cs [lineU (bends ps), lineU (bends qs)] = some (lineU (bends high)) ∧ m_Line_upper cs [lineU (bends qs), lineU (bends ps)] = some (lineU (bends high)) ∧
    m_Line_is_below cs [lineU (bends ps), lineU (bends qs)] = some (.bl (decide (bends low = bends ps))) ∧ m_Line_is_below cs [lineU (bends qs), lineU (bends ps)] = some (.bl (decide (bends low = bends qs))) ∧ m_Line_is_below cs [lineU (bends ps), lineU (bends ps)] = some (.bl true) ∧
    m_Line_lower cs [lineU (bends ps), lineU (bends ps)] = some (lineU (bends ps)) ∧ m_Line_upper cs [lineU (bends ps), lineU (bends ps)] = some (lineU (bends ps)) ∧
    m_Line_is_below cs [lineU (bends low), lineU (bends high)] = some (.bl true) := by
  have cb := c.bends
  have db := d.bends
  have fp := c.ends.fn
  have fq := d.ends.fn
  have fpb := cb.ends.fn
  have fqb := db.ends.fn
  have ep : ∀ t, a ≤ t → t ≤ b → hgt (bends ps) t = hgt ps t := fun t h1 h2 => Fn.back fpb fp (bends_idem c.inc) h1 h2
  have eq : ∀ t, a ≤ t → t ≤ b → hgt (bends qs) t = hgt qs t := fun t h1 h2 => Fn.back fqb fq (bends_idem d.inc) h1 h2
  obtain ⟨ms, l1, l2, l3, l4⟩ := law_lower_eq (cs := cs) c d (by decide) (by decide)
  have lowc := low_crs c d l2 memL memR l3 l4
  have lowf := l2.low c.ends d.ends memL memR
  obtain ⟨ns, n1, n2, n3, n4⟩ := law_lower_eq (cs := cs) c.ng d.ng (by decide) (by decide)
  have hic := low_crs c.ng d.ng n2 memL memR n3 n4
  have hif := (n2.low c.ng.ends d.ng.ends memL memR).ng
  have highc := hic.ng
  have u1 := under_eq (cs := cs) (ps := ps) (by have := c.len; omega)
  have u2 := under_eq (cs := cs) (ps := qs) (by have := d.len; omega)
  have u3 := under_eq (cs := cs) (Nat.le_trans hic.len (by decide))
  generalize lowPts (hgt ps) (hgt qs) ms = low at *
  generalize lowPts (hgt (ps.map ng)) (hgt (qs.map ng)) ns = h' at *
  have hif2 : Fn (h'.map ng) a b fun t => - mn (- hgt ps t) (- hgt qs t) := hif.congr fun t _ _ => by rw [hgt_ng, hgt_ng]
  generalize hh : h'.map ng = high at *
  obtain ⟨r1, g1, g2, g3⟩ := lower_eq (cs := cs) hcs cb db (by decide) (by decide)
  obtain ⟨r2, g4, g5, g6⟩ := lower_eq (cs := cs) hcs db cb (by decide) (by decide)
  obtain ⟨r3, g7, g8, g9⟩ := upper_eq (cs := cs) hcs cb db (by decide) (by decide)
  obtain ⟨r4, g10, g11, g12⟩ := upper_eq (cs := cs) hcs db cb (by decide) (by decide)
  obtain ⟨r5, g13, g14, g15⟩ := lower_eq (cs := cs) hcs cb cb (by decide) (by decide)
  obtain ⟨r6, g16, g17, g18⟩ := upper_eq (cs := cs) hcs cb cb (by decide) (by decide)
  have q1 : bends r1 = bends low := Fn.same g3 lowf fun t h1 h2 => by rw [ep t h1 h2, eq t h1 h2]
  have q2 : bends r2 = bends low := Fn.same g6 lowf fun t h1 h2 => by rw [ep t h1 h2, eq t h1 h2, mn_comm]
  have q3 : bends r3 = bends high := Fn.same g9 hif2 fun t h1 h2 => by rw [ep t h1 h2, eq t h1 h2]
  have q4 : bends r4 = bends high := Fn.same g12 hif2 fun t h1 h2 => by rw [ep t h1 h2, eq t h1 h2, mn_comm]
  have q5 : bends r5 = bends ps := Fn.same g15 fp fun t h1 h2 => by rw [ep t h1 h2, mn_self]
  have q6 : bends r6 = bends ps := Fn.same g18 fp fun t h1 h2 => by rw [ep t h1 h2, mn_self, Rat.neg_neg]
  rw [q1] at g1
  rw [q2] at g4
  rw [q3] at g7
  rw [q4] at g10
  rw [q5] at g13
  rw [q6] at g16
  obtain ⟨b1, k1, k2⟩ := below_eq (cs := cs) hcs cb db (by decide) (by decide)
  obtain ⟨b2, k3, k4⟩ := below_eq (cs := cs) hcs db cb (by decide) (by decide)
  obtain ⟨b3, k5, k6⟩ := below_eq (cs := cs) hcs cb cb (by decide) (by decide)
  obtain ⟨b4, k7, k8⟩ := below_eq (cs := cs) hcs lowc.bends highc.bends (by decide) (by decide)
  have e1 : b1 = decide (bends low = bends ps) := by
    rw [Bool.eq_iff_iff, k2, decide_eq_true_iff]
    constructor
    · intro h
      exact Fn.same lowf fp fun t h1 h2 => by
        have := h t h1 h2
        rw [ep t h1 h2, eq t h1 h2] at this
        exact mn_eq.mpr this
    · intro h t h1 h2
      rw [ep t h1 h2, eq t h1 h2]
      exact mn_eq.mp (Fn.back lowf fp h h1 h2)
  have e2 : b2 = decide (bends low = bends qs) := by
    rw [Bool.eq_iff_iff, k4, decide_eq_true_iff]
    constructor
    · intro h
      exact Fn.same lowf fq fun t h1 h2 => by
        have := h t h1 h2
        rw [ep t h1 h2, eq t h1 h2] at this
        rw [mn_comm]
        exact mn_eq.mpr this
    · intro h t h1 h2
      rw [ep t h1 h2, eq t h1 h2]
      have := Fn.back lowf fq h h1 h2
      rw [mn_comm] at this
      exact mn_eq.mp this
  have e3 : b3 = true := k6.mpr fun t _ _ => Rat.le_refl
  have e4 : b4 = true := k8.mpr fun t h1 h2 => by
    rw [Fn.back lowc.bends.ends.fn lowf (bends_idem lowf.inc) h1 h2, Fn.back highc.bends.ends.fn hif2 (bends_idem hif2.inc) h1 h2]
    unfold mn
    split <;> split <;> grind
  subst e1
  subst e2
  subst e3
  subst e4
  exact ⟨low, high, as_line_eq c (by decide) (by decide), as_line_eq d (by decide) (by decide), l1, ⟨h', u1, u2, n1, u3⟩, as_line_eq lowc (by decide) (by decide), as_line_eq highc (by decide) (by decide), g1, g4, g7, g10, k1, k3, k5, g13, g16, k7⟩
end
end UM
set_option Elab.async false
set_option linter.all false
set_option maxRecDepth 100000
set_option maxHeartbeats 4000000
/-! law k12 over the mirrors: the whole -/
namespace UM
open PySem L2 UL LM
section
variable {cs : List String}
theorem shift_eq {a b : Rat} {ps : List Pt} {w : Ow} {x0 x2 x3 x4 x6 x7 x8 x9 x10 x11 : Option Ow} (h7 : x7 = none ∨ ∃ u, x7 = some (.p u)) (hw : StW w) (c : Crs 8 6 a b ps) (h5 : ∀ p ∈ ps, Ht 5 p.2) : ∃ qs w', Crs 8 6 a b qs ∧ StW w' ∧
    (mLc [7] (mSeq (mVar 5)) (gN 7) mYes (mTup (mCons (m2 ixU (mVar 7) (mC (.int 0))) (mCons (mN (m__law_add cs) (mCons (m2 ixU (mVar 7) (mC (.int 1))) (mCons (mTup (mCons (mCallI 1 (m__law_take cs) (mCons (mC (.int 3)) mNil)) (mCons (mC (.int 1)) mNil))) mNil))) mNil)))) [x0, some w, x2, x3, x4, some (.p (crs ps)), x6, x7, x8, x9, x10, x11] = some (crs qs, [x0, some w', x2, x3, x4, some (.p (crs ps)), x6, x7, x8, x9, x10, x11]) := by
  have hk : ∀ w, keepP [x0, some w, x2, x3, x4, some (.p (crs ps)), x6, x7, x8, x9, x10, x11] 7 = x7 := fun w => by rcases h7 with rfl | ⟨u, rfl⟩ <;> rfl
  have key := lc_inv qf (vs := [7]) (g := gN 7) (tt := mYes) (te := (mTup (mCons (m2 ixU (mVar 7) (mC (.int 0))) (mCons (mN (m__law_add cs) (mCons (m2 ixU (mVar 7) (mC (.int 1))) (mCons (mTup (mCons (mCallI 1 (m__law_take cs) (mCons (mC (.int 3)) mNil)) (mCons (mC (.int 1)) mNil))) mNil))) mNil)))) (fun k acc e => ∃ (qs : List Pt) (w : Ow), acc = qs.map qf ∧ e = [x0, some w, x2, x3, x4, some (.p (crs ps)), x6, x7, x8, x9, x10, x11] ∧ StW w ∧ qs.map (·.1) = (ps.take k).map (·.1) ∧ ∀ p ∈ qs, Ht 8 p.2) (xs := ps) (k := 0) (acc := []) (env := [x0, some w, x2, x3, x4, some (.p (crs ps)), x6, x7, x8, x9, x10, x11]) ⟨[], w, rfl, rfl, hw, by simp, by simp⟩ (Nat.lt_of_le_of_lt (m := 100) (by have := c.len; simp; omega) (by decide)) (by
    rintro j p acc e hj ⟨qs, w, rfl, rfl, hw, hp, hh⟩
    rw [Nat.zero_add] at hp ⊢
    have hmp := List.mem_of_getElem? hj
    obtain ⟨u2, w2, t2, n, rfl, n0, n1, k2⟩ := take_spec (cs := cs) hw (z := 3) (by decide) (by decide)
    haveI : HtC 5 p.2 := ⟨h5 p hmp⟩
    haveI : HtC 2 (n : Rat) := ⟨ht_int (by omega) (by decide)⟩
    have ha := add_eq (cs := cs) (a := p.2) (b := (n : Rat)) (by decide) (by decide)
    rw [fr_int] at ha
    refine ⟨_, by simp [wipeE]; rfl, true, _, rfl, fun _ => ?_, fun z => nomatch z⟩
    refine ⟨qf (p.1, p.2 + n), [x0, some w2, x2, x3, x4, some (.p (crs ps)), x6, some (.p (qf p)), x8, x9, x10, x11], ?_, qs ++ [(p.1, p.2 + n)], w2, by simp, by simp [restE, hk], k2, ?_, ?_⟩
    · simp [t2, ha, qf]
    · rw [List.map_append, hp, List.take_add_one, hj]
      simp
    · intro q hq
      rcases List.mem_append.mp hq with hq | hq
      · exact hh q hq
      · simp at hq
        subst hq
        exact HtC.h (n := 5 + 2 + 1))
  obtain ⟨acc, e, g1, qs, w', rfl, rfl, g2, g3, g4⟩ := key
  rw [Nat.zero_add, List.take_length] at g3
  have hl : qs.length = ps.length := by simpa using congrArg List.length g3
  have gt : ∀ i : Nat, (qs[i]?).map (·.1) = (ps[i]?).map (·.1) := fun i => by
    have := congrArg (fun l : List Rat => l[i]?) g3
    simpa using this
  refine ⟨qs, w', ⟨by have := c.l2; omega, ?_, ?_, ?_, fun p hp => ⟨?_, g4 p hp⟩, by have := c.len; omega⟩, g2, ?_⟩
  · have : Srt (qs.map (·.1)) := by rw [g3]; exact List.pairwise_map.mpr c.inc
    exact List.pairwise_map.mp this
  · obtain ⟨y, hy⟩ := c.h0
    have := gt 0
    rw [hy] at this
    obtain ⟨q, hq, hq2⟩ := Option.map_eq_some_iff.mp this
    have hq2 : q.1 = a := hq2
    exact ⟨q.2, by rw [hq, ← hq2]⟩
  · obtain ⟨y, hy⟩ := c.hn
    have := gt (ps.length - 1)
    rw [hy] at this
    obtain ⟨q, hq, hq2⟩ := Option.map_eq_some_iff.mp this
    have hq2 : q.1 = b := hq2
    exact ⟨q.2, by rw [hl, hq, ← hq2]⟩
  · have : p.1 ∈ ps.map (·.1) := by rw [← g3]; exact List.mem_map.mpr ⟨p, hp, rfl⟩
    obtain ⟨q, hq, hq2⟩ := List.mem_map.mp this
    rw [← hq2]
    exact (c.ht q hq).1
  · simp only [mLc_d, mSeq_d, mVar_d, getP_s, getP_0, Option.bind_some, show seqU (crs ps) = some (ps.map qf) from rfl, g1]
    rfl
abbrev lawB (cs : List String) : MS := (sSeq (sSet 3 (mP (m2 subU (mCallI 1 (m__law_take cs) (mCons (mC (.int 9)) mNil)) (mC (.int 4)))))
    (sSeq (sSet 4 (mP (m2 addU (m2 addU (mVar 3) (mC (.int 1))) (mCallI 1 (m__law_take cs) (mCons (mC (.int 6)) mNil)))))
    (sSeq (sPar 5 6 (mCons (mCallI 1 (m__law_drawn_course cs) (mCons (mVar 3) (mCons (mVar 4) mNil))) (mCons (mCallI 1 (m__law_drawn_course cs) (mCons (mVar 3) (mCons (mVar 4) mNil))) mNil)))
    (sSeq (sIf (mTest (m2 (eqU 0) (mCallI 1 (m__law_take cs) (mCons (mC (.int 3)) mNil)) (mC (.int 0)))) (sSet 6 (mP (mLc [7] (mSeq (mVar 5)) (gN 7) mYes (mTup (mCons (m2 ixU (mVar 7) (mC (.int 0))) (mCons (mN (m__law_add cs) (mCons (m2 ixU (mVar 7) (mC (.int 1))) (mCons (mTup (mCons (mCallI 1 (m__law_take cs) (mCons (mC (.int 3)) mNil)) (mCons (mC (.int 1)) mNil))) mNil))) mNil)))))) sNext)
    (sSeq (sPar 7 8 (mCons (mN (m__law_as_line cs) (mCons (mVar 5) mNil)) (mCons (mN (m__law_as_line cs) (mCons (mVar 6) mNil)) mNil)))
    (sSeq (sPar 9 10 (mCons (mN (m__law_lower cs) (mCons (mVar 5) (mCons (mVar 6) mNil))) (mCons (mN (m__law_under cs) (mCons (mN (m__law_lower cs) (mCons (mN (m__law_under cs) (mCons (mVar 5) mNil)) (mCons (mN (m__law_under cs) (mCons (mVar 6) mNil)) mNil))) mNil)) mNil)))
    (sSeq (sIf (mOr (mTest (m2 (neOb "Line" (m_Line___eq__ cs)) (mMeth "Line" "lower" (m_Line_lower cs) (mVar 7) (mCons (mVar 8) mNil)) (mN (m__law_as_line cs) (mCons (mVar 9) mNil)))) (mTest (m2 (neOb "Line" (m_Line___eq__ cs)) (mMeth "Line" "lower" (m_Line_lower cs) (mVar 8) (mCons (mVar 7) mNil)) (mN (m__law_as_line cs) (mCons (mVar 9) mNil))))) (sRet (mP (mC (.bl false)))) sNext)
    (sSeq (sIf (mOr (mTest (m2 (neOb "Line" (m_Line___eq__ cs)) (mMeth "Line" "upper" (m_Line_upper cs) (mVar 7) (mCons (mVar 8) mNil)) (mN (m__law_as_line cs) (mCons (mVar 10) mNil)))) (mTest (m2 (neOb "Line" (m_Line___eq__ cs)) (mMeth "Line" "upper" (m_Line_upper cs) (mVar 8) (mCons (mVar 7) mNil)) (mN (m__law_as_line cs) (mCons (mVar 10) mNil))))) (sRet (mP (mC (.bl false)))) sNext)
    (sSeq (sSet 11 (mP (mLst (mCons (mMeth "Line" "is_below" (m_Line_is_below cs) (mVar 7) (mCons (mVar 8) mNil)) (mCons (mMeth "Line" "is_below" (m_Line_is_below cs) (mVar 8) (mCons (mVar 7) mNil)) (mCons (mMeth "Line" "is_below" (m_Line_is_below cs) (mVar 7) (mCons (mVar 7) mNil)) mNil))))))
    (sSeq (sIf (mNot (mTest (mN (m__law_same cs 3) (mCons (mVar 11) (mCons (mLst (mCons (m2 (eqOb "Line" (m_Line___eq__ cs)) (mN (m__law_as_line cs) (mCons (mVar 9) mNil)) (mVar 7)) (mCons (m2 (eqOb "Line" (m_Line___eq__ cs)) (mN (m__law_as_line cs) (mCons (mVar 9) mNil)) (mVar 8)) (mCons (mC (.bl true)) mNil)))) mNil))))) (sRet (mP (mC (.bl false)))) sNext)
    (sIf (mOr (mTest (m2 (neOb "Line" (m_Line___eq__ cs)) (mMeth "Line" "lower" (m_Line_lower cs) (mVar 7) (mCons (mVar 7) mNil)) (mVar 7))) (mOr (mTest (m2 (neOb "Line" (m_Line___eq__ cs)) (mMeth "Line" "upper" (m_Line_upper cs) (mVar 7) (mCons (mVar 7) mNil)) (mVar 7))) (mNot (mTest (mMeth "Line" "is_below" (m_Line_is_below cs) (mMeth "Line" "lower" (m_Line_lower cs) (mVar 7) (mCons (mVar 8) mNil)) (mCons (mMeth "Line" "upper" (m_Line_upper cs) (mVar 7) (mCons (mVar 8) mNil)) mNil)))))) (sRet (mP (mC (.bl false)))) sNext)))))))))))
theorem law_turn (hcs : "Line" ∈ cs) {w : Ow} (hw : StW w) {x2 x3 x4 x5 x6 x7 x8 x9 x10 x11 : Option Ow} (h7 : x7 = none ∨ ∃ u, x7 = some (.p u)) : ∃ w' y2 y3 y4 y5 y6 y7 y8 y9 y10 y11, lawB cs [none, some w, x2, x3, x4, x5, x6, x7, x8, x9, x10, x11] = some (.nx [none, some w', y2, y3, y4, y5, y6, y7, y8, y9, y10, y11]) ∧ StW w' ∧ (y7 = none ∨ ∃ u, y7 = some (.p u)) := by
  obtain ⟨u1, w1, t1, da, rfl, da0, da1, hw1⟩ := take_spec (cs := cs) hw (z := 9) (by decide) (by decide)
  obtain ⟨u2, w2, t2, db, rfl, db0, db1, hw2⟩ := take_spec (cs := cs) hw1 (z := 6) (by decide) (by decide)
  obtain ⟨u3, w3, t3, ps, rfl, c, c5, hw3⟩ := course_spec (cs := cs) hw2 (a := da - 4) (b := da - 4 + 1 + db) (by omega) (by omega) (by omega)
  obtain ⟨u4, w4, t4, qs0, rfl, d0, _, hw4⟩ := course_spec (cs := cs) hw3 (a := da - 4) (b := da - 4 + 1 + db) (by omega) (by omega) (by omega)
  obtain ⟨u5, w5, t5, k, rfl, k0, k1, hw5⟩ := take_spec (cs := cs) hw4 (z := 3) (by decide) (by decide)
  have step : ∃ qs w6, Crs 8 6 ((da - 4 : Int) : Rat) ((da - 4 + 1 + db : Int) : Rat) qs ∧ StW w6 ∧ (sIf (mTest (m2 (eqU 0) (mCallI 1 (m__law_take cs) (mCons (mC (.int 3)) mNil)) (mC (.int 0)))) (sSet 6 (mP (mLc [7] (mSeq (mVar 5)) (gN 7) mYes (mTup (mCons (m2 ixU (mVar 7) (mC (.int 0))) (mCons (mN (m__law_add cs) (mCons (m2 ixU (mVar 7) (mC (.int 1))) (mCons (mTup (mCons (mCallI 1 (m__law_take cs) (mCons (mC (.int 3)) mNil)) (mCons (mC (.int 1)) mNil))) mNil))) mNil)))))) sNext) [none, some w4, x2, some (.p (.int (da - 4))), some (.p (.int (da - 4 + 1 + db))), some (.p (crs ps)), some (.p (crs qs0)), x7, x8, x9, x10, x11] = some (.nx [none, some w6, x2, some (.p (.int (da - 4))), some (.p (.int (da - 4 + 1 + db))), some (.p (crs ps)), some (.p (crs qs)), x7, x8, x9, x10, x11]) := by
    by_cases hk : k = 0
    · subst hk
      obtain ⟨qs, w6, e1, e2, e3⟩ := shift_eq (cs := cs) (x0 := none) (x2 := x2) (x3 := some (.p (.int (da - 4)))) (x4 := some (.p (.int (da - 4 + 1 + db)))) (x6 := some (.p (crs qs0))) (x8 := x8) (x9 := x9) (x10 := x10) (x11 := x11) h7 hw5 c c5
      refine ⟨qs, w6, e1, e2, ?_⟩
      rw [sIf_d]
      have ht : (mTest (m2 (eqU 0) (mCallI 1 (m__law_take cs) (mCons (mC (.int 3)) mNil)) (mC (.int 0)))) [none, some w4, x2, some (.p (.int (da - 4))), some (.p (.int (da - 4 + 1 + db))), some (.p (crs ps)), some (.p (crs qs0)), x7, x8, x9, x10, x11] = some (true, [none, some w5, x2, some (.p (.int (da - 4))), some (.p (.int (da - 4 + 1 + db))), some (.p (crs ps)), some (.p (crs qs0)), x7, x8, x9, x10, x11]) := by simp [t5]
      rw [ht]
      show (sSet 6 (mP _)) _ = _
      rw [sSet_d, mP_d, e3]
      rfl
    · exact ⟨qs0, w5, d0, hw5, by simp [t5, hk]⟩
  obtain ⟨qs, w6, d, hw6, st⟩ := step
  obtain ⟨low, high, k1, k2, k3, ⟨h', k4, k5, k6, k7⟩, k8, k9, k10, k11, k12, k13, k14, k15, k16, k17, k18, k19⟩ := ask (cs := cs) hcs c d
  have nl : ∀ {m : Str} {ps : List Pt}, m ≠ "rows" → rcv "Line" m (lineU ps) = some () := fun h => rcvL h
  have r1 : ∀ ps, rcv "Line" "lower" (lineU ps) = some () := fun ps => rcvL (by decide)
  have r2 : ∀ ps, rcv "Line" "upper" (lineU ps) = some () := fun ps => rcvL (by decide)
  have r3 : ∀ ps, rcv "Line" "is_below" (lineU ps) = some () := fun ps => rcvL (by decide)
  refine ⟨w6, x2, some (.p (.int (da - 4))), some (.p (.int (da - 4 + 1 + db))), some (.p (crs ps)), some (.p (crs qs)), some (.p (lineU (bends ps))), some (.p (lineU (bends qs))), some (.p (crs low)), some (.p (crs high)), some (.p (.lst [.bl (decide (bends low = bends ps)), .bl (decide (bends low = bends qs)), .bl true])), ?_, hw6, .inr ⟨_, rfl⟩⟩
  unfold lawB
  rw [sSeq_nx (e := [none, some w1, x2, some (.p (.int (da - 4))), x4, x5, x6, x7, x8, x9, x10, x11]) (by simp [t1])]
  rw [sSeq_nx (e := [none, some w2, x2, some (.p (.int (da - 4))), some (.p (.int (da - 4 + 1 + db))), x5, x6, x7, x8, x9, x10, x11]) (by simp [t2])]
  rw [sSeq_nx (e := [none, some w4, x2, some (.p (.int (da - 4))), some (.p (.int (da - 4 + 1 + db))), some (.p (crs ps)), some (.p (crs qs0)), x7, x8, x9, x10, x11]) (by simp [t3, t4])]
  rw [sSeq_nx st]
  rw [sSeq_nx (e := [none, some w6, x2, some (.p (.int (da - 4))), some (.p (.int (da - 4 + 1 + db))), some (.p (crs ps)), some (.p (crs qs)), some (.p (lineU (bends ps))), some (.p (lineU (bends qs))), x9, x10, x11]) (by simp [k1, k2])]
  rw [sSeq_nx (e := [none, some w6, x2, some (.p (.int (da - 4))), some (.p (.int (da - 4 + 1 + db))), some (.p (crs ps)), some (.p (crs qs)), some (.p (lineU (bends ps))), some (.p (lineU (bends qs))), some (.p (crs low)), some (.p (crs high)), x11]) (by simp [k3, k4, k5, k6, k7])]
  rw [sSeq_nx (e := [none, some w6, x2, some (.p (.int (da - 4))), some (.p (.int (da - 4 + 1 + db))), some (.p (crs ps)), some (.p (crs qs)), some (.p (lineU (bends ps))), some (.p (lineU (bends qs))), some (.p (crs low)), some (.p (crs high)), x11]) (by simp [mMeth, r1, k8, k10, k11, neL hcs])]
  rw [sSeq_nx (e := [none, some w6, x2, some (.p (.int (da - 4))), some (.p (.int (da - 4 + 1 + db))), some (.p (crs ps)), some (.p (crs qs)), some (.p (lineU (bends ps))), some (.p (lineU (bends qs))), some (.p (crs low)), some (.p (crs high)), x11]) (by simp [mMeth, r2, k9, k12, k13, neL hcs])]
  rw [sSeq_nx (e := [none, some w6, x2, some (.p (.int (da - 4))), some (.p (.int (da - 4 + 1 + db))), some (.p (crs ps)), some (.p (crs qs)), some (.p (lineU (bends ps))), some (.p (lineU (bends qs))), some (.p (crs low)), some (.p (crs high)), some (.p (.lst [.bl (decide (bends low = bends ps)), .bl (decide (bends low = bends qs)), .bl true]))]) (by simp [mMeth, r3, k14, k15, k16])]
  rw [sSeq_nx (e := [none, some w6, x2, some (.p (.int (da - 4))), some (.p (.int (da - 4 + 1 + db))), some (.p (crs ps)), some (.p (crs qs)), some (.p (lineU (bends ps))), some (.p (lineU (bends qs))), some (.p (crs low)), some (.p (crs high)), some (.p (.lst [.bl (decide (bends low = bends ps)), .bl (decide (bends low = bends qs)), .bl true]))]) (by simp [k8, eqL hcs, same_3])]
  simp [mMeth, r1, r2, r3, k10, k12, k17, k18, k19, neL hcs]
end
end UM
namespace LW
open PySem L2 UL LM UM
theorem law_true (ns : List Int) (hl : ns.length ≤ 63) : ∃ e, b_law ["Exact", "Line"] ((none :: List.replicate 11 none).set 1 (some (st0 ns))) = some (.rt (.p (.bl true)) e) := by
  have key := for_inv (fun k : Nat => .int (k : Nat)) (fun k e => ∃ w x2 x3 x4 x5 x6 x7 x8 x9 x10 x11, e = [none, some w, x2, x3, x4, x5, x6, x7, x8, x9, x10, x11] ∧ StW w ∧ (x7 = none ∨ ∃ u, x7 = some (.p u))) (xs := List.range 5) (k := 0) (g := gN 2) (s := lawB ["Exact", "Line"]) (env := [none, some (st0 ns), none, none, none, none, none, none, none, none, none, none]) ⟨st0 ns, none, none, none, none, none, none, none, none, none, none, rfl, ⟨ns, 0, 0, false, rfl, hl⟩, .inl rfl⟩ (by
    rintro j k e hj ⟨w, x2, x3, x4, x5, x6, x7, x8, x9, x10, x11, rfl, hw, h7⟩
    obtain ⟨w', y2, y3, y4, y5, y6, y7, y8, y9, y10, y11, h1, h2, h3⟩ := law_turn (cs := ["Exact", "Line"]) (by decide) hw (x2 := some (.p (.int k))) (x3 := x3) (x4 := x4) (x5 := x5) (x6 := x6) (x8 := x8) (x9 := x9) (x10 := x10) (x11 := x11) h7
    exact ⟨[none, some w, some (.p (.int k)), x3, x4, x5, x6, x7, x8, x9, x10, x11], by simp, _, h1, w', y2, y3, y4, y5, y6, y7, y8, y9, y10, y11, rfl, h2, h3⟩)
  obtain ⟨e, h1, w, x2, x3, x4, x5, x6, x7, x8, x9, x10, x11, rfl, _⟩ := key
  refine ⟨[none, some w, x2, x3, x4, x5, x6, x7, x8, x9, x10, x11], ?_⟩
  · unfold b_law
    show sSeq _ _ [none, some (st0 ns), none, none, none, none, none, none, none, none, none, none] = _
    rw [sSeq_nx (e := [none, some w, x2, x3, x4, x5, x6, x7, x8, x9, x10, x11])]
    · simp
    · simp only [sFor_d, mRng1, mCons_d, mC_d, mNil_d, Option.bind_some, rngU]
      simp
      exact h1
end LW
set_option Elab.async false
set_option linter.all false
set_option maxRecDepth 100000
set_option maxHeartbeats 0
namespace LW
open PySem PySem.Spec PyProof.Rows L2 LV LM UL UM
def dd_is_integer : He.DefD := ⟨("is_integer", none), "is_integer", "is_integer", defArgs s_is_integer, defBody s_is_integer, defScope s_is_integer, [], []⟩
def dd_is_number : He.DefD := ⟨("is_number", none), "is_number", "is_number", defArgs s_is_number, defBody s_is_number, defScope s_is_number, [], []⟩
def dd_common : He.DefD := ⟨("common", none), "common", "common", defArgs s_common, defBody s_common, defScope s_common, [], []⟩
def dd_Exact___init__ : He.DefD := ⟨("Exact", some "__init__"), "__init__", "Exact.__init__", defArgs s_Exact___init__, defBody s_Exact___init__, defScope s_Exact___init__, [.int 1], []⟩
def dd_part_of : He.DefD := ⟨("part_of", none), "part_of", "part_of", defArgs s_part_of, defBody s_part_of, defScope s_part_of, [], []⟩
def dd_Exact___add__ : He.DefD := ⟨("Exact", some "__add__"), "__add__", "Exact.__add__", defArgs s_Exact___add__, defBody s_Exact___add__, defScope s_Exact___add__, [], []⟩
def dd_Exact___sub__ : He.DefD := ⟨("Exact", some "__sub__"), "__sub__", "Exact.__sub__", defArgs s_Exact___sub__, defBody s_Exact___sub__, defScope s_Exact___sub__, [], []⟩
def dd_Exact___mul__ : He.DefD := ⟨("Exact", some "__mul__"), "__mul__", "Exact.__mul__", defArgs s_Exact___mul__, defBody s_Exact___mul__, defScope s_Exact___mul__, [], []⟩
def dd_Exact___radd__ : He.DefD := ⟨("Exact", some "__radd__"), "__radd__", "Exact.__radd__", defArgs s_Exact___radd__, defBody s_Exact___radd__, defScope s_Exact___radd__, [], []⟩
def dd_Exact___rsub__ : He.DefD := ⟨("Exact", some "__rsub__"), "__rsub__", "Exact.__rsub__", defArgs s_Exact___rsub__, defBody s_Exact___rsub__, defScope s_Exact___rsub__, [], []⟩
def dd_Exact___rmul__ : He.DefD := ⟨("Exact", some "__rmul__"), "__rmul__", "Exact.__rmul__", defArgs s_Exact___rmul__, defBody s_Exact___rmul__, defScope s_Exact___rmul__, [], []⟩
def dd_Exact___neg__ : He.DefD := ⟨("Exact", some "__neg__"), "__neg__", "Exact.__neg__", defArgs s_Exact___neg__, defBody s_Exact___neg__, defScope s_Exact___neg__, [], []⟩
def dd_Exact___eq__ : He.DefD := ⟨("Exact", some "__eq__"), "__eq__", "Exact.__eq__", defArgs s_Exact___eq__, defBody s_Exact___eq__, defScope s_Exact___eq__, [], []⟩
def dd_Exact___lt__ : He.DefD := ⟨("Exact", some "__lt__"), "__lt__", "Exact.__lt__", defArgs s_Exact___lt__, defBody s_Exact___lt__, defScope s_Exact___lt__, [], []⟩
def dd_Exact___le__ : He.DefD := ⟨("Exact", some "__le__"), "__le__", "Exact.__le__", defArgs s_Exact___le__, defBody s_Exact___le__, defScope s_Exact___le__, [], []⟩
def dd_Exact___gt__ : He.DefD := ⟨("Exact", some "__gt__"), "__gt__", "Exact.__gt__", defArgs s_Exact___gt__, defBody s_Exact___gt__, defScope s_Exact___gt__, [], []⟩
def dd_Exact___ge__ : He.DefD := ⟨("Exact", some "__ge__"), "__ge__", "Exact.__ge__", defArgs s_Exact___ge__, defBody s_Exact___ge__, defScope s_Exact___ge__, [], []⟩
def dd__law_fresh : He.DefD := ⟨("_law_fresh", none), "_law_fresh", "_law_fresh", defArgs s__law_fresh, defBody s__law_fresh, defScope s__law_fresh, [], []⟩
def dd_Exact_by : He.DefD := ⟨("Exact", some "by"), "by", "Exact.by", defArgs s_Exact_by, defBody s_Exact_by, defScope s_Exact_by, [], []⟩
def dd_plain : He.DefD := ⟨("plain", none), "plain", "plain", defArgs s_plain, defBody s_plain, defScope s_plain, [], []⟩
def dd_is_list : He.DefD := ⟨("is_list", none), "is_list", "is_list", defArgs s_is_list, defBody s_is_list, defScope s_is_list, [], []⟩
def dd_slope : He.DefD := ⟨("slope", none), "slope", "slope", defArgs s_slope, defBody s_slope, defScope s_slope, [], []⟩
def dd_height_at : He.DefD := ⟨("height_at", none), "height_at", "height_at", defArgs s_height_at, defBody s_height_at, defScope s_height_at, [], []⟩
def dd_checked_points : He.DefD := ⟨("checked_points", none), "checked_points", "checked_points", defArgs s_checked_points, defBody s_checked_points, defScope s_checked_points, [], []⟩
def dd_bent : He.DefD := ⟨("bent", none), "bent", "bent", defArgs s_bent, defBody s_bent, defScope s_bent, [], []⟩
def dd_Line___init__ : He.DefD := ⟨("Line", some "__init__"), "__init__", "Line.__init__", defArgs s_Line___init__, defBody s_Line___init__, defScope s_Line___init__, [], []⟩
def dd_Line___eq__ : He.DefD := ⟨("Line", some "__eq__"), "__eq__", "Line.__eq__", defArgs s_Line___eq__, defBody s_Line___eq__, defScope s_Line___eq__, [], []⟩
def dd_rows_beside : He.DefD := ⟨("rows_beside", none), "rows_beside", "rows_beside", defArgs s_rows_beside, defBody s_rows_beside, defScope s_rows_beside, [], []⟩
def dd_merged : He.DefD := ⟨("merged", none), "merged", "merged", defArgs s_merged, defBody s_merged, defScope s_merged, [], []⟩
def dd_chosen : He.DefD := ⟨("chosen", none), "chosen", "chosen", defArgs s_chosen, defBody s_chosen, defScope s_chosen, [], []⟩
def dd_Line_is_below : He.DefD := ⟨("Line", some "is_below"), "is_below", "Line.is_below", defArgs s_Line_is_below, defBody s_Line_is_below, defScope s_Line_is_below, [], []⟩
def dd_Line_lower : He.DefD := ⟨("Line", some "lower"), "lower", "Line.lower", defArgs s_Line_lower, defBody s_Line_lower, defScope s_Line_lower, [], []⟩
def dd_Line_upper : He.DefD := ⟨("Line", some "upper"), "upper", "Line.upper", defArgs s_Line_upper, defBody s_Line_upper, defScope s_Line_upper, [], []⟩
def dd__law_fill : He.DefD := ⟨("_law_fill", none), "_law_fill", "_law_fill", defArgs s__law_fill, defBody s__law_fill, defScope s__law_fill, [], []⟩
def dd__law_take : He.DefD := ⟨("_law_take", none), "_law_take", "_law_take", defArgs s__law_take, defBody s__law_take, defScope s__law_take, [], []⟩
def dd__law_one : He.DefD := ⟨("_law_one", none), "_law_one", "_law_one", defArgs s__law_one, defBody s__law_one, defScope s__law_one, [], []⟩
def dd__law_gcd : He.DefD := ⟨("_law_gcd", none), "_law_gcd", "_law_gcd", defArgs s__law_gcd, defBody s__law_gcd, defScope s__law_gcd, [], []⟩
def dd__law_frac : He.DefD := ⟨("_law_frac", none), "_law_frac", "_law_frac", defArgs s__law_frac, defBody s__law_frac, defScope s__law_frac, [], []⟩
def dd__law_add : He.DefD := ⟨("_law_add", none), "_law_add", "_law_add", defArgs s__law_add, defBody s__law_add, defScope s__law_add, [], []⟩
def dd__law_mul : He.DefD := ⟨("_law_mul", none), "_law_mul", "_law_mul", defArgs s__law_mul, defBody s__law_mul, defScope s__law_mul, [], []⟩
def dd__law_less : He.DefD := ⟨("_law_less", none), "_law_less", "_law_less", defArgs s__law_less, defBody s__law_less, defScope s__law_less, [], []⟩
def dd__law_plain : He.DefD := ⟨("_law_plain", none), "_law_plain", "_law_plain", defArgs s__law_plain, defBody s__law_plain, defScope s__law_plain, [], []⟩
def dd__law_on : He.DefD := ⟨("_law_on", none), "_law_on", "_law_on", defArgs s__law_on, defBody s__law_on, defScope s__law_on, [], []⟩
def dd__law_over : He.DefD := ⟨("_law_over", none), "_law_over", "_law_over", defArgs s__law_over, defBody s__law_over, defScope s__law_over, [], []⟩
def dd__law_same : He.DefD := ⟨("_law_same", none), "_law_same", "_law_same", defArgs s__law_same, defBody s__law_same, defScope s__law_same, [], []⟩
def dd__law_moments : He.DefD := ⟨("_law_moments", none), "_law_moments", "_law_moments", defArgs s__law_moments, defBody s__law_moments, defScope s__law_moments, [], []⟩
def dd__law_drawn_course : He.DefD := ⟨("_law_drawn_course", none), "_law_drawn_course", "_law_drawn_course", defArgs s__law_drawn_course, defBody s__law_drawn_course, defScope s__law_drawn_course, [], []⟩
def dd__law_as_line : He.DefD := ⟨("_law_as_line", none), "_law_as_line", "_law_as_line", defArgs s__law_as_line, defBody s__law_as_line, defScope s__law_as_line, [], []⟩
def dd__law_lower : He.DefD := ⟨("_law_lower", none), "_law_lower", "_law_lower", defArgs s__law_lower, defBody s__law_lower, defScope s__law_lower, [], []⟩
def dd__law_under : He.DefD := ⟨("_law_under", none), "_law_under", "_law_under", defArgs s__law_under, defBody s__law_under, defScope s__law_under, [], []⟩
def dd_law : He.DefD := ⟨("law", none), "law", "law", defArgs s_law, defBody s_law, defScope s_law, [], []⟩
def fnL : List He.DefD := [dd_is_integer, dd_is_number, dd_common, dd_Exact___init__, dd_part_of, dd_Exact___add__, dd_Exact___sub__, dd_Exact___mul__, dd_Exact___radd__, dd_Exact___rsub__, dd_Exact___rmul__, dd_Exact___neg__, dd_Exact___eq__, dd_Exact___lt__, dd_Exact___le__, dd_Exact___gt__, dd_Exact___ge__, dd__law_fresh, dd_Exact_by, dd_plain, dd_is_list, dd_slope, dd_height_at, dd_checked_points, dd_bent, dd_Line___init__, dd_Line___eq__, dd_rows_beside, dd_merged, dd_chosen, dd_Line_is_below, dd_Line_lower, dd_Line_upper, dd__law_fill, dd__law_take, dd__law_one, dd__law_gcd, dd__law_frac, dd__law_add, dd__law_mul, dd__law_less, dd__law_plain, dd__law_on, dd__law_over, dd__law_same, dd__law_moments, dd__law_drawn_course, dd__law_as_line, dd__law_lower, dd__law_under, dd_law]
def faL : List He.Fa := [.free "len", .free "int", .free "enumerate", .free "isinstance", .free "zip", .free "all", .free "range", .free "list", .free "tuple", .free "bool", .free "any", .free "sorted", .free "dict", .free "str", .free "reversed", .free "repr", .free "iter", .glo "Exact", .cls "Exact", .noat "Exact" "over", .noat "Exact" "under", .mkr "Exact", .glo "Line", .cls "Line", .noat "Line" "rows", .mkr "Line", .glo "is_integer", .glo "is_number", .glo "common", .glo "part_of", .meth "Exact" "__add__", .meth "Exact" "__sub__", .meth "Exact" "__mul__", .meth "Exact" "__radd__", .meth "Exact" "__rsub__", .meth "Exact" "__rmul__", .meth "Exact" "__neg__", .meth "Exact" "__eq__", .meth "Exact" "__lt__", .meth "Exact" "__le__", .meth "Exact" "__gt__", .meth "Exact" "__ge__", .glo "_law_fresh", .meth "Exact" "by", .glo "plain", .glo "is_list", .glo "slope", .glo "height_at", .glo "checked_points", .glo "bent", .meth "Line" "__eq__", .glo "rows_beside", .glo "merged", .glo "chosen", .meth "Line" "is_below", .meth "Line" "lower", .meth "Line" "upper", .glo "_law_fill", .glo "_law_take", .glo "_law_one", .glo "_law_gcd", .glo "_law_frac", .glo "_law_add", .glo "_law_mul", .glo "_law_less", .glo "_law_plain", .glo "_law_on", .glo "_law_over", .glo "_law_same", .glo "_law_moments", .glo "_law_drawn_course", .glo "_law_as_line", .glo "_law_lower", .glo "_law_under", .glo "law"]
def loose0 : List PySem.Str := ["_wall", "LevelError", "BadPart", "BadPoint", "BadMoment", "BadLine", "is_integer", "is_number", "common", "Exact", "part_of", "plain", "is_list", "checked_points", "slope", "bent", "Line", "height_at", "rows_beside", "merged", "chosen", "_law_fresh", "_law_fill", "_law_take", "_law_one", "_law_same", "_law_gcd", "_law_frac", "_law_add", "_law_mul"]
def loose1 : List PySem.Str := ["_law_less", "_law_plain", "_law_on", "_law_over", "_law_moments", "_law_drawn_course", "_law_as_line", "_law_lower", "_law_under"]
abbrev looseL : List PySem.Str := loose0 ++ loose1
abbrev lawI : Nat := 44
abbrev csL : List String := ["Exact", "Line"]
def exB (K : PySem.W.Frag) : Bool := exU K csL
abbrev R : PySem.W.OpenRow := PySem.W.OpenLaw.row PySem.Challenge.rw_surelevels_k12_lines_joined
abbrev hk : PySem.W.Hook := He.hookX 5 faL fnL [] [] exB
def ob (s : PySem.W.SharedT) : He.AlX := He.obsX 5 faL fnL [] [] exB (HandSHeadRun.getT s)
theorem ob_eq (s : PySem.W.SharedT) : ob s = hk.obs s.abs := He.obsX_eq (HandSHeadRun.getT_eq s)
theorem run (w : World) : HandSHeadRun.RunEq R (PySem.W.view R.prog [lawI]) hk ob 20000 looseL w := by
  intro os
  kernel_rfl
theorem facts {P : Program} {w : World} {K : PySem.W.Frag} {h : Heap} {mg : Str → Option Value} {fl : Addr} (XK : K.In h) (G : h.Ns mainGlobals mg) (hfa : mg ("law" : Str) = some (.ref fl)) (c : He.SaysX faL fnL [] [] exB w h K) :
    ∃ fd : FuncData, (∀ (s : Shared) (v : Value), BindsTo s fd ⟨[v], []⟩ [("_law_script", v)]) ∧ ∀ base : Heap, K.In base → base.Ns mainGlobals mg → FnOk P w K mg base CX0 12 fl fd ["_law_script"] (spLw K 11 1 (b_law csL)) := by
  have dS := c.t.d
  have hex := c.more
  obtain ⟨fd_is_integer, F_is_integer⟩ := dS.def_ 0 (d := dd_is_integer) rfl
  have b_is_integer := FunD.bindsN (ps := ["thing"]) F_is_integer fun _ _ _ _ _ _ us hl => match us, hl with | [_], _ => rfl
  have g_is_integer := He.glo_ok XK G (dS.fact 26 (f := .glo "is_integer") rfl)
  obtain ⟨fd_is_number, F_is_number⟩ := dS.def_ 1 (d := dd_is_number) rfl
  have b_is_number := FunD.bindsN (ps := ["thing"]) F_is_number fun _ _ _ _ _ _ us hl => match us, hl with | [_], _ => rfl
  have g_is_number := He.glo_ok XK G (dS.fact 27 (f := .glo "is_number") rfl)
  obtain ⟨fd_common, F_common⟩ := dS.def_ 2 (d := dd_common) rfl
  have b_common := FunD.bindsN (ps := ["a", "b"]) F_common fun _ _ _ _ _ _ us hl => match us, hl with | [_, _], _ => rfl
  have g_common := He.glo_ok XK G (dS.fact 28 (f := .glo "common") rfl)
  obtain ⟨fd_Exact___init__, F_Exact___init__⟩ := dS.def_ 3 (d := dd_Exact___init__) rfl
  obtain ⟨fd_part_of, F_part_of⟩ := dS.def_ 4 (d := dd_part_of) rfl
  have b_part_of := FunD.bindsN (ps := ["other"]) F_part_of fun _ _ _ _ _ _ us hl => match us, hl with | [_], _ => rfl
  have g_part_of := He.glo_ok XK G (dS.fact 29 (f := .glo "part_of") rfl)
  obtain ⟨fd_Exact___add__, F_Exact___add__⟩ := dS.def_ 5 (d := dd_Exact___add__) rfl
  have b_Exact___add__ := FunD.bindsN (ps := ["self", "other"]) F_Exact___add__ fun _ _ _ _ _ _ us hl => match us, hl with | [_, _], _ => rfl
  have me_Exact___add__ := He.meth_ok (dS.fact 30 (f := .meth "Exact" "__add__") rfl)
  obtain ⟨fd_Exact___sub__, F_Exact___sub__⟩ := dS.def_ 6 (d := dd_Exact___sub__) rfl
  have b_Exact___sub__ := FunD.bindsN (ps := ["self", "other"]) F_Exact___sub__ fun _ _ _ _ _ _ us hl => match us, hl with | [_, _], _ => rfl
  have me_Exact___sub__ := He.meth_ok (dS.fact 31 (f := .meth "Exact" "__sub__") rfl)
  obtain ⟨fd_Exact___mul__, F_Exact___mul__⟩ := dS.def_ 7 (d := dd_Exact___mul__) rfl
  have b_Exact___mul__ := FunD.bindsN (ps := ["self", "other"]) F_Exact___mul__ fun _ _ _ _ _ _ us hl => match us, hl with | [_, _], _ => rfl
  have me_Exact___mul__ := He.meth_ok (dS.fact 32 (f := .meth "Exact" "__mul__") rfl)
  obtain ⟨fd_Exact___radd__, F_Exact___radd__⟩ := dS.def_ 8 (d := dd_Exact___radd__) rfl
  have b_Exact___radd__ := FunD.bindsN (ps := ["self", "other"]) F_Exact___radd__ fun _ _ _ _ _ _ us hl => match us, hl with | [_, _], _ => rfl
  have me_Exact___radd__ := He.meth_ok (dS.fact 33 (f := .meth "Exact" "__radd__") rfl)
  obtain ⟨fd_Exact___rsub__, F_Exact___rsub__⟩ := dS.def_ 9 (d := dd_Exact___rsub__) rfl
  have b_Exact___rsub__ := FunD.bindsN (ps := ["self", "other"]) F_Exact___rsub__ fun _ _ _ _ _ _ us hl => match us, hl with | [_, _], _ => rfl
  have me_Exact___rsub__ := He.meth_ok (dS.fact 34 (f := .meth "Exact" "__rsub__") rfl)
  obtain ⟨fd_Exact___rmul__, F_Exact___rmul__⟩ := dS.def_ 10 (d := dd_Exact___rmul__) rfl
  have b_Exact___rmul__ := FunD.bindsN (ps := ["self", "other"]) F_Exact___rmul__ fun _ _ _ _ _ _ us hl => match us, hl with | [_, _], _ => rfl
  have me_Exact___rmul__ := He.meth_ok (dS.fact 35 (f := .meth "Exact" "__rmul__") rfl)
  obtain ⟨fd_Exact___neg__, F_Exact___neg__⟩ := dS.def_ 11 (d := dd_Exact___neg__) rfl
  have b_Exact___neg__ := FunD.bindsN (ps := ["self"]) F_Exact___neg__ fun _ _ _ _ _ _ us hl => match us, hl with | [_], _ => rfl
  have me_Exact___neg__ := He.meth_ok (dS.fact 36 (f := .meth "Exact" "__neg__") rfl)
  obtain ⟨fd_Exact___eq__, F_Exact___eq__⟩ := dS.def_ 12 (d := dd_Exact___eq__) rfl
  have b_Exact___eq__ := FunD.bindsN (ps := ["self", "other"]) F_Exact___eq__ fun _ _ _ _ _ _ us hl => match us, hl with | [_, _], _ => rfl
  have me_Exact___eq__ := He.meth_ok (dS.fact 37 (f := .meth "Exact" "__eq__") rfl)
  obtain ⟨fd_Exact___lt__, F_Exact___lt__⟩ := dS.def_ 13 (d := dd_Exact___lt__) rfl
  have b_Exact___lt__ := FunD.bindsN (ps := ["self", "other"]) F_Exact___lt__ fun _ _ _ _ _ _ us hl => match us, hl with | [_, _], _ => rfl
  have me_Exact___lt__ := He.meth_ok (dS.fact 38 (f := .meth "Exact" "__lt__") rfl)
  obtain ⟨fd_Exact___le__, F_Exact___le__⟩ := dS.def_ 14 (d := dd_Exact___le__) rfl
  have b_Exact___le__ := FunD.bindsN (ps := ["self", "other"]) F_Exact___le__ fun _ _ _ _ _ _ us hl => match us, hl with | [_, _], _ => rfl
  have me_Exact___le__ := He.meth_ok (dS.fact 39 (f := .meth "Exact" "__le__") rfl)
  obtain ⟨fd_Exact___gt__, F_Exact___gt__⟩ := dS.def_ 15 (d := dd_Exact___gt__) rfl
  have b_Exact___gt__ := FunD.bindsN (ps := ["self", "other"]) F_Exact___gt__ fun _ _ _ _ _ _ us hl => match us, hl with | [_, _], _ => rfl
  have me_Exact___gt__ := He.meth_ok (dS.fact 40 (f := .meth "Exact" "__gt__") rfl)
  obtain ⟨fd_Exact___ge__, F_Exact___ge__⟩ := dS.def_ 16 (d := dd_Exact___ge__) rfl
  have b_Exact___ge__ := FunD.bindsN (ps := ["self", "other"]) F_Exact___ge__ fun _ _ _ _ _ _ us hl => match us, hl with | [_, _], _ => rfl
  have me_Exact___ge__ := He.meth_ok (dS.fact 41 (f := .meth "Exact" "__ge__") rfl)
  obtain ⟨fd__law_fresh, F__law_fresh⟩ := dS.def_ 17 (d := dd__law_fresh) rfl
  have b__law_fresh := FunD.bindsN (ps := ["_law_script"]) F__law_fresh fun _ _ _ _ _ _ us hl => match us, hl with | [_], _ => rfl
  have g__law_fresh := He.glo_ok XK G (dS.fact 42 (f := .glo "_law_fresh") rfl)
  obtain ⟨fd_Exact_by, F_Exact_by⟩ := dS.def_ 18 (d := dd_Exact_by) rfl
  have b_Exact_by := FunD.bindsN (ps := ["self", "other"]) F_Exact_by fun _ _ _ _ _ _ us hl => match us, hl with | [_, _], _ => rfl
  have me_Exact_by := He.meth_ok (dS.fact 43 (f := .meth "Exact" "by") rfl)
  obtain ⟨fd_plain, F_plain⟩ := dS.def_ 19 (d := dd_plain) rfl
  have b_plain := FunD.bindsN (ps := ["number"]) F_plain fun _ _ _ _ _ _ us hl => match us, hl with | [_], _ => rfl
  have g_plain := He.glo_ok XK G (dS.fact 44 (f := .glo "plain") rfl)
  obtain ⟨fd_is_list, F_is_list⟩ := dS.def_ 20 (d := dd_is_list) rfl
  have b_is_list := FunD.bindsN (ps := ["thing"]) F_is_list fun _ _ _ _ _ _ us hl => match us, hl with | [_], _ => rfl
  have g_is_list := He.glo_ok XK G (dS.fact 45 (f := .glo "is_list") rfl)
  obtain ⟨fd_slope, F_slope⟩ := dS.def_ 21 (d := dd_slope) rfl
  have b_slope := FunD.bindsN (ps := ["one", "other"]) F_slope fun _ _ _ _ _ _ us hl => match us, hl with | [_, _], _ => rfl
  have g_slope := He.glo_ok XK G (dS.fact 46 (f := .glo "slope") rfl)
  obtain ⟨fd_height_at, F_height_at⟩ := dS.def_ 22 (d := dd_height_at) rfl
  have b_height_at := FunD.bindsN (ps := ["rows", "moment"]) F_height_at fun _ _ _ _ _ _ us hl => match us, hl with | [_, _], _ => rfl
  have g_height_at := He.glo_ok XK G (dS.fact 47 (f := .glo "height_at") rfl)
  obtain ⟨fd_checked_points, F_checked_points⟩ := dS.def_ 23 (d := dd_checked_points) rfl
  have b_checked_points := FunD.bindsN (ps := ["points"]) F_checked_points fun _ _ _ _ _ _ us hl => match us, hl with | [_], _ => rfl
  have g_checked_points := He.glo_ok XK G (dS.fact 48 (f := .glo "checked_points") rfl)
  obtain ⟨fd_bent, F_bent⟩ := dS.def_ 24 (d := dd_bent) rfl
  have b_bent := FunD.bindsN (ps := ["points"]) F_bent fun _ _ _ _ _ _ us hl => match us, hl with | [_], _ => rfl
  have g_bent := He.glo_ok XK G (dS.fact 49 (f := .glo "bent") rfl)
  obtain ⟨fd_Line___init__, F_Line___init__⟩ := dS.def_ 25 (d := dd_Line___init__) rfl
  have b_Line___init__ := FunD.bindsN (ps := ["self", "points"]) F_Line___init__ fun _ _ _ _ _ _ us hl => match us, hl with | [_, _], _ => rfl
  obtain ⟨fd_Line___eq__, F_Line___eq__⟩ := dS.def_ 26 (d := dd_Line___eq__) rfl
  have b_Line___eq__ := FunD.bindsN (ps := ["self", "other"]) F_Line___eq__ fun _ _ _ _ _ _ us hl => match us, hl with | [_, _], _ => rfl
  have me_Line___eq__ := He.meth_ok (dS.fact 50 (f := .meth "Line" "__eq__") rfl)
  obtain ⟨fd_rows_beside, F_rows_beside⟩ := dS.def_ 27 (d := dd_rows_beside) rfl
  have b_rows_beside := FunD.bindsN (ps := ["rows", "thing"]) F_rows_beside fun _ _ _ _ _ _ us hl => match us, hl with | [_, _], _ => rfl
  have g_rows_beside := He.glo_ok XK G (dS.fact 51 (f := .glo "rows_beside") rfl)
  obtain ⟨fd_merged, F_merged⟩ := dS.def_ 28 (d := dd_merged) rfl
  have b_merged := FunD.bindsN (ps := ["one", "other"]) F_merged fun _ _ _ _ _ _ us hl => match us, hl with | [_, _], _ => rfl
  have g_merged := He.glo_ok XK G (dS.fact 52 (f := .glo "merged") rfl)
  obtain ⟨fd_chosen, F_chosen⟩ := dS.def_ 29 (d := dd_chosen) rfl
  have b_chosen := FunD.bindsN (ps := ["one", "other", "is_greater"]) F_chosen fun _ _ _ _ _ _ us hl => match us, hl with | [_, _, _], _ => rfl
  have g_chosen := He.glo_ok XK G (dS.fact 53 (f := .glo "chosen") rfl)
  obtain ⟨fd_Line_is_below, F_Line_is_below⟩ := dS.def_ 30 (d := dd_Line_is_below) rfl
  have b_Line_is_below := FunD.bindsN (ps := ["self", "other"]) F_Line_is_below fun _ _ _ _ _ _ us hl => match us, hl with | [_, _], _ => rfl
  have me_Line_is_below := He.meth_ok (dS.fact 54 (f := .meth "Line" "is_below") rfl)
  obtain ⟨fd_Line_lower, F_Line_lower⟩ := dS.def_ 31 (d := dd_Line_lower) rfl
  have b_Line_lower := FunD.bindsN (ps := ["self", "other"]) F_Line_lower fun _ _ _ _ _ _ us hl => match us, hl with | [_, _], _ => rfl
  have me_Line_lower := He.meth_ok (dS.fact 55 (f := .meth "Line" "lower") rfl)
  obtain ⟨fd_Line_upper, F_Line_upper⟩ := dS.def_ 32 (d := dd_Line_upper) rfl
  have b_Line_upper := FunD.bindsN (ps := ["self", "other"]) F_Line_upper fun _ _ _ _ _ _ us hl => match us, hl with | [_, _], _ => rfl
  have me_Line_upper := He.meth_ok (dS.fact 56 (f := .meth "Line" "upper") rfl)
  obtain ⟨fd__law_fill, F__law_fill⟩ := dS.def_ 33 (d := dd__law_fill) rfl
  have b__law_fill := FunD.bindsN (ps := ["_law_state"]) F__law_fill fun _ _ _ _ _ _ us hl => match us, hl with | [_], _ => rfl
  have g__law_fill := He.glo_ok XK G (dS.fact 57 (f := .glo "_law_fill") rfl)
  obtain ⟨fd__law_take, F__law_take⟩ := dS.def_ 34 (d := dd__law_take) rfl
  have b__law_take := FunD.bindsN (ps := ["_law_state", "_law_many"]) F__law_take fun _ _ _ _ _ _ us hl => match us, hl with | [_, _], _ => rfl
  have g__law_take := He.glo_ok XK G (dS.fact 58 (f := .glo "_law_take") rfl)
  obtain ⟨fd__law_one, F__law_one⟩ := dS.def_ 35 (d := dd__law_one) rfl
  have b__law_one := FunD.bindsN (ps := ["_law_state", "_law_things"]) F__law_one fun _ _ _ _ _ _ us hl => match us, hl with | [_, _], _ => rfl
  have g__law_one := He.glo_ok XK G (dS.fact 59 (f := .glo "_law_one") rfl)
  obtain ⟨fd__law_gcd, F__law_gcd⟩ := dS.def_ 36 (d := dd__law_gcd) rfl
  have b__law_gcd := FunD.bindsN (ps := ["_law_a", "_law_b"]) F__law_gcd fun _ _ _ _ _ _ us hl => match us, hl with | [_, _], _ => rfl
  have g__law_gcd := He.glo_ok XK G (dS.fact 60 (f := .glo "_law_gcd") rfl)
  obtain ⟨fd__law_frac, F__law_frac⟩ := dS.def_ 37 (d := dd__law_frac) rfl
  have b__law_frac := FunD.bindsN (ps := ["_law_over_here", "_law_under_here"]) F__law_frac fun _ _ _ _ _ _ us hl => match us, hl with | [_, _], _ => rfl
  have g__law_frac := He.glo_ok XK G (dS.fact 61 (f := .glo "_law_frac") rfl)
  obtain ⟨fd__law_add, F__law_add⟩ := dS.def_ 38 (d := dd__law_add) rfl
  have b__law_add := FunD.bindsN (ps := ["_law_a", "_law_b"]) F__law_add fun _ _ _ _ _ _ us hl => match us, hl with | [_, _], _ => rfl
  have g__law_add := He.glo_ok XK G (dS.fact 62 (f := .glo "_law_add") rfl)
  obtain ⟨fd__law_mul, F__law_mul⟩ := dS.def_ 39 (d := dd__law_mul) rfl
  have b__law_mul := FunD.bindsN (ps := ["_law_a", "_law_b"]) F__law_mul fun _ _ _ _ _ _ us hl => match us, hl with | [_, _], _ => rfl
  have g__law_mul := He.glo_ok XK G (dS.fact 63 (f := .glo "_law_mul") rfl)
  obtain ⟨fd__law_less, F__law_less⟩ := dS.def_ 40 (d := dd__law_less) rfl
  have b__law_less := FunD.bindsN (ps := ["_law_a", "_law_b"]) F__law_less fun _ _ _ _ _ _ us hl => match us, hl with | [_, _], _ => rfl
  have g__law_less := He.glo_ok XK G (dS.fact 64 (f := .glo "_law_less") rfl)
  obtain ⟨fd__law_plain, F__law_plain⟩ := dS.def_ 41 (d := dd__law_plain) rfl
  have b__law_plain := FunD.bindsN (ps := ["_law_a"]) F__law_plain fun _ _ _ _ _ _ us hl => match us, hl with | [_], _ => rfl
  have g__law_plain := He.glo_ok XK G (dS.fact 65 (f := .glo "_law_plain") rfl)
  obtain ⟨fd__law_on, F__law_on⟩ := dS.def_ 42 (d := dd__law_on) rfl
  have b__law_on := FunD.bindsN (ps := ["_law_course", "_law_t"]) F__law_on fun _ _ _ _ _ _ us hl => match us, hl with | [_, _], _ => rfl
  have g__law_on := He.glo_ok XK G (dS.fact 66 (f := .glo "_law_on") rfl)
  obtain ⟨fd__law_over, F__law_over⟩ := dS.def_ 43 (d := dd__law_over) rfl
  have b__law_over := FunD.bindsN (ps := ["_law_a"]) F__law_over fun _ _ _ _ _ _ us hl => match us, hl with | [_], _ => rfl
  have g__law_over := He.glo_ok XK G (dS.fact 67 (f := .glo "_law_over") rfl)
  obtain ⟨fd__law_same, F__law_same⟩ := dS.def_ 44 (d := dd__law_same) rfl
  have b__law_same := FunD.bindsN (ps := ["_law_found", "_law_due"]) F__law_same fun _ _ _ _ _ _ us hl => match us, hl with | [_, _], _ => rfl
  have g__law_same := He.glo_ok XK G (dS.fact 68 (f := .glo "_law_same") rfl)
  obtain ⟨fd__law_moments, F__law_moments⟩ := dS.def_ 45 (d := dd__law_moments) rfl
  have b__law_moments := FunD.bindsN (ps := ["_law_rows"]) F__law_moments fun _ _ _ _ _ _ us hl => match us, hl with | [_], _ => rfl
  have g__law_moments := He.glo_ok XK G (dS.fact 69 (f := .glo "_law_moments") rfl)
  obtain ⟨fd__law_drawn_course, F__law_drawn_course⟩ := dS.def_ 46 (d := dd__law_drawn_course) rfl
  have b__law_drawn_course := FunD.bindsN (ps := ["_law_state", "_law_a", "_law_b"]) F__law_drawn_course fun _ _ _ _ _ _ us hl => match us, hl with | [_, _, _], _ => rfl
  have g__law_drawn_course := He.glo_ok XK G (dS.fact 70 (f := .glo "_law_drawn_course") rfl)
  obtain ⟨fd__law_as_line, F__law_as_line⟩ := dS.def_ 47 (d := dd__law_as_line) rfl
  have b__law_as_line := FunD.bindsN (ps := ["_law_course"]) F__law_as_line fun _ _ _ _ _ _ us hl => match us, hl with | [_], _ => rfl
  have g__law_as_line := He.glo_ok XK G (dS.fact 71 (f := .glo "_law_as_line") rfl)
  obtain ⟨fd__law_lower, F__law_lower⟩ := dS.def_ 48 (d := dd__law_lower) rfl
  have b__law_lower := FunD.bindsN (ps := ["_law_one_here", "_law_other"]) F__law_lower fun _ _ _ _ _ _ us hl => match us, hl with | [_, _], _ => rfl
  have g__law_lower := He.glo_ok XK G (dS.fact 72 (f := .glo "_law_lower") rfl)
  obtain ⟨fd__law_under, F__law_under⟩ := dS.def_ 49 (d := dd__law_under) rfl
  have b__law_under := FunD.bindsN (ps := ["_law_course"]) F__law_under fun _ _ _ _ _ _ us hl => match us, hl with | [_], _ => rfl
  have g__law_under := He.glo_ok XK G (dS.fact 73 (f := .glo "_law_under") rfl)
  obtain ⟨fd_law, F_law⟩ := dS.def_ 50 (d := dd_law) rfl
  have b_law := FunD.bindsN (ps := ["_law_script"]) F_law fun _ _ _ _ _ _ us hl => match us, hl with | [_], _ => rfl
  have g_law := He.glo_ok XK G (dS.fact 74 (f := .glo "law") rfl)
  have free_len := He.free_ok XK G (dS.fact 0 (f := .free "len") rfl)
  have free_int := He.free_ok XK G (dS.fact 1 (f := .free "int") rfl)
  have free_enumerate := He.free_ok XK G (dS.fact 2 (f := .free "enumerate") rfl)
  have free_isinstance := He.free_ok XK G (dS.fact 3 (f := .free "isinstance") rfl)
  have free_zip := He.free_ok XK G (dS.fact 4 (f := .free "zip") rfl)
  have free_all := He.free_ok XK G (dS.fact 5 (f := .free "all") rfl)
  have free_range := He.free_ok XK G (dS.fact 6 (f := .free "range") rfl)
  have free_list := He.free_ok XK G (dS.fact 7 (f := .free "list") rfl)
  have free_tuple := He.free_ok XK G (dS.fact 8 (f := .free "tuple") rfl)
  have free_bool := He.free_ok XK G (dS.fact 9 (f := .free "bool") rfl)
  have free_any := He.free_ok XK G (dS.fact 10 (f := .free "any") rfl)
  have free_sorted := He.free_ok XK G (dS.fact 11 (f := .free "sorted") rfl)
  have free_dict := He.free_ok XK G (dS.fact 12 (f := .free "dict") rfl)
  have free_str := He.free_ok XK G (dS.fact 13 (f := .free "str") rfl)
  have free_reversed := He.free_ok XK G (dS.fact 14 (f := .free "reversed") rfl)
  have free_repr := He.free_ok XK G (dS.fact 15 (f := .free "repr") rfl)
  have free_iter := He.free_ok XK G (dS.fact 16 (f := .free "iter") rfl)
  have g_Exact := He.glo_ok XK G (dS.fact 17 (f := .glo "Exact") rfl)
  have cls_Exact := He.cls_ok (dS.fact 18 (f := .cls "Exact") rfl)
  have noat_Exact_over := He.noat_ok (dS.fact 19 (f := .noat "Exact" "over") rfl)
  have noat_Exact_under := He.noat_ok (dS.fact 20 (f := .noat "Exact" "under") rfl)
  have mkr_Exact := He.mkr_ok (dS.fact 21 (f := .mkr "Exact") rfl)
  have g_Line := He.glo_ok XK G (dS.fact 22 (f := .glo "Line") rfl)
  have cls_Line := He.cls_ok (dS.fact 23 (f := .cls "Line") rfl)
  have noat_Line_rows := He.noat_ok (dS.fact 24 (f := .noat "Line" "rows") rfl)
  have mkr_Line := He.mkr_ok (dS.fact 25 (f := .mkr "Line") rfl)
  have e := hfa.symm.trans g_law
  cases e
  have bl := FunD.bindsA (ps := ["_law_script"]) F_law fun _ _ _ _ _ _ us hl => match us, hl with | [_], _ => rfl
  refine ⟨fd_law, fun s v => bl s [v] rfl, fun base _ _ => ?_⟩
  have hfr : ∀ x ∈ bltN, mg x = none := by
    intro x hx
    simp only [bltN, List.mem_cons, List.not_mem_nil, or_false] at hx
    rcases hx with rfl | rfl | rfl | rfl | rfl | rfl | rfl | rfl | rfl | rfl | rfl | rfl | rfl | rfl | rfl | rfl | rfl
    · exact free_len
    · exact free_int
    · exact free_enumerate
    · exact free_isinstance
    · exact free_zip
    · exact free_all
    · exact free_range
    · exact free_list
    · exact free_tuple
    · exact free_bool
    · exact free_any
    · exact free_sorted
    · exact free_dict
    · exact free_str
    · exact free_reversed
    · exact free_repr
    · exact free_iter
  have hcl : ∀ c ∈ csL, Cls K (kap K c) := by
    intro c hc
    simp only [csL, List.mem_cons, List.not_mem_nil, or_false] at hc
    rcases hc with rfl | rfl
    · exact cls_Exact
    · exact cls_Line
  have W : CW K (kap K) csL := exU_cw hex hcl (by decide) (by decide)
  have TE : XE K mg (kap K "Exact") := exU_xe hex (by decide) hfr cls_Exact noat_Exact_over noat_Exact_under g_Exact ⟨_, me_Exact___radd__.at_⟩ ⟨_, me_Exact___rsub__.at_⟩ ⟨_, me_Exact___rmul__.at_⟩
  have TX := TE.toXC
  have TB := TX.toBt
  have c_is_integer0 : C8.Cal P w K mg base 1 "is_integer" (spInt K) [] := ⟨_, _, _, _, ok_is_integer F_is_integer TB, g_is_integer, F_is_integer.kp, b_is_integer, .nil⟩
  have c_common : C8.Cal P w K mg base 1 "common" spGcd [] := ⟨_, _, _, _, ok_common F_common TB, g_common, F_common.kp, b_common, .nil⟩
  have oi := ok_Exact___init__ (P := P) (w := w) (base := base) F_Exact___init__ TX c_is_integer0 c_common
  obtain ⟨ds2, v2, b2⟩ := FunD.binds1 (ps := ["self", "over", "under"]) F_Exact___init__ 3 1 (by simp [dd_Exact___init__, He.DefD.dvs]) rfl (fun _ _ _ _ _ _ _ us its h1 h2 => match us, its, h1, h2 with | [_, _, _], [_], _, _ => ⟨_, rfl, rfl⟩)
  obtain ⟨ds1, v1, b1⟩ := FunD.binds1 (ps := ["self", "over", "under"]) F_Exact___init__ 2 0 (by simp [dd_Exact___init__, He.DefD.dvs]) rfl (fun _ _ _ _ _ _ _ us its h1 h2 => match us, its, h1, h2 with | [_, _], [_], _, _ => ⟨_, rfl, rfl⟩)
  have k_Exact : C8.Mak P w K mg base 2 "Exact" (kap K "Exact") (spInit (kap K "Exact")) [] := ⟨_, _, _, _, mkr_Exact, oi, g_Exact, b2, v2⟩
  have k_Exact1 : C8.Mak P w K mg base 2 "Exact" (kap K "Exact") (spInit (kap K "Exact")) [.int 1] := ⟨_, _, _, _, mkr_Exact, oi, g_Exact, b1, v1⟩
  have c_part_of0 : C8.Cal P w K mg base 4 "part_of" (spPart (kap K "Exact")) [] := ⟨_, _, _, _, ok_part_of F_part_of TX c_is_integer0 k_Exact1, g_part_of, F_part_of.kp, b_part_of, .nil⟩
  have c_is_number0 : C8.Cal P w K mg base 2 "is_number" (spNum K (kap K "Exact")) [] := ⟨_, _, _, _, ok_is_number F_is_number TX c_is_integer0, g_is_number, F_is_number.kp, b_is_number, .nil⟩
  have olt := ok_Exact___lt__ (P := P) (w := w) (base := base) F_Exact___lt__ TX c_part_of0
  have xlt : ∀ X : Cx, X.prog = P → X.w = w → X.K = K → X.mg = mg → X.base = base → OwnM X 5 (kap K "Exact") "__lt__" (spLt (kap K "Exact")) := by
    rintro X rfl rfl rfl rfl rfl
    exact ⟨_, _, _, me_Exact___lt__.at_, me_Exact___lt__.fn, olt, b_Exact___lt__⟩
  have ole := ok_Exact___le__ (P := P) (w := w) (base := base) F_Exact___le__ TX c_part_of0
  have xle : ∀ X : Cx, X.prog = P → X.w = w → X.K = K → X.mg = mg → X.base = base → OwnM X 5 (kap K "Exact") "__le__" (spLe (kap K "Exact")) := by
    rintro X rfl rfl rfl rfl rfl
    exact ⟨_, _, _, me_Exact___le__.at_, me_Exact___le__.fn, ole, b_Exact___le__⟩
  have ogt := ok_Exact___gt__ (P := P) (w := w) (base := base) F_Exact___gt__ TX c_part_of0
  have xgt : ∀ X : Cx, X.prog = P → X.w = w → X.K = K → X.mg = mg → X.base = base → OwnM X 5 (kap K "Exact") "__gt__" (spGt (kap K "Exact")) := by
    rintro X rfl rfl rfl rfl rfl
    exact ⟨_, _, _, me_Exact___gt__.at_, me_Exact___gt__.fn, ogt, b_Exact___gt__⟩
  have oge := ok_Exact___ge__ (P := P) (w := w) (base := base) F_Exact___ge__ TX c_part_of0
  have xge : ∀ X : Cx, X.prog = P → X.w = w → X.K = K → X.mg = mg → X.base = base → OwnM X 5 (kap K "Exact") "__ge__" (spGe (kap K "Exact")) := by
    rintro X rfl rfl rfl rfl rfl
    exact ⟨_, _, _, me_Exact___ge__.at_, me_Exact___ge__.fn, oge, b_Exact___ge__⟩
  have oeq := ok_Exact___eq__ (P := P) (w := w) (base := base) F_Exact___eq__ TX c_part_of0 c_is_number0
  have xeq : ∀ X : Cx, X.prog = P → X.w = w → X.K = K → X.mg = mg → X.base = base → OwnM X 5 (kap K "Exact") "__eq__" (spEqX K (kap K "Exact")) := by
    rintro X rfl rfl rfl rfl rfl
    exact ⟨_, _, _, me_Exact___eq__.at_, me_Exact___eq__.fn, oeq, b_Exact___eq__⟩
  have oadd := ok_Exact___add__ (P := P) (w := w) (base := base) F_Exact___add__ TX c_part_of0 k_Exact
  have xadd : ∀ X : Cx, X.prog = P → X.w = w → X.K = K → X.mg = mg → X.base = base → OwnM X 5 (kap K "Exact") "__add__" (spAdd (kap K "Exact")) := by
    rintro X rfl rfl rfl rfl rfl
    exact ⟨_, _, _, me_Exact___add__.at_, me_Exact___add__.fn, oadd, b_Exact___add__⟩
  have osub := ok_Exact___sub__ (P := P) (w := w) (base := base) F_Exact___sub__ TX c_part_of0 k_Exact
  have xsub : ∀ X : Cx, X.prog = P → X.w = w → X.K = K → X.mg = mg → X.base = base → OwnM X 5 (kap K "Exact") "__sub__" (spSub (kap K "Exact")) := by
    rintro X rfl rfl rfl rfl rfl
    exact ⟨_, _, _, me_Exact___sub__.at_, me_Exact___sub__.fn, osub, b_Exact___sub__⟩
  have omul := ok_Exact___mul__ (P := P) (w := w) (base := base) F_Exact___mul__ TX c_part_of0 k_Exact
  have xmul : ∀ X : Cx, X.prog = P → X.w = w → X.K = K → X.mg = mg → X.base = base → OwnM X 5 (kap K "Exact") "__mul__" (spMul (kap K "Exact")) := by
    rintro X rfl rfl rfl rfl rfl
    exact ⟨_, _, _, me_Exact___mul__.at_, me_Exact___mul__.fn, omul, b_Exact___mul__⟩
  have oneg := ok_Exact___neg__ (P := P) (w := w) (base := base) F_Exact___neg__ TX k_Exact
  have xneg : ∀ X : Cx, X.prog = P → X.w = w → X.K = K → X.mg = mg → X.base = base → OwnM X 5 (kap K "Exact") "__neg__" (spNeg (kap K "Exact")) := by
    rintro X rfl rfl rfl rfl rfl
    exact ⟨_, _, _, me_Exact___neg__.at_, me_Exact___neg__.fn, oneg, b_Exact___neg__⟩
  have oradd := ok_Exact___radd__ (P := P) (w := w) (base := base) F_Exact___radd__ TX c_part_of0 xadd
  have xradd : ∀ X : Cx, X.prog = P → X.w = w → X.K = K → X.mg = mg → X.base = base → OwnM X 6 (kap K "Exact") "__radd__" (spRadd (kap K "Exact")) := by
    rintro X rfl rfl rfl rfl rfl
    exact ⟨_, _, _, me_Exact___radd__.at_, me_Exact___radd__.fn, oradd, b_Exact___radd__⟩
  have orsub := ok_Exact___rsub__ (P := P) (w := w) (base := base) F_Exact___rsub__ TX c_part_of0 xsub
  have xrsub : ∀ X : Cx, X.prog = P → X.w = w → X.K = K → X.mg = mg → X.base = base → OwnM X 6 (kap K "Exact") "__rsub__" (spRsub (kap K "Exact")) := by
    rintro X rfl rfl rfl rfl rfl
    exact ⟨_, _, _, me_Exact___rsub__.at_, me_Exact___rsub__.fn, orsub, b_Exact___rsub__⟩
  have ormul := ok_Exact___rmul__ (P := P) (w := w) (base := base) F_Exact___rmul__ TX c_part_of0 xmul
  have xrmul : ∀ X : Cx, X.prog = P → X.w = w → X.K = K → X.mg = mg → X.base = base → OwnM X 6 (kap K "Exact") "__rmul__" (spRmul (kap K "Exact")) := by
    rintro X rfl rfl rfl rfl rfl
    exact ⟨_, _, _, me_Exact___rmul__.at_, me_Exact___rmul__.fn, ormul, b_Exact___rmul__⟩
  have std : ∀ {j : Nat} {nm : Str} {sp : Sp}, (∀ X : Cx, X.prog = P → X.w = w → X.K = K → X.mg = mg → X.base = base → OwnM X j (kap K "Exact") nm sp) → ∀ X, Std X P w K mg base → OwnM X j (kap K "Exact") nm sp := fun h X hX => h X hX.1 hX.2.1 hX.2.2.1 hX.2.2.2.1 hX.2.2.2.2
  have T : En P w K mg base (kap K) csL := ⟨⟨TE, std xadd, std xsub, std xmul, std xradd, std xrsub, std xrmul, std xneg, std xlt, std xle, std xgt, std xge, std xeq⟩, W, hfr, g_Exact⟩
  have c_is_integer := cal_imp c_is_integer0 (int_imp W)
  have c_is_number := cal_imp c_is_number0 (num_imp W)
  have c_part_of := cal_imp c_part_of0 (part_imp (κ := kap K))
  have m_Exact_by0 : C8.Met P w K mg base 5 (kap K "Exact") "by" (spBy (kap K "Exact")) [] := ⟨_, _, _, _, cls_Exact, me_Exact_by, ok_Exact_by F_Exact_by TX c_part_of0 k_Exact, b_Exact_by, .nil⟩
  have m_Exact_by := met_imp m_Exact_by0 (by_imp (κ := kap K))
  have c_plain0 : C8.Cal P w K mg base 5 "plain" (spPlain (kap K "Exact")) [] := ⟨_, _, _, _, ok_plain F_plain TX c_part_of0, g_plain, F_plain.kp, b_plain, .nil⟩
  have c_plain := cal_imp c_plain0 (plain_imp (κ := kap K))
  have c__law_fresh : C8.Cal P w K mg base 1 "_law_fresh" (spFr K) [] := ⟨_, _, _, _, ok__law_fresh F__law_fresh, g__law_fresh, F__law_fresh.kp, b__law_fresh, .nil⟩
  have f_Line_rows : Cls K (kap K "Line") ∧ NoAttr K (kap K "Line") "rows" := ⟨cls_Line, noat_Line_rows⟩
  have i_Line : "Line" ∈ csL := by decide
  have n_Line := exU_ne hex i_Line
  have x_Line : kap K "Line" ≠ kap K "Exact" := exU_x hex i_Line (by decide)
  have c_is_list : C8.Cal P w K mg base 2 "is_list" (spP (kap K) (m_is_list csL)) [] := ⟨_, _, _, _, ok_is_list F_is_list T , g_is_list, F_is_list.kp, b_is_list, .nil⟩
  have c_slope : C8.Cal P w K mg base 7 "slope" (spP (kap K) (m_slope csL)) [] := ⟨_, _, _, _, ok_slope F_slope T m_Exact_by, g_slope, F_slope.kp, b_slope, .nil⟩
  have c_height_at : C8.Cal P w K mg base 8 "height_at" (spP (kap K) (m_height_at csL)) [] := ⟨_, _, _, _, ok_height_at F_height_at T c_slope, g_height_at, F_height_at.kp, b_height_at, .nil⟩
  have c_checked_points : C8.Cal P w K mg base 7 "checked_points" (spP (kap K) (m_checked_points csL)) [] := ⟨_, _, _, _, ok_checked_points F_checked_points T c_part_of c_is_number c_is_list, g_checked_points, F_checked_points.kp, b_checked_points, .nil⟩
  have c_bent : C8.Cal P w K mg base 8 "bent" (spP (kap K) (m_bent csL)) [] := ⟨_, _, _, _, ok_bent F_bent T c_slope, g_bent, F_bent.kp, b_bent, .nil⟩
  have k_Line : C8.Mak P w K mg base 9 "Line" (kap K "Line") (spI (kap K) (m_Line___init__ csL)) [] := ⟨_, _, _, _, mkr_Line, ok_Line___init__ F_Line___init__ T f_Line_rows c_bent c_checked_points, g_Line, b_Line___init__, .nil⟩
  have e_Line : ∀ X, Std X P w K mg base → OwnM X 9 (kap K "Line") "__eq__" (spP (kap K) (m_Line___eq__ csL)) := by
    rintro X ⟨rfl, rfl, rfl, rfl, rfl⟩
    exact ⟨_, _, _, me_Line___eq__.at_, me_Line___eq__.fn, ok_Line___eq__ F_Line___eq__ T f_Line_rows g_Line i_Line, b_Line___eq__⟩
  have c_rows_beside : C8.Cal P w K mg base 7 "rows_beside" (spP (kap K) (m_rows_beside csL)) [] := ⟨_, _, _, _, ok_rows_beside F_rows_beside T f_Line_rows g_Line i_Line, g_rows_beside, F_rows_beside.kp, b_rows_beside, .nil⟩
  have c_merged : C8.Cal P w K mg base 7 "merged" (spP (kap K) (m_merged csL)) [] := ⟨_, _, _, _, ok_merged F_merged T , g_merged, F_merged.kp, b_merged, .nil⟩
  have c_chosen : C8.Cal P w K mg base 9 "chosen" (spP (kap K) (m_chosen csL)) [] := ⟨_, _, _, _, ok_chosen F_chosen T c_merged c_height_at m_Exact_by, g_chosen, F_chosen.kp, b_chosen, .nil⟩
  have m_Line_is_below : C8.Met P w K mg base 9 (kap K "Line") "is_below" (spP (kap K) (m_Line_is_below csL)) [] := ⟨_, _, _, _, cls_Line, me_Line_is_below, ok_Line_is_below F_Line_is_below T c_merged f_Line_rows c_height_at c_rows_beside, b_Line_is_below, .nil⟩
  have m_Line_lower : C8.Met P w K mg base 11 (kap K "Line") "lower" (spP (kap K) (m_Line_lower csL)) [] := ⟨_, _, _, _, cls_Line, me_Line_lower, ok_Line_lower F_Line_lower T k_Line c_chosen c_rows_beside f_Line_rows x_Line, b_Line_lower, .nil⟩
  have m_Line_upper : C8.Met P w K mg base 11 (kap K "Line") "upper" (spP (kap K) (m_Line_upper csL)) [] := ⟨_, _, _, _, cls_Line, me_Line_upper, ok_Line_upper F_Line_upper T k_Line c_chosen c_rows_beside f_Line_rows x_Line, b_Line_upper, .nil⟩
  have c__law_fill : C8.Cal P w K mg base 7 "_law_fill" (spI (kap K) (m__law_fill csL)) [] := ⟨_, _, _, _, ok__law_fill F__law_fill T , g__law_fill, F__law_fill.kp, b__law_fill, .nil⟩
  have c__law_take : C8.Cal P w K mg base 8 "_law_take" (spI (kap K) (m__law_take csL)) [] := ⟨_, _, _, _, ok__law_take F__law_take T c__law_fill, g__law_take, F__law_take.kp, b__law_take, .nil⟩
  have c__law_one : C8.Cal P w K mg base 9 "_law_one" (spI (kap K) (m__law_one csL)) [] := ⟨_, _, _, _, ok__law_one F__law_one T c__law_take, g__law_one, F__law_one.kp, b__law_one, .nil⟩
  have c__law_gcd : C8.Cal P w K mg base 7 "_law_gcd" (spP (kap K) (m__law_gcd csL)) [] := ⟨_, _, _, _, ok__law_gcd F__law_gcd T , g__law_gcd, F__law_gcd.kp, b__law_gcd, .nil⟩
  have c__law_frac : C8.Cal P w K mg base 8 "_law_frac" (spP (kap K) (m__law_frac csL)) [] := ⟨_, _, _, _, ok__law_frac F__law_frac T c__law_gcd, g__law_frac, F__law_frac.kp, b__law_frac, .nil⟩
  have c__law_add : C8.Cal P w K mg base 9 "_law_add" (spP (kap K) (m__law_add csL)) [] := ⟨_, _, _, _, ok__law_add F__law_add T c__law_frac, g__law_add, F__law_add.kp, b__law_add, .nil⟩
  have c__law_mul : C8.Cal P w K mg base 9 "_law_mul" (spP (kap K) (m__law_mul csL)) [] := ⟨_, _, _, _, ok__law_mul F__law_mul T c__law_frac, g__law_mul, F__law_mul.kp, b__law_mul, .nil⟩
  have c__law_less : C8.Cal P w K mg base 7 "_law_less" (spP (kap K) (m__law_less csL)) [] := ⟨_, _, _, _, ok__law_less F__law_less T , g__law_less, F__law_less.kp, b__law_less, .nil⟩
  have c__law_plain : C8.Cal P w K mg base 7 "_law_plain" (spP (kap K) (m__law_plain csL)) [] := ⟨_, _, _, _, ok__law_plain F__law_plain T k_Exact, g__law_plain, F__law_plain.kp, b__law_plain, .nil⟩
  have c__law_on : C8.Cal P w K mg base 10 "_law_on" (spP (kap K) (m__law_on csL)) [] := ⟨_, _, _, _, ok__law_on F__law_on T c__law_add c__law_mul c__law_frac c__law_less, g__law_on, F__law_on.kp, b__law_on, .nil⟩
  have c__law_over : C8.Cal P w K mg base 9 "_law_over" (spP (kap K) (m__law_over csL)) [] := ⟨_, _, _, _, ok__law_over F__law_over T c__law_frac, g__law_over, F__law_over.kp, b__law_over, .nil⟩
  have c__law_same := ok__law_same F__law_same T g__law_same F__law_same.kp b__law_same  3
  have c__law_moments : C8.Cal P w K mg base 8 "_law_moments" (spP (kap K) (m__law_moments csL)) [] := ⟨_, _, _, _, ok__law_moments F__law_moments T c__law_less, g__law_moments, F__law_moments.kp, b__law_moments, .nil⟩
  have c__law_drawn_course : C8.Cal P w K mg base 10 "_law_drawn_course" (spI (kap K) (m__law_drawn_course csL)) [] := ⟨_, _, _, _, ok__law_drawn_course F__law_drawn_course T c__law_moments c__law_frac c__law_one c__law_take, g__law_drawn_course, F__law_drawn_course.kp, b__law_drawn_course, .nil⟩
  have c__law_as_line : C8.Cal P w K mg base 11 "_law_as_line" (spP (kap K) (m__law_as_line csL)) [] := ⟨_, _, _, _, ok__law_as_line F__law_as_line T k_Line c__law_plain x_Line, g__law_as_line, F__law_as_line.kp, b__law_as_line, .nil⟩
  have c__law_lower : C8.Cal P w K mg base 11 "_law_lower" (spP (kap K) (m__law_lower csL)) [] := ⟨_, _, _, _, ok__law_lower F__law_lower T c__law_less c__law_on c__law_add c__law_mul c__law_over c__law_moments, g__law_lower, F__law_lower.kp, b__law_lower, .nil⟩
  have c__law_under : C8.Cal P w K mg base 7 "_law_under" (spP (kap K) (m__law_under csL)) [] := ⟨_, _, _, _, ok__law_under F__law_under T , g__law_under, F__law_under.kp, b__law_under, .nil⟩
  exact ok_law F_law T m_Line_is_below m_Line_upper m_Line_lower e_Line i_Line n_Line c__law_same c__law_as_line c__law_under c__law_lower c__law_take c__law_add c__law_drawn_course c__law_fresh
end LW
open PySem PySem.W PySem.Calls PyProof.Rows
theorem PySem.Challenge.cw_surelevels_k12_lines_joined_holds : PySem.Challenge.rw_surelevels_k12_lines_joined.Holds := by
  w_on; o_law
  refine HandSHeadRun.head_any (r := OpenLaw.row PySem.Challenge.rw_surelevels_k12_lines_joined) (q := view (OpenLaw.row PySem.Challenge.rw_surelevels_k12_lines_joined).prog [LW.lawI]) (H := LW.hk) (ob := LW.ob) (M := 20000) (loose := LW.looseL) (d := HandSHeadRun.topDef (OpenLaw.row PySem.Challenge.rw_surelevels_k12_lines_joined).prog LW.lawI) (kwd := []) LW.ob_eq
    (by kernel_rfl) (fun s => by kernel_rfl) LW.run (by kernel_rfl) (by kernel_rfl) (by kernel_rfl) (by rfl) (by first | assumption | decide +kernel) (by decide +kernel) ⟨rfl, rfl, rfl, rfl, rfl, by decide +kernel⟩ ?hw ?hc
  case hw => w_witness2
  case hc =>
    refine L2.walk_ofE (l := PySem.Challenge.rw_surelevels_k12_lines_joined) (n := 63) (k := 12) (x := "_law_script") (CX := L2.CX0) rfl (by decide) (by kernel_rfl) ⟨rfl, by decide, by decide⟩ ?F (fun _ _ _ _ z => z)
    intro w mg fa h Y G hmg0
    obtain ⟨K, KX, c⟩ := Y
    have hmg : mg ("law" : PySem.Str) = some (.ref fa) := by
      have e : (HandSHeadRun.topDef (OpenLaw.row PySem.Challenge.rw_surelevels_k12_lines_joined).prog LW.lawI).name = ("law" : PySem.Str) := by kernel_rfl
      rw [← e]
      exact hmg0
    obtain ⟨fd, hb, hF⟩ := LW.facts (P := (PySem.Challenge.rw_surelevels_k12_lines_joined).prog) (w := w) KX G hmg c
    refine ⟨K, fd, LW.spLw K _ _ _, KX, hb, fun H a ns hl _ hS => ?_, hF⟩
    obtain ⟨e, he⟩ := LW.law_true ns hl
    exact ⟨a, ns, e, rfl, hS, hl, he, fun _ => rfl⟩
#print axioms PySem.Challenge.cw_surelevels_k12_lines_joined_holds
