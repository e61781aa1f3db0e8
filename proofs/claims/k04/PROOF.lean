import PyProof.Rows.All
import Wide.All
import OpenK.AllK
import Wide.FinOn
import HandS.ForMost
import HandS.Wide
import HandS.IsInst
import HandS.OwnEq
import HandS.Zip
import HandS.Defaults
import KE.GoesMore
import KE.GoesEnum
import KE.KOpsOwn
import HandS.Walk
import HandS.Evl
import HandS.Codes
import HandS.Style
import HandS.Steps
import HandS.Star
import PyProof.NeKinds
import HandS.Text
import HandS.Lambda
import HandS.TryOnly
import HandS.Iter
import KE.KSuper
import KE.KExcSuper
import HandS.Exc
import HandS.ExcOwn
import HandS.ExcIs
import HandS.ExcField
import HandS.HotCalls
import HandS.Dict
import HandS.Small
import HandS.SortInts
import HandS.NamedTupGet
import PySem.Challenge.RW_surelevels_k04_number_texts
import HandS.TupAny
import HandS.DictComp
import PyProof.Rows.StrIntSpec
import HandS.FStr
import HandS.Replace
import HandS.HeadHook4
import PyProof.MeetsSeq
import HandS.DeepEq
import HandS.ClsMeth
import HandS.EndTab
import HandS.HeadWalk
import HandS.HeadNt
import Lean
import KE.KStateDown
import HandS.More
import HandS.Head0
import HandS.Head1
import HandS.Head2
import HandS.HeadEnd
import HandS.HeadHook1
import HandS.HeadHook2
import HandS.HeadHook3
set_option Elab.async false
set_option linter.all false
set_option maxRecDepth 100000
set_option maxHeartbeats 2000000
namespace LV
open PySem PySem.Spec PyProof.Rows L2
/-! enumerate over a tuple -/
theorem newE1 {v : Value} {o : Obj} {H : Heap → Prop} (B : Begins v o H) :
    Meets (Builtin.«enumerate.__new__» ⟨[.type "enumerate", v], []⟩) (fun _ R s => H s.heap ∧
      R (.ok (.ret (.ref (s.heap.push o).objs.size))) { s with heap := (s.heap.push o).push { cls := .type "enumerate", data := .fields #[.none, .bool false, .ref s.heap.objs.size, rawInt 0, .none, .none] } }) :=
  .of_wp fun prog w A R sh hh => by
    obtain ⟨hp, ge, dr, tk, os⟩ := sh
    obtain ⟨hb, hh⟩ := hh
    have subE := sub_enumerate
    have qi : ∀ {A' : Around} {E : Value → Shared → Prop} {Q : Value → Shared → Prop}, Q (.ref hp.objs.size) ⟨hp.push o, ge, dr, tk, os⟩ → wpAny (model prog w) A' (pyIter v) Q E ⟨hp, ge, dr, tk, os⟩ :=
      fun q => B.iter prog w _ _ ⟨hp, ge, dr, tk, os⟩ _ hb q
    wp_walk using qi
    refine wpAny_stack_any fun st => wpAny_pure ?_
    split
    · rename_i c _ _ _ _ _
      cases (c == Value.type "enumerate") <;>
      · wp_walk using qi
        exact ⟨_, rfl, hh⟩
    · wp_walk using qi
      exact ⟨_, rfl, hh⟩
theorem callE1 {prog : Program} {w : World} {A : Around} {E : Value → Shared → Prop} {s : Shared} {v : Value} {o : Obj} {H : Heap → Prop} {Q : Value → Shared → Prop} (B : Begins v o H) (hH : H s.heap)
    (h : ∀ h', IsEnum h' (s.heap.objs.size + 1) s.heap.objs.size 0 .none → h'.get? s.heap.objs.size = some o →
      (∀ b o, s.heap.get? b = some o → h'.get? b = some o) → Q (.ref (s.heap.objs.size + 1)) { s with heap := h' }) :
    wpAny (model prog w) A (call (.type "enumerate") [v]) Q E s := by
  refine callType_new F.called_enumerate (by decide) (F.typeCall_enumerate_1 _) (F.newCall_enumerate_1 _) (fun ob => F.args_object_init_2 ob _) F.entry_enumerate_new
    (newE1 B) ⟨hH, ?_⟩
  have hz : (s.heap.push o).objs.size = s.heap.objs.size + 1 := Heap.size_push ..
  show _ ∧ _
  rw [hz]
  have he : IsEnum ((s.heap.push o).push { cls := .type "enumerate", data := .fields #[.none, .bool false, .ref s.heap.objs.size, rawInt 0, .none, .none] }) (s.heap.objs.size + 1) s.heap.objs.size 0 .none := by
    have q := Heap.get?_push_size (s.heap.push o) (o := { cls := .type "enumerate", data := .fields #[.none, .bool false, .ref s.heap.objs.size, rawInt 0, .none, .none] }) rfl
    rw [hz] at q
    exact q
  exact ⟨⟨_, he, rfl⟩, h _ he (Heap.get?_push_of_some _ (Heap.get?_push_size _ B.free)) fun b o x => Heap.get?_push_of_some _ (Heap.get?_push_of_some _ x)⟩
/-- the tuple at a, each item in a new pair -/
def IteT (K : PySem.W.Frag) (a : Addr) : It :=
  ⟨fun i H => ∃ (xs : List V) (x : V), SqT K H a xs ∧ xs[i]? = some x, fun i H v H' => ∃ T x, v = .ref T ∧ H T = none ∧ H' = upd H T (.tup [.int (i : Nat), x]) ∧ ∀ xs, SqT K H a xs → xs[i]? = some x,
    fun i H => ∃ xs : List V, SqT K H a xs ∧ xs.length = i⟩
theorem turnET {P : Program} {w : World} {K : PySem.W.Frag} {elts : List Expr} {kk : Nat} {tpos : Pos} (a e it : Addr) :
    Turn P w K (.Tuple elts kk tpos) (IteT K a) [e, it] e (fun i h => (∃ old, IsEnum h e it ((i : Nat) : Int) old) ∧ h.IsTupleIter it a i ∧ e ≠ it) where
  mem := by simp
  obj := fun i h st b hb => by
    obtain ⟨⟨old, he⟩, ⟨o, ho, hc, hd⟩, _⟩ := st
    have eb : b = e ∨ b = it := by simpa using hb
    rcases eb with z | z
    · rw [z]
      exact ⟨_, he, fun v q => nomatch q⟩
    · rw [z]
      exact ⟨o, ho, fun v q => by rw [hd] at q; cases q⟩
  keep := fun i h h' st k => let ⟨⟨old, he⟩, hi, hne⟩ := st; ⟨⟨old, k e (by simp) _ he⟩, hi.at fun o q => k it (by simp) o q, hne⟩
  item := by
    intro X hP hw hK hc i pins s σ H E I hf st hg
    subst hP hw hK
    obtain ⟨⟨old, he⟩, hit, hne⟩ := st
    obtain ⟨xs, x, hq, hx⟩ := hg
    obtain ⟨its, rv, p, hz⟩ := I.tuple hq
    obtain ⟨u, hu, ru⟩ := rv.get hx
    obtain ⟨oa, hoa, hca, na, hda⟩ := id p
    have hel : e < s.heap.objs.size := Heap.lt_size he
    have hil : it < s.heap.objs.size := by
      obtain ⟨_, q, _⟩ := hit
      exact Heap.lt_size q
    have hae : a ≠ e := fun z => by
      rw [z, he] at hoa
      cases hoa
      injection hca with q
      exact absurd q (by decide)
    have hai : a ≠ it := fun z => by
      obtain ⟨oi, q, hci, _⟩ := hit
      rw [z, q] at hoa
      cases hoa
      rw [hci] at hca
      injection hca with q2
      exact absurd q2 (by decide)
    have hlt : i < its.toArray.size := by
      have q := (List.getElem?_eq_some_iff.mp hu).1
      simpa using q
    have D : Draws X.prog X.w X.A.in1 it [it, a] its.toArray.size (fun i v => its.toArray[i]? = some v) (fun i h => h.IsTupleIter it a i ∧ h.IsTuple a its.toArray) := Draws.tuple (A := X.A.in1) (show X.A.in1.handled = none from I.ok.hd hc) it a hai its.toArray
    refine wpAny_pyNext_enum_itemD D he ⟨hit, p⟩ hlt hne (by simp [hne, Ne.symm hae]) fun x' h' tk hx' ho hst hT hsz hk => ?_
    have exu : x' = u := by
      have q : its[i]? = some x' := by simpa using hx'
      rw [hu] at q
      exact (Option.some.inj q).symm
    subst exu
    refine ⟨_, rfl, wpAny_letOwnedTupleGo_enum (s := { s with heap := h', toks := tk + 1 }) ho fun h'' he' sb => ?_⟩
    have hT2 : h''.get? s.heap.objs.size = some { cls := .type "tuple", data := .seq #[.int i tk, x'] } := (sb.2 _ (Nat.ne_of_gt hel)).trans hT
    have new : ObjOk X.prog X.w (upd H s.heap.objs.size (.tup [.int (i : Nat), x])) h'' s.heap.objs.size (.tup [.int (i : Nat), x]) :=
      ⟨by show 2 ≤ sizeLine; decide, [.int i tk, x'], .cons ⟨_, rfl⟩ (.cons ru .nil), ⟨_, hT2, rfl, _, rfl⟩⟩
    have I1 : Inv X pins σ (upd H s.heap.objs.size (.tup [.int (i : Nat), x])) { s with heap := h'', toks := tk + 1 } :=
      I.turnedNew (ch := [e, it]) (fun b ob hb q => (sb.2 b (fun z => hb (by simp [z]))).trans (hk b ob (fun z => hb (by simp [z])) (fun z => hb (by simp [z])) q)) hf (Nat.le_refl _) new
    refine ⟨.ref s.heap.objs.size, _, I1, rfl, ⟨_, x, rfl, I.hok.fresh (Nat.le_refl _), rfl, fun ys hy => by rw [I.tuple_inj hy hq]; exact hx⟩, ⟨⟨x', ?_⟩, hst.1.at fun o q => (sb.2 it (Ne.symm hne)).trans q, hne⟩, fun b hb => ?_⟩
    · have e1 : ((i + 1 : Nat) : Int) = (i : Int) + 1 := by omega
      rw [e1]
      exact he'
    · have hb' : b < s.heap.objs.size := by
        have eb : b = e ∨ b = it := by simpa using hb
        rcases eb with z | z
        · rw [z]
          exact hel
        · rw [z]
          exact hil
      rw [upd_ne (Nat.ne_of_lt hb')]
      exact (hf b hb).1
  done := by
    intro X hP hw hK hc i pins s σ H E I hf st hg
    subst hP hw hK
    obtain ⟨⟨old, he⟩, hit, hne⟩ := st
    obtain ⟨xs, hq, hx⟩ := hg
    obtain ⟨its, rv, p, hz⟩ := I.tuple hq
    obtain ⟨oa, hoa, hca, na, hda⟩ := id p
    have hai : a ≠ it := fun z => by
      obtain ⟨oi, q, hci, _⟩ := hit
      rw [z, q] at hoa
      cases hoa
      rw [hci] at hca
      injection hca with q2
      exact absurd q2 (by decide)
    obtain ⟨f0, f1, f2, f3, f4, f5⟩ := hf it (by simp)
    have hl := rv.length
    have D : Draws X.prog X.w X.A.in1 it [it, a] its.toArray.size (fun i v => its.toArray[i]? = some v) (fun i h => h.IsTupleIter it a i ∧ h.IsTuple a its.toArray) := Draws.tuple (A := X.A.in1) (show X.A.in1.handled = none from I.ok.hd hc) it a hai its.toArray
    have hsz : its.toArray.size = i := by
      rw [List.size_toArray]
      omega
    have st : s.heap.IsTupleIter it a its.toArray.size ∧ s.heap.IsTuple a its.toArray := by
      rw [hsz]
      exact ⟨hit, p⟩
    exact wpAny_pyNext_enum_endD D he st fun h' eb => ⟨rfl, I.turned (t' := s.toks) (fun b o hb q => eb b o hb q) f0 f1 f3 f4 f5⟩
  self := fun A i s Q E st h => let ⟨⟨_, he⟩, _⟩ := st; wpAny_pyIter_enum he h
def iEnumT (K : PySem.W.Frag) (ta : TA) : TI := fun σ H R => ta σ H fun vs H1 => ∃ a xs, vs = [.ref a] ∧ SqT K H1 a xs ∧ R (IteT K a) H1
theorem pi_enumT {X : Cx} {e : Expr} {ta : TA} {p pos tpos : Pos} {elts : List Expr} {kk : Nat} (hg : Gl X "enumerate") (hm : X.mg "enumerate" = none) (ha : PA X [e] ta) (hs : starEach [e] X.env = [(false, eval e X.env)] := by rfl) :
    PI X (.Tuple elts kk tpos) (.Call (.Name "enumerate" p) [e] [] pos) (iEnumT X.K ta) := by
  refine ⟨fun pins s σ H R I h => ?_⟩
  refine Call_ (ld_blt I hg hm boot_enumerate (PyProof.Rows.callWith_type1 (thn (ha.run pos pins s σ H _ I h) fun us s1 ⟨vs, H1, I1, r1, q1⟩ => ?_) hs rfl))
  obtain ⟨a, xs, ex, hq, q⟩ := q1
  subst ex
  cases r1 with
  | cons r rr =>
    cases rr
    cases r
    obtain ⟨its, rv, p', hz⟩ := I1.tuple hq
    refine callE1 (begins_tuple a its.toArray) p' fun h' he hit hk => wpAny_pyIter_enum he ?_
    have I2 : Inv X pins σ H1 { s1 with heap := h' } := I1.kept (t' := s1.toks) hk
    refine ⟨s1.heap.objs.size + 1, [s1.heap.objs.size + 1, s1.heap.objs.size], _, _, H1, rfl, I2, turnET a (s1.heap.objs.size + 1) s1.heap.objs.size, ⟨⟨.none, he⟩, ⟨_, hit, rfl, rfl⟩, Nat.succ_ne_self _⟩, fun b hb => ?_, q⟩
    have eb : b = s1.heap.objs.size + 1 ∨ b = s1.heap.objs.size := by simpa using hb
    have hle : s1.heap.objs.size ≤ b := by
      rcases eb with z | z
      · rw [z]
        exact Nat.le_add_right _ _
      · rw [z]
        exact Nat.le_refl _
    exact I1.fpOk hle (I1.hok.fresh hle)
end LV
set_option Elab.async false
set_option linter.all false
set_option maxRecDepth 100000
set_option maxHeartbeats 2000000
namespace LV
open PySem PySem.Spec PyProof.Rows L2
/-! an int's own method is asked with an instance: NotImplemented -/
section
variable {prog : Program} {w : World} {A : Around} {E : Value → Shared → Prop} {s : Shared}
theorem niBin {nm : String} {f : Int → Int → Sem Fin} {i : Int} {t : Tok} {x C dx : Addr} {M : Model} {Q : Value → Shared → Prop} (hx : s.heap.get? x = some (PySem.W.instObj C dx)) (h : Q .notImplemented s) :
    wpAny M A (Builtin.Int.intBinary nm f false ⟨[.int i t, .ref x], []⟩) (fun fin s' => ∃ v, fin = .done (.ret v) ∧ Q v s') E s := by
  obtain ⟨hp, ge, dr, tk, os⟩ := s
  unfold Builtin.Int.intBinary
  wp_walk using wpAny_load hx
  exact ⟨_, rfl, h⟩
/-- int op instance: the instance's reflected method -/
theorem tryN {nm : Str} {id : String} {B : Builtin} {i : Int} {t : Tok} {x : Addr} {Q : Option Value → Shared → Prop} (slot : Slot "int" nm id) (entry : entryFor table id = some B) (args : argsOk id ⟨[.int i t, .ref x], []⟩)
    (hB : ∀ (A' : Around) (Q' : Value → Shared → Prop), Q' .notImplemented s → wpAny (model prog w) A' (B ⟨[.int i t, .ref x], []⟩) (fun fin s' => ∃ v, fin = PySem.Fin.done (.ret v) ∧ Q' v s') E s) (h : Q none s) :
    wpAny (model prog w) A (tryMethod (.int i t) nm (.ref x)) Q E s := by
  unfold tryMethod
  refine wpAny_bind (wpAny_callSpecial?_slot (typeIs_int s i t) slot (wpAny_call_entry slot (typeIs_int s i t) entry (hB _ _ ?_) args))
  exact wpAny_pure h
open PySem.W in
theorem binRefl {K : Frag} {x C dx f : Addr} {i : Int} {t : Tok} {h0 : Heap} {L : Addr} {m : Str → Option Value} {od : Option Obj} {op : Operator} {Q : Value → Shared → Prop} (F : Fr h0 L s.heap m) (X0 : K.In h0) (I : InstAt s.heap x (instObj C dx) C od) (hc : selfFirst K C = true)
    (hs : findIn K (.ref C) (PySem.dunder op.info.2) = some (some (.ref f0))) (hr : findIn K (.ref C) (dunderR op.info.2) = some (some (.ref f))) (hf : isFn K (.ref f) = true)
    (hsub : subIn K (.ref C) (.type "int") = some false) (hfl : fillsNumberSlot (.type "int") op.info.2 = pure true)
    (h1 : ∀ Q' : Option Value → Shared → Prop, Q' none s → wpAny (model prog w) A (tryMethod (.int i t) (PySem.dunder op.info.2) (.ref x)) Q' E s)
    (h : wpAny (model prog w) A (call (.ref f) [.ref x, .int i t]) (W.CmpBack Q) E s) : wpAny (model prog w) A (binaryOp op (.int i t) (.ref x)) Q E s := by
  have X := X0.keeps F.keep
  obtain ⟨cd, rest, hcd, hm⟩ := ksp_first hc
  rcases hi : op.info with ⟨sym, nm⟩
  rw [hi] at hs hr hfl h1
  dsimp only at hs hr hfl h1
  have one := ksp_try (E := E) X I hr hf h
  obtain ⟨hh, ge, dr, tt, os⟩ := s
  have L1 : Looks (model prog w) hh (typeOf (.ref x)) (.ref C) := I.type
  have L2 : Looks (model prog w) hh (typeOf (.int i t)) (.type "int") := Looks.of_pure rfl
  have L3 : Looks (model prog w) hh (fillsNumberSlot (.ref C) nm) true := fills_K X hcd hm hs
  have L4 : Looks (model prog w) hh (fillsNumberSlot (.type "int") nm) true := Looks.of_pure hfl
  have L5 : Looks (model prog w) hh (isSubtype (.ref C) (.type "int")) false := looks_subIn X hsub
  have L7 : Looks (model prog w) hh (numberSlotInPython (.type "int") nm) false := Looks.of_pure rfl
  have hne : (Value.type "int" == Value.ref C) = false := Bool.eq_false_iff.mpr fun q => by cases beq_iff_eq.mp q
  simp only [binaryOp, hi]
  refine wpAny_holding (wpAny_bind ?_)
  unfold binaryOp1
  refine wpAny_bind (L2.at (wpAny_bind (L1.at (wpAny_bind (L4.at ?_)))))
  simp only [hne, Bool.false_eq_true, if_false]
  ksp_lk
  refine h1 _ ?_
  ksp_lk
  refine wpAny_mono one (fun r s' hr' => ?_) fun _ _ e => e
  obtain ⟨v, rfl, hq⟩ := hr'
  ksp_lk
  exact hq
end
end LV
set_option Elab.async false
set_option linter.all false
set_option maxRecDepth 100000
set_option maxHeartbeats 2000000
namespace LV
open PySem PySem.Spec PyProof.Rows L2
/-! own operators over the layer -/
theorem backEP {X : Cx} {pins : List (Addr × Obj)} {σ : L2.St} {Q : VK} {u : Value} {s : Shared} (h : EP X pins σ Q u s) : W.CmpBack (EP X pins σ Q) u s := by
  obtain ⟨v, H, I, r, q⟩ := h
  have h2 : EP X pins σ Q u s := ⟨v, H, I, r, q⟩
  cases u with
  | notImplemented =>
    cases v <;> first
      | exact nomatch r
      | (obtain ⟨t, e⟩ := r; exact nomatch e)
  | _ => exact h2
/-- a def that is an instance's method, with its promise -/
structure OwnM (X : Cx) (k : Nat) (C : Addr) (nm : Str) (sp : Sp) : Prop where
  ex : ∃ (f : Addr) (fd : FuncData) (ps : List Str), PySem.W.findIn X.K (.ref C) nm = some (some (.ref f)) ∧ PySem.W.isFn X.K (.ref f) = true ∧ FnOk X.prog X.w X.K X.mg X.base CX0 k f fd ps sp ∧ Binds X.K fd ps []
/-- its class beside ints -/
structure OwnC (K : PySem.W.Frag) (C : Addr) : Prop where
  first : PySem.W.selfFirst K C = true
  subI : PySem.W.subIn K (.type "int") (.ref C) = some false
  subC : PySem.W.subIn K (.ref C) (.type "int") = some false
/-- the other operand: an int, or an instance of the class -/
def NumV (C : Addr) (H : Hp) (y : V) : Prop := (∃ i, y = .int i) ∨ ∃ b dy gs, y = .ref b ∧ H b = some (.ins C dy gs)
def rOwnL (C : Addr) (sp : Sp) : R2 := fun x y H Q => ∃ a dx fs, x = .ref a ∧ H a = some (.ins C dx fs) ∧ NumV C H y ∧ sp [x, y] H Q E0
def rOwnR (C : Addr) (sp : Sp) : R2 := fun x y H Q => ∃ i b dy gs, x = .int i ∧ y = .ref b ∧ H b = some (.ins C dy gs) ∧ sp [y, x] H Q E0
section
variable {X : Cx} {k : Nat} {C : Addr} {sp : Sp} {op : Operator}
theorem runM {f : Addr} {fd : FuncData} {ps : List Str} {pins : List (Addr × Obj)} {σ : L2.St} {H : Hp} {s : Shared} {Q : VK} {us : List Value} {vs : List V} (F : FnOk X.prog X.w X.K X.mg X.base CX0 k f fd ps sp) (hr : Room k X.A) (hb : Binds X.K fd ps [])
    (I : Inv X pins σ H s) (r : Vals vs us) (h : sp vs H Q E0) : wpAny (model X.prog X.w) X.A (call (.ref f) us) (W.CmpBack (EP X pins σ Q)) X.xe s :=
  wpAny_mono (run_fn (dvs := []) F hr hb .nil pass0 I r (by rw [List.append_nil]; exact h)) (fun _ _ z => backEP z) fun _ _ z => z
theorem op_ownL {fo ro rc : Option Value} (M : OwnM X k C (PySem.dunder op.info.2) sp) (c : OwnC X.K C) (hr : Room k X.A)
    (hrc : PySem.W.findIn X.K (.ref C) (dunderR op.info.2) = some rc) (hp : rc = none ∨ ∃ g : Addr, rc = some (.ref g))
    (h1 : PySem.W.findIn X.K (.type "int") (PySem.dunder op.info.2) = some fo) (h2 : PySem.W.findIn X.K (.type "int") (dunderR op.info.2) = some ro) :
    OpR X (binaryOp op) (rOwnL C sp) := by
  intro pins s σ H x y v u Q I rx ry hq
  obtain ⟨a, dx, fs, rfl, ha, hy, q⟩ := hq
  obtain ⟨f, fd, ps, hs, hf, F, hb⟩ := M.ex
  cases rx
  obtain ⟨mA, J, _⟩ := ins_get I.hok ha
  obtain ⟨od, J, _⟩ := J.look
  obtain ⟨m, hF⟩ := I.fr
  rcases hy with ⟨i, rfl⟩ | ⟨b, dy, gs, rfl, hb'⟩
  · obtain ⟨t, rfl⟩ := ry
    have r2 : Vals [V.ref a, V.int i] [Value.ref a, Value.int i t] := .cons rfl (.cons ⟨_, rfl⟩ .nil)
    exact PySem.W.ksp_binT hF I.ok.mod.kin J rfl c.first hs hf hrc hp h1 h2 c.subI (runM F hr hb I r2 q)
  · cases ry
    obtain ⟨mB, J', _⟩ := ins_get I.hok hb'
    obtain ⟨od', J', _⟩ := J'.look
    have r2 : Vals [V.ref a, V.ref b] [Value.ref a, Value.ref b] := .cons rfl (.cons rfl .nil)
    exact PySem.W.binop_K hF I.ok.mod.kin J J'.type c.first hs hf (runM F hr hb I r2 q)
theorem op_ownR {sp0 : Sp} {k0 : Nat} {id : String} {B : Builtin} (M0 : OwnM X k0 C (PySem.dunder op.info.2) sp0) (M : OwnM X k C (dunderR op.info.2) sp) (c : OwnC X.K C) (hr : Room k X.A)
    (hfl : fillsNumberSlot (.type "int") op.info.2 = pure true) (slot : Slot "int" (PySem.dunder op.info.2) id) (entry : entryFor table id = some B) (args : ∀ a b, argsOk id ⟨[a, b], []⟩)
    (hB : ∀ (i : Int) (t : Tok) (x dx : Addr) (s : Shared) (A' : Around) (E : Value → Shared → Prop) (Q' : Value → Shared → Prop), s.heap.get? x = some (PySem.W.instObj C dx) → Q' .notImplemented s →
      wpAny (model X.prog X.w) A' (B ⟨[.int i t, .ref x], []⟩) (fun fin s' => ∃ v, fin = PySem.Fin.done (.ret v) ∧ Q' v s') E s) :
    OpR X (binaryOp op) (rOwnR C sp) := by
  intro pins s σ H x y v u Q I rx ry hq
  obtain ⟨i, b, dy, gs, rfl, rfl, hb', q⟩ := hq
  obtain ⟨f0, _, _, hs0, _⟩ := M0.ex
  obtain ⟨f, fd, ps, hs, hf, F, hb⟩ := M.ex
  obtain ⟨t, rfl⟩ := rx
  cases ry
  obtain ⟨mA, J, _⟩ := ins_get I.hok hb'
  obtain ⟨od, J, _⟩ := J.look
  obtain ⟨m, hF⟩ := I.fr
  have r2 : Vals [V.ref b, V.int i] [Value.ref b, Value.int i t] := .cons rfl (.cons ⟨_, rfl⟩ .nil)
  exact binRefl hF I.ok.mod.kin J c.first hs0 hs hf c.subC hfl (fun Q' q' => tryN slot entry (args _ _) (fun A' Q2 q2 => hB _ _ _ _ _ _ _ _ J.1 q2) q') (runM F hr hb I r2 q)
theorem un_own (M : OwnM X k C "__neg__" sp) (hr : Room k X.A) : UnR X (unaryOp .USub) (fun x H Q => ∃ a dx fs, x = .ref a ∧ H a = some (.ins C dx fs) ∧ sp [x] H Q E0) := by
  intro pins s σ H x v Q I rx hq
  obtain ⟨a, dx, fs, rfl, ha, q⟩ := hq
  obtain ⟨f, fd, ps, hs, hf, F, hb⟩ := M.ex
  cases rx
  obtain ⟨mA, J, _⟩ := ins_get I.hok ha
  obtain ⟨od, J, _⟩ := J.look
  obtain ⟨m, hF⟩ := I.fr
  have r2 : Vals [V.ref a] [Value.ref a] := .cons rfl .nil
  exact PySem.W.ksp_neg hF I.ok.mod.kin J hs hf (run_fn (dvs := []) F hr hb .nil pass0 I r2 q)
theorem op_addR {sp0 : Sp} {k0 : Nat} (M0 : OwnM X k0 C "__add__" sp0) (M : OwnM X k C "__radd__" sp) (c : OwnC X.K C) (hr : Room k X.A) : OpR X (binaryOp .Add) (rOwnR C sp) :=
  op_ownR (op := .Add) M0 M c hr fills_int_add F.slot_int_add F.entry_int_add F.args_int_add_2 fun i t x dx s A' E Q' hx q => niBin hx q
theorem op_subR {sp0 : Sp} {k0 : Nat} (M0 : OwnM X k0 C "__sub__" sp0) (M : OwnM X k C "__rsub__" sp) (c : OwnC X.K C) (hr : Room k X.A) : OpR X (binaryOp .Sub) (rOwnR C sp) :=
  op_ownR (op := .Sub) M0 M c hr fills_int_sub F.slot_int_sub F.entry_int_sub F.args_int_sub_2 fun i t x dx s A' E Q' hx q => niBin hx q
theorem op_mulR {sp0 : Sp} {k0 : Nat} (M0 : OwnM X k0 C "__mul__" sp0) (M : OwnM X k C "__rmul__" sp) (c : OwnC X.K C) (hr : Room k X.A) : OpR X (binaryOp .Mult) (rOwnR C sp) :=
  op_ownR (op := .Mult) M0 M c hr fills_int_mul F.slot_int_mul F.entry_int_mul F.args_int_mul_2 fun i t x dx s A' E Q' hx q => niBin hx q
theorem fI1 (K : PySem.W.Frag) : PySem.W.findIn K (.type "int") "__add__" = some (some (.builtin "int.__add__")) := by kernel_rfl
theorem fI2 (K : PySem.W.Frag) : PySem.W.findIn K (.type "int") "__radd__" = some (some (.builtin "int.__radd__")) := by kernel_rfl
theorem fI3 (K : PySem.W.Frag) : PySem.W.findIn K (.type "int") "__sub__" = some (some (.builtin "int.__sub__")) := by kernel_rfl
theorem fI4 (K : PySem.W.Frag) : PySem.W.findIn K (.type "int") "__rsub__" = some (some (.builtin "int.__rsub__")) := by kernel_rfl
theorem fI5 (K : PySem.W.Frag) : PySem.W.findIn K (.type "int") "__mul__" = some (some (.builtin "int.__mul__")) := by kernel_rfl
theorem fI6 (K : PySem.W.Frag) : PySem.W.findIn K (.type "int") "__rmul__" = some (some (.builtin "int.__rmul__")) := by kernel_rfl
theorem op_addL {g : Addr} (M : OwnM X k C "__add__" sp) (hg : PySem.W.findIn X.K (.ref C) "__radd__" = some (some (.ref g))) (c : OwnC X.K C) (hr : Room k X.A) : OpR X (binaryOp .Add) (rOwnL C sp) :=
  op_ownL (op := .Add) M c hr hg (.inr ⟨_, rfl⟩) (fI1 _) (fI2 _)
theorem op_subL {g : Addr} (M : OwnM X k C "__sub__" sp) (hg : PySem.W.findIn X.K (.ref C) "__rsub__" = some (some (.ref g))) (c : OwnC X.K C) (hr : Room k X.A) : OpR X (binaryOp .Sub) (rOwnL C sp) :=
  op_ownL (op := .Sub) M c hr hg (.inr ⟨_, rfl⟩) (fI3 _) (fI4 _)
theorem op_mulL {g : Addr} (M : OwnM X k C "__mul__" sp) (hg : PySem.W.findIn X.K (.ref C) "__rmul__" = some (some (.ref g))) (c : OwnC X.K C) (hr : Room k X.A) : OpR X (binaryOp .Mult) (rOwnL C sp) :=
  op_ownL (op := .Mult) M c hr hg (.inr ⟨_, rfl⟩) (fI5 _) (fI6 _)
/-! division by any number but nought -/
theorem op_fdivG : OpR X (binaryOp .FloorDiv) (rI (fun _ j => j ≠ 0 ∧ j.natAbs.log2 < 9000) fun i j => .int (i.fdiv j)) := opI fun _ _ _ _ _ _ _ hc q => floordiv_int hc.1 q (.inl (PyProof.noPylong_of_log2 hc.2))
theorem op_mulG : OpR X (binaryOp .Mult) (rI IntMulOk fun i j => .int (i * j)) := opI fun _ _ _ _ _ _ _ hc q => mul_int q hc
end
end LV
set_option Elab.async false
set_option linter.all false
set_option maxRecDepth 100000
set_option maxHeartbeats 2000000
namespace LV
open PySem PySem.Spec PyProof.Rows L2
theorem walk_enumT {K : PySem.W.Frag} {a : Addr} {xs : List V} : Walk (IteT K a) xs.length (fun H => SqT K H a xs) (YPair (fun i => some (.int (i : Nat))) (fun i => xs[i]?)) := by
  refine ⟨fun i _ hi q => ⟨xs, xs[i], q, by simp [hi]⟩, fun _ q => ⟨xs, q, rfl⟩, fun i H v H' _ q y => ?_⟩
  obtain ⟨T, x, h1, h2, h3, h4⟩ := y
  exact ⟨T, .int (i : Nat), x, h1, h2, h3, rfl, h4 xs q⟩
/-- built-in names that the module does not bind -/
structure Bt (mg : Str → Option Value) : Prop where
  len : mg "len" = none
  int : mg "int" = none
  enumerate : mg "enumerate" = none
  isinstance : mg "isinstance" = none
  zip : mg "zip" = none
  all : mg "all" = none
  range : mg "range" = none
  list : mg "list" = none
  tuple : mg "tuple" = none
  bool : mg "bool" = none
/-! heaps -/
def But (a : Addr) (H H' : Hp) : Prop := ∀ b o, b ≠ a → H b = some o → H' b = some o
theorem But.refl (a : Addr) (H : Hp) : But a H H := fun _ _ _ h => h
theorem But.trans {a : Addr} {H H1 H2 : Hp} (x : But a H H1) (y : But a H1 H2) : But a H H2 := fun b o n h => y b o n (x b o n h)
theorem Same.but {a : Addr} {H H1 : Hp} (x : Same H H1) : But a H H1 := fun b o _ h => x b o h
theorem But.upd {a : Addr} {H H1 : Hp} {o : HO} (x : But a H H1) : But a H (upd H1 a o) := fun b u n h => by
  rw [upd_ne n]
  exact x b u n h
theorem Same.new {H : Hp} {p : Addr} {o : HO} (h : H p = none) : Same H (upd H p o) := fun b u e => by
  rw [upd_ne (ne_of_none e h)]
  exact e
theorem But.sq {K : PySem.W.Frag} {a c : Addr} {H H1 : Hp} {xs : List V} (x : But a H H1) (n : c ≠ a) (h : SqL K H c xs) : SqL K H1 c xs := by
  rcases h with (h | ⟨o, h⟩) | h
  · exact .inl (.inl (x _ _ n h))
  · exact .inl (.inr ⟨o, x _ _ n h⟩)
  · exact .inr h
/-- a new object: the heap behind it is some heap -/
theorem nAt {H H1 : Hp} {p : Addr} {o : HO} (q : upd H p o = H1) : H1 p = some o := by
  rw [← q]
  exact upd_same
theorem nSm {H H1 : Hp} {p : Addr} {o : HO} (q : upd H p o = H1) (n : H p = none) : Same H H1 := by
  rw [← q]
  exact Same.new n
/-- the law's state for draws -/
abbrev stL (c : Addr) (n l : Int) (m : Bool) : HO := .lst [.ref c, .int n, .int l, .bl m]
def Stt (K : PySem.W.Frag) (H : Hp) (a : Addr) : Prop := ∃ (c : Addr) (ns : List Int) (n l : Int) (m : Bool), H a = some (stL c n l m) ∧ c ≠ a ∧ H c = some (.lst (ns.map V.int)) ∧ ns.length ≤ 63
theorem Stt.same {K : PySem.W.Frag} {H H1 : Hp} {a : Addr} (e : Same H H1) (s : Stt K H a) : Stt K H1 a := by
  obtain ⟨c, ns, n, l, m, h, hn, hs, hl⟩ := s
  exact ⟨c, ns, n, l, m, e _ _ h, hn, e _ _ hs, hl⟩
def notSt : HO → Bool
  | .lst (.ref _ :: .int _ :: .int _ :: .bl _ :: []) => false
  | _ => true
theorem But.get {K : PySem.W.Frag} {a x : Addr} {H H1 : Hp} {o : HO} (e : But a H H1) (s : Stt K H a) (h : H x = some o) (n : notSt o = true) : H1 x = some o := by
  refine e x o (fun q => ?_) h
  obtain ⟨c, ns, n', l, m, h2, _⟩ := s
  rw [q, h2] at h
  cases h
  cases n
/-- all but the state stays, and its cells are the same list -/
def Bus (a : Addr) (H H' : Hp) : Prop := But a H H' ∧ ∀ c n l m, H a = some (stL c n l m) → ∃ n' l' m', H' a = some (stL c n' l' m')
theorem Bus.refl (a : Addr) (H : Hp) : Bus a H H := ⟨But.refl a H, fun _ n l m h => ⟨n, l, m, h⟩⟩
theorem Bus.trans {a : Addr} {H H1 H2 : Hp} (x : Bus a H H1) (y : Bus a H1 H2) : Bus a H H2 := ⟨x.1.trans y.1, fun c n l m h => by
  obtain ⟨n', l', m', h'⟩ := x.2 c n l m h
  exact y.2 c n' l' m' h'⟩
theorem Same.bus {a : Addr} {H H1 : Hp} (x : Same H H1) : Bus a H H1 := ⟨Same.but x, fun _ n l m h => ⟨n, l, m, x _ _ h⟩⟩
theorem Bus.get {K : PySem.W.Frag} {a x : Addr} {H H1 : Hp} {o : HO} (e : Bus a H H1) (s : Stt K H a) (h : H x = some o) (n : notSt o = true) : H1 x = some o := e.1.get s h n
/-- a list apart from the state and its cells -/
def Apt (H : Hp) (a b : Addr) : Prop := b ≠ a ∧ ∀ c n l m, H a = some (stL c n l m) → c ≠ b
theorem Apt.bus {K : PySem.W.Frag} {a b : Addr} {H H' : Hp} (s : Stt K H a) (e : Bus a H H') (h : Apt H a b) : Apt H' a b := by
  obtain ⟨c, ns, n, l, m, h1, _⟩ := s
  obtain ⟨n', l', m', h2⟩ := e.2 c n l m h1
  refine ⟨h.1, fun c2 n2 l2 m2 h3 => ?_⟩
  rw [h2] at h3
  cases h3
  exact h.2 c n l m h1
theorem Apt.same {K : PySem.W.Frag} {a b : Addr} {H H' : Hp} (s : Stt K H a) (e : Same H H') (h : Apt H a b) : Apt H' a b := h.bus s (Same.bus e)
theorem Apt.new {K : PySem.W.Frag} {a b : Addr} {H : Hp} (s : Stt K H a) (h : H b = none) : Apt H a b := by
  obtain ⟨c, ns, n, l, m, h1, h2, h3, _⟩ := s
  refine ⟨fun z => ?_, fun c2 n2 l2 m2 h4 z => ?_⟩
  · subst z
    rw [h1] at h
    cases h
  · rw [h1] at h4
    cases h4
    subst z
    rw [h3] at h
    cases h
/-- the state stays where another list is changed -/
theorem Stt.but {K : PySem.W.Frag} {a b : Addr} {H H' : Hp} (s : Stt K H a) (h : Apt H a b) (e : But b H H') : Stt K H' a := by
  obtain ⟨c, ns, n, l, m, h1, h2, h3, h4⟩ := s
  exact ⟨c, ns, n, l, m, e _ _ h.1.symm h1, h2, e _ _ (h.2 _ _ _ _ h1) h3, h4⟩
/-! tests as a whole -/
end LV
set_option Elab.async false
set_option linter.all false
set_option maxRecDepth 100000
set_option maxHeartbeats 2000000
namespace LV
open PySem PySem.Spec PyProof.Rows L2
open AutoSeq1 (wpAny_loadPart')
/-! comparisons: a built-in value beside an instance -/
section
variable {prog : Program} {w : World} {A : Around} {E : Value → Shared → Prop} {s : Shared}
theorem tryC {nm : Str} {id T : String} {B : Builtin} {a : Value} {x : Addr} {Q : Option Value → Shared → Prop} (hT : s.TypeIs a T) (slot : Slot T nm id) (entry : entryFor table id = some B) (args : argsOk id ⟨[a, .ref x], []⟩)
    (hB : ∀ (A' : Around) (Q' : Value → Shared → Prop), Q' .notImplemented s → wpAny (model prog w) A' (B ⟨[a, .ref x], []⟩) (fun fin s' => ∃ v, fin = PySem.Fin.done (.ret v) ∧ Q' v s') E s) (h : Q none s) :
    wpAny (model prog w) A (tryCompare a nm (.ref x)) Q E s := by
  unfold tryCompare
  refine wpAny_bind (wpAny_callSpecialIfBound?_slot hT slot (wpAny_call_entry slot hT entry (hB _ _ ?_) args))
  exact wpAny_pure h
open PySem.W in
theorem cmpRefl {K : Frag} {x C f L : Addr} {h0 : Heap} {m : Str → Option Value} {ox : Obj} {od : Option Obj} {op : CmpOp} {a : Value} {T : String} {Q : Value → Shared → Prop} (hu : A.units < cLine) (FR : Fr h0 L s.heap m) (X0 : K.In h0) (I : InstAt s.heap x ox C od)
    (ha : Looks (model prog w) s.heap (typeOf a) (.type T)) (ho : oneThing? op a (.ref x) = none) (hsub : subIn K (.ref C) (.type T) = some false)
    (h1 : ∀ Q' : Option Value → Shared → Prop, Q' none s → wpAny (model prog w) A (tryCompare a (cmpInfo op).2.1 (.ref x)) Q' E s)
    (hs : findIn K (.ref C) (cmpInfo op).2.2 = some (some (.ref f))) (hf : isFn K (.ref f) = true)
    (h : wpAny (model prog w) A (call (.ref f) [.ref x, a]) (W.CmpBack Q) E s) : wpAny (model prog w) A (richCompare op a (.ref x)) Q E s := by
  have X := X0.keeps FR.keep
  have two : wpAny (model prog w) A (tryCompare (.ref x) (cmpInfo op).2.2 a) (fun r s' => ∃ v, r = some v ∧ Q v s') E s := by
    unfold tryCompare
    refine wpAny_bind (ifBound_K X I hs hf (wpAny_mono h (fun v s' hv => ?_) fun _ _ e => e))
    cases v <;> first | exact hv.elim | exact wpAny_pure ⟨_, rfl, hv⟩
  have hne0 : (Value.type T == Value.ref C) = false := Bool.eq_false_iff.mpr fun z => by cases beq_iff_eq.mp z
  have hne : (Value.type T != Value.ref C) = true := by
    unfold bne
    rw [hne0]
    rfl
  unfold richCompare
  simp only [ho]
  refine wpAny_holding (wpAny_bind (wpAny_cRoomFor hu ?_))
  refine wpAny_bind (ha.here (wpAny_bind (I.type.here ?_)))
  simp only [hne, if_true]
  refine wpAny_bind ((looks_subIn X hsub).here ?_)
  simp only [Bool.false_eq_true, if_false]
  refine wpAny_bind (h1 _ ?_)
  simp only [Bool.not_false, if_true]
  refine wpAny_bind (wpAny_mono two (fun r s' z => ?_) fun _ _ e => e)
  obtain ⟨v, rfl, hq⟩ := z
  exact wpAny_pure hq
/-! x != y by the object's own way over __eq__ -/
open PySem.W in
theorem neOwn {K : Frag} {x C f L : Addr} {h0 : Heap} {m : Str → Option Value} {od : Option Obj} {b tb : Value} {dx : Addr} {Q : Value → Shared → Prop} (hu : A.units + 1 < cLine) (FR : Fr h0 L s.heap m) (X0 : K.In h0) (I : InstAt s.heap x (instObj C dx) C od)
    (hb : Looks (model prog w) s.heap (typeOf b) tb) (hn : notFirst K C tb = true) (hne : findIn K (.ref C) "__ne__" = some (some (.builtin "object.__ne__"))) (hobj : mroIn K C (.type "object") = some true)
    (hs : findIn K (.ref C) "__eq__" = some (some (.ref f))) (hf : isFn K (.ref f) = true)
    (h : wpAny (model prog w) A.in1 (call (.ref f) [.ref x, b]) (fun v s' => ∃ r, v = .bool r ∧ Q (.bool (!r)) s') E s) : wpAny (model prog w) A (richCompare .NotEq (.ref x) b) Q E s := by
  have X := X0.keeps FR.keep
  have S := F.cmp_object.ne
  have sub : Looks (model prog w) s.heap (isInstance (.ref x) (.type "object")) true := I.type.andThen (looks_mroIn X hobj)
  have cs : wpAny (model prog w) A (callSpecialIfBound? (.ref x) "__ne__" [b]) (fun r s' => ∃ z, r = some (.bool z) ∧ Q (.bool z) s') E s := by
    simp only [callSpecialIfBound?, bindSpecialIfBound?]
    refine wpAny_holding (wpAny_bind (wpAny_bind (wpAny_bind (I.type.here ((looks_findIn X hne).here ?_)))))
    simp only [S.bind]
    refine wpAny_bind (wpAny_askSetting (wpAny_ite ?_))
    have call1 : wpAny (model prog w) A (call (.builtin "object.__ne__") [.ref x, b]) (fun v s' => ∃ r, v = .bool r ∧ Q (.bool r) s') E s := by
      refine wpAny_call (codeAny_call_builtin S.plain F.cmpEntry_ne (check_slot F.cmpKind_ne F.cmpSplit_ne sub (F.cmpArgs_ne _ _) ?_))
      unfold Builtin.«object.__ne__»
      obtain ⟨hp, ge, dr, tk, os⟩ := s
      repeat (first
        | with_reducible refine wpAny_cRoomFor hu ?_
        | (refine wpAny_bind (m := callSpecialIfBound? (.ref x) (Str.ofString "__eq__") [b])
            (ifBound_K X I hs hf (wpAny_mono h (fun r s' hr => by
              obtain ⟨z, rfl, hq⟩ := hr
              repeat (first | exact ⟨_, rfl, hq⟩ | exact wpAny_pure ⟨_, rfl, hq⟩ | exact wpAny_truthy_bool ⟨_, rfl, hq⟩ | (refine wpAny_bind (m := truthy (.bool _)) (wpAny_truthy_bool ?_)) | wp_step)) fun _ _ e => e)))
        | wp_step)
    have fin : wpAny (model prog w) A (call (.builtin "object.__ne__") ([.ref x] ++ [b]) >>= fun v => pure (some v)) (fun r s' => ∃ z, r = some (.bool z) ∧ Q (.bool z) s') E s :=
      wpAny_bind (wpAny_mono call1 (fun v s' h' => wpAny_pure (by
        obtain ⟨z, rfl, hq⟩ := h'
        exact ⟨z, rfl, hq⟩)) fun _ _ h' => h')
    split
    · exact wpAny_bind (wpAny_pure (wpAny_pure fin))
    · exact wpAny_tryCatch (wpAny_bind (wpAny_pure (wpAny_pure fin)))
  have one : wpAny (model prog w) A (tryCompare (.ref x) "__ne__" b) (fun r s' => ∃ v, r = some v ∧ Q v s') E s := by
    unfold tryCompare
    refine wpAny_bind (wpAny_mono cs (fun r s' hr => ?_) fun _ _ e => e)
    obtain ⟨z, rfl, hq⟩ := hr
    exact wpAny_pure ⟨_, rfl, hq⟩
  unfold richCompare
  simp only [oneThing_ref]
  refine wpAny_holding (wpAny_bind (wpAny_cRoomFor (Nat.lt_of_succ_lt hu) ?_))
  rw [cmpInfo_NotEq]
  dsimp only
  refine wpAny_bind (I.type.here (wpAny_bind (hb.here ?_)))
  split
  · rename_i z
    have e : subIn K tb (.ref C) = some false := by
      rcases Bool.or_eq_true_iff.mp hn with e | e
      · rw [beq_iff_eq.mp e] at z
        simp at z
      · exact beq_iff_eq.mp e
    refine wpAny_bind ((looks_subIn X e).here ?_)
    simp only [Bool.false_eq_true, if_false]
    refine wpAny_bind (wpAny_mono one (fun r s' y => ?_) fun _ _ e => e)
    obtain ⟨v, rfl, hq⟩ := y
    exact wpAny_pure hq
  · refine wpAny_bind (wpAny_pure ?_)
    simp only [Bool.false_eq_true, if_false]
    refine wpAny_bind (wpAny_mono one (fun r s' y => ?_) fun _ _ e => e)
    obtain ⟨v, rfl, hq⟩ := y
    exact wpAny_pure hq
end
end LV
set_option Elab.async false
set_option linter.all false
set_option maxRecDepth 100000
set_option maxHeartbeats 2000000
namespace LV
open PySem PySem.Spec PyProof.Rows L2
open AutoSeq1 (wpAny_loadPart')
/-! a built-in value's own == with an instance: NotImplemented -/
section
variable {prog : Program} {w : World} {A : Around} {E : Value → Shared → Prop} {s : Shared} {M : Model} {x C dx : Addr} {Q : Value → Shared → Prop}
abbrev NiQ (Q : Value → Shared → Prop) : PySem.Fin → Shared → Prop := fun fin s' => ∃ v, fin = PySem.Fin.done (.ret v) ∧ Q v s'
theorem niBoolEq {b : Bool} (hx : s.heap.get? x = some (PySem.W.instObj C dx)) (h : Q .notImplemented s) : wpAny M A (Builtin.«int.__eq__» ⟨[.bool b, .ref x], []⟩) (NiQ Q) E s := by
  obtain ⟨hp, ge, dr, tk, os⟩ := s
  show wpAny M A (Builtin.Int.intBinary _ _ false ⟨[.bool b, .ref x], []⟩) _ E _
  unfold Builtin.Int.intBinary
  wp_walk using wpAny_load hx
  exact ⟨_, rfl, h⟩
theorem niNoneEq (hx : s.heap.get? x = some (PySem.W.instObj C dx)) (h : Q .notImplemented s) : wpAny M A (Builtin.«NoneType.__eq__» ⟨[.none, .ref x], []⟩) (NiQ Q) E s := by
  obtain ⟨hp, ge, dr, tk, os⟩ := s
  unfold Builtin.«NoneType.__eq__»
  wp_walk using wpAny_load hx
  exact ⟨_, rfl, h⟩
theorem niStrEq {z : Str} {t : Tok} (hx : s.heap.get? x = some (PySem.W.instObj C dx)) (h : Q .notImplemented s) : wpAny M A (Builtin.«str.__eq__» ⟨[.str z t, .ref x], []⟩) (NiQ Q) E s := by
  obtain ⟨hp, ge, dr, tk, os⟩ := s
  wp_walk using wpAny_load hx
  exact ⟨_, rfl, h⟩
theorem niListEq {K : PySem.W.Frag} {l : Addr} (X : K.In s.heap) (hs : PySem.W.subIn K (.ref C) (.type "list") = some false) (hx : s.heap.get? x = some (PySem.W.instObj C dx)) (h : Q .notImplemented s) :
    wpAny (model prog w) A (Builtin.«list.__eq__» ⟨[.ref l, .ref x], []⟩) (NiQ Q) E s := by
  have L := PySem.W.looks_subIn (M := model prog w) X hs
  obtain ⟨hp, ge, dr, tk, os⟩ := s
  wp_walk using wpAny_loadPart' hx, L.at
  exact ⟨_, rfl, h⟩
theorem niTupEq {K : PySem.W.Frag} {l : Addr} (X : K.In s.heap) (hs : PySem.W.subIn K (.ref C) (.type "tuple") = some false) (hx : s.heap.get? x = some (PySem.W.instObj C dx)) (h : Q .notImplemented s) :
    wpAny (model prog w) A (Builtin.«tuple.__eq__» ⟨[.ref l, .ref x], []⟩) (NiQ Q) E s := by
  have L := PySem.W.looks_subIn (M := model prog w) X hs
  obtain ⟨hp, ge, dr, tk, os⟩ := s
  wp_walk using wpAny_loadPart' hx, L.at
  exact ⟨_, rfl, h⟩
theorem niDictEq {K : PySem.W.Frag} {l : Addr} (X : K.In s.heap) (hs : PySem.W.subIn K (.ref C) (.type "dict") = some false) (hx : s.heap.get? x = some (PySem.W.instObj C dx)) (h : Q .notImplemented s) :
    wpAny (model prog w) A (Builtin.«dict.__eq__» ⟨[.ref l, .ref x], []⟩) (NiQ Q) E s := by
  have L := PySem.W.looks_subIn (M := model prog w) X hs
  obtain ⟨hp, ge, dr, tk, os⟩ := s
  wp_walk using wpAny_loadPart' hx, L.at
  exact ⟨_, rfl, h⟩
end
/-! comparisons over the layer -/
section
variable {X : Cx} {k : Nat} {C : Addr} {sp : Sp} {op : CmpOp}
/-- the method runs one level within -/
theorem runIn {f : Addr} {fd : FuncData} {ps : List Str} {pins : List (Addr × Obj)} {σ : L2.St} {H : Hp} {s : Shared} {Q : VK} {us : List Value} {vs : List V} (F : FnOk X.prog X.w X.K X.mg X.base CX0 k f fd ps sp) (hr : Room (k + 1) X.A) (hb : Binds X.K fd ps [])
    (I : Inv X pins σ H s) (r : Vals vs us) (h : sp vs H Q E0) : wpAny (model X.prog X.w) X.A.in1 (call (.ref f) us) (EP X pins σ Q) X.xe s := by
  have hl : us.length = ps.length := by
    rw [← r.length]
    exact F.len _ _ _ _ h
  have b0 := hb s us I.kIn (by simpa using hl)
  refine wpAny_call (codeAny_mono (F.run X.A.in1 X.stack s H ⟨us, []⟩ us vs Q E0 hr.in1 (Env0.in1 I.env0) (by simpa using b0) r h) fun r s' hq => ?_)
  cases r with
  | error e => exact hq.elim
  | ok fl =>
    cases fl with
    | ret u => exact I.after hq
    | next => exact False.elim hq
    | brk => exact False.elim hq
    | cont => exact False.elim hq
/-- what stands to the right of an instance: its type is none below the class -/
def NotF (K : PySem.W.Frag) (C : Addr) (H : Hp) (y : V) : Prop := ∃ t, TyX K H y t ∧ PySem.W.notFirst K C t = true
def rCmpL (K : PySem.W.Frag) (C : Addr) (sp : Sp) : R2 := fun x y H Q => ∃ a dx fs, x = .ref a ∧ H a = some (.ins C dx fs) ∧ NotF K C H y ∧ sp [x, y] H Q E0
theorem op_cmpL (hcm : ∀ v u, compareOp op v u = richCompare op v u) (M : OwnM X k C (cmpInfo op).2.1 sp) (hr : Room k X.A) : OpR X (compareOp op) (rCmpL X.K C sp) := by
  intro pins s σ H x y v u Q I rx ry hq
  obtain ⟨a, dx, fs, rfl, ha, ⟨t, ht, hn⟩, q⟩ := hq
  obtain ⟨f, fd, ps, hs, hf, F, hb⟩ := M.ex
  cases rx
  obtain ⟨mA, J, _⟩ := ins_get I.hok ha
  obtain ⟨od, J, _⟩ := J.look
  obtain ⟨m, hF⟩ := I.fr
  obtain ⟨PP, kt, hP, _⟩ := kit_of I ry ht
  have r2 : Vals [V.ref a, y] [Value.ref a, u] := .cons rfl (.cons ry .nil)
  rw [hcm]
  exact PySem.W.cmp_K hr.units0 hF I.ok.mod.kin J (kt.ty _ _ I.kIn hP) hn hs hf (runM F hr hb I r2 q)
/-- x != y over __eq__ -/
def rNeL (K : PySem.W.Frag) (C : Addr) (sp : Sp) : R2 := fun x y H Q => ∃ a dx fs, x = .ref a ∧ H a = some (.ins C dx fs) ∧ NotF K C H y ∧ sp [x, y] H (fun v H' => ∃ b, v = .bl b ∧ Q (.bl (!b)) H') E0
theorem op_neL (M : OwnM X k C "__eq__" sp) (hne : PySem.W.findIn X.K (.ref C) "__ne__" = some (some (.builtin "object.__ne__"))) (hobj : PySem.W.mroIn X.K C (.type "object") = some true) (hr : Room (k + 1) X.A) : OpR X (compareOp .NotEq) (rNeL X.K C sp) := by
  intro pins s σ H x y v u Q I rx ry hq
  obtain ⟨a, dx, fs, rfl, ha, ⟨t, ht, hn⟩, q⟩ := hq
  obtain ⟨f, fd, ps, hs, hf, F, hb⟩ := M.ex
  cases rx
  obtain ⟨mA, J, _⟩ := ins_get I.hok ha
  obtain ⟨od, J, _⟩ := J.look
  obtain ⟨m, hF⟩ := I.fr
  obtain ⟨PP, kt, hP, _⟩ := kit_of I ry ht
  have r2 : Vals [V.ref a, y] [Value.ref a, u] := .cons rfl (.cons ry .nil)
  show wpAny (model X.prog X.w) X.A (richCompare .NotEq (.ref a) u) (EP X pins σ Q) X.xe s
  have hu : X.A.units + 1 < cLine := hu_of hr
  refine neOwn hu hF I.ok.mod.kin J (kt.ty _ _ I.kIn hP) hn hne hobj hs hf (wpAny_mono (runIn F hr hb I r2 q) (fun v s' z => ?_) fun _ _ z => z)
  obtain ⟨v', H', I', rv, b, rfl, q'⟩ := z
  exact ⟨b, rv, .bl (!b), H', I', rfl, q'⟩
/-- a built-in value to the left of an instance -/
inductive Lft (K : PySem.W.Frag) (H : Hp) : V → String → Prop where
  | non : Lft K H .non "NoneType"
  | bl (b : Bool) : Lft K H (.bl b) "bool"
  | int (i : Int) : Lft K H (.int i) "int"
  | str (z : Str) : Lft K H (.str z) "str"
  | lst {a : Addr} {xs : List V} (h : H a = some (.lst xs)) : Lft K H (.ref a) "list"
  | tup {a : Addr} {xs : List V} (h : H a = some (.tup xs)) : Lft K H (.ref a) "tuple"
  | dK {a : Addr} {kvs : List (Key × V)} (h : H a = some (.dK kvs)) : Lft K H (.ref a) "dict"
def rCmpR (K : PySem.W.Frag) (C : Addr) (sp : Sp) : R2 := fun x y H Q => ∃ b dy gs T, y = .ref b ∧ H b = some (.ins C dy gs) ∧ Lft K H x T ∧ PySem.W.subIn K (.ref C) (.type T) = some false ∧ sp [y, x] H Q E0
theorem op_eqR (M : OwnM X k C "__eq__" sp) (hr : Room k X.A) : OpR X (compareOp .Eq) (rCmpR X.K C sp) := by
  intro pins s σ H x y v u Q I rx ry hq
  obtain ⟨b, dy, gs, T, rfl, hb', hx, hsub, q⟩ := hq
  obtain ⟨f, fd, ps, hs, hf, FM, hb⟩ := M.ex
  cases ry
  obtain ⟨mA, J, _⟩ := ins_get I.hok hb'
  obtain ⟨od, J, _⟩ := J.look
  obtain ⟨m, hF⟩ := I.fr
  have r2 : Vals [V.ref b, x] [Value.ref b, v] := .cons rfl (.cons rx .nil)
  have run := runM FM hr hb I r2 q
  show wpAny (model X.prog X.w) X.A (richCompare .Eq v (.ref b)) (EP X pins σ Q) X.xe s
  cases hx with
  | non =>
    cases rx
    exact cmpRefl hr.units0 hF I.ok.mod.kin J (PySem.W.Looks.of_pure rfl) rfl hsub (fun Q' q' => tryC (T := "NoneType") (show s.TypeIs Value.none "NoneType" from rfl) F.slot_NoneType_eq F.entry_NoneType_eq (F.args_NoneType_eq_2 _ _) (fun A' Q2 q2 => niNoneEq J.1 q2) q') hs hf run
  | bl z =>
    cases rx
    exact cmpRefl hr.units0 hF I.ok.mod.kin J (PySem.W.Looks.of_pure rfl) rfl hsub (fun Q' q' => tryC (T := "bool") (show s.TypeIs (Value.bool z) "bool" from rfl) F.slot_bool_eq F.entry_int_eq (F.args_int_eq_2 _ _) (fun A' Q2 q2 => niBoolEq J.1 q2) q') hs hf run
  | int i =>
    obtain ⟨t, rfl⟩ := rx
    exact cmpRefl hr.units0 hF I.ok.mod.kin J (PySem.W.Looks.of_pure rfl) rfl hsub (fun Q' q' => tryC (T := "int") (typeIs_int s i t) F.slot_int_eq F.entry_int_eq (F.args_int_eq_2 _ _) (fun A' Q2 q2 => niBin J.1 q2) q') hs hf run
  | str z =>
    obtain ⟨t, rfl⟩ := rx
    exact cmpRefl hr.units0 hF I.ok.mod.kin J (PySem.W.Looks.of_pure rfl) rfl hsub (fun Q' q' => tryC (T := "str") (show s.TypeIs (Value.str z t) "str" from rfl) F.slot_str_eq F.entry_str_eq (F.args_str_eq_2 _ _) (fun A' Q2 q2 => niStrEq J.1 q2) q') hs hf run
  | lst h =>
    obtain ⟨PP, kt, hP, _⟩ := kit_of I rx (TyX.base (TyOf.lst h))
    cases rx
    obtain ⟨_, _, n, _, h1⟩ := (show ObjOk X.prog X.w H s.heap _ (.lst _) from I.hok _ _ h)
    exact cmpRefl hr.units0 hF I.ok.mod.kin J (kt.ty _ _ I.kIn hP) rfl hsub (fun Q' q' => tryC (T := "list") ⟨_, h1, rfl⟩ F.slot_list_eq F.entry_list_eq (F.args_list_eq_2 _ _) (fun A' Q2 q2 => niListEq I.kIn hsub J.1 q2) q') hs hf run
  | tup h =>
    obtain ⟨PP, kt, hP, _⟩ := kit_of I rx (TyX.base (TyOf.tup h))
    cases rx
    obtain ⟨_, _, _, o, h1, h2, _⟩ := (show ObjOk X.prog X.w H s.heap _ (.tup _) from I.hok _ _ h)
    exact cmpRefl hr.units0 hF I.ok.mod.kin J (kt.ty _ _ I.kIn hP) rfl hsub (fun Q' q' => tryC (T := "tuple") ⟨o, h1, h2⟩ F.slot_tuple_eq F.entry_tuple_eq (F.args_tuple_eq_2 _ _) (fun A' Q2 q2 => niTupEq I.kIn hsub J.1 q2) q') hs hf run
  | dK h =>
    obtain ⟨PP, kt, hP, _⟩ := kit_of I rx (TyX.base (TyOf.dK h))
    cases rx
    obtain ⟨_, _, vs, _, o, es, ep, h1, h2, _⟩ := (show ObjOk X.prog X.w H s.heap _ (.dK _) from I.hok _ _ h)
    exact cmpRefl hr.units0 hF I.ok.mod.kin J (kt.ty _ _ I.kIn hP) rfl hsub (fun Q' q' => tryC (T := "dict") ⟨o, h1, h2.1⟩ F.slot_dict_eq F.entry_dict_eq (F.args_dict_eq_2 _ _) (fun A' Q2 q2 => niDictEq I.kIn hsub J.1 q2) q') hs hf run
/-- int op instance, by the reflected method -/
def rCmpRI (C : Addr) (sp : Sp) : R2 := fun x y H Q => ∃ i b dy gs, x = .int i ∧ y = .ref b ∧ H b = some (.ins C dy gs) ∧ sp [y, x] H Q E0
theorem op_cmpRI {id : String} {B : Builtin} (hcm : ∀ v u, compareOp op v u = richCompare op v u) (M : OwnM X k C (cmpInfo op).2.2 sp) (c : OwnC X.K C) (hr : Room k X.A) (ho : ∀ i t b, oneThing? op (.int i t) (.ref b) = none)
    (slot : Slot "int" (cmpInfo op).2.1 id) (entry : entryFor table id = some B) (args : ∀ a b, argsOk id ⟨[a, b], []⟩)
    (hB : ∀ (i : Int) (t : Tok) (x dx : Addr) (s : Shared) (A' : Around) (E : Value → Shared → Prop) (Q' : Value → Shared → Prop), s.heap.get? x = some (PySem.W.instObj C dx) → Q' .notImplemented s →
      wpAny (model X.prog X.w) A' (B ⟨[.int i t, .ref x], []⟩) (fun fin s' => ∃ v, fin = PySem.Fin.done (.ret v) ∧ Q' v s') E s) : OpR X (compareOp op) (rCmpRI C sp) := by
  intro pins s σ H x y v u Q I rx ry hq
  obtain ⟨i, b, dy, gs, rfl, rfl, hb', q⟩ := hq
  obtain ⟨f, fd, ps, hs, hf, FM, hb⟩ := M.ex
  obtain ⟨t, rfl⟩ := rx
  cases ry
  obtain ⟨mA, J, _⟩ := ins_get I.hok hb'
  obtain ⟨od, J, _⟩ := J.look
  obtain ⟨m, hF⟩ := I.fr
  have r2 : Vals [V.ref b, V.int i] [Value.ref b, Value.int i t] := .cons rfl (.cons ⟨_, rfl⟩ .nil)
  rw [hcm]
  exact cmpRefl hr.units0 hF I.ok.mod.kin J (PySem.W.Looks.of_pure rfl) (ho _ _ _) c.subC (fun Q' q' => tryC (T := "int") (typeIs_int s i t) slot entry (args _ _) (fun A' Q2 q2 => hB _ _ _ _ _ _ _ _ J.1 q2) q') hs hf (runM FM hr hb I r2 q)
theorem op_ltR (M : OwnM X k C "__gt__" sp) (c : OwnC X.K C) (hr : Room k X.A) : OpR X (compareOp .Lt) (rCmpRI C sp) :=
  op_cmpRI (op := .Lt) (fun _ _ => rfl) M c hr (fun _ _ _ => rfl) F.slot_int_lt F.entry_int_lt F.args_int_lt_2 fun i t x dx s A' E Q' hx q => niBin hx q
theorem op_gtR (M : OwnM X k C "__lt__" sp) (c : OwnC X.K C) (hr : Room k X.A) : OpR X (compareOp .Gt) (rCmpRI C sp) :=
  op_cmpRI (op := .Gt) (fun _ _ => rfl) M c hr (fun _ _ _ => rfl) F.slot_int_gt F.entry_int_gt F.args_int_gt_2 fun i t x dx s A' E Q' hx q => niBin hx q
theorem op_geR (M : OwnM X k C "__le__" sp) (c : OwnC X.K C) (hr : Room k X.A) : OpR X (compareOp .GtE) (rCmpRI C sp) :=
  op_cmpRI (op := .GtE) (fun _ _ => rfl) M c hr (fun _ _ _ => rfl) F.slot_int_ge F.entry_int_ge F.args_int_ge_2 fun i t x dx s A' E Q' hx q => niBin hx q
theorem op_ltL (M : OwnM X k C "__lt__" sp) (hr : Room k X.A) : OpR X (compareOp .Lt) (rCmpL X.K C sp) := op_cmpL (op := .Lt) (fun _ _ => rfl) M hr
theorem op_gtL (M : OwnM X k C "__gt__" sp) (hr : Room k X.A) : OpR X (compareOp .Gt) (rCmpL X.K C sp) := op_cmpL (op := .Gt) (fun _ _ => rfl) M hr
theorem op_geL (M : OwnM X k C "__ge__" sp) (hr : Room k X.A) : OpR X (compareOp .GtE) (rCmpL X.K C sp) := op_cmpL (op := .GtE) (fun _ _ => rfl) M hr
theorem op_eqL (M : OwnM X k C "__eq__" sp) (hr : Room k X.A) : OpR X (compareOp .Eq) (rCmpL X.K C sp) := op_cmpL (op := .Eq) (fun _ _ => rfl) M hr
end
end LV
set_option Elab.async false
set_option linter.all false
set_option maxRecDepth 100000
set_option maxHeartbeats 2000000
/-! == of lists and tuples of own instances, with its answer -/
namespace GB
open PySem PySem.SeqAt
open AutoSeq1 (wpAny_loadPart')
open MeetsSeq MeetsSeq2 MeetsSeq3 SeqRoads2
open GQ (FinOf call_here)
section
variable {prog : Program} {w : World} {A : Around} {R : Result → Shared → Prop}
/-- the two lists as they are read -/
def LRead (l b : Addr) (N : Nat) (s : Shared) (P : Array Value → Array Value → Prop) : Prop :=
  ∃ (items items2 : Array Value) (n n2 : Nat), s.heap.get? l = some { cls := .type "list", data := .seq items n } ∧ s.heap.get? b = some { cls := .type "list", data := .seq items2 n2 } ∧ items.size = N ∧ items2.size = N ∧ P items items2
def ListB (prog : Program) (w : World) (A : Around) (E : Value → Shared → Prop) (l b : Addr) (N : Nat) (I : Nat → Shared → Prop) (Fs : Shared → Prop) : Prop :=
  (∀ i s, I i s → LRead l b N s fun items items2 => ∀ (h1 : i < items.size) (h2 : i < items2.size), wpAny (model prog w) A.in1 (eqBool items[i] items2[i]) (fun r s' => (r = true ∧ I (i + 1) s') ∨ (r = false ∧ Fs s')) E s) ∧
  ∀ s, Fs s → LRead l b N s fun _ _ => True
theorem eq_loopB (l b : Addr) (N : Nat) (I : Nat → Shared → Prop) (Fs : Shared → Prop) (hl : ListB prog w A (fun e s' => R (.error e) s') l b N I Fs)
    (fin : ∀ s, I N s → R (.ok (.ret (.bool true))) s) (ff : ∀ s, Fs s → R (.ok (.ret (.bool false))) s) (k : Nat) :
    ∀ i : Nat, N - i = k → i ≤ N → ∀ s, I i s →
      wpAny (model prog w) A.in1 (Builtin.«list.__eq__.loop» ⟨[.ref l, .ref b, rawInt i, rawInt 2], []⟩) (FinOf prog w A R) (fun e s' => R (.error e) s') s := by
  induction k with
  | zero =>
    intro i hk hi s h
    obtain ⟨items, items2, n, n2, hl1, hb1, hs1, hs2, _⟩ := hl.1 _ _ h
    have hi' : i = N := by omega
    have hR : R (.ok (.ret (.bool true))) s := fin s (hi' ▸ h)
    obtain ⟨hp, g, d, tk, os⟩ := s
    wp_walk using wpAny_loadPart' hl1, wpAny_loadPart' hb1
    have hi1 : items[((i : Nat) : Int).toNat]? = none := by simp; omega
    have hi2 : items2[((i : Nat) : Int).toNat]? = none := by simp; omega
    rw [hi1, hi2]
    wp_walk using wpAny_loadPart' hl1, wpAny_loadPart' hb1
    show R (.ok (.ret (.bool (items.size == items2.size)))) _
    rw [hs1, hs2]
    simpa using hR
  | succ k ih =>
    intro i hk hi s h
    obtain ⟨items, items2, n, n2, hl1, hb1, hs1, hs2, turn⟩ := hl.1 _ _ h
    have hlt : i < items.size := by omega
    have hlt2 : i < items2.size := by omega
    have ht := turn hlt hlt2
    obtain ⟨hp, g, d, tk, os⟩ := s
    wp_walk using wpAny_loadPart' hl1, wpAny_loadPart' hb1
    have hi1 : items[((i : Nat) : Int).toNat]? = some items[i] := by simp [hlt]
    have hi2 : items2[((i : Nat) : Int).toNat]? = some items2[i] := by simp [hlt2]
    have hc : ((i : Int) + 1) = ((i + 1 : Nat) : Int) := by omega
    rw [hi1, hi2]
    refine wpAny_bind (wpAny_mono ht (fun r s2 h2 => ?_) fun _ _ x => x)
    rcases h2 with ⟨hr, h2⟩ | ⟨hr, h2⟩
    · subst hr
      have hrec := ih (i + 1) (by omega) (by omega) s2 h2
      obtain ⟨hp2, g2, d2, tk2, os2⟩ := s2
      wp_walk
      rw [hc]
      exact ⟨plainId_quiet plain_eq_loop _, codeAny_builtin entry_eq_loop (by
        rw [Around.under_plainId plain_eq_loop _]
        exact hrec)⟩
    · subst hr
      obtain ⟨jt, jt2, m, m2, kl, kb, z1, z2, _⟩ := hl.2 _ h2
      have hR := ff s2 h2
      obtain ⟨hp2, g2, d2, tk2, os2⟩ := s2
      wp_walk using wpAny_loadPart' kl, wpAny_loadPart' kb
      have hj1 : jt[((i : Nat) : Int).toNat]? = some (jt[i]'(by omega)) := by
        have : i < jt.size := by omega
        simp [this]
      have hj2 : jt2[((i : Nat) : Int).toNat]? = some (jt2[i]'(by omega)) := by
        have : i < jt2.size := by omega
        simp [this]
      rw [hj1, hj2]
      wp_walk
      exact hR
theorem list_eqB (l b : Addr) (N : Nat) (I : Nat → Shared → Prop) (Fs : Shared → Prop) (hl : ListB prog w A (fun e s' => R (.error e) s') l b N I Fs)
    (fin : ∀ s, I N s → R (.ok (.ret (.bool true))) s) (ff : ∀ s, Fs s → R (.ok (.ret (.bool false))) s) {s : Shared} (h : I 0 s) :
    wpAny (model prog w) A.in1 (Builtin.«list.__eq__» ⟨[.ref l, .ref b], []⟩) (FinOf prog w A R) (fun e s' => R (.error e) s') s := by
  obtain ⟨items, items2, n, n2, hl1, hb1, hs1, hs2, _⟩ := hl.1 _ _ h
  have hrec := eq_loopB (A := A) (R := R) l b N I Fs hl fin ff _ 0 rfl (Nat.zero_le _) s h
  obtain ⟨hp, g, d, tk, os⟩ := s
  have f3 := AutoSeq1.sub_list_list
  have hne : ¬ (items.size != items2.size) = true := by simp [hs1, hs2]
  wp_walk using wpAny_loadPart' hl1, wpAny_loadPart' hb1
  exact ⟨plainId_quiet plain_eq_loop _, codeAny_builtin entry_eq_loop (by
    rw [Around.under_plainId plain_eq_loop _]
    exact hrec)⟩
theorem tuple_eqB (l b : Addr) (items items2 : Array Value) (n n2 : Nat) (dd dd2 : Option Addr) (sl sl2 : Array (Option Value)) (hsz : items.size = items2.size) (I : Nat → Shared → Prop) (Fs : Shared → Prop)
    (turn : ∀ i (h1 : i < items.size) (h2 : i < items2.size) s, I i s → wpAny (model prog w) A.in1 (eqBool items[i] items2[i]) (fun r s' => (r = true ∧ I (i + 1) s') ∨ (r = false ∧ Fs s')) (fun e s' => R (.error e) s') s)
    (fin : ∀ s, I items.size s → R (.ok (.ret (.bool true))) s) (ff : ∀ s, Fs s → R (.ok (.ret (.bool false))) s) {s : Shared} (hl1 : s.heap.get? l = some { cls := .type "tuple", dict := dd, data := .seq items n, slots := sl }) (hb1 : s.heap.get? b = some { cls := .type "tuple", dict := dd2, data := .seq items2 n2, slots := sl2 }) (h : I 0 s) :
    wpAny (model prog w) A.in1 (Builtin.«tuple.__eq__» ⟨[.ref l, .ref b], []⟩) (FinOf prog w A R) (fun e s' => R (.error e) s') s := by
  have f2 := AutoSeq1.sub_tuple_tuple
  have hZ : (items.toList.zip items2.toList).length = items.size := by simp [hsz]
  have h0 := h
  obtain ⟨hp, g, d, tk, os⟩ := s
  wp_walk using wpAny_loadPart' hl1, wpAny_loadPart' hb1, wpAny_forIn_list _ (fun rest b s' => (b.1 = none ∧ ∃ i, rest = (items.toList.zip items2.toList).drop i ∧ i ≤ items.size ∧ I i s') ) _
  case turn =>
    rintro ⟨y, x⟩ rest b s' ⟨hb', i, hz, hi, hI⟩
    have hlt : i < (items.toList.zip items2.toList).length := by
      rcases Nat.lt_or_ge i (items.toList.zip items2.toList).length with h' | h'
      · exact h'
      · rw [List.drop_of_length_le h'] at hz; cases hz
    have h1 : i < items.size := hZ ▸ hlt
    have h2 : i < items2.size := hsz ▸ h1
    rw [List.drop_eq_getElem_cons hlt] at hz
    injection hz with hyx hrest
    have hy : y = items[i] := by have := congrArg Prod.fst hyx; simpa using this
    have hx : x = items2[i] := by have := congrArg Prod.snd hyx; simpa using this
    subst hy hx
    refine wpAny_bind (wpAny_mono (turn i h1 h2 s' hI) (fun r s2 q2 => ?_) fun _ _ x => x)
    rcases q2 with ⟨hr, q2⟩ | ⟨hr, q2⟩
    · subst hr
      wp_walk
      exact ⟨rfl, i + 1, hrest, h1, q2⟩
    · subst hr
      wp_walk
      exact ff _ q2
  case fin =>
    rintro ⟨b1, b2⟩ s' ⟨hb', i, hz, hi, hI⟩
    simp only at hb'
    subst hb'
    have hge : items.size ≤ i := by
      rcases Nat.lt_or_ge i (items.toList.zip items2.toList).length with h' | h'
      · rw [List.drop_eq_getElem_cons h'] at hz; cases hz
      · exact hZ ▸ h'
    have hi' : i = items.size := by omega
    have hR : R (.ok (.ret (.bool true))) s' := fin s' (hi' ▸ hI)
    wp_walk
    simpa [Builtin.Tuple.tupleCompareSizes, hsz] using hR
  case h =>
    exact ⟨rfl, 0, rfl, Nat.zero_le _, h0⟩
end
section
variable {prog : Program} {w : World} {A : Around} {E : Value → Shared → Prop} {s : Shared}
theorem rc_listB {l b : Addr} {N : Nat} {Q : Value → Shared → Prop} (hu : A.units < cLine) (I : Nat → Shared → Prop) (Fs : Shared → Prop) (hl : ListB prog w A E l b N I Fs)
    (fin : ∀ s, I N s → Q (.bool true) s) (ff : ∀ s, Fs s → Q (.bool false) s) (h : I 0 s) : wpAny (model prog w) A (richCompare .Eq (.ref l) (.ref b)) Q E s := by
  obtain ⟨items, items2, n, n2, hl1, hb1, _, _, _⟩ := hl.1 _ _ h
  refine wpAny_richCompare_same_room (op := .Eq) ⟨_, hl1, rfl⟩ ⟨_, hb1, rfl⟩ F.slot_list_eq (call_here F.slot_list_eq ⟨_, hl1, rfl⟩ F.entry_list_eq (F.args_list_eq_2 _ _) ?_) hu
  exact list_eqB (R := wants (fun v s' => v ≠ .notImplemented ∧ Q v s') E) l b N I Fs hl (fun s' q => ⟨(fun x => nomatch x), fin s' q⟩) (fun s' q => ⟨(fun x => nomatch x), ff s' q⟩) h
theorem rc_tupB {l b : Addr} {items items2 : Array Value} {Q : Value → Shared → Prop} (hsz : items.size = items2.size) (hu : A.units < cLine) (I : Nat → Shared → Prop) (Fs : Shared → Prop)
    (hl : s.heap.IsTuple l items) (hb : s.heap.IsTuple b items2)
    (turn : ∀ i (h1 : i < items.size) (h2 : i < items2.size) s, I i s → wpAny (model prog w) A.in1 (eqBool items[i] items2[i]) (fun r s' => (r = true ∧ I (i + 1) s') ∨ (r = false ∧ Fs s')) E s)
    (fin : ∀ s, I items.size s → Q (.bool true) s) (ff : ∀ s, Fs s → Q (.bool false) s) (h : I 0 s) : wpAny (model prog w) A (richCompare .Eq (.ref l) (.ref b)) Q E s := by
  obtain ⟨⟨cls, dd, data, sl⟩, ho, hc, n, hd⟩ := id hl
  obtain ⟨⟨cls2, dd2, data2, sl2⟩, ho2, hc2, n2, hd2⟩ := id hb
  simp only at hc hd hc2 hd2
  subst hc hd hc2 hd2
  refine wpAny_richCompare_same_room (op := .Eq) ⟨_, ho, rfl⟩ ⟨_, ho2, rfl⟩ F.slot_tuple_eq (call_here F.slot_tuple_eq ⟨_, ho, rfl⟩ F.entry_tuple_eq (F.args_tuple_eq_2 _ _) ?_) hu
  exact tuple_eqB (R := wants (fun v s' => v ≠ .notImplemented ∧ Q v s') E) l b items items2 n n2 dd dd2 sl sl2 hsz I Fs turn (fun s' q => ⟨(fun x => nomatch x), fin s' q⟩) (fun s' q => ⟨(fun x => nomatch x), ff s' q⟩) ho ho2 h
end
end GB
namespace LV
open PySem PySem.Spec PyProof.Rows L2
abbrev EqvB := V → V → Bool → Hp → Prop
def MonB (D : EqvB) : Prop := ∀ x y b H H', Ext H H' → D x y b H → D x y b H'
def RflB (D : EqvB) : Prop := ∀ x b H, D x x b H → b = true
def EqB (X : Cx) (n : Nat) (D : EqvB) : Prop :=
  ∀ (A : Around) (pins : List (Addr × Obj)) (s : Shared) (σ : L2.St) (H : Hp) (x y : V) (u v : Value) (b : Bool), Sub X n A → Inv X pins σ H s → RelV x u → RelV y v → D x y b H →
    wpAny (model X.prog X.w) A (eqBool u v) (fun r s' => r = b ∧ ∃ H', Inv X pins σ H' s' ∧ Ext H H') X.xe s
def RcB (X : Cx) (n : Nat) (D : EqvB) : Prop :=
  ∀ (A : Around) (pins : List (Addr × Obj)) (s : Shared) (σ : L2.St) (H : Hp) (x y : V) (u v : Value) (b : Bool), Sub X n A → Inv X pins σ H s → RelV x u → RelV y v → D x y b H →
    wpAny (model X.prog X.w) A (richCompare .Eq u v) (fun r s' => r = .bool b ∧ ∃ H', Inv X pins σ H' s' ∧ Ext H H') X.xe s
section
variable {X : Cx} {n m : Nat} {D D' : EqvB}
/-- item by item: the answers -/
def PrsB (D : EqvB) (xs ys : List V) (f : Nat → Bool) (H : Hp) : Prop := xs.length = ys.length ∧ ∀ (i : Nat) x y, xs[i]? = some x → ys[i]? = some y → D x y (f i) H
theorem turnB (hD : MonB D) (h : EqB X n D) {A : Around} (sb : Sub X (n + 1) A) {pins : List (Addr × Obj)} {σ : L2.St} {H : Hp} {xs ys : List V} {f : Nat → Bool} {its its2 : List Value} (p : PrsB D xs ys f H) (r : Vals xs its) (r2 : Vals ys its2)
    (i : Nat) (h1 : i < its.toArray.size) (h2 : i < its2.toArray.size) (s' : Shared) (l : LoopI X pins σ H s') :
    wpAny (model X.prog X.w) A.in1 (eqBool its.toArray[i] its2.toArray[i]) (fun r s2 => r = f i ∧ LoopI X pins σ H s2) X.xe s' := by
  obtain ⟨H1, I1, e1⟩ := l
  have g1 : its[i]? = some its.toArray[i] := by
    have h1' : i < its.length := by simpa using h1
    rw [List.getElem?_eq_getElem h1'] <;> simp
  have g2 : its2[i]? = some its2.toArray[i] := by
    have h2' : i < its2.length := by simpa using h2
    rw [List.getElem?_eq_getElem h2'] <;> simp
  have k1 : i < xs.length := by rw [r.length]; simpa using h1
  have k2 : i < ys.length := by rw [r2.length]; simpa using h2
  obtain ⟨u, hu, ru⟩ := r.get (List.getElem?_eq_getElem k1)
  obtain ⟨v, hv, rv⟩ := r2.get (List.getElem?_eq_getElem k2)
  rw [g1] at hu
  rw [g2] at hv
  rw [Option.some.inj hu, Option.some.inj hv]
  refine wpAny_mono (h A.in1 pins s' σ H1 _ _ u v _ sb.in1 I1 ru rv (hD _ _ _ _ _ e1 (p.2 i _ _ (List.getElem?_eq_getElem k1) (List.getElem?_eq_getElem k2)))) (fun r s2 q => ?_) fun _ _ x => x
  obtain ⟨hr, H2, I2, e2⟩ := q
  exact ⟨hr, H2, I2, e1.trans e2⟩
def DLstB (D : EqvB) : EqvB := fun x y b H => ∃ (a c : Addr) (xs ys : List V), x = .ref a ∧ y = .ref c ∧ H a = some (.lst xs) ∧ H c = some (.lst ys) ∧ ((xs.length ≠ ys.length ∧ b = false) ∨ ∃ f, PrsB D xs ys f H ∧ b = (List.range xs.length).all f)
def DTupB (D : EqvB) : EqvB := fun x y b H => ∃ (a c : Addr) (xs ys : List V), x = .ref a ∧ y = .ref c ∧ H a = some (.tup xs) ∧ H c = some (.tup ys) ∧ ∃ f, PrsB D xs ys f H ∧ b = (List.range xs.length).all f
theorem rflB_prs (hR : RflB D) {xs : List V} {f : Nat → Bool} {H : Hp} (p : PrsB D xs xs f H) : (List.range xs.length).all f = true := by
  rw [List.all_eq_true]
  intro i hi
  have hi' : i < xs.length := by simpa using hi
  exact hR _ _ _ (p.2 i _ _ (List.getElem?_eq_getElem hi') (List.getElem?_eq_getElem hi'))
theorem rflB_tup (hR : RflB D) : RflB (DTupB D) := fun x b H d => by
  obtain ⟨a, c, xs, ys, rfl, hy, h1, h2, f, p, q⟩ := d
  cases hy
  rw [h1] at h2
  cases h2
  rw [q, rflB_prs hR p]
theorem rflB_lst (hR : RflB D) : RflB (DLstB D) := fun x b H d => by
  obtain ⟨a, c, xs, ys, rfl, hy, h1, h2, p⟩ := d
  cases hy
  rw [h1] at h2
  cases h2
  rcases p with ⟨n, _⟩ | ⟨f, p, q⟩
  · exact absurd rfl n
  · rw [q, rflB_prs hR p]
theorem all_f {f : Nat → Bool} {N : Nat} (h : ∀ j, j < N → f j = true) : (List.range N).all f = true := by
  rw [List.all_eq_true]
  intro i hi
  exact h i (by simpa using hi)
theorem not_f {f : Nat → Bool} {N j : Nat} (hj : j < N) (h : f j = false) : (List.range N).all f = false := by
  cases z : (List.range N).all f with
  | false => rfl
  | true =>
    rw [List.all_eq_true] at z
    have := z j (by simpa using hj)
    rw [h] at this
    cases this
theorem rcB_lst (hD : MonB D) (h : EqB X n D) : RcB X (n + 1) (DLstB D) := by
  intro A pins s σ H x y u v b sb I rx ry d
  obtain ⟨a, c, xs, ys, rfl, rfl, ha, hb, p⟩ := d
  cases rx
  cases ry
  rcases p with ⟨ne, rfl⟩ | ⟨f, p, rfl⟩
  · obtain ⟨z, its, k, r, e⟩ := I.hok a _ ha
    obtain ⟨z2, its2, k2, r2, e2⟩ := I.hok c _ hb
    refine richCompare_meets_room (op := .Eq) ⟨_, e, rfl⟩ ⟨_, e2, rfl⟩ F.slot_list_eq F.entry_list_eq (F.args_list_eq_2 _ _) (SeqAt.list_eq_lengthsAt a c _ _ k k2 _ _ _ _ ?_) ⟨e, e2, ?_⟩ sb.room.units0
    · rw [List.size_toArray, List.size_toArray, ← r.length, ← r2.length]
      simpa using ne
    · exact ⟨(fun x => nomatch x), rfl, H, I, Ext.rfl'⟩
  · refine GB.rc_listB (N := xs.length) sb.room.units0 (fun i s' => LoopI X pins σ H s' ∧ ∀ j, j < i → f j = true) (fun s' => LoopI X pins σ H s' ∧ ∃ j, j < xs.length ∧ f j = false) ⟨fun i s' q => ?_, fun s' q => ?_⟩
      (fun s' q => ⟨by rw [all_f q.2], q.1⟩) (fun s' ⟨q, j, hj, hf⟩ => ⟨by rw [not_f hj hf], q⟩) ⟨⟨H, I, Ext.rfl'⟩, fun j hj => absurd hj (Nat.not_lt_zero j)⟩
    · obtain ⟨q, qf⟩ := q
      obtain ⟨H1, I1, e1⟩ := id q
      obtain ⟨z, its, k, r, e⟩ := I1.hok a _ (e1 _ _ ha)
      obtain ⟨z2, its2, k2, r2, e2⟩ := I1.hok c _ (e1 _ _ hb)
      refine ⟨its.toArray, its2.toArray, k, k2, e, e2, by rw [List.size_toArray, ← r.length], by rw [List.size_toArray, ← r2.length, ← p.1], fun h1 h2 => ?_⟩
      refine wpAny_mono (turnB hD h sb p r r2 i h1 h2 s' q) (fun w s2 z => ?_) fun _ _ x => x
      obtain ⟨hw, z⟩ := z
      cases hf : f i with
      | true =>
        refine .inl ⟨hw.trans hf, z, fun j hj => ?_⟩
        by_cases hji : j = i
        · rw [hji]; exact hf
        · exact qf j (by omega)
      | false =>
        refine .inr ⟨hw.trans hf, z, i, ?_, hf⟩
        rw [r.length]
        simpa using h1
    · obtain ⟨q, _⟩ := q
      obtain ⟨H1, I1, e1⟩ := id q
      obtain ⟨z, its, k, r, e⟩ := I1.hok a _ (e1 _ _ ha)
      obtain ⟨z2, its2, k2, r2, e2⟩ := I1.hok c _ (e1 _ _ hb)
      exact ⟨its.toArray, its2.toArray, k, k2, e, e2, by rw [List.size_toArray, ← r.length], by rw [List.size_toArray, ← r2.length, ← p.1], trivial⟩
theorem rcB_tup (hD : MonB D) (h : EqB X n D) : RcB X (n + 1) (DTupB D) := by
  intro A pins s σ H x y u v b sb I rx ry d
  obtain ⟨a, c, xs, ys, rfl, rfl, ha, hb, f, p, rfl⟩ := d
  cases rx
  cases ry
  obtain ⟨its, r, e, z⟩ := I.tuple (SqT.of ha)
  obtain ⟨its2, r2, e2, z2⟩ := I.tuple (SqT.of hb)
  have hsz : its.toArray.size = its2.toArray.size := by rw [List.size_toArray, List.size_toArray, ← r.length, ← r2.length]; exact p.1
  refine GB.rc_tupB hsz sb.room.units0 (fun i s' => LoopI X pins σ H s' ∧ ∀ j, j < i → f j = true) (fun s' => LoopI X pins σ H s' ∧ ∃ j, j < xs.length ∧ f j = false) e e2 (fun i h1 h2 s' q => ?_)
    (fun s' q => ⟨by rw [all_f fun j hj => q.2 j (by rw [List.size_toArray, ← r.length]; exact hj)], q.1⟩) (fun s' ⟨q, j, hj, hf⟩ => ⟨by rw [not_f hj hf], q⟩) ⟨⟨H, I, Ext.rfl'⟩, fun j hj => absurd hj (Nat.not_lt_zero j)⟩
  obtain ⟨q, qf⟩ := q
  refine wpAny_mono (turnB hD h sb p r r2 i h1 h2 s' q) (fun w s2 z => ?_) fun _ _ x => x
  obtain ⟨hw, z⟩ := z
  cases hf : f i with
  | true =>
    refine .inl ⟨hw.trans hf, z, fun j hj => ?_⟩
    by_cases hji : j = i
    · rw [hji]; exact hf
    · exact qf j (by omega)
  | false =>
    refine .inr ⟨hw.trans hf, z, i, ?_, hf⟩
    rw [r.length]
    simpa using h1
theorem RcB.eqB (h : RcB X n D) (hR : RflB D) (hr : ∀ x y b H, D x y b H → ∃ a c, x = .ref a ∧ y = .ref c) : EqB X n D := by
  intro A pins s σ H x y u v b sb I rx ry d
  obtain ⟨a, c, rfl, rfl⟩ := hr _ _ _ _ d
  cases rx
  cases ry
  by_cases hab : a = c
  · subst hab
    exact SeqAt.EqAt.same (A := A) (s := s) (.ref a) X.prog X.w X.xe _ ⟨(hR _ _ _ d).symm, H, I, Ext.rfl'⟩
  · refine GQ.eqBool_refG hab (wpAny_mono (h A pins s σ H (.ref a) (.ref c) _ _ b sb I rfl rfl d) (fun r s' q => ?_) fun _ _ x => x)
    obtain ⟨hr', q⟩ := q
    exact ⟨b, hr', rfl, q⟩
theorem eqB_tup (hD : MonB D) (hR : RflB D) (h : EqB X n D) : EqB X (n + 1) (DTupB D) := (rcB_tup hD h).eqB (rflB_tup hR) fun _ _ _ _ d => let ⟨a, b, _, _, hx, hy, _⟩ := d; ⟨a, b, hx, hy⟩
def rEqB (D : EqvB) : R2 := fun x y H Q => ∃ b, D x y b H ∧ ∀ H', Ext H H' → Q (.bl b) H'
theorem op_eqB (h : RcB X n D) (hr : Room n X.A) : OpR X (compareOp .Eq) (rEqB D) := by
  intro pins s σ H x y v u Q I rx ry hq
  obtain ⟨b, d, q⟩ := hq
  show wpAny (model X.prog X.w) X.A (richCompare .Eq v u) (EP X pins σ Q) X.xe s
  refine wpAny_mono (h X.A pins s σ H x y v u b ⟨hr, rfl⟩ I rx ry d) (fun r s' z => ?_) fun _ _ x => x
  obtain ⟨hr', H', I', e⟩ := z
  subst hr'
  exact ⟨.bl b, H', I', rfl, q H' e⟩
/-! xs != [] -/
def rNeNil : R2 := fun x y H Q => ∃ a c xs, x = .ref a ∧ y = .ref c ∧ H a = some (.lst xs) ∧ H c = some (.lst []) ∧ Q (.bl (!decide (xs = []))) H
theorem op_neNil (hu : X.A.units < cLine) : OpR X (compareOp .NotEq) rNeNil := by
  intro pins s σ H x y v u Q I rx ry h
  obtain ⟨a, c, xs, rfl, rfl, ha, hc, q⟩ := h
  cases rx
  cases ry
  obtain ⟨z, its, k, r, e⟩ := I.hok a _ ha
  obtain ⟨z2, its2, k2, r2, e2⟩ := I.hok c _ hc
  have e2n : its2 = [] := by
    have := r2.length
    cases its2 with
    | nil => rfl
    | cons _ _ => simp at this
  subst e2n
  have L1 : s.heap.IsList a its.toArray := ⟨_, e, rfl, _, rfl⟩
  have L2 : s.heap.IsList c ([] : List Value).toArray := ⟨_, e2, rfl, _, rfl⟩
  show wpAny (model X.prog X.w) X.A (richCompare .NotEq (.ref a) (.ref c)) (EP X pins σ Q) X.xe s
  cases xs with
  | nil =>
    have e1n : its = [] := by
      have := r.length
      cases its with
      | nil => rfl
      | cons _ _ => simp at this
    subst e1n
    exact SeqAt.RcNeAt.lists (e := fun _ => true) L1 L2 rfl hu (fun j h1 _ => absurd h1 (Nat.not_lt_zero j)) X.prog X.w X.xe _ ⟨.bl false, H, I, rfl, q⟩
  | cons x xs =>
    refine SeqAt.RcNeAt.lists_lengths L1 L2 ?_ hu X.prog X.w X.xe _ ⟨.bl true, H, I, rfl, q⟩
    have := r.length
    cases its with
    | nil => simp at this
    | cons _ _ => rfl
/-! walks over a list or a tuple -/
def iOr (w1 w2 : TI) : TI := fun σ H R => w1 σ H R ∨ w2 σ H R
theorem pi_or {tg e : Expr} {w1 w2 : TI} (h1 : PI X tg e w1) (h2 : PI X tg e w2) : PI X tg e (iOr w1 w2) := ⟨fun pins s σ H R I h => h.elim (h1.run pins s σ H R I) (h2.run pins s σ H R I)⟩
theorem pi_seq {tg l : Expr} {tl : TE} (hl : PE X l tl) : PI X tg l (iOr (iList X.K tl) (iTup X.K tl)) := pi_or (pi_list hl) (pi_tup hl)
end
end LV
set_option Elab.async false
set_option linter.all false
set_option maxRecDepth 100000
set_option maxHeartbeats 400000
/-! texts of numbers: digits -/
namespace TQ
open PySem TL
abbrev AllD (l : List Nat) : Prop := NumText.AllDigits l
abbrev dv (l : List Nat) : Nat := NumText.digitsVal l
def pd : Nat → Nat → List Nat
  | 0, _ => []
  | k + 1, r => pd k (r / 10) ++ [48 + r % 10]
theorem numL_pd : ∀ (k : Nat) {q r : Nat}, 0 < q → r < 10 ^ k → numL (q * 10 ^ k + r) = numL q ++ pd k r
  | 0, q, r, _, hr => by
    have : r = 0 := by simpa using hr
    subst this
    simp [pd]
  | k + 1, q, r, hq, hr => by
    have e1 : (q * 10 ^ (k + 1) + r) / 10 = q * 10 ^ k + r / 10 := by
      rw [Nat.pow_succ, ← Nat.mul_assoc, Nat.mul_comm (q * 10 ^ k) 10, Nat.mul_add_div (by decide)]
    have e2 : (q * 10 ^ (k + 1) + r) % 10 = r % 10 := by
      rw [Nat.pow_succ, ← Nat.mul_assoc, Nat.mul_comm (q * 10 ^ k) 10, Nat.mul_add_mod]
    have h10 : 10 ≤ q * 10 ^ (k + 1) + r := by
      have : 10 ^ 1 ≤ 10 ^ (k + 1) := Nat.pow_le_pow_right (by decide) (by omega)
      have : 1 * 10 ^ (k + 1) ≤ q * 10 ^ (k + 1) := Nat.mul_le_mul_right _ hq
      omega
    rw [numL_step h10, e1, e2, numL_pd k hq (by rw [Nat.pow_succ] at hr; omega)]
    simp [pd]
theorem pd_pad : ∀ {k r : Nat}, 1 ≤ k → r < 10 ^ k → pd k r = List.replicate (k - (numL r).length) 48 ++ numL r
  | 0, _, h, _ => by omega
  | 1, r, _, hr => by
    have hr : r < 10 := by simpa using hr
    rw [numL_lt hr]
    simp [pd, Nat.mod_eq_of_lt hr]
  | k + 2, r, _, hr => by
    have ih := pd_pad (k := k + 1) (r := r / 10) (by omega) (by rw [Nat.pow_succ] at hr; omega)
    show pd (k + 1) (r / 10) ++ [48 + r % 10] = _
    rw [ih]
    by_cases h : r < 10
    · have z : r / 10 = 0 := by omega
      rw [z, numL_lt h, numL_lt (by decide : 0 < 10), Nat.mod_eq_of_lt h]
      show (List.replicate k 48 ++ [48]) ++ [48 + r] = List.replicate (k + 1) 48 ++ [48 + r]
      rw [← List.replicate_succ']
    · rw [numL_step (n := r) (by omega), List.length_append]
      show (List.replicate (k + 1 - (numL (r / 10)).length) 48 ++ numL (r / 10)) ++ [48 + r % 10] = List.replicate (k + 2 - ((numL (r / 10)).length + 1)) 48 ++ (numL (r / 10) ++ [48 + r % 10])
      rw [List.append_assoc]
      congr 2
      omega
/-- a text of an integer from 0 on in digits without leading zeros -/
def dgB (l : List Nat) : Bool := decide (l = [48]) || (decide (l ≠ []) && (decide (l.head? ≠ some 48) && l.all fun c => decide (48 ≤ c) && decide (c ≤ 57)))
theorem allD_iff {l : List Nat} : (l.all fun c => decide (48 ≤ c) && decide (c ≤ 57)) = true ↔ AllD l := by
  rw [List.all_eq_true]
  constructor
  · intro h c hc
    have := h c hc
    simp at this
    exact this
  · intro h c hc
    have := h c hc
    simp
    exact this
theorem dv_snoc (l : List Nat) (c : Nat) : dv (l ++ [c]) = dv l * 10 + (c - 48) := by
  show (l ++ [c]).foldl _ 0 = _
  rw [List.foldl_append]
  rfl
theorem rec_snoc {P : List Nat → Prop} (h0 : P []) (h1 : ∀ l c, P l → P (l ++ [c])) (l : List Nat) : P l := by
  have key : ∀ r : List Nat, P r.reverse := fun r => by
    induction r with
    | nil => exact h0
    | cons c r ih =>
      rw [List.reverse_cons]
      exact h1 _ _ ih
  have := key l.reverse
  rwa [List.reverse_reverse] at this
theorem head_snoc {l : List Nat} {c : Nat} (hl : l ≠ []) (h : (l ++ [c]).head? ≠ some 48) : l.head? ≠ some 48 := by
  intro z
  apply h
  cases l with
  | nil => exact (hl rfl).elim
  | cons a l => simpa using z
theorem dv_pos (l : List Nat) : l ≠ [] → l.head? ≠ some 48 → AllD l → 0 < dv l := by
  refine rec_snoc (P := fun l => l ≠ [] → l.head? ≠ some 48 → AllD l → 0 < dv l) (fun h => (h rfl).elim) (fun l c ih _ h1 h2 => ?_) l
  rw [dv_snoc]
  by_cases hl : l = []
  · subst hl
    have r : 48 ≤ c ∧ c ≤ 57 := h2 c (by simp)
    have : c ≠ 48 := fun z => h1 (by rw [z]; rfl)
    omega
  · have := ih hl (head_snoc hl h1) (fun x hx => h2 x (by simp [hx]))
    omega
theorem numL_dv (l : List Nat) : l ≠ [] → l.head? ≠ some 48 → AllD l → numL (dv l) = l := by
  refine rec_snoc (P := fun l => l ≠ [] → l.head? ≠ some 48 → AllD l → numL (dv l) = l) (fun h => (h rfl).elim) (fun l c ih _ h1 h2 => ?_) l
  have hc : 48 ≤ c ∧ c ≤ 57 := h2 c (by simp)
  rw [dv_snoc]
  by_cases hl : l = []
  · subst hl
    show numL (0 * 10 + (c - 48)) = [c]
    rw [numL_lt (by omega)]
    congr 1
    omega
  · have h1' := head_snoc hl h1
    have h2' : AllD l := fun x hx => h2 x (by simp [hx])
    have p := dv_pos l hl h1' h2'
    rw [numL_step (by omega), show (dv l * 10 + (c - 48)) / 10 = dv l by omega, show (dv l * 10 + (c - 48)) % 10 = c - 48 by omega, ih hl h1' h2']
    congr 2
    omega
theorem numL_head {n : Nat} : 0 < n → (numL n).head? ≠ some 48 := by
  induction n using Nat.strongRecOn with
  | _ n ih =>
    intro h z
    by_cases h1 : n < 10
    · rw [numL_lt h1] at z
      have : 48 + n = 48 := by simpa using z
      omega
    · rw [numL_step (by omega)] at z
      have p := ih (n / 10) (by omega) (by omega)
      cases e : numL (n / 10) with
      | nil => exact numL_ne _ e
      | cons a l =>
        rw [e] at z p
        exact p (by simpa using z)
theorem dgB_iff {l : List Nat} : dgB l = true ↔ ∃ n, l = numL n := by
  unfold dgB
  rw [Bool.or_eq_true, Bool.and_eq_true, Bool.and_eq_true, decide_eq_true_iff, decide_eq_true_iff, decide_eq_true_iff, allD_iff]
  constructor
  · rintro (rfl | ⟨h1, h2, h3⟩)
    · exact ⟨0, (numL_lt (n := 0) (by decide)).symm⟩
    · exact ⟨dv l, (numL_dv l h1 h2 h3).symm⟩
  · rintro ⟨n, rfl⟩
    by_cases h : n = 0
    · subst h
      exact .inl (numL_lt (n := 0) (by decide))
    · exact .inr ⟨numL_ne n, numL_head (by omega), numL_digits n⟩
theorem dgB_num (n : Nat) : dgB (numL n) = true := dgB_iff.mpr ⟨n, rfl⟩
theorem dgB_back {l : List Nat} (h : dgB l = true) : l = numL (dv l) := by
  obtain ⟨n, rfl⟩ := dgB_iff.mp h
  rw [show dv (numL n) = n from numL_val n]
theorem dgB_all {l : List Nat} (h : dgB l = true) : AllD l ∧ l ≠ [] := by
  rw [dgB_back h]
  exact ⟨numL_digits _, numL_ne _⟩
end TQ
set_option Elab.async false
set_option linter.all false
set_option maxRecDepth 100000
set_option maxHeartbeats 2000000
/-! pure values, the pure region of a heap, owned trees -/
namespace UL
open PySem PySem.Spec PyProof.Rows L2 LV
/-- what lies under the slots: tables of code objects -/
abbrev Gh := List (Addr × Str)
inductive U where
  | non | bl (b : Bool) | int (i : Int) | str (x : Str) | q (r : Rat)
  | lst (xs : List U) | tup (xs : List U) | obj (c : String) (ns : List Str) (xs : List U) | dic (ks : List Str) (xs : List U)
  | kt (c : String)
  | atl (a : Addr) (xs : List U)
/-- owned trees: p a pure value, l a list, o an object, d a dict -/
inductive Ow where
  | p (u : U) | l (ws : List Ow) | o (c : String) (ns : List Str) (ws : List Ow) | d (ks : List Str) (ws : List Ow)
def exF (o u : Int) : List (Str × V) := [("over", .int o), ("under", .int u)]
section
variable (κ : String → Addr) (γ : Gh)
mutual
def Rep (S : Hp) : U → V → Prop
  | .non, v => v = .non
  | .bl b, v => v = .bl b
  | .int i, v => v = .int i
  | .str x, v => v = .str x
  | .q r, v => ∃ x dx, v = .ref x ∧ S x = some (.ins (κ "Exact") dx (exF r.num r.den))
  | .lst us, v => ∃ a vs, v = .ref a ∧ S a = some (.lst vs) ∧ Reps S us vs
  | .tup us, v => ∃ a vs, v = .ref a ∧ S a = some (.tup vs) ∧ Reps S us vs
  | .obj c ns us, v => ∃ a dx vs, v = .ref a ∧ S a = some (.ins (κ c) dx (ns.zip vs)) ∧ ns.length = vs.length ∧ Reps S us vs
  | .dic ks us, v => ∃ a vs, v = .ref a ∧ S a = some (.dK ((ks.map Sum.inr).zip vs)) ∧ ks.length = vs.length ∧ Reps S us vs
  | .kt c, v => v = .ref (κ c)
  | .atl a us, v => ∃ b vs, v = .ref b ∧ S b = some (.lst vs) ∧ Reps S us vs ∧ b = a
def Reps (S : Hp) : List U → List V → Prop
  | [], vs => vs = []
  | u :: us, vs => ∃ v vs', vs = v :: vs' ∧ Rep S u v ∧ Reps S us vs'
end
/-- an instance of Exact -/
def XObj (o : HO) : Prop := (∃ dx fs, o = .ins (κ "Exact") dx fs) ∨ ∃ c q, o = LamX.CodeO c q
mutual
def RepO (S H : Hp) : Ow → V → List Addr → Prop
  | .p u, v, F => F = [] ∧ Rep κ S u v
  | .l ws, v, F => ∃ a vs F', v = .ref a ∧ H a = some (.lst vs) ∧ F = a :: F' ∧ RepOs S H ws vs F'
  | .o c ns ws, v, F => ∃ a dx vs F', v = .ref a ∧ H a = some (.ins (κ c) dx (ns.zip vs)) ∧ κ c ≠ κ "Exact" ∧ ns.length = vs.length ∧ F = a :: F' ∧ RepOs S H ws vs F'
  | .d ks ws, v, F => ∃ a vs F', v = .ref a ∧ H a = some (.dK ((ks.map Sum.inr).zip vs)) ∧ ks.length = vs.length ∧ F = a :: F' ∧ RepOs S H ws vs F'
def RepOs (S H : Hp) : List Ow → List V → List Addr → Prop
  | [], vs, F => vs = [] ∧ F = []
  | w :: ws, vs, F => ∃ v vs' F1 F2, vs = v :: vs' ∧ F = F1 ++ F2 ∧ RepO S H w v F1 ∧ RepOs S H ws vs' F2
end
end
mutual
def frz : Ow → U
  | .p u => u
  | .l ws => .lst (frzs ws)
  | .o c ns ws => .obj c ns (frzs ws)
  | .d ks ws => .dic ks (frzs ws)
def frzs : List Ow → List U
  | [] => []
  | w :: ws => frz w :: frzs ws
end
theorem frzs_map (us : List U) : frzs (us.map .p) = us := by
  induction us with
  | nil => rfl
  | cons u us ih => simp [frzs, frz, ih]
abbrev Env := List (Option Ow)
section
variable {κ : String → Addr} {γ : Gh}
theorem Reps.len : ∀ {us : List U} {vs : List V} {S : Hp}, Reps κ S us vs → us.length = vs.length
  | [], _, _, h => by
    cases (show _ = _ from h)
    rfl
  | _ :: _, _, _, h => by
    obtain ⟨v, vs', rfl, _, h⟩ := h
    simp [Reps.len h]
mutual
theorem Rep.mono {S S' : Hp} (e : Same S S') : ∀ (u : U) {v : V}, Rep κ S u v → Rep κ S' u v
  | .non, _, h => h
  | .bl _, _, h => h
  | .int _, _, h => h
  | .str _, _, h => h
  | .q _, _, ⟨x, dx, h1, h2⟩ => ⟨x, dx, h1, e _ _ h2⟩
  | .lst us, _, ⟨a, vs, h1, h2, h3⟩ => ⟨a, vs, h1, e _ _ h2, Reps.mono e us h3⟩
  | .tup us, _, ⟨a, vs, h1, h2, h3⟩ => ⟨a, vs, h1, e _ _ h2, Reps.mono e us h3⟩
  | .obj _ _ us, _, ⟨a, dx, vs, h1, h2, h3, h4⟩ => ⟨a, dx, vs, h1, e _ _ h2, h3, Reps.mono e us h4⟩
  | .dic _ us, _, ⟨a, vs, h1, h2, h3, h4⟩ => ⟨a, vs, h1, e _ _ h2, h3, Reps.mono e us h4⟩
  | .kt _, _, h => h
  | .atl _ us, _, ⟨b, vs, h1, h2, h3, h4⟩ => ⟨b, vs, h1, e _ _ h2, Reps.mono e us h3, h4⟩
theorem Reps.mono {S S' : Hp} (e : Same S S') : ∀ (us : List U) {vs : List V}, Reps κ S us vs → Reps κ S' us vs
  | [], _, h => h
  | u :: us, _, ⟨v, vs', h1, h2, h3⟩ => ⟨v, vs', h1, Rep.mono e u h2, Reps.mono e us h3⟩
end
theorem Reps.get : ∀ {us : List U} {vs : List V} {S : Hp} {i : Nat} {u : U}, Reps κ S us vs → us[i]? = some u → ∃ v, vs[i]? = some v ∧ Rep κ S u v
  | [], _, _, _, _, _, e => by simp at e
  | a :: us, _, _, 0, u, ⟨v, vs', rfl, h1, h2⟩, e => by
    simp at e
    subst e
    exact ⟨v, rfl, h1⟩
  | a :: us, _, _, i + 1, u, ⟨v, vs', rfl, h1, h2⟩, e => by
    obtain ⟨x, hx, hr⟩ := Reps.get (i := i) h2 (by simpa using e)
    exact ⟨x, by simpa using hx, hr⟩
/-- the other way round: what stands at a place of the values -/
theorem Reps.at_ {us : List U} {vs : List V} {S : Hp} {i : Nat} {v : V} (h : Reps κ S us vs) (e : vs[i]? = some v) : ∃ u, us[i]? = some u ∧ Rep κ S u v := by
  have hi : i < us.length := by
    rw [h.len]
    exact (List.getElem?_eq_some_iff.mp e).1
  have q : us[i]? = some us[i] := by simp [hi]
  obtain ⟨x, hx, hr⟩ := h.get q
  rw [e] at hx
  cases hx
  exact ⟨_, q, hr⟩
theorem Reps.snoc {S : Hp} {u : U} {v : V} (hr : Rep κ S u v) : ∀ {us : List U} {vs : List V}, Reps κ S us vs → Reps κ S (us ++ [u]) (vs ++ [v])
  | [], _, h => by
    cases (show _ = _ from h)
    exact ⟨v, [], rfl, hr, rfl⟩
  | a :: us, _, h => by
    obtain ⟨x, vs', rfl, h1, h2⟩ := h
    exact ⟨x, vs' ++ [v], rfl, h1, Reps.snoc hr h2⟩
theorem Reps.app {S : Hp} : ∀ {us us2 : List U} {vs vs2 : List V}, Reps κ S us vs → Reps κ S us2 vs2 → Reps κ S (us ++ us2) (vs ++ vs2)
  | [], _, _, _, h, h2 => by
    cases (show _ = _ from h)
    exact h2
  | a :: us, _, _, _, ⟨x, vs', rfl, h1, h2⟩, h => ⟨x, _, rfl, h1, Reps.app h2 h⟩
theorem Reps.drop {S : Hp} : ∀ {us : List U} {vs : List V} (n : Nat), Reps κ S us vs → Reps κ S (us.drop n) (vs.drop n)
  | _, _, 0, h => h
  | [], _, n + 1, h => by
    cases (show _ = _ from h)
    rfl
  | a :: us, _, n + 1, h => by
    obtain ⟨x, vs', rfl, h1, h2⟩ := h
    exact Reps.drop n h2
theorem Reps.take {S : Hp} : ∀ {us : List U} {vs : List V} (n : Nat), Reps κ S us vs → Reps κ S (us.take n) (vs.take n)
  | _, _, 0, h => rfl
  | [], _, n + 1, h => by
    cases (show _ = _ from h)
    rfl
  | a :: us, _, n + 1, h => by
    obtain ⟨x, vs', rfl, h1, h2⟩ := h
    exact ⟨x, _, rfl, h1, Reps.take n h2⟩
/-! owned trees stay where their places stay -/
mutual
theorem RepO.mono {S S' H H' : Hp} (e : Same S S') : ∀ (w : Ow) {v : V} {F : List Addr}, (∀ a ∈ F, H' a = H a) → RepO κ S H w v F → RepO κ S' H' w v F
  | .p u, _, _, _, ⟨h1, h2⟩ => ⟨h1, Rep.mono e u h2⟩
  | .l ws, _, _, k, h => by
    obtain ⟨a, vs, F', h1, h2, rfl, h4⟩ := h
    exact ⟨a, vs, F', h1, (k a (by simp)).trans h2, rfl, RepOs.mono e ws (fun b hb => k b (by simp [hb])) h4⟩
  | .o _ _ ws, _, _, k, h => by
    obtain ⟨a, dx, vs, F', h1, h2, h3, h5, rfl, h4⟩ := h
    exact ⟨a, dx, vs, F', h1, (k a (by simp)).trans h2, h3, h5, rfl, RepOs.mono e ws (fun b hb => k b (by simp [hb])) h4⟩
  | .d _ ws, _, _, k, h => by
    obtain ⟨a, vs, F', h1, h2, h3, rfl, h4⟩ := h
    exact ⟨a, vs, F', h1, (k a (by simp)).trans h2, h3, rfl, RepOs.mono e ws (fun b hb => k b (by simp [hb])) h4⟩
theorem RepOs.mono {S S' H H' : Hp} (e : Same S S') : ∀ (ws : List Ow) {vs : List V} {F : List Addr}, (∀ a ∈ F, H' a = H a) → RepOs κ S H ws vs F → RepOs κ S' H' ws vs F
  | [], _, _, _, h => h
  | w :: ws, _, _, k, h => by
    obtain ⟨v, vs', F1, F2, h1, rfl, h3, h4⟩ := h
    exact ⟨v, vs', F1, F2, h1, rfl, RepO.mono e w (fun b hb => k b (by simp [hb])) h3, RepOs.mono e ws (fun b hb => k b (by simp [hb])) h4⟩
end
/-! owned places hold things that are no Exacts -/
mutual
theorem RepO.foot {S H : Hp} : ∀ (w : Ow) {v : V} {F : List Addr}, RepO κ S H w v F → ∀ a ∈ F, ∃ o, H a = some o ∧ ¬ XObj κ o
  | .p u, _, _, h => by
    obtain ⟨rfl, _⟩ := h
    exact fun a ha => by simp at ha
  | .l ws, _, _, h => by
    obtain ⟨a, vs, F', h1, h2, rfl, h4⟩ := h
    intro b hb
    rcases List.mem_cons.mp hb with rfl | hb
    · exact ⟨_, h2, fun z => by rcases z with ⟨_, _, z⟩ | ⟨_, _, z⟩ <;> cases z⟩
    · exact RepOs.foot ws h4 b hb
  | .o _ _ ws, _, _, h => by
    obtain ⟨a, dx, vs, F', h1, h2, h3, _, rfl, h4⟩ := h
    intro b hb
    rcases List.mem_cons.mp hb with rfl | hb
    · exact ⟨_, h2, fun z => by
      rcases z with ⟨_, _, z⟩ | ⟨_, _, z⟩
      · injection z with z; exact h3 z
      · cases z⟩
    · exact RepOs.foot ws h4 b hb
  | .d _ ws, _, _, h => by
    obtain ⟨a, vs, F', h1, h2, _, rfl, h4⟩ := h
    intro b hb
    rcases List.mem_cons.mp hb with rfl | hb
    · exact ⟨_, h2, fun z => by rcases z with ⟨_, _, z⟩ | ⟨_, _, z⟩ <;> cases z⟩
    · exact RepOs.foot ws h4 b hb
theorem RepOs.foot {S H : Hp} : ∀ (ws : List Ow) {vs : List V} {F : List Addr}, RepOs κ S H ws vs F → ∀ a ∈ F, ∃ o, H a = some o ∧ ¬ XObj κ o
  | [], _, _, h => by
    obtain ⟨_, rfl⟩ := h
    exact fun a ha => by simp at ha
  | w :: ws, _, _, h => by
    obtain ⟨v, vs', F1, F2, h1, rfl, h3, h4⟩ := h
    intro b hb
    rcases List.mem_append.mp hb with hb | hb
    · exact RepO.foot w h3 b hb
    · exact RepOs.foot ws h4 b hb
end
/-! what is owned, told as pure in a region that holds its places -/
mutual
theorem RepO.frz {S H S' : Hp} (e : Same S S') : ∀ (w : Ow) {v : V} {F : List Addr}, (∀ a ∈ F, S' a = H a) → RepO κ S H w v F → Rep κ S' (frz w) v
  | .p u, _, _, _, ⟨_, h⟩ => Rep.mono e u h
  | .l ws, _, _, k, h => by
    obtain ⟨a, vs, F', h1, h2, rfl, h4⟩ := h
    exact ⟨a, vs, h1, (k a (by simp)).trans h2, RepOs.frz e ws (fun b hb => k b (by simp [hb])) h4⟩
  | .o _ _ ws, _, _, k, h => by
    obtain ⟨a, dx, vs, F', h1, h2, _, h5, rfl, h4⟩ := h
    exact ⟨a, dx, vs, h1, (k a (by simp)).trans h2, h5, RepOs.frz e ws (fun b hb => k b (by simp [hb])) h4⟩
  | .d _ ws, _, _, k, h => by
    obtain ⟨a, vs, F', h1, h2, h3, rfl, h4⟩ := h
    exact ⟨a, vs, h1, (k a (by simp)).trans h2, h3, RepOs.frz e ws (fun b hb => k b (by simp [hb])) h4⟩
theorem RepOs.frz {S H S' : Hp} (e : Same S S') : ∀ (ws : List Ow) {vs : List V} {F : List Addr}, (∀ a ∈ F, S' a = H a) → RepOs κ S H ws vs F → Reps κ S' (frzs ws) vs
  | [], _, _, _, h => h.1
  | w :: ws, _, _, k, h => by
    obtain ⟨v, vs', F1, F2, h1, rfl, h3, h4⟩ := h
    exact ⟨v, vs', h1, RepO.frz e w (fun b hb => k b (by simp [hb])) h3, RepOs.frz e ws (fun b hb => k b (by simp [hb])) h4⟩
end
theorem RepOs.pure_ {S H : Hp} : ∀ {us : List U} {vs : List V}, Reps κ S us vs → RepOs κ S H (us.map .p) vs []
  | [], _, h => ⟨h, rfl⟩
  | u :: us, _, ⟨v, vs', h1, h2, h3⟩ => ⟨v, vs', [], [], h1, rfl, ⟨rfl, h2⟩, RepOs.pure_ h3⟩
theorem RepOs.flat {S H : Hp} : ∀ {us : List U} {vs : List V} {F : List Addr}, RepOs κ S H (us.map .p) vs F → F = [] ∧ Reps κ S us vs
  | [], _, _, h => ⟨h.2, h.1⟩
  | u :: us, _, _, h => by
    obtain ⟨v, vs', F1, F2, h1, rfl, ⟨rfl, h2⟩, h3⟩ := h
    obtain ⟨rfl, h4⟩ := RepOs.flat h3
    exact ⟨rfl, v, vs', h1, h2, h4⟩
/-! the slots -/
def SlotOk (κ : String → Addr) (S H : Hp) (s : Option V) : Option Ow → List Addr → Prop
  | none, F => F = []
  | some w, F => ∃ v, s = some v ∧ RepO κ S H w v F
def GhO (S H : Hp) : Gh → List Addr → Prop
  | [], F => F = []
  | (p, q) :: γ, F => ∃ ps F', F = p :: F' ∧ H p = some (.tbl ps) ∧ TriplesOk ps.toList ∧ (∀ pos cv, codeAmong pos ps.toList = some cv → ∃ c, cv = .ref c ∧ S c = some (LamX.CodeO c q)) ∧ GhO S H γ F'
theorem GhO.mono {S S' H H' : Hp} (e : Same S S') : ∀ {γ : Gh} {F : List Addr}, (∀ a ∈ F, H' a = H a) → GhO S H γ F → GhO S' H' γ F
  | [], _, _, h => h
  | (p, q) :: γ, _, k, h => by
    obtain ⟨ps, F', rfl, h1, h2, h3, h4⟩ := h
    refine ⟨ps, F', rfl, (k p (by simp)).trans h1, h2, fun pos cv hc => ?_, GhO.mono e (fun b hb => k b (by simp [hb])) h4⟩
    obtain ⟨c, a1, a2⟩ := h3 pos cv hc
    exact ⟨c, a1, e _ _ a2⟩
theorem GhO.foot {κ : String → Addr} {S H : Hp} : ∀ {γ : Gh} {F : List Addr}, GhO S H γ F → ∀ a ∈ F, ∃ o, H a = some o ∧ ¬ XObj κ o
  | [], _, h, a, ha => by
    have : _ = [] := h
    subst this
    simp at ha
  | (p, q) :: γ, _, h, a, ha => by
    obtain ⟨ps, F', rfl, h1, h2, h3, h4⟩ := h
    rcases List.mem_cons.mp ha with rfl | ha
    · exact ⟨_, h1, fun z => by rcases z with ⟨_, _, z⟩ | ⟨_, _, z⟩ <;> cases z⟩
    · exact GhO.foot h4 a ha
def EnvOk (κ : String → Addr) (γ : Gh) (S H : Hp) : L2.St → Env → List Addr → Prop
  | [], [], F => GhO S H γ F
  | s :: σ, e :: env, F => ∃ F1 F2, F = F1 ++ F2 ∧ SlotOk κ S H s e F1 ∧ EnvOk κ γ S H σ env F2
  | _, _, _ => False
theorem SlotOk.mono {S S' H H' : Hp} (e : Same S S') {s : Option V} : ∀ {w : Option Ow} {F : List Addr}, (∀ a ∈ F, H' a = H a) → SlotOk κ S H s w F → SlotOk κ S' H' s w F
  | none, _, _, h => h
  | some w, _, k, ⟨v, h1, h2⟩ => ⟨v, h1, RepO.mono e w k h2⟩
theorem EnvOk.mono {S S' H H' : Hp} (e : Same S S') : ∀ {σ : L2.St} {env : Env} {F : List Addr}, (∀ a ∈ F, H' a = H a) → EnvOk κ γ S H σ env F → EnvOk κ γ S' H' σ env F
  | [], [], _, k, h => GhO.mono e k h
  | s :: σ, w :: env, _, k, h => by
    obtain ⟨F1, F2, rfl, h1, h2⟩ := h
    exact ⟨F1, F2, rfl, SlotOk.mono e (fun b hb => k b (by simp [hb])) h1, EnvOk.mono e (fun b hb => k b (by simp [hb])) h2⟩
  | [], _ :: _, _, _, h => h
  | _ :: _, [], _, _, h => h
theorem EnvOk.len {S H : Hp} : ∀ {σ : L2.St} {env : Env} {F : List Addr}, EnvOk κ γ S H σ env F → σ.length = env.length
  | [], [], _, _ => rfl
  | s :: σ, w :: env, _, h => by
    obtain ⟨F1, F2, rfl, h1, h2⟩ := h
    exact by simp [EnvOk.len h2]
  | [], _ :: _, _, h => h.elim
  | _ :: _, [], _, h => h.elim
theorem EnvOk.foot {S H : Hp} : ∀ {σ : L2.St} {env : Env} {F : List Addr}, EnvOk κ γ S H σ env F → ∀ a ∈ F, ∃ o, H a = some o ∧ ¬ XObj κ o
  | [], [], _, h => GhO.foot h
  | s :: σ, w :: env, _, h => by
    obtain ⟨F1, F2, rfl, h1, h2⟩ := h
    intro a ha
    rcases List.mem_append.mp ha with ha | ha
    · cases w with
      | none =>
        have : _ = [] := h1
        subst this
        simp at ha
      | some w =>
        obtain ⟨v, _, h⟩ := h1
        exact RepO.foot w h a ha
    · exact EnvOk.foot h2 a ha
  | [], _ :: _, _, h => h.elim
  | _ :: _, [], _, h => h.elim
/-- a slot, and the slots with another thing in its place -/
theorem EnvOk.get {S H : Hp} : ∀ {σ : L2.St} {env : Env} {F : List Addr} {i : Nat} {w : Option Ow}, EnvOk κ γ S H σ env F → env[i]? = some w →
    ∃ s F1 F2 F3, σ[i]? = some s ∧ F = F1 ++ F2 ++ F3 ∧ SlotOk κ S H s w F2 ∧
      ∀ {S' H' : Hp} {s' : Option V} {w' : Option Ow} {F2' : List Addr}, Same S S' → (∀ a, a ∈ F1 ∨ a ∈ F3 → H' a = H a) → SlotOk κ S' H' s' w' F2' → EnvOk κ γ S' H' (σ.set i s') (env.set i w') (F1 ++ F2' ++ F3)
  | [], [], _, _, _, _, e => by simp at e
  | s :: σ, x :: env, _, 0, w, ⟨F1, F2, rfl, h1, h2⟩, e => by
    simp at e
    subst e
    exact ⟨s, [], F1, F2, rfl, by simp, h1, fun e k h => ⟨_, F2, by simp, h, h2.mono e (fun a ha => k a (.inr ha))⟩⟩
  | s :: σ, x :: env, _, i + 1, w, ⟨F1, F2, rfl, h1, h2⟩, e => by
    obtain ⟨s', A, B, C, g1, rfl, g3, g4⟩ := EnvOk.get (i := i) h2 (by simpa using e)
    refine ⟨s', F1 ++ A, B, C, by simpa using g1, by simp, g3, fun e k h => ?_⟩
    refine ⟨F1, A ++ _ ++ C, by simp, h1.mono e fun a ha => k a (.inl (by simp [ha])), g4 e (fun a ha => k a ?_) h⟩
    rcases ha with ha | ha
    · exact .inl (by simp [ha])
    · exact .inr ha
  | [], _ :: _, _, _, _, h, _ => h.elim
  | _ :: _, [], _, _, _, h, _ => h.elim
end
/-! states and steps -/
section
variable (κ : String → Addr) (γ : Gh)
structure WF (S H : Hp) (F : List Addr) : Prop where
  sub : Same S H
  nd : F.Nodup
  out : ∀ a ∈ F, S a = none
structure Stp (S H : Hp) (F : List Addr) (S' H' : Hp) (F' : List Addr) : Prop where
  keep : ∀ b o, b ∉ F → H b = some o → H' b = some o
  trk : ∀ b, H' b = none → H b = none
  sub : Same S S'
  new : ∀ b o, S' b = some o → S b = some o ∨ H b = none ∨ XObj κ o ∨ b ∈ F
  foot : ∀ a ∈ F', a ∈ F ∨ H a = none
structure Gd (σ : L2.St) (S H : Hp) (F : List Addr) (env : Env) : Prop where
  wf : WF S H F
  env : EnvOk κ γ S H σ env F
/-- a pure step -/
structure StpP (S H S' H' : Hp) : Prop where
  keep : Same H H'
  sub : Same S S'
  in_ : Same S' H'
  new : ∀ b o, S' b = some o → S b = some o ∨ H b = none ∨ XObj κ o
end
section
variable {κ : String → Addr} {γ : Gh} {S H S1 H1 S2 H2 : Hp} {F F1 F2 : List Addr} {σ : L2.St} {env : Env}
theorem Stp.refl (S H : Hp) (F : List Addr) : Stp κ S H F S H F := ⟨fun _ _ _ h => h, fun _ h => h, fun _ _ h => h, fun _ _ h => .inl h, fun _ h => .inl h⟩
theorem Stp.trans (a : Stp κ S H F S1 H1 F1) (b : Stp κ S1 H1 F1 S2 H2 F2) : Stp κ S H F S2 H2 F2 where
  keep := fun x o hx h => b.keep x o (fun z => by
    rcases a.foot x z with z | z
    · exact hx z
    · rw [h] at z; cases z) (a.keep x o hx h)
  trk := fun x h => a.trk x (b.trk x h)
  sub := fun x o h => b.sub x o (a.sub x o h)
  new := fun x o h => by
    rcases b.new x o h with h | h | h | h
    · exact a.new x o h
    · exact .inr (.inl (a.trk x h))
    · exact .inr (.inr (.inl h))
    · rcases a.foot x h with h | h
      · exact .inr (.inr (.inr h))
      · exact .inr (.inl h)
  foot := fun x h => by
    rcases b.foot x h with h | h
    · exact a.foot x h
    · exact .inr (a.trk x h)
theorem StpP.refl (h : Same S H) : StpP κ S H S H := ⟨fun _ _ h => h, fun _ _ h => h, h, fun _ _ h => .inl h⟩
theorem none_of_same (e : Same H H1) {b : Addr} (h : H1 b = none) : H b = none := by
  cases q : H b with
  | none => rfl
  | some o =>
    rw [e b o q] at h
    cases h
theorem StpP.trans (a : StpP κ S H S1 H1) (b : StpP κ S1 H1 S2 H2) : StpP κ S H S2 H2 where
  keep := a.keep.trans b.keep
  sub := a.sub.trans b.sub
  in_ := b.in_
  new := fun x o h => by
    rcases b.new x o h with h | h | h
    · exact a.new x o h
    · exact .inr (.inl (none_of_same a.keep h))
    · exact .inr (.inr h)
theorem StpP.stp (a : StpP κ S H S1 H1) : Stp κ S H F S1 H1 F :=
  ⟨fun b o _ h => a.keep b o h, fun b h => none_of_same a.keep h, a.sub, fun b o h => by
    rcases a.new b o h with h | h | h
    · exact .inl h
    · exact .inr (.inl h)
    · exact .inr (.inr (.inl h)), fun _ h => .inl h⟩
theorem Gd.pure_ (g : Gd κ γ σ S H F env) (a : StpP κ S H S1 H1) : Gd κ γ σ S1 H1 F env := by
  have kf : ∀ x ∈ F, H1 x = H x := fun x hx => by
    obtain ⟨o, ho, _⟩ := g.env.foot x hx
    rw [a.keep x o ho, ho]
  refine ⟨⟨a.in_, g.wf.nd, fun x hx => ?_⟩, g.env.mono a.sub kf⟩
  cases q : S1 x with
  | none => rfl
  | some o =>
    obtain ⟨o', ho, nx⟩ := g.env.foot x hx
    rcases a.new x o q with h | h | h
    · rw [g.wf.out x hx] at h
      cases h
    · rw [ho] at h
      cases h
    · have h2 := a.in_ x o q
      rw [kf x hx, ho] at h2
      cases h2
      exact (nx h).elim
/-- a new pure object -/
theorem StpP.new1 {p : Addr} {o : HO} (h : Same S H) (hp : H p = none) : StpP κ S H (upd S p o) (upd H p o) := by
  have sp : S p = none := none_of_same h hp
  refine ⟨Same.new hp, Same.new sp, fun b u e => ?_, fun b u e => ?_⟩
  · by_cases hb : b = p
    · subst hb
      rw [upd_same] at e ⊢
      exact e
    · rw [upd_ne hb] at e ⊢
      exact h b u e
  · by_cases hb : b = p
    · subst hb
      exact .inr (.inl hp)
    · rw [upd_ne hb] at e
      exact .inl e
/-- a step that may be told to be quiet: nothing that is owned is touched -/
structure StpQ (κ : String → Addr) (ρ : Bool) (S H : Hp) (F : List Addr) (env : Env) (S' H' : Hp) (F' : List Addr) (env' : Env) : Prop where
  stp : Stp κ S H F S' H' F'
  qt : ρ = true → Same H H' ∧ F' = F ∧ env' = env
theorem StpQ.refl {ρ : Bool} (S H : Hp) (F : List Addr) (env : Env) : StpQ κ ρ S H F env S H F env := ⟨Stp.refl S H F, fun _ => ⟨fun _ _ h => h, rfl, rfl⟩⟩
theorem StpQ.trans {ρ : Bool} {env1 env2 : Env} (a : StpQ κ ρ S H F env S1 H1 F1 env1) (b : StpQ κ ρ S1 H1 F1 env1 S2 H2 F2 env2) : StpQ κ ρ S H F env S2 H2 F2 env2 :=
  ⟨a.stp.trans b.stp, fun h => by
    obtain ⟨a1, a2, a3⟩ := a.qt h
    obtain ⟨b1, b2, b3⟩ := b.qt h
    exact ⟨a1.trans b1, b2.trans a2, b3.trans a3⟩⟩
theorem StpQ.sub {ρ : Bool} {env1 : Env} (a : StpQ κ ρ S H F env S1 H1 F1 env1) : Same S S1 := a.stp.sub
theorem StpP.stq {ρ : Bool} (a : StpP κ S H S1 H1) : StpQ κ ρ S H F env S1 H1 F env := ⟨a.stp, fun _ => ⟨a.keep, rfl, rfl⟩⟩
theorem Stp.stq {env1 : Env} (a : Stp κ S H F S1 H1 F1) : StpQ κ false S H F env S1 H1 F1 env1 := ⟨a, fun h => nomatch h⟩
end
end UL
set_option Elab.async false
set_option linter.all false
set_option maxRecDepth 100000
set_option maxHeartbeats 2000000
/-! mirrors and what it is that a reading does as its mirror says -/
namespace UL
open PySem PySem.Spec PyProof.Rows L2 LV
abbrev M (α : Type) := Env → Option (α × Env)
inductive Fl where
  | nx (env : Env) | rt (u : Ow) (env : Env) | bk (env : Env)
abbrev MS := Env → Option Fl
/-! mirrors: expressions -/
def mVar (i : Nat) : M U := fun env => match env[i]? with
  | some (some (.p u)) => some (u, env)
  | _ => none
/-- an owned thing is handed on and is pure from then on -/
def mFrz (i : Nat) : M U := fun env => match env[i]? with
  | some (some w) => some (frz w, env.set i (some (.p (frz w))))
  | _ => none
def mC (u : U) : M U := fun env => some (u, env)
def m1 (f : U → Option U) (a : M U) : M U := fun env => (a env).bind fun x => (f x.1).bind fun z => some (z, x.2)
def m2 (f : U → U → Option U) (a b : M U) : M U := fun env => (a env).bind fun x => (b x.2).bind fun y => (f x.1 y.1).bind fun z => some (z, y.2)
def mNil : M (List U) := fun env => some ([], env)
def mCons (a : M U) (r : M (List U)) : M (List U) := fun env => (a env).bind fun x => (r x.2).bind fun y => some (x.1 :: y.1, y.2)
def mN (f : List U → Option U) (a : M (List U)) : M U := fun env => (a env).bind fun x => (f x.1).bind fun z => some (z, x.2)
def mLst (a : M (List U)) : M U := fun env => (a env).bind fun x => some (.lst x.1, x.2)
def mTup (a : M (List U)) : M U := fun env => (a env).bind fun x => some (.tup x.1, x.2)
def mLstO (a : M (List U)) : M Ow := fun env => (a env).bind fun x => some (.l (x.1.map .p), x.2)
def mP (a : M U) : M Ow := fun env => (a env).bind fun x => some (.p x.1, x.2)
def mF (a : M Ow) : M U := fun env => (a env).bind fun x => some (frz x.1, x.2)
def isB : U → Option Bool
  | .bl b => some b
  | _ => none
def mTest (a : M U) : M Bool := fun env => (a env).bind fun x => (isB x.1).bind fun b => some (b, x.2)
def mAnd (a b : M Bool) : M Bool := fun env => (a env).bind fun x => if x.1 = true then b x.2 else some (false, x.2)
def mOr (a b : M Bool) : M Bool := fun env => (a env).bind fun x => if x.1 = true then some (true, x.2) else b x.2
def mNot (a : M Bool) : M Bool := fun env => (a env).bind fun x => some (!x.1, x.2)
def mIf (c : M Bool) (a b : M U) : M U := fun env => (c env).bind fun x => if x.1 = true then a x.2 else b x.2
def mAndV (a b : M U) : M U := fun env => (a env).bind fun x => (isB x.1).bind fun k => if k = true then b x.2 else some (.bl false, x.2)
def mOrV (a b : M U) : M U := fun env => (a env).bind fun x => (isB x.1).bind fun k => if k = true then some (.bl true, x.2) else b x.2
def mNotV (a : M U) : M U := fun env => (a env).bind fun x => (isB x.1).bind fun k => some (.bl (!k), x.2)
def isN : U → Bool
  | .non => true
  | _ => false
def mIsN (a : M U) : M U := fun env => (a env).bind fun x => some (.bl (isN x.1), x.2)
def mNotN (a : M U) : M U := fun env => (a env).bind fun x => some (.bl (!isN x.1), x.2)
section
variable (κ : String → Addr) (γ : Gh)
structure SimE (ρ : Bool) (t : TE) (m : M U) : Prop where
  run : ∀ {σ : L2.St} {S H : Hp} {F : List Addr} {env : Env}, Gd κ γ σ S H F env → ∀ {u : U} {env' : Env}, m env = some (u, env') → ∀ Q : VK,
  (∀ v S' H' F', StpQ κ ρ S H F env S' H' F' env' → Gd κ γ σ S' H' F' env' → Rep κ S' u v → Q v H') → t σ H Q
structure SimO (t : TE) (m : M Ow) : Prop where
  run : ∀ {σ : L2.St} {S H : Hp} {F : List Addr} {env : Env}, Gd κ γ σ S H F env → ∀ {w : Ow} {env' : Env}, m env = some (w, env') → ∀ Q : VK,
  (∀ v S' H' F' Fw, Stp κ S H F S' H' (F' ++ Fw) → Gd κ γ σ S' H' F' env' → WF S' H' (F' ++ Fw) → RepO κ S' H' w v Fw → Q v H') → t σ H Q
structure SimT (ρ : Bool) (t : TT) (m : M Bool) : Prop where
  run : ∀ {σ : L2.St} {S H : Hp} {F : List Addr} {env : Env}, Gd κ γ σ S H F env → ∀ {b : Bool} {env' : Env}, m env = some (b, env') → ∀ Q : Bool → Hp → Prop,
  (∀ S' H' F', StpQ κ ρ S H F env S' H' F' env' → Gd κ γ σ S' H' F' env' → Q b H') → t σ H Q
structure SimA (ρ : Bool) (n : Nat) (t : TA) (m : M (List U)) : Prop where
  len : ∀ {env us env'}, m env = some (us, env') → us.length = n
  run : ∀ {σ : L2.St} {S H : Hp} {F : List Addr} {env : Env}, Gd κ γ σ S H F env → ∀ {us : List U} {env' : Env}, m env = some (us, env') → ∀ Q : List V → Hp → Prop,
    (∀ vs S' H' F', StpQ κ ρ S H F env S' H' F' env' → Gd κ γ σ S' H' F' env' → Reps κ S' us vs → Q vs H') → t σ H Q
/-- a pure operation on values -/
def rP (f : List U → Option U) : List V → Hp → VK → Prop := fun vs H Q => ∃ S us u, Same S H ∧ Reps κ S us vs ∧ f us = some u ∧ ∀ v S' H', StpP κ S H S' H' → Rep κ S' u v → Q v H'
def r1 (f : U → Option U) : V → Hp → VK → Prop := fun x H Q => ∃ S a u, Same S H ∧ Rep κ S a x ∧ f a = some u ∧ ∀ v S' H', StpP κ S H S' H' → Rep κ S' u v → Q v H'
def r2 (f : U → U → Option U) : R2 := fun x y H Q => ∃ S a b u, Same S H ∧ Rep κ S a x ∧ Rep κ S b y ∧ f a b = some u ∧ ∀ v S' H', StpP κ S H S' H' → Rep κ S' u v → Q v H'
end
section
variable {κ : String → Addr} {γ : Gh} {ρ : Bool}
theorem bindS {α β : Type} {x : Option α} {f : α → Option β} {z : β} (h : x.bind f = some z) : ∃ a, x = some a ∧ f a = some z := by
  cases x with
  | none => cases h
  | some a => exact ⟨a, rfl, h⟩
theorem WF.left {S H : Hp} {F G : List Addr} (h : WF S H (F ++ G)) : WF S H F := ⟨h.sub, (List.nodup_append.mp h.nd).1, fun a ha => h.out a (by simp [ha])⟩
/-- a slot that is read -/
theorem Gd.slot {σ : L2.St} {S H : Hp} {F : List Addr} {env : Env} (g : Gd κ γ σ S H F env) {i : Nat} {u : U} (e : env[i]? = some (some (.p u))) : ∃ v, σ[i]? = some (some v) ∧ Rep κ S u v := by
  obtain ⟨s, F1, F2, F3, h1, _, ⟨v, rfl, _, h3⟩, _⟩ := g.env.get e
  exact ⟨v, h1, h3⟩
theorem simE_var (i : Nat) : SimE κ γ ρ (tVar i) (mVar i) := by
  constructor
  intro σ S H F env g u env' h Q k
  unfold mVar at h
  split at h
  · rename_i u' e
    cases h
    obtain ⟨v, h1, h2⟩ := g.slot e
    exact ⟨v, h1, k v S H F (StpQ.refl S H F env) g h2⟩
  · cases h
theorem simE_c {v : V} {u : U} (h : ∀ S, Rep κ S u v) : SimE κ γ ρ (tC v) (mC u) := by
  constructor
  intro σ S H F env g u' env' e Q k
  cases e
  exact k v S H F (StpQ.refl S H F env) g (h S)
theorem simE_int {i : Int} : SimE κ γ ρ (tC (.int i)) (mC (.int i)) := simE_c (v := .int i) (u := .int i) fun _ => rfl
theorem simE_str {x : Str} : SimE κ γ ρ (tC (.str x)) (mC (.str x)) := simE_c (v := .str x) (u := .str x) fun _ => rfl
theorem simE_bl {b : Bool} : SimE κ γ ρ (tC (.bl b)) (mC (.bl b)) := simE_c (v := .bl b) (u := .bl b) fun _ => rfl
theorem simE_non : SimE κ γ ρ (tC .non) (mC .non) := simE_c (v := .non) (u := .non) fun _ => rfl
theorem simE_un {f : U → Option U} {ta : TE} {ma : M U} (ha : SimE κ γ ρ ta ma) : SimE κ γ ρ (tUn (r1 κ f) ta) (m1 f ma) := by
  constructor
  intro σ S H F env g u env' e Q k
  obtain ⟨⟨x, e1⟩, h1, e⟩ := bindS e
  obtain ⟨z, h2, e⟩ := bindS e
  cases e
  refine ha.run g h1 _ fun v S1 H1 F1 s1 g1 r => ?_
  exact ⟨S1, x, u, g1.wf.sub, r, h2, fun v' S' H' p r' => k v' S' H' F1 (s1.trans p.stq) (g1.pure_ p) r'⟩
theorem simE_op {f : U → U → Option U} {ta tb : TE} {ma mb : M U} (ha : SimE κ γ ρ ta ma) (hb : SimE κ γ ρ tb mb) : SimE κ γ ρ (tOp (r2 κ f) ta tb) (m2 f ma mb) := by
  constructor
  intro σ S H F env g u env' e Q k
  obtain ⟨⟨x, e1⟩, h1, e⟩ := bindS e
  obtain ⟨⟨y, e2⟩, h2, e⟩ := bindS e
  obtain ⟨z, h3, e⟩ := bindS e
  cases e
  refine ha.run g h1 _ fun v S1 H1 F1 s1 g1 r => hb.run g1 h2 _ fun v2 S2 H2 F2 s2 g2 r2 => ?_
  exact ⟨S2, x, y, u, g2.wf.sub, Rep.mono s2.sub x r, r2, h3, fun v' S' H' p r' => k v' S' H' F2 ((s1.trans s2).trans p.stq) (g2.pure_ p) r'⟩
theorem simA_nil : SimA κ γ ρ 0 tNil mNil := ⟨fun e => by cases e; rfl, fun {σ S H F env} g {us env'} e Q k => by
  cases e
  exact k [] S H F (StpQ.refl S H F env) g rfl⟩
theorem simA_cons {n : Nat} {ta : TE} {ma : M U} {tr : TA} {mr : M (List U)} (ha : SimE κ γ ρ ta ma) (hr : SimA κ γ ρ n tr mr) : SimA κ γ ρ (n + 1) (tCons ta tr) (mCons ma mr) := by
  constructor
  · intro env us env' e
    obtain ⟨⟨x, e1⟩, h1, e⟩ := bindS e
    obtain ⟨⟨y, e2⟩, h2, e⟩ := bindS e
    cases e
    simp [hr.len h2]
  · intro σ S H F env g us env' e Q k
    obtain ⟨⟨x, e1⟩, h1, e⟩ := bindS e
    obtain ⟨⟨y, e2⟩, h2, e⟩ := bindS e
    cases e
    exact ha.run g h1 _ fun v S1 H1 F1 s1 g1 r => hr.run g1 h2 _ fun vs S2 H2 F2 s2 g2 rs => k _ S2 H2 F2 (s1.trans s2) g2 ⟨v, vs, rfl, Rep.mono s2.sub x r, rs⟩
theorem simE_cb {f : List U → Option U} {n : Nat} {t : TA} {m : M (List U)} (h : SimA κ γ ρ n t m) : SimE κ γ ρ (tCB (rP κ f) t) (mN f m) := by
  constructor
  intro σ S H F env g u env' e Q k
  obtain ⟨⟨x, e1⟩, h1, e⟩ := bindS e
  obtain ⟨z, h3, e⟩ := bindS e
  cases e
  refine h.run g h1 _ fun vs S1 H1 F1 s1 g1 r => ?_
  exact ⟨S1, x, u, g1.wf.sub, r, h3, fun v' S' H' p r' => k v' S' H' F1 (s1.trans p.stq) (g1.pure_ p) r'⟩
theorem simE_lst {n : Nat} {t : TA} {m : M (List U)} (h : SimA κ γ ρ n t m) (hn : n ≤ 1000 := by decide) : SimE κ γ ρ (tLst t) (mLst m) := by
  constructor
  intro σ S H F env g u env' e Q k
  obtain ⟨⟨x, e1⟩, h1, e⟩ := bindS e
  cases e
  have hl := h.len h1
  refine h.run g h1 _ fun vs S1 H1 F1 s1 g1 r => ⟨?_, fun p hp => ?_⟩
  · rw [← r.len, hl]
    exact Nat.le_trans hn (by decide)
  · have st : StpP κ S1 H1 (upd S1 p (.lst vs)) (upd H1 p (.lst vs)) := StpP.new1 g1.wf.sub hp
    exact k _ _ _ F1 (s1.trans st.stq) (g1.pure_ st) ⟨p, vs, rfl, upd_same, Reps.mono st.sub _ r⟩
theorem simE_tup {n : Nat} {t : TA} {m : M (List U)} (h : SimA κ γ ρ n t m) (hn : n ≤ 1000 := by decide) : SimE κ γ ρ (tTup t) (mTup m) := by
  constructor
  intro σ S H F env g u env' e Q k
  obtain ⟨⟨x, e1⟩, h1, e⟩ := bindS e
  cases e
  have hl := h.len h1
  refine h.run g h1 _ fun vs S1 H1 F1 s1 g1 r => ⟨?_, fun p hp => ?_⟩
  · rw [← r.len, hl]
    exact Nat.le_trans hn (by decide)
  · have st : StpP κ S1 H1 (upd S1 p (.tup vs)) (upd H1 p (.tup vs)) := StpP.new1 g1.wf.sub hp
    exact k _ _ _ F1 (s1.trans st.stq) (g1.pure_ st) ⟨p, vs, rfl, upd_same, Reps.mono st.sub _ r⟩
/-! owned results -/
theorem simO_p {t : TE} {m : M U} (h : SimE κ γ false t m) : SimO κ γ t (mP m) := by
  constructor
  intro σ S H F env g w env' e Q k
  obtain ⟨⟨x, e1⟩, h1, e⟩ := bindS e
  cases e
  refine h.run g h1 _ fun v S1 H1 F1 s1 g1 r => k v S1 H1 F1 [] (by rw [List.append_nil]; exact s1.stp) g1 (by rw [List.append_nil]; exact g1.wf) ⟨rfl, r⟩
/-- a new owned object with pure parts -/
theorem new_owned {σ : L2.St} {S H : Hp} {F : List Addr} {env : Env} (g : Gd κ γ σ S H F env) {p : Addr} {o : HO} (hp : H p = none) :
    Stp κ S H F S (upd H p o) (F ++ [p]) ∧ Gd κ γ σ S (upd H p o) F env ∧ WF S (upd H p o) (F ++ [p]) := by
  have np : p ∉ F := fun z => by
    obtain ⟨o, ho, _⟩ := g.env.foot p z
    rw [hp] at ho
    cases ho
  have sp : S p = none := none_of_same g.wf.sub hp
  have sub : Same S (upd H p o) := g.wf.sub.trans (Same.new hp)
  refine ⟨⟨fun b u _ h => Same.new hp b u h, fun b h => none_of_same (Same.new hp) h, fun _ _ h => h, fun _ _ h => .inl h, fun a ha => ?_⟩, ⟨⟨sub, g.wf.nd, g.wf.out⟩, g.env.mono (fun _ _ h => h) fun a ha => upd_ne fun z => np (z ▸ ha)⟩, ⟨sub, ?_, ?_⟩⟩
  · rcases List.mem_append.mp ha with ha | ha
    · exact .inl ha
    · rw [List.mem_singleton.mp ha]
      exact .inr hp
  · refine List.nodup_append.mpr ⟨g.wf.nd, by simp, fun a ha b hb => ?_⟩
    rw [List.mem_singleton.mp hb]
    exact fun z => np (z ▸ ha)
  · intro a ha
    rcases List.mem_append.mp ha with ha | ha
    · exact g.wf.out a ha
    · rw [List.mem_singleton.mp ha]
      exact sp
/-- what was owned is handed on as pure -/
theorem frz_state {σ : L2.St} {S H S1 H1 : Hp} {F F1 Fw : List Addr} {env : Env} {w : Ow} {v : V} (s : Stp κ S H F S1 H1 (F1 ++ Fw)) (g : Gd κ γ σ S1 H1 F1 env) (wf : WF S1 H1 (F1 ++ Fw)) (r : RepO κ S1 H1 w v Fw) :
    ∃ S2, Same S1 S2 ∧ Stp κ S H F S2 H1 F1 ∧ Gd κ γ σ S2 H1 F1 env ∧ Rep κ S2 (frz w) v := by
  have hS : Same S1 fun b => if b ∈ Fw then H1 b else S1 b := fun b o h => by
    by_cases hb : b ∈ Fw
    · have := wf.out b (by simp [hb])
      rw [this] at h
      cases h
    · show (if b ∈ Fw then H1 b else S1 b) = _
      rw [if_neg hb]
      exact h
  refine ⟨fun b => if b ∈ Fw then H1 b else S1 b, hS, ?_, ⟨⟨fun b o h => ?_, g.wf.nd, fun a ha => ?_⟩, g.env.mono hS fun _ _ => rfl⟩, RepO.frz hS w (fun a ha => if_pos ha) r⟩
  · refine ⟨s.keep, s.trk, s.sub.trans hS, fun b o h => ?_, fun a ha => s.foot a (by simp [ha])⟩
    by_cases hb : b ∈ Fw
    · rcases s.foot b (by simp [hb]) with z | z
      · exact .inr (.inr (.inr z))
      · exact .inr (.inl z)
    · rw [if_neg hb] at h
      exact s.new b o h
  · by_cases hb : b ∈ Fw
    · rw [if_pos hb] at h
      exact h
    · rw [if_neg hb] at h
      exact wf.sub b o h
  · have : a ∉ Fw := fun z => (List.nodup_append.mp wf.nd).2.2 a ha a z rfl
    show (if a ∈ Fw then H1 a else S1 a) = none
    rw [if_neg this]
    exact g.wf.out a ha
theorem simE_f {t : TE} {m : M Ow} (h : SimO κ γ t m) : SimE κ γ false t (mF m) := by
  constructor
  intro σ S H F env g u env' e Q k
  obtain ⟨⟨x, e1⟩, h1, e⟩ := bindS e
  cases e
  refine h.run g h1 _ fun v S1 H1 F1 Fw s1 g1 wf r => ?_
  obtain ⟨S2, _, b1, b2, b3⟩ := frz_state s1 g1 wf r
  exact k v S2 H1 F1 b1.stq b2 b3
theorem nodup_mid {A B C : List Addr} (h : (A ++ B ++ C).Nodup) : (A ++ C).Nodup ∧ (∀ a ∈ B, a ∉ A ∧ a ∉ C) := by
  rw [List.append_assoc] at h
  obtain ⟨h1, h2, h3⟩ := List.nodup_append.mp h
  obtain ⟨h4, h5, h6⟩ := List.nodup_append.mp h2
  refine ⟨List.nodup_append.mpr ⟨h1, h5, fun a ha b hb => h3 a ha b (by simp [hb])⟩, fun a ha => ⟨fun z => h3 a z a (by simp [ha]) rfl, fun z => h6 a ha a z rfl⟩⟩
/-! tests -/
theorem isB_rep {S : Hp} {u : U} {b : Bool} {v : V} (h : isB u = some b) (r : Rep κ S u v) : v = .bl b := by
  cases u <;> first
    | (cases h; exact r)
    | cases h
theorem simT_test {t : TE} {m : M U} (h : SimE κ γ ρ t m) : SimT κ γ ρ (tTest t) (mTest m) := by
  constructor
  intro σ S H F env g b env' e Q k
  obtain ⟨⟨x, e1⟩, h1, e⟩ := bindS e
  obtain ⟨z, h2, e⟩ := bindS e
  cases e
  exact h.run g h1 _ fun v S1 H1 F1 s1 g1 r => ⟨_, isB_rep h2 r, k S1 H1 F1 s1 g1⟩
theorem simT_B {t : TE} {m : M U} (h : SimE κ γ ρ t m) : SimT κ γ ρ (tB t) (mTest m) := by
  constructor
  intro σ S H F env g b env' e Q k
  obtain ⟨⟨x, e1⟩, h1, e⟩ := bindS e
  obtain ⟨z, h2, e⟩ := bindS e
  cases e
  exact h.run g h1 _ fun v S1 H1 F1 s1 g1 r => ⟨_, isB_rep h2 r, k S1 H1 F1 s1 g1⟩
theorem simT_not {t : TT} {m : M Bool} (h : SimT κ γ ρ t m) : SimT κ γ ρ (tNot t) (mNot m) := by
  constructor
  intro σ S H F env g b env' e Q k
  obtain ⟨⟨x, e1⟩, h1, e⟩ := bindS e
  cases e
  exact h.run g h1 _ fun S1 H1 F1 s1 g1 => k S1 H1 F1 s1 g1
theorem simT_and {t u : TT} {m n : M Bool} (h : SimT κ γ ρ t m) (h' : SimT κ γ ρ u n) : SimT κ γ ρ (tAnd t u) (mAnd m n) := by
  constructor
  intro σ S H F env g b env' e Q k
  obtain ⟨⟨x, e1⟩, h1, e⟩ := bindS e
  refine h.run g h1 _ fun S1 H1 F1 s1 g1 => ?_
  cases x with
  | true => exact h'.run g1 e _ fun S2 H2 F2 s2 g2 => k S2 H2 F2 (s1.trans s2) g2
  | false =>
    cases e
    exact k S1 H1 F1 s1 g1
theorem simT_or {t u : TT} {m n : M Bool} (h : SimT κ γ ρ t m) (h' : SimT κ γ ρ u n) : SimT κ γ ρ (tOr t u) (mOr m n) := by
  constructor
  intro σ S H F env g b env' e Q k
  obtain ⟨⟨x, e1⟩, h1, e⟩ := bindS e
  refine h.run g h1 _ fun S1 H1 F1 s1 g1 => ?_
  cases x with
  | true =>
    cases e
    exact k S1 H1 F1 s1 g1
  | false => exact h'.run g1 e _ fun S2 H2 F2 s2 g2 => k S2 H2 F2 (s1.trans s2) g2
theorem simE_if {c : TT} {ta tb : TE} {mc : M Bool} {ma mb : M U} (hc : SimT κ γ ρ c mc) (ha : SimE κ γ ρ ta ma) (hb : SimE κ γ ρ tb mb) : SimE κ γ ρ (tIf c ta tb) (mIf mc ma mb) := by
  constructor
  intro σ S H F env g u env' e Q k
  obtain ⟨⟨x, e1⟩, h1, e⟩ := bindS e
  refine hc.run g h1 _ fun S1 H1 F1 s1 g1 => ?_
  cases x with
  | true => exact ha.run g1 e _ fun v S2 H2 F2 s2 g2 r => k v S2 H2 F2 (s1.trans s2) g2 r
  | false => exact hb.run g1 e _ fun v S2 H2 F2 s2 g2 r => k v S2 H2 F2 (s1.trans s2) g2 r
theorem simE_andV {ta tb : TE} {ma mb : M U} (ha : SimE κ γ ρ ta ma) (hb : SimE κ γ ρ tb mb) : SimE κ γ ρ (tAndV ta tb) (mAndV ma mb) := by
  constructor
  intro σ S H F env g u env' e Q k
  obtain ⟨⟨x, e1⟩, h1, e⟩ := bindS e
  obtain ⟨z, h2, e⟩ := bindS e
  refine ha.run g h1 _ fun v S1 H1 F1 s1 g1 r => ⟨z, isB_rep h2 r, ?_⟩
  cases z with
  | true => exact hb.run g1 e _ fun v S2 H2 F2 s2 g2 r => k v S2 H2 F2 (s1.trans s2) g2 r
  | false =>
    cases e
    exact k _ S1 H1 F1 s1 g1 rfl
theorem simE_orV {ta tb : TE} {ma mb : M U} (ha : SimE κ γ ρ ta ma) (hb : SimE κ γ ρ tb mb) : SimE κ γ ρ (tOrV ta tb) (mOrV ma mb) := by
  constructor
  intro σ S H F env g u env' e Q k
  obtain ⟨⟨x, e1⟩, h1, e⟩ := bindS e
  obtain ⟨z, h2, e⟩ := bindS e
  refine ha.run g h1 _ fun v S1 H1 F1 s1 g1 r => ⟨z, isB_rep h2 r, ?_⟩
  cases z with
  | true =>
    cases e
    exact k _ S1 H1 F1 s1 g1 rfl
  | false => exact hb.run g1 e _ fun v S2 H2 F2 s2 g2 r => k v S2 H2 F2 (s1.trans s2) g2 r
theorem isN_rep {S : Hp} {u : U} {v : V} (r : Rep κ S u v) : decide (v = .non) = isN u := by
  cases u with
  | non => exact decide_eq_true r
  | bl b => rw [show v = .bl b from r]; rfl
  | int i => rw [show v = .int i from r]; rfl
  | str x => rw [show v = .str x from r]; rfl
  | q x => obtain ⟨a, _, rfl, _⟩ := r; rfl
  | lst us => obtain ⟨a, _, rfl, _⟩ := r; rfl
  | tup us => obtain ⟨a, _, rfl, _⟩ := r; rfl
  | obj c ns us => obtain ⟨a, _, _, rfl, _⟩ := r; rfl
  | dic ks us => obtain ⟨a, _, rfl, _⟩ := r; rfl
  | kt c => rw [show v = .ref (κ c) from r]; rfl
  | atl a us => obtain ⟨a, _, rfl, _⟩ := r; rfl
theorem simE_isN {ta : TE} {ma : M U} (ha : SimE κ γ ρ ta ma) : SimE κ γ ρ (tIsN ta) (mIsN ma) := by
  constructor
  intro σ S H F env g u env' e Q k
  obtain ⟨⟨x, e1⟩, h1, e⟩ := bindS e
  cases e
  refine ha.run g h1 _ fun v S1 H1 F1 s1 g1 r => ?_
  rw [isN_rep r]
  exact k _ S1 H1 F1 s1 g1 rfl
end
end UL
set_option Elab.async false
set_option linter.all false
set_option maxRecDepth 100000
set_option maxHeartbeats 2000000
/-! statements, loops -/
namespace UL
open PySem PySem.Spec PyProof.Rows L2 LV
/-! mirrors -/
def sNext : MS := fun env => some (.nx env)
def sNever : MS := fun _ => none
def sSeq (a b : MS) : MS := fun env => (a env).bind fun f => match f with
  | .nx e => b e
  | f => some f
def sIf (c : M Bool) (a b : MS) : MS := fun env => (c env).bind fun x => if x.1 = true then a x.2 else b x.2
def sDrop (a : M U) : MS := fun env => (a env).bind fun x => some (.nx x.2)
def sRet (a : M Ow) : MS := fun env => (a env).bind fun x => some (.rt x.1 x.2)
def sSet (i : Nat) (a : M Ow) : MS := fun env => (a env).bind fun x => some (.nx (x.2.set i (some x.1)))
/-- an owned thing leaves its name -/
def mMov (i : Nat) : M Ow := fun env => match env[i]? with
  | some (some w) => some (w, env.set i none)
  | _ => none
def whileO (c : M Bool) (b : MS) : Nat → MS
  | 0, _ => none
  | n + 1, env => (c env).bind fun x => if x.1 = true then (b x.2).bind fun f => match f with
      | .nx e => whileO c b n e
      | .bk e => some (.nx e)
      | .rt w e => some (.rt w e)
    else some (.nx x.2)
abbrev MG := U → Env → Option Env
def gN (i : Nat) : MG := fun u env => some (env.set i (some (.p u)))
abbrev MGs := List U → Env → Option Env
def gsNil : MGs := fun us env => match us with
  | [] => some env
  | _ => none
def gsCons (g : MG) (r : MGs) : MGs := fun us env => match us with
  | u :: us => (g u env).bind fun e => r us e
  | [] => none
def gT (n : Nat) (r : MGs) : MG := fun u env => match u with
  | .tup us => if us.length = n then r us env else none
  | _ => none
def gL (n : Nat) (r : MGs) : MG := fun u env => match u with
  | .lst us => if us.length = n then r us env else none
  | _ => none
def sAsg (a : M U) (g : MG) : MS := fun env => (a env).bind fun x => (g x.1 x.2).bind fun e => some (.nx e)
def sPar (i j : Nat) (a : M (List U)) : MS := fun env => (a env).bind fun x => match x.1 with
  | [u, v] => some (.nx ((x.2.set i (some (.p u))).set j (some (.p v))))
  | _ => none
def sPar3 (i j l : Nat) (a : M (List U)) : MS := fun env => (a env).bind fun x => match x.1 with
  | [u, v, w] => some (.nx (((x.2.set i (some (.p u))).set j (some (.p v))).set l (some (.p w))))
  | _ => none
def sAug (i : Nat) (f : U → U → Option U) (a : M U) : MS := fun env => (mVar i env).bind fun y => (a y.2).bind fun x => (f y.1 x.1).bind fun z => some (.nx (x.2.set i (some (.p z))))
def forO (g : MG) (b : MS) : List U → MS
  | [], env => some (.nx env)
  | u :: us, env => (g u env).bind fun e1 => (b e1).bind fun f => match f with
    | .nx e2 => forO g b us e2
    | .bk e2 => some (.nx e2)
    | .rt w e2 => some (.rt w e2)
def sFor (it : M (List U)) (g : MG) (b : MS) : MS := fun env => (it env).bind fun x => forO g b x.1 x.2
/-! what they are mirrors of -/
def Fix (fx : Nat → Bool) (σ σ' : L2.St) : Prop := σ'.length = σ.length ∧ ∀ i, fx i = true → σ'[i]? = σ[i]?
theorem Fix.refl (fx : Nat → Bool) (σ : L2.St) : Fix fx σ σ := ⟨rfl, fun _ _ => rfl⟩
theorem Fix.trans {fx : Nat → Bool} {σ σ1 σ2 : L2.St} (a : Fix fx σ σ1) (b : Fix fx σ1 σ2) : Fix fx σ σ2 := ⟨b.1.trans a.1, fun i h => (b.2 i h).trans (a.2 i h)⟩
theorem Fix.set {fx : Nat → Bool} {σ : L2.St} {i : Nat} {v : Option V} (h : fx i = false) : Fix fx σ (σ.set i v) := ⟨by simp, fun j hj => by
  rw [List.getElem?_set_ne]
  intro z
  subst z
  rw [h] at hj
  cases hj⟩
section
variable (κ : String → Addr) (γ : Gh) (fx : Nat → Bool)
/-- what a flow of the mirror asks of the ends -/
def Rch (σ : L2.St) (S H : Hp) (F : List Addr) (D : Ends) : Fl → Prop
  | .nx env' => ∀ σ' S' H' F', Stp κ S H F S' H' F' → Gd κ γ σ' S' H' F' env' → Fix fx σ σ' → D.nx σ' H'
  | .bk env' => ∀ σ' S' H' F', Stp κ S H F S' H' F' → Gd κ γ σ' S' H' F' env' → Fix fx σ σ' → D.bk σ' H'
  | .rt w env' => ∀ v σ' S' H' F' Fw, Stp κ S H F S' H' (F' ++ Fw) → Gd κ γ σ' S' H' F' env' → WF S' H' (F' ++ Fw) → RepO κ S' H' w v Fw → Fix fx σ σ' → D.rt v H'
structure SimS (t : TS) (m : MS) : Prop where
  run : ∀ {σ : L2.St} {S H : Hp} {F : List Addr} {env : Env}, Gd κ γ σ S H F env → ∀ {fl : Fl}, m env = some fl → ∀ D : Ends, Rch κ γ fx σ S H F D fl → t D σ H
structure SimG (g : TG) (m : MG) : Prop where
  run : ∀ {σ : L2.St} {S H : Hp} {F : List Addr} {env : Env}, Gd κ γ σ S H F env → ∀ {u : U} {v : V} {env' : Env}, Rep κ S u v → m u env = some env' → ∀ Q : L2.St → Hp → Prop,
  (∀ σ' S' H' F', Stp κ S H F S' H' F' → Gd κ γ σ' S' H' F' env' → Fix fx σ σ' → Q σ' H') → g v σ H Q
structure SimGs (g : TGs) (m : MGs) : Prop where
  run : ∀ {σ : L2.St} {S H : Hp} {F : List Addr} {env : Env}, Gd κ γ σ S H F env → ∀ {us : List U} {vs : List V} {env' : Env}, Reps κ S us vs → m us env = some env' → ∀ Q : L2.St → Hp → Prop,
  (∀ σ' S' H' F', Stp κ S H F S' H' F' → Gd κ γ σ' S' H' F' env' → Fix fx σ σ' → Q σ' H') → g vs σ H Q
/-- an iterator gives these, while a region stands -/
structure ItOk (J : It) (S A : Hp) (items : List U) : Prop where
  go : ∀ i H, i < items.length → Same A H → J.go i H
  stop : ∀ H, Same A H → J.stop items.length H
  yld : ∀ i H x H' S1 u, items[i]? = some u → Same A H → Same S S1 → Same S1 H → J.yld i H x H' → ∃ S1', StpP κ S1 H S1' H' ∧ Rep κ S1' u x
structure SimI (ρ : Bool) (wi : TI) (m : M (List U)) : Prop where
  run : ∀ {σ : L2.St} {S H : Hp} {F : List Addr} {env : Env}, Gd κ γ σ S H F env → ∀ {items : List U} {env' : Env}, m env = some (items, env') → ∀ R : It → Hp → Prop,
  (∀ J S' H' F', StpQ κ ρ S H F env S' H' F' env' → Gd κ γ σ S' H' F' env' → ItOk κ J S' S' items → R J H') → wi σ H R
end
section
variable {κ : String → Addr} {γ : Gh} {fx : Nat → Bool} {ρ : Bool}
theorem Rch.mono {σ σ1 : L2.St} {S H S1 H1 : Hp} {F F1 : List Addr} {D : Ends} {fl : Fl} (s : Stp κ S H F S1 H1 F1) (hf : Fix fx σ σ1) (h : Rch κ γ fx σ S H F D fl) : Rch κ γ fx σ1 S1 H1 F1 D fl := by
  cases fl with
  | nx e => exact fun σ' S' H' F' s' g f => h σ' S' H' F' (s.trans s') g (hf.trans f)
  | bk e => exact fun σ' S' H' F' s' g f => h σ' S' H' F' (s.trans s') g (hf.trans f)
  | rt w e => exact fun v σ' S' H' F' Fw s' g wf r f => h v σ' S' H' F' Fw (s.trans s') g wf r (hf.trans f)
theorem sim_next : SimS κ γ fx tNext sNext := by
  constructor
  intro σ S H F env g fl e D k
  cases e
  exact k σ S H F (Stp.refl S H F) g (Fix.refl fx σ)
theorem sim_seq {t u : TS} {m n : MS} (h : SimS κ γ fx t m) (h' : SimS κ γ fx u n) : SimS κ γ fx (tSeq t u) (sSeq m n) := by
  constructor
  intro σ S H F env g fl e D k
  obtain ⟨f, h1, e⟩ := bindS e
  refine h.run g h1 _ ?_
  cases f with
  | nx e1 => exact fun σ1 S1 H1 F1 s1 g1 f1 => h'.run g1 e D (k.mono s1 f1)
  | bk e1 =>
    cases e
    exact k
  | rt w e1 =>
    cases e
    exact k
theorem sim_if {c : TT} {t u : TS} {mc : M Bool} {m n : MS} (hc : SimT κ γ false c mc) (h : SimS κ γ fx t m) (h' : SimS κ γ fx u n) : SimS κ γ fx (tIfS c t u) (sIf mc m n) := by
  constructor
  intro σ S H F env g fl e D k
  obtain ⟨⟨x, e1⟩, h1, e⟩ := bindS e
  refine hc.run g h1 _ fun S1 H1 F1 s1 g1 => ?_
  cases x with
  | true => exact h.run g1 e D (k.mono s1.stp (Fix.refl fx σ))
  | false => exact h'.run g1 e D (k.mono s1.stp (Fix.refl fx σ))
theorem sim_drop {t : TE} {m : M U} (h : SimE κ γ false t m) : SimS κ γ fx (tDrop t) (sDrop m) := by
  constructor
  intro σ S H F env g fl e D k
  obtain ⟨⟨x, e1⟩, h1, e⟩ := bindS e
  cases e
  exact h.run g h1 _ fun v S1 H1 F1 s1 g1 _ => k σ S1 H1 F1 s1.stp g1 (Fix.refl fx σ)
theorem sim_ret {t : TE} {m : M Ow} (h : SimO κ γ t m) : SimS κ γ fx (tRet t) (sRet m) := by
  constructor
  intro σ S H F env g fl e D k
  obtain ⟨⟨x, e1⟩, h1, e⟩ := bindS e
  cases e
  exact h.run g h1 _ fun v S1 H1 F1 Fw s1 g1 wf r => k v σ S1 H1 F1 Fw s1 g1 wf r (Fix.refl fx σ)
/-- a slot gets a thing -/
theorem Gd.put {σ : L2.St} {S H : Hp} {F Fw : List Addr} {env : Env} (g : Gd κ γ σ S H F env) (wf : WF S H (F ++ Fw)) {w : Ow} {v : V} (r : RepO κ S H w v Fw) (i : Nat) (hi : i < env.length) :
    ∃ F', Gd κ γ (σ.set i (some v)) S H F' (env.set i (some w)) ∧ ∀ a ∈ F', a ∈ F ++ Fw := by
  have e : env[i]? = some env[i] := by simp [hi]
  obtain ⟨s, F1, F2, F3, h1, rfl, h3, h4⟩ := g.env.get e
  have q := h4 (S' := S) (H' := H) (s' := some v) (w' := some w) (F2' := Fw) (fun _ _ h => h) (fun _ _ => rfl) ⟨v, rfl, r⟩
  have sub : ∀ a ∈ F1 ++ Fw ++ F3, a ∈ (F1 ++ F2 ++ F3) ++ Fw := fun a ha => by
    simp only [List.mem_append] at ha ⊢
    rcases ha with (ha | ha) | ha <;> simp [ha]
  refine ⟨F1 ++ Fw ++ F3, ⟨⟨g.wf.sub, ?_, fun a ha => wf.out a (sub a ha)⟩, q⟩, sub⟩
  obtain ⟨n1, n2, n3⟩ := List.nodup_append.mp wf.nd
  have n4 := (nodup_mid n1).1
  obtain ⟨n5, n6, n7⟩ := List.nodup_append.mp n4
  rw [List.append_assoc]
  refine List.nodup_append.mpr ⟨n5, List.nodup_append.mpr ⟨n2, n6, fun a ha b hb z => n3 b (by simp [hb]) a ha z.symm⟩, fun a ha b hb => ?_⟩
  rcases List.mem_append.mp hb with hb | hb
  · exact n3 a (by simp [ha]) b hb
  · exact n7 a ha b hb
theorem set_ge {α : Type} {l : List α} {i : Nat} {x : α} (h : ¬ i < l.length) : l.set i x = l := List.set_eq_of_length_le (Nat.le_of_not_lt h)
theorem Gd.put2 {σ : L2.St} {S H : Hp} {F Fw : List Addr} {env : Env} (g : Gd κ γ σ S H F env) (wf : WF S H (F ++ Fw)) {w : Ow} {v : V} (r : RepO κ S H w v Fw) (i : Nat) :
    ∃ F', Gd κ γ (σ.set i (some v)) S H F' (env.set i (some w)) ∧ ∀ a ∈ F', a ∈ F ++ Fw := by
  by_cases hi : i < env.length
  · exact g.put wf r i hi
  · have hl := g.env.len
    rw [set_ge hi, set_ge (by omega)]
    exact ⟨F, g, fun a ha => by simp [ha]⟩
theorem Gd.putP {σ : L2.St} {S H : Hp} {F : List Addr} {env : Env} (g : Gd κ γ σ S H F env) {u : U} {v : V} (r : Rep κ S u v) (i : Nat) :
    ∃ F', Gd κ γ (σ.set i (some v)) S H F' (env.set i (some (.p u))) ∧ ∀ a ∈ F', a ∈ F := by
  obtain ⟨F', h1, h2⟩ := g.put2 (Fw := []) (by rw [List.append_nil]; exact g.wf) (w := .p u) ⟨rfl, r⟩ i
  exact ⟨F', h1, fun a ha => by simpa using h2 a ha⟩
theorem Stp.less {S H S1 H1 : Hp} {F F1 F2 : List Addr} (s : Stp κ S H F S1 H1 F1) (h : ∀ a ∈ F2, a ∈ F1) : Stp κ S H F S1 H1 F2 := ⟨s.keep, s.trk, s.sub, s.new, fun a ha => s.foot a (h a ha)⟩
theorem sim_set {t : TE} {m : M Ow} (i : Nat) (h : SimO κ γ t m) (hf : fx i = false := by rfl) : SimS κ γ fx (tAsg t (gName i)) (sSet i m) := by
  constructor
  intro σ S H F env g fl e D k
  obtain ⟨⟨x, e1⟩, h1, e⟩ := bindS e
  cases e
  refine h.run g h1 _ fun v S1 H1 F1 Fw s1 g1 wf r => ?_
  obtain ⟨F', g2, hs⟩ := g1.put2 wf r i
  exact k _ S1 H1 F' (s1.less hs) g2 (Fix.set hf)
theorem simG_name (i : Nat) (hf : fx i = false := by rfl) : SimG κ γ fx (gName i) (gN i) := by
  constructor
  intro σ S H F env g u v env' r e Q k
  cases e
  obtain ⟨F', g2, hs⟩ := g.putP r i
  exact k _ S H F' ((Stp.refl S H F).less hs) g2 (Fix.set hf)
theorem simGs_nil : SimGs κ γ fx gNil gsNil := by
  constructor
  intro σ S H F env g us vs env' r e Q k
  cases us with
  | nil =>
    cases e
    exact ⟨r, k σ S H F (Stp.refl S H F) g (Fix.refl fx σ)⟩
  | cons u us => cases e
theorem simGs_cons {g : TG} {m : MG} {gs : TGs} {ms : MGs} (h : SimG κ γ fx g m) (h' : SimGs κ γ fx gs ms) : SimGs κ γ fx (gCons g gs) (gsCons m ms) := by
  constructor
  intro σ S H F env gd us vs env' r e Q k
  cases us with
  | nil => cases e
  | cons u us =>
    obtain ⟨e1, h1, e⟩ := bindS e
    obtain ⟨v, vs', rfl, r1, r2⟩ := r
    refine ⟨v, vs', rfl, h.run gd r1 h1 _ fun σ1 S1 H1 F1 s1 g1 f1 => h'.run g1 (Reps.mono s1.sub us r2) e _ fun σ2 S2 H2 F2 s2 g2 f2 => k σ2 S2 H2 F2 (s1.trans s2) g2 (f1.trans f2)⟩
theorem simG_tup {K : PySem.W.Frag} {n : Nat} {gs : TGs} {ms : MGs} (h : SimGs κ γ fx gs ms) : SimG κ γ fx (gTup K n gs) (gT n ms) := by
  constructor
  intro σ S H F env gd u v env' r e Q k
  cases u <;> try cases e
  rename_i us
  obtain ⟨a, vs, rfl, h2, h3⟩ := r
  unfold gT at e
  dsimp only at e
  split at e
  · rename_i hl
    exact ⟨a, vs, rfl, SqT.of (gd.wf.sub _ _ h2), by rw [← h3.len, hl], h.run gd h3 e Q k⟩
  · cases e
theorem sim_par {i j : Nat} {t : TA} {m : M (List U)} (h : SimA κ γ false 2 t m) (hi : fx i = false := by rfl) (hj : fx j = false := by rfl) : SimS κ γ fx (tPar i j t) (sPar i j m) := by
  constructor
  intro σ S H F env gd fl e D k
  obtain ⟨⟨x, e1⟩, h1, e⟩ := bindS e
  have hn := h.len h1
  obtain ⟨u, v, rfl⟩ : ∃ u v, x = [u, v] := by
    match x, hn with
    | [u, v], _ => exact ⟨u, v, rfl⟩
  refine h.run gd h1 _ fun vs S1 H1 F1 s1 g1 r => ?_
  · obtain ⟨a, _, rfl, ra, b, _, rfl, rb, rfl⟩ := r
    cases (Option.some.inj e)
    obtain ⟨F2, g2, h2⟩ := g1.putP ra i
    obtain ⟨F3, g3, h3⟩ := g2.putP rb j
    exact ⟨a, b, rfl, k _ S1 H1 F3 (s1.stp.less fun z hz => h2 z (h3 z hz)) g3 ((Fix.set hi).trans (Fix.set hj))⟩
theorem sim_aug {i : Nat} {f : U → U → Option U} {t : TE} {m : M U} (h : SimE κ γ false t m) (hi : fx i = false := by rfl) : SimS κ γ fx (tAug i t (r2 κ f)) (sAug i f m) := by
  constructor
  intro σ S H F env gd fl e D k
  obtain ⟨⟨y, e0⟩, h0, e⟩ := bindS e
  obtain ⟨⟨x, e1⟩, h1, e⟩ := bindS e
  obtain ⟨z, h2, e⟩ := bindS e
  cases e
  unfold mVar at h0
  split at h0
  · rename_i u' e'
    cases h0
    obtain ⟨v, hv, rv⟩ := gd.slot e'
    refine ⟨v, hv, h.run gd h1 _ fun v1 S1 H1 F1 s1 g1 r1 => ?_⟩
    refine ⟨S1, y, x, z, g1.wf.sub, Rep.mono s1.sub y rv, r1, h2, fun v' S' H' p r' => ?_⟩
    obtain ⟨F2, g2, hs⟩ := (g1.pure_ p).putP r' i
    exact k _ S' H' F2 ((s1.stp.trans p.stp).less hs) g2 (Fix.set hi)
  · cases h0
/-! while -/
theorem sim_while {c : TT} {t : TS} {mc : M Bool} {m : MS} (n : Nat) (hc : SimT κ γ false c mc) (h : SimS κ γ fx t m) : SimS κ γ fx (tWhile c t) (whileO mc m n) := by
  constructor
  intro σ S H F env gd fl e D k
  refine ⟨fun n' σ' H' => ∃ S' F' env', Stp κ S H F S' H' F' ∧ Gd κ γ σ' S' H' F' env' ∧ Fix fx σ σ' ∧ whileO mc m n' env' = some fl, ⟨n, S, F, env, Stp.refl S H F, gd, Fix.refl fx σ, e⟩, ?_⟩
  rintro n' σ' H' ⟨S', F', env', s, g, hf, e⟩
  cases n' with
  | zero => cases e
  | succ n' =>
    obtain ⟨⟨x, e1⟩, h1, e⟩ := bindS e
    refine hc.run g h1 _ fun S1 H1 F1 s1 g1 => ?_
    cases x with
    | false =>
      rw [if_neg Bool.false_ne_true] at e ⊢
      cases e
      exact k σ' S1 H1 F1 (s.trans s1.stp) g1 hf
    | true =>
      rw [if_pos rfl] at e ⊢
      obtain ⟨f, h2, e⟩ := bindS e
      refine ⟨fun σ2 H2 => ∃ S2 F2 env2, Stp κ S H F S2 H2 F2 ∧ Gd κ γ σ2 S2 H2 F2 env2 ∧ Fix fx σ σ2 ∧ whileO mc m n' env2 = some fl, fun σ2 H2 w => ⟨n', Nat.lt_succ_self _, w⟩, ?_⟩
      refine h.run g1 h2 _ ?_
      cases f with
      | nx e2 => exact fun σ2 S2 H2 F2 s2 g2 f2 => ⟨S2, F2, e2, (s.trans s1.stp).trans s2, g2, hf.trans f2, e⟩
      | bk e2 =>
        cases e
        exact fun σ2 S2 H2 F2 s2 g2 f2 => k σ2 S2 H2 F2 ((s.trans s1.stp).trans s2) g2 (hf.trans f2)
      | rt w e2 =>
        cases e
        exact fun v σ2 S2 H2 F2 Fw s2 g2 wf r f2 => k v σ2 S2 H2 F2 Fw ((s.trans s1.stp).trans s2) g2 wf r (hf.trans f2)
/-! for -/
theorem drop_some {α : Type} {l : List α} {i : Nat} (h : i < l.length) : ∃ u, l[i]? = some u ∧ l.drop i = u :: l.drop (i + 1) := by
  refine ⟨l[i], by simp [h], ?_⟩
  rw [List.drop_eq_getElem_cons h]
/-- what an iterator leans on stays: it is of the region, or apart from what is owned -/
def KeepA (A S H : Hp) (F : List Addr) : Prop := ∀ b o, A b = some o → S b = some o ∨ (H b = some o ∧ b ∉ F)
theorem KeepA.self {S H : Hp} {F : List Addr} : KeepA S S H F := fun _ _ h => .inl h
theorem KeepA.go {A S H S' H' : Hp} {F F' : List Addr} (k : KeepA A S H F) (s : Stp κ S H F S' H' F') (w : Same S' H') : Same A H' := fun b o h => by
  rcases k b o h with h | ⟨h, n⟩
  · exact w b o (s.sub b o h)
  · exact s.keep b o n h
theorem for_core {J : It} {g : TG} {mg : MG} {t : TS} {m : MS} {σ : L2.St} {S H A : Hp} {F : List Addr} {env : Env} {items : List U} {fl : Fl} (gd : Gd κ γ σ S H F env) (ok : ItOk κ J S A items) (ka : KeepA A S H F) (hg : SimG κ γ fx g mg) (h : SimS κ γ fx t m)
    (e : forO mg m items env = some fl) (D : Ends) (k : Rch κ γ fx σ S H F D fl) : ∃ W : Nat → Nat → L2.St → Hp → Prop, (∃ m, W 0 m σ H) ∧ ∀ i m σ H, W i m σ H →
      (J.stop i H ∧ D.nx σ H) ∨ (J.go i H ∧ ∃ N : L2.St → Hp → Prop, (∀ σ' H', N σ' H' → ∃ m', m' < m ∧ W (i + 1) m' σ' H') ∧ ∀ x H', J.yld i H x H' → g x σ H' fun σ2 H2 => t { D with nx := N, ct := N, bk := D.nx } σ2 H2) := by
  have wk : Walk J items.length (fun H => Same A H) (fun i H x H' => J.yld i H x H') := ⟨fun i H hi q => ok.go i H hi q, fun H q => ok.stop H q, fun _ _ _ _ _ _ y => y⟩
  refine for_it wk (fun i σ' H' => ∃ S' F' env', Stp κ S H F S' H' F' ∧ Gd κ γ σ' S' H' F' env' ∧ Fix fx σ σ' ∧ forO mg m (items.drop i) env' = some fl) ?_ ?_ ?_ ?_
  · exact ⟨S, F, env, Stp.refl S H F, gd, Fix.refl fx σ, e⟩
  · rintro i σ' H' _ ⟨S', F', env', s', g', _, _⟩
    exact ka.go s' g'.wf.sub
  · rintro i x σ' H' H2 hlt ⟨S', F', env', s', g', hf, e⟩ y
    obtain ⟨u, hu, hd⟩ := drop_some hlt
    rw [hd] at e
    obtain ⟨e1, h1, e⟩ := bindS e
    obtain ⟨f, h2, e⟩ := bindS e
    obtain ⟨S2, p2, r2⟩ := ok.yld i H' x H2 S' u hu (ka.go s' g'.wf.sub) s'.sub g'.wf.sub y
    have g2 := g'.pure_ p2
    refine hg.run g2 r2 h1 _ fun σ3 S3 H3 F3 s3 g3 f3 => h.run g3 h2 _ ?_
    have st := (s'.trans p2.stp).trans s3
    cases f with
    | nx e2 => exact fun σ4 S4 H4 F4 s4 g4 f4 => ⟨S4, F4, e2, st.trans s4, g4, (hf.trans f3).trans f4, e⟩
    | bk e2 =>
      cases e
      exact fun σ4 S4 H4 F4 s4 g4 f4 => k σ4 S4 H4 F4 (st.trans s4) g4 ((hf.trans f3).trans f4)
    | rt w e2 =>
      cases e
      exact fun v σ4 S4 H4 F4 Fw s4 g4 wf r f4 => k v σ4 S4 H4 F4 Fw (st.trans s4) g4 wf r ((hf.trans f3).trans f4)
  · rintro σ' H' ⟨S', F', env', s', g', hf, e⟩
    rw [List.drop_length] at e
    cases e
    exact k σ' S' H' F' s' g' hf
theorem sim_for {wi : TI} {mi : M (List U)} {g : TG} {mg : MG} {t : TS} {m : MS} (hi : SimI κ γ false wi mi) (hg : SimG κ γ fx g mg) (h : SimS κ γ fx t m) : SimS κ γ fx (tFor wi g t) (sFor mi mg m) := by
  constructor
  intro σ S H F env gd fl e D k
  obtain ⟨⟨items, e0⟩, h0, e⟩ := bindS e
  exact hi.run gd h0 _ fun J S1 H1 F1 s1 g1 ok => for_core g1 ok KeepA.self hg h e D (k.mono s1.stp (Fix.refl fx σ))
/-! what is walked -/
def seqU : U → Option (List U)
  | .lst us => some us
  | .tup us => some us
  | _ => none
def mSeq (a : M U) : M (List U) := fun env => (a env).bind fun x => (seqU x.1).bind fun us => some (us, x.2)
theorem itOk_list {K : PySem.W.Frag} {a : Addr} {S A : Hp} {us : List U} {vs : List V} (h : A a = some (.lst vs)) (r : Reps κ S us vs) : ItOk κ (Itl K a) S A us := by
  have wk := walk_list (K := K) (a := a) (xs := vs)
  refine ⟨fun i H hi q => wk.goes i H (by rw [← r.len]; exact hi) (SqL.of (q _ _ h)), fun H q => by rw [r.len]; exact wk.stops H (SqL.of (q _ _ h)), fun i H x H' S1 u hu e0 e1 e2 y => ?_⟩
  have hi : i < vs.length := by
    rw [← r.len]
    exact (List.getElem?_eq_some_iff.mp hu).1
  obtain ⟨rfl, hx⟩ := wk.yields i H x H' hi (SqL.of (e0 _ _ h)) y
  obtain ⟨v, hv, rv⟩ := r.get hu
  rw [hx] at hv
  cases hv
  exact ⟨S1, StpP.refl e2, Rep.mono e1 u rv⟩
theorem itOk_tup {K : PySem.W.Frag} {a : Addr} {S A : Hp} {us : List U} {vs : List V} (h : A a = some (.tup vs)) (r : Reps κ S us vs) : ItOk κ (Itt K a) S A us := by
  have wk := walk_tup (K := K) (a := a) (xs := vs)
  refine ⟨fun i H hi q => wk.goes i H (by rw [← r.len]; exact hi) (SqT.of (q _ _ h)), fun H q => by rw [r.len]; exact wk.stops H (SqT.of (q _ _ h)), fun i H x H' S1 u hu e0 e1 e2 y => ?_⟩
  have hi : i < vs.length := by
    rw [← r.len]
    exact (List.getElem?_eq_some_iff.mp hu).1
  obtain ⟨rfl, hx⟩ := wk.yields i H x H' hi (SqT.of (e0 _ _ h)) y
  obtain ⟨v, hv, rv⟩ := r.get hu
  rw [hx] at hv
  cases hv
  exact ⟨S1, StpP.refl e2, Rep.mono e1 u rv⟩
theorem simI_seq {K : PySem.W.Frag} {t : TE} {m : M U} (h : SimE κ γ ρ t m) : SimI κ γ ρ (iOr (iList K t) (iTup K t)) (mSeq m) := by
  constructor
  intro σ S H F env gd items env' e R k
  obtain ⟨⟨x, e1⟩, h1, e⟩ := bindS e
  obtain ⟨us, h2, e⟩ := bindS e
  cases e
  cases x <;> try cases h2
  · refine .inl (h.run gd h1 _ fun v S1 H1 F1 s1 g1 r => ?_)
    obtain ⟨a, vs, rfl, ha, rs⟩ := r
    exact ⟨a, rfl, ⟨vs, SqL.of (g1.wf.sub _ _ ha)⟩, k _ S1 H1 F1 s1 g1 (itOk_list ha rs)⟩
  · refine .inr (h.run gd h1 _ fun v S1 H1 F1 s1 g1 r => ?_)
    obtain ⟨a, vs, rfl, ha, rs⟩ := r
    exact ⟨a, rfl, ⟨vs, SqT.of (g1.wf.sub _ _ ha)⟩, k _ S1 H1 F1 s1 g1 (itOk_tup ha rs)⟩
def rngU (lo : Int) (n : Nat) : List U := (List.range n).map fun (k : Nat) => .int (lo + (k : Nat))
theorem itOk_rng {lo : Int} {n : Nat} {S A : Hp} : ItOk κ (Itr lo n) S A (rngU lo n) := by
  have wk := walk_range (lo := lo) (n := n)
  have hl : (rngU lo n).length = n := by simp [rngU]
  refine ⟨fun i H hi q => wk.goes i H (by rw [hl] at hi; exact hi) trivial, fun H q => by rw [hl]; exact wk.stops H trivial, fun i H x H' S1 u hu e0 e1 e2 y => ?_⟩
  have hi : i < n := by
    rw [← hl]
    exact (List.getElem?_eq_some_iff.mp hu).1
  obtain ⟨rfl, rfl⟩ := wk.yields i H x H' hi trivial y
  refine ⟨S1, StpP.refl e2, ?_⟩
  have q : u = .int (lo + (i : Nat)) := by
    simp [rngU, hi] at hu
    exact hu.symm
  subst q
  rfl
def mRng1 (a : M (List U)) : M (List U) := fun env => (a env).bind fun x => match x.1 with
  | [.int j] => if -(2 ^ 62) ≤ j ∧ j < 2 ^ 62 then some (rngU 0 j.toNat, x.2) else none
  | _ => none
theorem simI_rng1 {n : Nat} {t : TA} {m : M (List U)} (h : SimA κ γ ρ n t m) : SimI κ γ ρ (iRng1 t) (mRng1 m) := by
  constructor
  intro σ S H F env gd items env' e R k
  obtain ⟨⟨x, e1⟩, h1, e⟩ := bindS e
  dsimp only at e
  split at e
  · rename_i j
    split at e
    · rename_i hj
      cases e
      refine h.run gd h1 _ fun vs S1 H1 F1 s1 g1 r => ?_
      obtain ⟨v, _, rfl, hv, rfl⟩ := r
      have hv : v = .int j := hv
      subst hv
      exact ⟨j, rfl, hj.1, hj.2, k _ S1 H1 F1 s1 g1 itOk_rng⟩
    · cases e
  · cases e
/-- enumerate of a list -/
def enumU (us : List U) : List U := us.zipIdx.map fun p => .tup [.int (p.2 : Nat), p.1]
theorem enumU_len (us : List U) : (enumU us).length = us.length := by simp [enumU]
theorem enumU_get {us : List U} {i : Nat} {u : U} (h : (enumU us)[i]? = some u) : ∃ x, us[i]? = some x ∧ u = .tup [.int (i : Nat), x] := by
  have hi : i < us.length := by
    have := (List.getElem?_eq_some_iff.mp h).1
    rw [enumU_len] at this
    exact this
  refine ⟨us[i], by simp [hi], ?_⟩
  simp [enumU, hi] at h
  exact h.symm
/-- a new pair -/
theorem pair_rep {S1 H : Hp} {T : Addr} {x y : V} {a b : U} (e : Same S1 H) (hT : H T = none) (ra : Rep κ S1 a x) (rb : Rep κ S1 b y) :
    ∃ S1', StpP κ S1 H S1' (upd H T (.tup [x, y])) ∧ Rep κ S1' (.tup [a, b]) (.ref T) := by
  have st : StpP κ S1 H (upd S1 T (.tup [x, y])) (upd H T (.tup [x, y])) := StpP.new1 e hT
  exact ⟨_, st, T, [x, y], rfl, upd_same, x, [y], rfl, Rep.mono st.sub a ra, y, [], rfl, Rep.mono st.sub b rb, rfl⟩
theorem itOk_enum {K : PySem.W.Frag} {a : Addr} {S A : Hp} {us : List U} {vs : List V} (h : A a = some (.lst vs)) (r : Reps κ S us vs) : ItOk κ (Ite K a) S A (enumU us) := by
  have wk := walk_enum (K := K) (a := a) (xs := vs)
  have hl := enumU_len us
  refine ⟨fun i H hi q => wk.goes i H (by rw [← r.len, ← hl]; exact hi) (SqL.of (q _ _ h)), fun H q => by rw [hl, r.len]; exact wk.stops H (SqL.of (q _ _ h)), fun i H x H' S1 u hu e0 e1 e2 y => ?_⟩
  have hi : i < vs.length := by
    rw [← r.len, ← hl]
    exact (List.getElem?_eq_some_iff.mp hu).1
  obtain ⟨T, p, z, rfl, hT, rfl, h1, h2⟩ := wk.yields i H x H' hi (SqL.of (e0 _ _ h)) y
  obtain ⟨w, hw, rfl⟩ := enumU_get hu
  obtain ⟨v, hv, rv⟩ := r.get hw
  have h2 : vs[i]? = some z := h2
  rw [h2] at hv
  cases hv
  cases h1
  exact pair_rep e2 hT rfl (Rep.mono e1 w rv)
/-- zip of two lists -/
def zipU (us ws : List U) : List U := (us.zip ws).map fun p => .tup [p.1, p.2]
def mZip (a : M (List U)) : M (List U) := fun env => (a env).bind fun x => match x.1 with
  | [.lst us, .lst ws] => some (zipU us ws, x.2)
  | [.tup us, .tup ws] => some (zipU us ws, x.2)
  | _ => none
theorem zipU_len (us ws : List U) : (zipU us ws).length = min us.length ws.length := by simp [zipU]
theorem zipU_get {us ws : List U} {i : Nat} {u : U} (h : (zipU us ws)[i]? = some u) : ∃ x y, us[i]? = some x ∧ ws[i]? = some y ∧ u = .tup [x, y] := by
  simp [zipU, List.getElem?_map, List.getElem?_zip_eq_some] at h
  obtain ⟨a, b, ⟨h1, h2⟩, h3⟩ := h
  exact ⟨a, b, h1, h2, h3.symm⟩
theorem itOk_zip {K : PySem.W.Frag} {a b : Addr} {S A : Hp} {us ws : List U} {vs xs : List V} (h : A a = some (.lst vs)) (r : Reps κ S us vs) (h' : A b = some (.lst xs)) (r' : Reps κ S ws xs) : ItOk κ (Itz K a b) S A (zipU us ws) := by
  have wk := walk_zip (K := K) (a := a) (b := b) (xs := vs) (ys := xs) rfl
  have hl : (zipU us ws).length = min vs.length xs.length := by rw [zipU_len, r.len, r'.len]
  refine ⟨fun i H hi q => wk.goes i H (by rw [← hl]; exact hi) ⟨SqL.of (q _ _ h), SqL.of (q _ _ h')⟩, fun H q => by rw [hl]; exact wk.stops H ⟨SqL.of (q _ _ h), SqL.of (q _ _ h')⟩, fun i H x H' S1 u hu e0 e1 e2 y => ?_⟩
  have hi : i < min vs.length xs.length := by
    rw [← hl]
    exact (List.getElem?_eq_some_iff.mp hu).1
  obtain ⟨T, p, z, rfl, hT, rfl, h1, h2⟩ := wk.yields i H x H' hi ⟨SqL.of (e0 _ _ h), SqL.of (e0 _ _ h')⟩ y
  obtain ⟨w, w', hw, hw', rfl⟩ := zipU_get hu
  obtain ⟨v, hv, rv⟩ := r.get hw
  obtain ⟨v', hv', rv'⟩ := r'.get hw'
  have h1 : vs[i]? = some p := h1
  have h2 : xs[i]? = some z := h2
  rw [h1] at hv
  rw [h2] at hv'
  cases hv
  cases hv'
  exact pair_rep e2 hT (Rep.mono e1 w rv) (Rep.mono e1 w' rv')
theorem itOk_zipT {K : PySem.W.Frag} {a b : Addr} {S A : Hp} {us ws : List U} {vs xs : List V} (h : A a = some (.tup vs)) (r : Reps κ S us vs) (h' : A b = some (.tup xs)) (r' : Reps κ S ws xs) : ItOk κ (RZ.ItzT K a b) S A (zipU us ws) := by
  have hl : (zipU us ws).length = min vs.length xs.length := by rw [zipU_len, r.len, r'.len]
  refine ⟨fun i H hi q => ?_, fun H q => ⟨vs, xs, SqT.of (q _ _ h), SqT.of (q _ _ h'), by rw [hl]; omega⟩, fun i H x H' S1 u hu e0 e1 e2 y => ?_⟩
  · rw [hl] at hi
    have i1 : i < vs.length := by omega
    have i2 : i < xs.length := by omega
    exact ⟨vs, xs, vs[i], xs[i], SqT.of (q _ _ h), SqT.of (q _ _ h'), by simp [i1], by simp [i2]⟩
  · obtain ⟨T, p, z, rfl, hT, rfl, h1, h2⟩ := y
    have h1 := h1 vs (SqT.of (e0 _ _ h))
    have h2 := h2 xs (SqT.of (e0 _ _ h'))
    obtain ⟨w, w', hw, hw', rfl⟩ := zipU_get hu
    obtain ⟨v, hv, rv⟩ := r.get hw
    obtain ⟨v', hv', rv'⟩ := r'.get hw'
    rw [h1] at hv
    rw [h2] at hv'
    cases hv
    cases hv'
    exact pair_rep e2 hT (Rep.mono e1 w rv) (Rep.mono e1 w' rv')
theorem simI_zip {K : PySem.W.Frag} {n : Nat} {t : TA} {m : M (List U)} (h : SimA κ γ ρ n t m) : SimI κ γ ρ (RZ.iZipA K t) (mZip m) := by
  constructor
  intro σ S H F env gd items env' e R k
  obtain ⟨⟨x, e1⟩, h1, e⟩ := bindS e
  dsimp only at e
  split at e
  · rename_i us ws
    cases e
    refine h.run gd h1 _ fun vs S1 H1 F1 s1 g1 r => ?_
    obtain ⟨v, _, rfl, ⟨a, vs, rfl, ha, rs⟩, w, _, rfl, ⟨b, xs, rfl, hb, rs'⟩, rfl⟩ := r
    exact ⟨a, b, vs, xs, rfl, .inl ⟨SqL.of (g1.wf.sub _ _ ha), SqL.of (g1.wf.sub _ _ hb), k _ S1 H1 F1 s1 g1 (itOk_zip ha rs hb rs')⟩⟩
  · rename_i us ws
    cases e
    refine h.run gd h1 _ fun vs S1 H1 F1 s1 g1 r => ?_
    obtain ⟨v, _, rfl, ⟨a, vs, rfl, ha, rs⟩, w, _, rfl, ⟨b, xs, rfl, hb, rs'⟩, rfl⟩ := r
    exact ⟨a, b, vs, xs, rfl, .inr ⟨SqT.of (g1.wf.sub _ _ ha), SqT.of (g1.wf.sub _ _ hb), k _ S1 H1 F1 s1 g1 (itOk_zipT ha rs hb rs')⟩⟩
  · cases e
end
end UL
set_option Elab.async false
set_option linter.all false
set_option maxRecDepth 100000
set_option maxHeartbeats 2000000
/-! places, lists that change, comprehensions -/
namespace UL
open PySem PySem.Spec PyProof.Rows L2 LV
inductive Sg where
  | f (n : Str) | i (k : Nat) | k (n : Str)
def ixF (n : Str) : List Str → Option Nat
  | [] => none
  | m :: r => if m = n then some 0 else (ixF n r).map (· + 1)
def get1 : Ow → Sg → Option Ow
  | .o _ ns ws, .f n => (ixF n ns).bind fun j => ws[j]?
  | .l ws, .i k => ws[k]?
  | .d ks ws, .k n => (ixF n ks).bind fun j => ws[j]?
  | _, _ => none
def put1 : Ow → Sg → Ow → Ow
  | .o c ns ws, .f n, w => match ixF n ns with
    | some j => .o c ns (ws.set j w)
    | none => .o c ns ws
  | .l ws, .i k, w => .l (ws.set k w)
  | .d ks ws, .k n, w => match ixF n ks with
    | some j => .d ks (ws.set j w)
    | none => .d ks ws
  | x, _, _ => x
def getO : Ow → List Sg → Option Ow
  | w, [] => some w
  | w, s :: p => (get1 w s).bind fun x => getO x p
def putO : Ow → List Sg → Ow → Ow
  | _, [], w => w
  | x, s :: p, w => match get1 x s with
    | some y => put1 x s (putO y p w)
    | none => x
def getE (env : Env) (i : Nat) (p : List Sg) : Option Ow := match env[i]? with
  | some (some w) => getO w p
  | _ => none
def putE (env : Env) (i : Nat) (p : List Sg) (w : Ow) : Env := match env[i]? with
  | some (some x) => env.set i (some (putO x p w))
  | _ => env
section
variable {κ : String → Addr} {γ : Gh} {ρ : Bool} {fx : Nat → Bool} {σ : L2.St} {S H : Hp} {F : List Addr} {env : Env}
theorem set_id {α : Type} {l : List α} {i : Nat} {x : α} (h : l[i]? = some x) : l.set i x = l := by
  apply List.ext_getElem?
  intro j
  by_cases hj : j = i
  · subst hj
    rw [h, List.getElem?_set_self (List.getElem?_eq_some_iff.mp h).1]
  · rw [List.getElem?_set_ne (Ne.symm hj)]
/-- one of several owned things -/
theorem RepOs.get : ∀ {ws : List Ow} {vs : List V} {F : List Addr} {j : Nat} {w : Ow}, RepOs κ S H ws vs F → ws[j]? = some w →
    ∃ v F1 F2 F3, vs[j]? = some v ∧ F = F1 ++ F2 ++ F3 ∧ RepO κ S H w v F2 ∧
      ∀ {S' H' : Hp} {w' : Ow} {F2' : List Addr} {v' : V}, Same S S' → (∀ a, a ∈ F1 ∨ a ∈ F3 → H' a = H a) → RepO κ S' H' w' v' F2' → RepOs κ S' H' (ws.set j w') (vs.set j v') (F1 ++ F2' ++ F3)
  | [], _, _, _, _, _, e => by simp at e
  | x :: ws, _, _, 0, w, h, e => by
    obtain ⟨v, vs', F1, F2, rfl, rfl, h1, h2⟩ := h
    simp at e
    subst e
    exact ⟨v, [], F1, F2, rfl, by simp, h1, fun {S' H' w' F2' v'} e k h => ⟨v', vs', F2', F2, rfl, by simp, h, RepOs.mono e ws (fun a ha => k a (.inr ha)) h2⟩⟩
  | x :: ws, _, _, j + 1, w, h, e => by
    obtain ⟨v, vs', F1, F2, rfl, rfl, h1, h2⟩ := h
    obtain ⟨v', A, B, C, g1, rfl, g3, g4⟩ := RepOs.get (j := j) h2 (by simpa using e)
    refine ⟨v', F1 ++ A, B, C, by simpa using g1, by simp, g3, fun {S' H' w' F2' v2} e k h => ⟨v, vs'.set j v2, F1, A ++ F2' ++ C, rfl, by simp, RepO.mono e x (fun a ha => k a (.inl (by simp [ha]))) h1, g4 e (fun a ha => k a ?_) h⟩⟩
    rcases ha with ha | ha
    · exact .inl (by simp [ha])
    · exact .inr ha
theorem RepOs.len : ∀ {ws : List Ow} {vs : List V} {F : List Addr}, RepOs κ S H ws vs F → ws.length = vs.length
  | [], _, _, h => by
    rw [h.1]
    rfl
  | _ :: _, _, _, h => by
    obtain ⟨v, vs', F1, F2, rfl, rfl, h1, h2⟩ := h
    simp [RepOs.len h2]
theorem RepOs.app : ∀ {ws ws2 : List Ow} {vs vs2 : List V} {F F2 : List Addr}, RepOs κ S H ws vs F → RepOs κ S H ws2 vs2 F2 → RepOs κ S H (ws ++ ws2) (vs ++ vs2) (F ++ F2)
  | [], _, _, _, _, _, h, h2 => by
    obtain ⟨rfl, rfl⟩ := h
    exact h2
  | w :: ws, _, _, _, _, _, h, h2 => by
    obtain ⟨v, vs', A, B, rfl, rfl, h1, h3⟩ := h
    exact ⟨v, _, A, B ++ _, rfl, by simp, h1, RepOs.app h3 h2⟩
theorem RepOs.split : ∀ {ws : List Ow} {vs : List V} {F : List Addr} (n : Nat), RepOs κ S H ws vs F → ∃ F1 F2, F = F1 ++ F2 ∧ RepOs κ S H (ws.take n) (vs.take n) F1 ∧ RepOs κ S H (ws.drop n) (vs.drop n) F2
  | ws, vs, F, 0, h => ⟨[], F, rfl, ⟨rfl, rfl⟩, h⟩
  | [], _, _, n + 1, h => by
    obtain ⟨rfl, rfl⟩ := h
    exact ⟨[], [], rfl, ⟨rfl, rfl⟩, ⟨rfl, rfl⟩⟩
  | w :: ws, _, _, n + 1, h => by
    obtain ⟨v, vs', A, B, rfl, rfl, h1, h2⟩ := h
    obtain ⟨C, D, rfl, h3, h4⟩ := RepOs.split n h2
    exact ⟨A ++ C, D, by simp, ⟨v, _, A, C, rfl, rfl, h1, h3⟩, h4⟩
/-! places -/
def Loc (κ : String → Addr) (γ : Gh) (σ : L2.St) (S H : Hp) (F : List Addr) (env : Env) (i : Nat) (p : List Sg) (w : Ow) (v : V) : Prop :=
  ∃ F1 F2 F3, F = F1 ++ F2 ++ F3 ∧ RepO κ S H w v F2 ∧ ∀ {S' H' : Hp} {w' : Ow} {F2' : List Addr}, Same S S' → (∀ a, a ∈ F1 ∨ a ∈ F3 → H' a = H a) → RepO κ S' H' w' v F2' → EnvOk κ γ S' H' σ (putE env i p w') (F1 ++ F2' ++ F3)
theorem Loc.pure_ {S1 H1 : Hp} {i : Nat} {p : List Sg} {w : Ow} {v : V} (g : Gd κ γ σ S H F env) (s : Same S S1) (k : Same H H1) (h : Loc κ γ σ S H F env i p w v) : Loc κ γ σ S1 H1 F env i p w v := by
  have kf : ∀ x ∈ F, H1 x = H x := fun x hx => by
    obtain ⟨o, ho, _⟩ := g.env.foot x hx
    rw [k x o ho, ho]
  obtain ⟨F1, F2, F3, rfl, h2, h3⟩ := h
  refine ⟨F1, F2, F3, rfl, RepO.mono s w (fun a ha => kf a (by simp [ha])) h2, fun e k h => h3 (s.trans e) (fun a ha => (k a ha).trans (kf a ?_)) h⟩
  rcases ha with ha | ha <;> simp [ha]
theorem loc_root (g : Gd κ γ σ S H F env) {i : Nat} {w : Ow} (e : env[i]? = some (some w)) : ∃ v, σ[i]? = some (some v) ∧ Loc κ γ σ S H F env i [] w v := by
  obtain ⟨s, F1, F2, F3, h1, rfl, ⟨v, rfl, h3⟩, h4⟩ := g.env.get e
  refine ⟨v, h1, F1, F2, F3, rfl, h3, fun {S' H' w' F2'} e' k h => ?_⟩
  have q := h4 (s' := some v) (w' := some w') (F2' := F2') e' k ⟨v, rfl, h⟩
  rw [set_id h1] at q
  show EnvOk κ γ S' H' σ (putE env i [] w') _
  unfold putE
  rw [e]
  exact q
/-- what stands at a place is exchanged for what has the same foot -/
theorem Loc.upd (g : Gd κ γ σ S H F env) {i : Nat} {p : List Sg} {ws : List Ow} {v : V} (h : Loc κ γ σ S H F env i p (.l ws) v) : ∃ a vs F', v = .ref a ∧ H a = some (.lst vs) ∧ RepOs κ S H ws vs F' ∧ (∀ x ∈ F', x ∈ F) ∧
    ∀ {ws' : List Ow} {vs' : List V} {F2 : List Addr}, RepOs κ S H ws' vs' F2 → List.Sublist F2 F' → ∃ F3, Gd κ γ σ S (L2.upd H a (.lst vs')) F3 (putE env i p (.l ws')) ∧ Stp κ S H F S (L2.upd H a (.lst vs')) F3 := by
  obtain ⟨F1, F2, F3, rfl, ⟨a, vs, F', rfl, ha, rfl, hs⟩, h3⟩ := h
  have nd := g.wf.nd
  refine ⟨a, vs, F', rfl, ha, hs, fun x hx => by simp [hx], fun {ws' vs' G} r sb => ?_⟩
  obtain ⟨_, nd2⟩ := nodup_mid nd
  obtain ⟨na1, na3⟩ := nd2 a (by simp)
  have naF : a ∉ F' := by
    have := (List.nodup_append.mp (List.nodup_append.mp nd).1).2.1
    exact (List.nodup_cons.mp this).1
  have naG : a ∉ G := fun z => naF (sb.subset z)
  have q := h3 (S' := S) (H' := L2.upd H a (.lst vs')) (w' := .l ws') (F2' := a :: G) (fun _ _ h => h) (fun x hx => upd_ne (fun z => by
    subst z
    rcases hx with hx | hx
    · exact na1 hx
    · exact na3 hx)) ⟨a, vs', G, rfl, upd_same, rfl, RepOs.mono (fun _ _ h => h) ws' (fun x hx => upd_ne (fun z => naG (z ▸ hx))) r⟩
  have mem : ∀ x ∈ F1 ++ (a :: G) ++ F3, x ∈ F1 ++ (a :: F') ++ F3 := fun x hx => by
    simp only [List.mem_append, List.mem_cons] at hx ⊢
    rcases hx with (hx | hx | hx) | hx
    · simp [hx]
    · simp [hx]
    · simp [sb.subset hx]
    · simp [hx]
  refine ⟨F1 ++ (a :: G) ++ F3, ⟨⟨fun b o hb => ?_, ?_, fun x hx => g.wf.out x (mem x hx)⟩, q⟩, ⟨fun b o hb hh => ?_, fun b hb => ?_, fun _ _ h => h, fun _ _ h => .inl h, fun x hx => .inl (mem x hx)⟩⟩
  · rw [upd_ne (fun z => by
      subst z
      rw [g.wf.out b (by simp)] at hb
      cases hb)]
    exact g.wf.sub b o hb
  · exact List.Nodup.sublist (((List.Sublist.refl F1).append ((sb.cons_cons a))).append (List.Sublist.refl F3)) nd
  · rw [upd_ne (fun z => hb (by subst z; simp))]
    exact hh
  · by_cases z : b = a
    · subst z
      rw [upd_same] at hb
      cases hb
    · rw [upd_ne z] at hb
      exact hb
end
/-! mirrors of what changes a list: the root of a name -/
def isL (env : Env) (i : Nat) : Option Unit := match env[i]? with
  | some (some (.l _)) => some ()
  | _ => none
def isI : U → Option Int
  | .int i => some i
  | _ => none
def mAppV (i : Nat) (a : M U) : M U := fun env => (isL env i).bind fun _ => (a env).bind fun x => match x.2[i]? with
  | some (some (.l ws)) => if ws.length < sizeLine then some (.non, x.2.set i (some (.l (ws ++ [.p x.1])))) else none
  | _ => none
def mExtV (i : Nat) (a : M U) : M U := fun env => (isL env i).bind fun _ => (a env).bind fun x => match x.2[i]? with
  | some (some (.l ws)) => match x.1 with
    | .lst us => if ws.length + us.length ≤ sizeLine then some (.non, x.2.set i (some (.l (ws ++ us.map .p)))) else none
    | _ => none
  | _ => none
def mInsV (i : Nat) (k a : M U) : M U := fun env => (isL env i).bind fun _ => (k env).bind fun y => (a y.2).bind fun x => match x.2[i]? with
  | some (some (.l ws)) => (isI y.1).bind fun j => if ws.length < sizeLine ∧ 0 ≤ j ∧ j < 2 ^ 63 then some (.non, x.2.set i (some (.l (ws.take j.toNat ++ [.p x.1] ++ ws.drop j.toNat)))) else none
  | _ => none
def isP : Ow → Option U
  | .p u => some u
  | _ => none
def mPopV (i : Nat) : M U := fun env => match env[i]? with
  | some (some (.l ws)) => (ws[ws.length - 1]?).bind fun w => (isP w).bind fun u => some (u, env.set i (some (.l ws.dropLast)))
  | _ => none
def mIxV (i : Nat) (k : M U) : M U := fun env => (isL env i).bind fun _ => (k env).bind fun y => match y.2[i]? with
  | some (some (.l ws)) => (isI y.1).bind fun j => (atI ws j).bind fun w => (isP w).bind fun u => some (u, y.2)
  | _ => none
def mLenV (i : Nat) : M U := fun env => match env[i]? with
  | some (some (.l ws)) => some (.int ws.length, env)
  | _ => none
/-- x[k] = e -/
def sSetV (i : Nat) (k a : M U) : MS := fun env => (a env).bind fun x => (isL x.2 i).bind fun _ => (k x.2).bind fun y => match y.2[i]? with
  | some (some (.l ws)) => (isI y.1).bind fun j => (ixN ws.length j).bind fun n => (ws[n]?).bind fun w => (isP w).bind fun _ => some (.nx (y.2.set i (some (.l (ws.set n (.p x.1))))))
  | _ => none
section
variable {κ : String → Addr} {γ : Gh} {ρ : Bool} {fx : Nat → Bool} {K : PySem.W.Frag}
theorem putE_root {env : Env} {i : Nat} {w w' : Ow} (e : env[i]? = some (some w)) : putE env i [] w' = env.set i (some w') := by
  unfold putE
  rw [e]
  rfl
theorem tyLst {H : Hp} {a : Addr} {vs : List V} (h : H a = some (.lst vs)) : tyV K "list" (.ref a) H := .inl ⟨rfl, vs, SqL.of h⟩
theorem isL_ty {σ : L2.St} {S H : Hp} {F : List Addr} {env : Env} (g : Gd κ γ σ S H F env) {i : Nat} {u : Unit} (h : isL env i = some u) : ∃ v, σ[i]? = some (some v) ∧ tyV K "list" v H := by
  unfold isL at h
  split at h
  · rename_i ws hw
    obtain ⟨v, hv, loc⟩ := loc_root g hw
    obtain ⟨a, vs, F', rfl, ha, _⟩ := loc.upd g
    exact ⟨_, hv, tyLst ha⟩
  · cases h
theorem isP_eq {w : Ow} {u : U} (h : isP w = some u) : w = .p u := by
  cases w <;> first
    | (cases h; rfl)
    | cases h
theorem isI_eq {x : U} {i : Int} (h : isI x = some i) : x = .int i := by
  cases x <;> first
    | (cases h; rfl)
    | cases h
theorem RepOs.last {S H : Hp} {ws : List Ow} {vs : List V} {F : List Addr} {u : U} (h : RepOs κ S H ws vs F) (e : ws[ws.length - 1]? = some (.p u)) : ∃ v, vs[vs.length - 1]? = some v ∧ Rep κ S u v ∧ RepOs κ S H ws.dropLast vs.dropLast F := by
  have hl := h.len
  obtain ⟨v, F1, F2, F3, h1, rfl, ⟨rfl, h3⟩, _⟩ := h.get e
  have hlt : ws.length - 1 < ws.length := (List.getElem?_eq_some_iff.mp e).1
  obtain ⟨A, B, hAB, ra, rb⟩ := h.split (ws.length - 1)
  have ed : ws.drop (ws.length - 1) = [.p u] := by
    rw [List.drop_eq_getElem_cons hlt]
    have : ws[ws.length - 1] = .p u := by
      have := (List.getElem?_eq_some_iff.mp e).2
      exact this
    rw [this, List.drop_of_length_le (by omega)]
  rw [ed] at rb
  obtain ⟨v', vs', G1, G2, _, rfl, ⟨rfl, _⟩, _, rfl⟩ := rb
  refine ⟨v, by rw [← hl]; exact h1, h3, ?_⟩
  rw [hAB, List.dropLast_eq_take, List.dropLast_eq_take, ← hl]
  simpa using ra
theorem atI_map {ws : List Ow} {vs : List V} {j : Int} {w : Ow} (hl : ws.length = vs.length) (h : atI ws j = some w) : ∃ n : Nat, ws[n]? = some w ∧ atI vs j = vs[n]? := by
  obtain ⟨n, h1, h2⟩ := bindS (show (ixN ws.length j).bind (fun n => ws[n]?) = some w from h)
  refine ⟨n, h2, ?_⟩
  show (ixN vs.length j).bind _ = _
  rw [← hl, h1]
  rfl
theorem simE_ixV {i : Nat} {tk : TE} {mk : M U} (hk : SimE κ γ ρ tk mk) : SimE κ γ ρ (tOp (rIxL K) (tVar i) tk) (mIxV i mk) := by
  constructor
  intro σ S H F env g u env' e Q k
  obtain ⟨_, h0, e⟩ := bindS e
  obtain ⟨⟨y, e0⟩, h2, e⟩ := bindS e
  obtain ⟨v, hv, _⟩ := isL_ty (K := K) g h0
  dsimp only at e
  split at e
  · rename_i ws hw
    obtain ⟨j, h3, e⟩ := bindS e
    obtain ⟨w, h4, e⟩ := bindS e
    obtain ⟨u', h5, e⟩ := bindS e
    cases e
    have := isP_eq h5
    subst this
    have := isI_eq h3
    subst this
    refine ⟨v, hv, hk.run g h2 _ fun v0 S0 H0 F0 s0 g0 r0 => ?_⟩
    have r0 : v0 = .int j := r0
    subst r0
    obtain ⟨v', hv', loc⟩ := loc_root g0 hw
    rw [hv] at hv'
    cases hv'
    obtain ⟨a, vs, F', rfl, ha, rs, _, up⟩ := loc.upd g0
    obtain ⟨n, hn, hv2⟩ := atI_map rs.len h4
    obtain ⟨y, A, B, C, hy, _, ⟨_, ry⟩, _⟩ := rs.get hn
    exact ⟨a, vs, j, y, rfl, rfl, SqL.of ha, by rw [hv2]; exact hy, k _ _ _ _ s0 g0 ry⟩
  · cases e
theorem simE_lenV {i : Nat} : SimE κ γ ρ (tCB (Evl.rLenS K) (tCons (tVar i) tNil)) (mLenV i) := by
  constructor
  intro σ S H F env g u env' e Q k
  unfold mLenV at e
  split at e
  · rename_i ws hw
    cases e
    obtain ⟨v, hv, loc⟩ := loc_root g hw
    obtain ⟨a, vs, F', rfl, ha, rs, _, up⟩ := loc.upd g
    exact ⟨_, hv, a, vs, rfl, .inl (SqL.of ha), k _ S H F (StpQ.refl S H F env) g (by rw [rs.len]; rfl)⟩
  · cases e
theorem sim_setV {i : Nat} {tk te : TE} {mk me : M U} (hk : SimE κ γ false tk mk) (h : SimE κ γ false te me) : SimS κ γ fx (tAsg te (gSub (tVar i) tk rSetL)) (sSetV i mk me) := by
  constructor
  intro σ S H F env g fl e D k
  obtain ⟨⟨x, e1⟩, h1, e⟩ := bindS e
  obtain ⟨_, h0, e⟩ := bindS e
  obtain ⟨⟨y, e0⟩, h2, e⟩ := bindS e
  dsimp only at e
  split at e
  · rename_i ws hw
    obtain ⟨j, h3, e⟩ := bindS e
    obtain ⟨n, h4, e⟩ := bindS e
    obtain ⟨w, h5, e⟩ := bindS e
    obtain ⟨u', h6, e⟩ := bindS e
    cases e
    have := isP_eq h6
    subst this
    have := isI_eq h3
    subst this
    refine h.run g h1 _ fun v1 S1 H1 F1 s1 g1 r1 => ?_
    obtain ⟨v, hv, _⟩ := isL_ty (K := []) g1 h0
    refine ⟨v, hv, hk.run g1 h2 _ fun v0 S0 H0 F0 s0 g0 r0 => ?_⟩
    have r0 : v0 = .int j := r0
    subst r0
    obtain ⟨v', hv', loc⟩ := loc_root g0 hw
    rw [hv] at hv'
    cases hv'
    obtain ⟨a, vs, F', rfl, ha, rs, _, up⟩ := loc.upd g0
    obtain ⟨y, A, B, C, hy, hF, ⟨rfl, ry⟩, rb⟩ := rs.get h5
    obtain ⟨F3, g3, s3⟩ := up (rb (w' := .p x) (v' := v1) (F2' := []) (fun _ _ h => h) (fun _ _ => rfl) ⟨rfl, Rep.mono s0.sub x r1⟩) (by rw [hF]; exact List.Sublist.refl _)
    rw [putE_root hw] at g3
    exact ⟨a, vs, j, n, rfl, rfl, ha, by rw [← rs.len]; exact h4, k _ _ _ _ ((s1.trans s0).stp.trans s3) g3 (Fix.refl fx σ)⟩
  · cases e
end
end UL
set_option Elab.async false
set_option linter.all false
set_option maxRecDepth 100000
set_option maxHeartbeats 2000000
/-! comprehensions; loops over what is owned -/
namespace UL
open PySem PySem.Spec PyProof.Rows L2 LV
def wipeE (env : Env) : List Nat → Env
  | [] => env
  | v :: vs => (wipeE env vs).set v none
def keepP (env : Env) (v : Nat) : Option Ow := match env[v]? with
  | some (some (.p u)) => some (.p u)
  | _ => none
def restE (env e : Env) : List Nat → Env
  | [] => e
  | v :: vs => (restE env e vs).set v (keepP env v)
def lcO (vs : List Nat) (g : MG) (tt : M Bool) (te : M U) : List U → List U → Env → Option (List U × Env)
  | [], acc, env => some (acc, env)
  | u :: us, acc, env => (g u (wipeE env vs)).bind fun e1 => (tt e1).bind fun b => if b.1 = true then (te b.2).bind fun y => if acc.length < sizeLine then lcO vs g tt te us (acc ++ [y.1]) (restE env y.2 vs) else none
    else lcO vs g tt te us acc (restE env b.2 vs)
def mLcL (vs : List Nat) (mi : M (List U)) (g : MG) (tt : M Bool) (te : M U) : M (List U) := fun env => (mi env).bind fun x => lcO vs g tt te x.1 [] x.2
def mLcO (vs : List Nat) (mi : M (List U)) (g : MG) (tt : M Bool) (te : M U) : M Ow := fun env => (mLcL vs mi g tt te env).bind fun x => some (.l (x.1.map .p), x.2)
def mLc (vs : List Nat) (mi : M (List U)) (g : MG) (tt : M Bool) (te : M U) : M U := fun env => (mLcL vs mi g tt te env).bind fun x => some (.lst x.1, x.2)
def mYes : M Bool := fun env => some (true, env)
section
variable {κ : String → Addr} {γ : Gh} {ρ : Bool} {fx : Nat → Bool} {K : PySem.W.Frag}
theorem simT_yes : SimT κ γ ρ tYes mYes := by
  constructor
  intro σ S H F env g b env' e Q k
  cases e
  exact k S H F (StpQ.refl S H F env) g
/-- a slot gets what owns nothing -/
theorem Gd.putN {σ : L2.St} {S H : Hp} {F : List Addr} {env : Env} (g : Gd κ γ σ S H F env) (i : Nat) {s : Option V} {w : Option Ow} (r : SlotOk κ S H s w []) :
    ∃ F', Gd κ γ (σ.set i s) S H F' (env.set i w) ∧ List.Sublist F' F := by
  have hl := g.env.len
  by_cases hi : i < env.length
  · have e : env[i]? = some env[i] := by simp [hi]
    obtain ⟨s0, F1, F2, F3, h1, rfl, h3, h4⟩ := g.env.get e
    have q := h4 (S' := S) (H' := H) (s' := s) (w' := w) (F2' := []) (fun _ _ h => h) (fun _ _ => rfl) r
    rw [List.append_nil] at q
    have sb : List.Sublist (F1 ++ F3) (F1 ++ F2 ++ F3) := by
      rw [List.append_assoc]
      exact (List.Sublist.refl F1).append (List.sublist_append_right F2 F3)
    exact ⟨F1 ++ F3, ⟨⟨g.wf.sub, List.Nodup.sublist sb g.wf.nd, fun a ha => g.wf.out a (sb.subset ha)⟩, q⟩, sb⟩
  · rw [set_ge hi, set_ge (by omega)]
    exact ⟨F, g, List.Sublist.refl F⟩
theorem Gd.wipe {σ : L2.St} {S H : Hp} {F : List Addr} {env : Env} (g : Gd κ γ σ S H F env) : ∀ vs : List Nat, ∃ F', Gd κ γ (L2.wipe σ vs) S H F' (wipeE env vs) ∧ List.Sublist F' F
  | [] => ⟨F, g, List.Sublist.refl F⟩
  | v :: vs => by
    obtain ⟨F1, g1, s1⟩ := Gd.wipe g vs
    obtain ⟨F2, g2, s2⟩ := g1.putN v (s := none) (w := none) rfl
    exact ⟨F2, g2, s2.trans s1⟩
def restS (σ τ : L2.St) : List Nat → L2.St
  | [] => τ
  | v :: vs => (restS σ τ vs).set v (σ[v]?.getD none)
theorem restS_len (σ τ : L2.St) : ∀ vs : List Nat, (restS σ τ vs).length = τ.length
  | [] => rfl
  | v :: vs => by
    unfold restS
    rw [List.length_set, restS_len σ τ vs]
theorem restS_get (σ τ : L2.St) (hl : τ.length = σ.length) (j : Nat) : ∀ vs : List Nat, (restS σ τ vs)[j]? = if j ∈ vs then σ[j]? else τ[j]?
  | [] => by simp [restS]
  | v :: vs => by
    unfold restS
    by_cases hj : v = j
    · subst hj
      by_cases hi : v < τ.length
      · have q : v < (restS σ τ vs).length := by
          rw [restS_len]
          exact hi
        have z : v < σ.length := by omega
        rw [List.getElem?_set_self q]
        simp [z]
      · have q : (restS σ τ vs).length ≤ v := by
          rw [restS_len]
          omega
        rw [List.set_eq_of_length_le q, restS_get σ τ hl v vs]
        have z : σ[v]? = none := List.getElem?_eq_none_iff.mpr (by omega)
        have z' : τ[v]? = none := List.getElem?_eq_none_iff.mpr (by omega)
        simp [z, z']
    · rw [List.getElem?_set_ne hj, restS_get σ τ hl j vs]
      have : j ≠ v := fun z => hj z.symm
      simp [this]
theorem restS_eq {σ τ : L2.St} {vs : List Nat} (hl : τ.length = σ.length) (h : ∀ j, j ∉ vs → τ[j]? = σ[j]?) : restS σ τ vs = σ := by
  apply List.ext_getElem?
  intro j
  rw [restS_get σ τ hl j vs]
  by_cases hj : j ∈ vs
  · rw [if_pos hj]
  · rw [if_neg hj]
    exact h j hj
theorem Gd.rest {σ τ : L2.St} {S H S0 H0 : Hp} {F F0 : List Addr} {env e : Env} (g : Gd κ γ τ S H F e) (g0 : Gd κ γ σ S0 H0 F0 env) (sb : Same S0 S) : ∀ vs : List Nat, ∃ F', Gd κ γ (restS σ τ vs) S H F' (restE env e vs) ∧ List.Sublist F' F
  | [] => ⟨F, g, List.Sublist.refl F⟩
  | v :: vs => by
    obtain ⟨F1, g1, s1⟩ := Gd.rest g g0 sb vs
    have r : SlotOk κ S H (σ[v]?.getD none) (keepP env v) [] := by
      unfold keepP
      split
      · rename_i u hu
        obtain ⟨x, hx, rx⟩ := g0.slot hu
        rw [hx]
        exact ⟨x, rfl, rfl, Rep.mono sb u rx⟩
      · rfl
    obtain ⟨F2, g2, s2⟩ := g1.putN v r
    exact ⟨F2, g2, s2.trans s1⟩
theorem wipe_same {σ τ : L2.St} {vs : List Nat} (h : Fix (fun j => !vs.contains j) (L2.wipe σ vs) τ) : L2.wipe τ vs = L2.wipe σ vs ∧ τ.length = σ.length ∧ ∀ j, j ∉ vs → τ[j]? = σ[j]? := by
  have hl : τ.length = σ.length := by rw [h.1, wipe_length]
  have ho : ∀ j, j ∉ vs → τ[j]? = σ[j]? := fun j hj => by
    rw [h.2 j (by simpa using hj), wipe_out hj]
  refine ⟨?_, hl, ho⟩
  apply List.ext_getElem?
  intro j
  by_cases hj : j ∈ vs
  · cases q : (L2.wipe τ vs)[j]? with
    | none =>
      have : τ.length ≤ j := by
        have := List.getElem?_eq_none_iff.mp q
        rwa [wipe_length] at this
      exact (List.getElem?_eq_none_iff.mpr (by rw [wipe_length]; omega)).symm
    | some x =>
      have hx : x = none := by
        cases x with
        | none => rfl
        | some v => exact absurd hj (wipe_some q).2
      subst hx
      have hlt : j < σ.length := by
        have := (List.getElem?_eq_some_iff.mp q).1
        rwa [wipe_length, hl] at this
      cases q2 : (L2.wipe σ vs)[j]? with
      | none =>
        have := List.getElem?_eq_none_iff.mp q2
        rw [wipe_length] at this
        omega
      | some y =>
        cases y with
        | none => rfl
        | some v => exact absurd hj (wipe_some q2).2
  · rw [wipe_out hj, wipe_out hj, ho j hj]
/-- an owned place apart stays -/
theorem Stp.apart {S H S' H' : Hp} {F F' : List Addr} {D : Addr} {o : HO} (s : Stp κ S H F S' H' F') (w : Same S' H') (h1 : H D = some o) (h2 : D ∉ F) (h3 : S D = none) (nx : ¬ XObj κ o) : H' D = some o ∧ D ∉ F' ∧ S' D = none := by
  have h4 := s.keep D o h2 h1
  refine ⟨h4, fun z => ?_, ?_⟩
  · rcases s.foot D z with z | z
    · exact h2 z
    · rw [h1] at z
      cases z
  · cases q : S' D with
    | none => rfl
    | some u =>
      have := w D u q
      rw [h4] at this
      cases this
      rcases s.new D _ q with z | z | z | z
      · rw [h3] at z
        cases z
      · rw [h1] at z
        cases z
      · exact (nx z).elim
      · exact (h2 z).elim
theorem lc_core {J : It} {g : TG} {mg : MG} {tt : TT} {mt : M Bool} {te : TE} {me : M U} {vs : List Nat} {σ : L2.St} {S H A : Hp} {F : List Addr} {env env' : Env} {items res : List U} (gd : Gd κ γ σ S H F env) (ok : ItOk κ J S A items) (ka : KeepA A S H F)
    (hg : SimG κ γ (fun j => !vs.contains j) g mg) (ht : SimT κ γ false tt mt) (he : SimE κ γ false te me) (e : lcO vs mg mt me items [] env = some (res, env')) {D : Addr} (hD : H D = none) (Q : Hp → Prop)
    (k : ∀ S' H' F' vs, Stp κ S H F S' H' (F' ++ [D]) → Gd κ γ σ S' H' F' env' → WF S' H' (F' ++ [D]) → H' D = some (.lst vs) → Reps κ S' res vs → Q H') :
    ∃ W : Nat → Nat → Hp → Prop, (∃ m, W 0 m (upd H D (.lst []))) ∧ ∀ i m H, W i m H →
      (J.stop i H ∧ Q H) ∨ (J.go i H ∧ ∃ Nx : Hp → Prop, (∀ H', Nx H' → ∃ m', m' < m ∧ W (i + 1) m' H') ∧ ∀ x H', J.yld i H x H' → g x (L2.wipe σ vs) H' fun σ2 H2 => L2.wipe σ2 vs = L2.wipe σ vs ∧ tt σ2 H2 fun b H3 =>
        if b = true then te σ2 H3 fun y H4 => ∃ acc, H4 D = some (.lst acc) ∧ acc.length < sizeLine ∧ Nx (upd H4 D (.lst (acc ++ [y]))) else Nx H3) := by
  obtain ⟨n1, n2, n3⟩ := new_owned (o := .lst []) gd hD
  have kA : ∀ {S' H' : Hp} {F' : List Addr}, Stp κ S H F S' H' F' → Same S' H' → Same A H' := fun s w => ka.go s w
  have wk : Walk J items.length (fun H => Same A H) (fun i H x H' => J.yld i H x H') := ⟨fun i H hi q => ok.go i H hi q, fun H q => ok.stop H q, fun _ _ _ _ _ _ y => y⟩
  refine lc_it wk (fun i Hc => ∃ S' F' env1 acc av, Stp κ S H F S' Hc (F' ++ [D]) ∧ Gd κ γ σ S' Hc F' env1 ∧ D ∉ F' ∧ S' D = none ∧ Hc D = some (.lst av) ∧ Reps κ S' acc av ∧ lcO vs mg mt me (items.drop i) acc env1 = some (res, env')) ?_ ?_ ?_ ?_
  · refine ⟨S, F, env, [], [], n1, n2, fun z => ?_, n3.out D (by simp), upd_same, rfl, e⟩
    exact (List.nodup_append.mp n3.nd).2.2 D z D (by simp) rfl
  · rintro i Hc _ ⟨S', F', env1, acc, av, s', g', _⟩
    exact kA s' g'.wf.sub
  · rintro i x Hc H2 hlt ⟨S', F', env1, acc, av, s', g', dF, dS, hd, ra, e⟩ y
    obtain ⟨u, hu, hdr⟩ := drop_some hlt
    rw [hdr] at e
    obtain ⟨e1, h1, e⟩ := bindS e
    obtain ⟨⟨b, e2⟩, h2, e⟩ := bindS e
    obtain ⟨S2, p2, r2⟩ := ok.yld i Hc x H2 S' u hu (kA s' g'.wf.sub) s'.sub g'.wf.sub y
    have g2 := g'.pure_ p2
    obtain ⟨F2, g3, sb⟩ := g2.wipe vs
    have nX : ∀ l : List V, ¬ XObj κ (.lst l) := fun l z => by rcases z with ⟨_, _, z⟩ | ⟨_, _, z⟩ <;> cases z
    -- the new list stands apart
    obtain ⟨d1, d2, d3⟩ := (p2.stp (F := F')).apart p2.in_ hd dF dS (nX av)
    have d4 : D ∉ F2 := fun z => d2 (sb.subset z)
    have st2 : Stp κ S H F S2 H2 (F2 ++ [D]) := (s'.trans (p2.stp (F := F' ++ [D]))).less fun a ha => by
      simp only [List.mem_append] at ha ⊢
      exact ha.imp_left (fun z => sb.subset z)
    refine hg.run g3 r2 h1 _ fun σ3 S3 H3 F3 s3 g4 f3 => ?_
    obtain ⟨w1, w2, w3⟩ := wipe_same f3
    refine ⟨w1, ?_⟩
    refine ht.run g4 h2 _ fun S4 H4 F4 s4 g5 => ?_
    -- what is wanted behind a turn, from the state behind its last expression
    have fin : ∀ {S5 H5 : Hp} {F5 : List Addr} {e5 : Env} {acc' : List U} {av' : List V} {H6 : Hp}, Stp κ S2 H2 F2 S5 H5 F5 → Gd κ γ σ3 S5 H5 F5 e5 → Reps κ S5 acc' av' → H6 = upd H5 D (.lst av') → lcO vs mg mt me (items.drop (i + 1)) acc' (restE env1 e5 vs) = some (res, env') →
        ∃ S' F' env1 acc av, Stp κ S H F S' H6 (F' ++ [D]) ∧ Gd κ γ σ S' H6 F' env1 ∧ D ∉ F' ∧ S' D = none ∧ H6 D = some (.lst av) ∧ Reps κ S' acc av ∧ lcO vs mg mt me (items.drop (i + 1)) acc env1 = some (res, env') := by
      intro S5 H5 F5 e5 acc' av' H6 s5 g5 r5 hH e5'
      obtain ⟨q1, q2, q3⟩ := s5.apart g5.wf.sub d1 d4 d3 (nX av)
      obtain ⟨F6, g6, sb6⟩ := g5.rest g' (p2.sub.trans s5.sub) vs
      rw [restS_eq w2 w3] at g6
      have q4 : D ∉ F6 := fun z => q2 (sb6.subset z)
      subst hH
      refine ⟨S5, F6, _, acc', av', ?_, ⟨⟨fun b o hb => ?_, g6.wf.nd, g6.wf.out⟩, g6.env.mono (fun _ _ h => h) fun a ha => upd_ne fun z => q4 (z ▸ ha)⟩, q4, q3, upd_same, r5, e5'⟩
      · -- the steps joined, the list at D written
        have s56 : Stp κ S2 H2 (F2 ++ [D]) S5 (upd H5 D (.lst av')) (F6 ++ [D]) := by
          refine ⟨fun b o hb hh => ?_, fun b hb => ?_, s5.sub, fun b o hb => ?_, fun a ha => ?_⟩
          · rw [upd_ne fun z => hb (by subst z; simp)]
            exact s5.keep b o (fun z => hb (by simp [z])) hh
          · by_cases z : b = D
            · subst z
              rw [upd_same] at hb
              cases hb
            · rw [upd_ne z] at hb
              exact s5.trk b hb
          · rcases s5.new b o hb with z | z | z | z
            · exact .inl z
            · exact .inr (.inl z)
            · exact .inr (.inr (.inl z))
            · exact .inr (.inr (.inr (by simp [z])))
          · rcases List.mem_append.mp ha with ha | ha
            · rcases s5.foot a (sb6.subset ha) with z | z
              · exact .inl (by simp [z])
              · exact .inr z
            · exact .inl (by simp [List.mem_singleton.mp ha])
        exact st2.trans s56
      · rw [upd_ne fun z => by
          subst z
          rw [q3] at hb
          cases hb]
        exact g6.wf.sub b o hb
    cases b with
    | false =>
      rw [if_neg Bool.false_ne_true] at e ⊢
      obtain ⟨q1, q2, q3⟩ := (s3.trans s4.stp).apart g5.wf.sub d1 d4 d3 (nX av)
      refine fin (s3.trans s4.stp) g5 (Reps.mono ((p2.sub.trans s3.sub).trans s4.sub) acc ra) ?_ e
      funext b
      by_cases z : b = D
      · subst z
        rw [upd_same, q1]
      · rw [upd_ne z]
    | true =>
      rw [if_pos rfl] at e ⊢
      obtain ⟨⟨yv, e3⟩, h3, e⟩ := bindS e
      dsimp only at e
      split at e
      · rename_i hz
        refine he.run g5 h3 _ fun v S5 H5 F5 s5 g6 r5 => ?_
        have s35 := (s3.trans s4.stp).trans s5.stp
        obtain ⟨q1, q2, q3⟩ := s35.apart g6.wf.sub d1 d4 d3 (nX av)
        refine ⟨av, q1, by rw [← ra.len]; exact hz, fin s35 g6 (Reps.snoc r5 (Reps.mono (p2.sub.trans s35.sub) acc ra)) rfl e⟩
      · cases e
  · rintro Hc ⟨S', F', env1, acc, av, s', g', dF, dS, hd, ra, e⟩
    rw [List.drop_length] at e
    cases e
    refine k S' Hc F' av s' g' ⟨g'.wf.sub, List.nodup_append.mpr ⟨g'.wf.nd, by simp, fun a ha b hb => ?_⟩, fun a ha => ?_⟩ hd ra
    · rw [List.mem_singleton.mp hb]
      exact fun z => dF (z ▸ ha)
    · rcases List.mem_append.mp ha with ha | ha
      · exact g'.wf.out a ha
      · rw [List.mem_singleton.mp ha]
        exact dS
theorem simO_lc {wi : TI} {mi : M (List U)} {g : TG} {mg : MG} {tt : TT} {mt : M Bool} {te : TE} {me : M U} {vs : List Nat} (hi : SimI κ γ false wi mi) (hg : SimG κ γ (fun j => !vs.contains j) g mg) (ht : SimT κ γ false tt mt) (he : SimE κ γ false te me) :
    SimO κ γ (tLc wi g tt te vs) (mLcO vs mi mg mt me) := by
  constructor
  intro σ S H F env gd w env' e Q k
  obtain ⟨⟨res, e2⟩, e', e⟩ := bindS e
  cases e
  obtain ⟨⟨items, e0⟩, h0, e1⟩ := bindS e'
  refine hi.run gd h0 _ fun J S1 H1 F1 s1 g1 ok D hD => lc_core g1 ok KeepA.self hg ht he e1 hD _ fun S' H' F' vs' s' g' wf hd rs => ?_
  exact k _ S' H' F' [D] (s1.stp.trans s') g' wf ⟨D, vs', [], rfl, hd, rfl, RepOs.pure_ rs⟩
theorem simE_lc {wi : TI} {mi : M (List U)} {g : TG} {mg : MG} {tt : TT} {mt : M Bool} {te : TE} {me : M U} {vs : List Nat} (hi : SimI κ γ false wi mi) (hg : SimG κ γ (fun j => !vs.contains j) g mg) (ht : SimT κ γ false tt mt) (he : SimE κ γ false te me) :
    SimE κ γ false (tLc wi g tt te vs) (mLc vs mi mg mt me) := by
  constructor
  intro σ S H F env gd u env' e Q k
  obtain ⟨⟨res, e2⟩, e', e⟩ := bindS e
  cases e
  have q : mF (mLcO vs mi mg mt me) env = some (.lst res, e2) := by
    show ((mLcL vs mi mg mt me env).bind _).bind _ = _
    rw [e']
    show some (U.lst (frzs (res.map .p)), e2) = _
    rw [frzs_map]
  exact (simE_f (simO_lc hi hg ht he)).run gd q Q k
end
end UL
set_option Elab.async false
set_option linter.all false
set_option maxRecDepth 100000
set_option maxHeartbeats 2000000
/-! what is owned walked; calls; fields; new objects -/
namespace UL
open PySem PySem.Spec PyProof.Rows L2 LV
def allP : List Ow → Option (List U)
  | [] => some []
  | w :: ws => (isP w).bind fun u => (allP ws).bind fun us => some (u :: us)
def mLcLV (i : Nat) (vs : List Nat) (g : MG) (tt : M Bool) (te : M U) : M (List U) := fun env => match env[i]? with
  | some (some (.l ws)) => (allP ws).bind fun us => (lcO vs g tt te us [] (env.set i none)).bind fun x => some (x.1, x.2.set i (some (.l ws)))
  | _ => none
def mLcOV (i : Nat) (vs : List Nat) (g : MG) (tt : M Bool) (te : M U) : M Ow := fun env => (mLcLV i vs g tt te env).bind fun x => some (.l (x.1.map .p), x.2)
def mLcV (i : Nat) (vs : List Nat) (g : MG) (tt : M Bool) (te : M U) : M U := fun env => (mLcLV i vs g tt te env).bind fun x => some (.lst x.1, x.2)
section
variable {κ : String → Addr} {γ : Gh} {ρ : Bool} {fx : Nat → Bool} {K : PySem.W.Frag}
theorem allP_eq : ∀ {ws : List Ow} {us : List U}, allP ws = some us → ws = us.map .p
  | [], us, h => by
    cases h
    rfl
  | w :: ws, us, h => by
    obtain ⟨u, h1, h⟩ := bindS h
    obtain ⟨us', h2, h⟩ := bindS h
    cases h
    rw [isP_eq h1, allP_eq h2]
    rfl
/-- an owned thing put aside -/
theorem Gd.hide {σ : L2.St} {S H : Hp} {F : List Addr} {env : Env} (g : Gd κ γ σ S H F env) {i : Nat} {w : Ow} (e : env[i]? = some (some w)) :
    ∃ v F0 F2, σ[i]? = some (some v) ∧ Gd κ γ σ S H F0 (env.set i none) ∧ RepO κ S H w v F2 ∧ (F0 ++ F2).Nodup ∧ (∀ a, a ∈ F0 ++ F2 ↔ a ∈ F) := by
  obtain ⟨s, F1, F2, F3, h1, rfl, ⟨v, rfl, h3⟩, h4⟩ := g.env.get e
  obtain ⟨nd1, nd2⟩ := nodup_mid g.wf.nd
  have mem : ∀ a, a ∈ (F1 ++ F3) ++ F2 ↔ a ∈ F1 ++ F2 ++ F3 := fun a => by
    simp only [List.mem_append]
    constructor
    · rintro ((ha | ha) | ha) <;> simp [ha]
    · rintro ((ha | ha) | ha) <;> simp [ha]
  refine ⟨v, F1 ++ F3, F2, h1, ⟨⟨g.wf.sub, nd1, fun a ha => g.wf.out a ((mem a).mp (by simp only [List.mem_append] at ha ⊢; exact .inl ha))⟩, ?_⟩, h3, ?_, mem⟩
  · have q := h4 (S' := S) (H' := H) (s' := some v) (w' := none) (F2' := []) (fun _ _ h => h) (fun _ _ => rfl) rfl
    rw [List.append_nil, set_id h1] at q
    exact q
  · refine List.nodup_append.mpr ⟨nd1, (List.nodup_append.mp (List.nodup_append.mp g.wf.nd).1).2.1, fun a ha b hb z => ?_⟩
    subst z
    obtain ⟨q1, q2⟩ := nd2 a hb
    rcases List.mem_append.mp ha with ha | ha
    · exact q1 ha
    · exact q2 ha
/-- .. and put back behind steps that did not see it -/
theorem Gd.back {σ σ' : L2.St} {S H S' H' : Hp} {F F0 F2 F' : List Addr} {env env' : Env} (g : Gd κ γ σ S H F env) {i : Nat} {w : Ow} {v : V} (r : RepO κ S H w v F2) (nd : (F0 ++ F2).Nodup) (mem : ∀ a, a ∈ F0 ++ F2 ↔ a ∈ F)
    (s : Stp κ S H F0 S' H' F') (g' : Gd κ γ σ' S' H' F' env') (hv : σ'[i]? = some (some v)) : ∃ F3, Gd κ γ σ' S' H' F3 (env'.set i (some w)) ∧ Stp κ S H F S' H' (F3) ∧ ∀ a ∈ F3, a ∈ F' ∨ a ∈ F2 := by
  have ap : ∀ a ∈ F2, H' a = H a ∧ a ∉ F' ∧ S' a = none := fun a ha => by
    obtain ⟨o, ho, nx⟩ := RepO.foot w r a ha
    have na : a ∉ F0 := fun z => (List.nodup_append.mp nd).2.2 a z a ha rfl
    obtain ⟨q1, q2, q3⟩ := s.apart g'.wf.sub ho na (g.wf.out a ((mem a).mp (by simp [ha]))) nx
    exact ⟨q1.trans ho.symm, q2, q3⟩
  have wf : WF S' H' (F' ++ F2) := ⟨g'.wf.sub, List.nodup_append.mpr ⟨g'.wf.nd, (List.nodup_append.mp nd).2.1, fun a ha b hb z => by
    subst z
    exact (ap a hb).2.1 ha⟩, fun a ha => by
    rcases List.mem_append.mp ha with ha | ha
    · exact g'.wf.out a ha
    · exact (ap a ha).2.2⟩
  obtain ⟨F3, g3, hs⟩ := g'.put2 wf (RepO.mono s.sub w (fun a ha => (ap a ha).1) r) i
  rw [set_id hv] at g3
  refine ⟨F3, g3, ⟨fun b o hb hh => s.keep b o (fun z => hb ((mem b).mp (by simp [z]))) hh, s.trk, s.sub, fun b o hb => ?_, fun a ha => ?_⟩, fun a ha => List.mem_append.mp (hs a ha)⟩
  · rcases s.new b o hb with z | z | z | z
    · exact .inl z
    · exact .inr (.inl z)
    · exact .inr (.inr (.inl z))
    · exact .inr (.inr (.inr ((mem b).mp (by simp [z]))))
  · rcases List.mem_append.mp (hs a ha) with z | z
    · rcases s.foot a z with z | z
      · exact .inl ((mem a).mp (by simp [z]))
      · exact .inr z
    · exact .inl ((mem a).mp (by simp [z]))
theorem simO_lcV {i : Nat} {g : TG} {mg : MG} {tt : TT} {mt : M Bool} {te : TE} {me : M U} {vs : List Nat} (hg : SimG κ γ (fun j => !vs.contains j) g mg) (ht : SimT κ γ false tt mt) (he : SimE κ γ false te me) :
    SimO κ γ (tLc (iList K (tVar i)) g tt te vs) (mLcOV i vs mg mt me) := by
  constructor
  intro σ S H F env gd w env' e Q k
  obtain ⟨⟨res, e2⟩, e', e⟩ := bindS e
  cases e
  unfold mLcLV at e'
  split at e'
  · rename_i ws hw
    obtain ⟨us, h1, e⟩ := bindS e'
    obtain ⟨⟨res', e3⟩, h2, e⟩ := bindS e
    cases e
    obtain ⟨v, F0, F2, hv, g0, r, nd, mem⟩ := gd.hide hw
    have r' := r
    rw [allP_eq h1] at r
    obtain ⟨a, vs', G, rfl, ha, rfl, rs⟩ := r
    obtain ⟨rfl, rp⟩ := rs.flat
    have na : a ∉ F0 := fun z => (List.nodup_append.mp nd).2.2 a z a (by simp) rfl
    let A : Hp := fun b => if b = a then some (.lst vs') else none
    have hA : A a = some (.lst vs') := if_pos rfl
    refine ⟨_, hv, a, rfl, ⟨vs', SqL.of ha⟩, fun D hD => lc_core (A := A) g0 (itOk_list hA rp) (fun b o hb => ?_) hg ht he h2 hD _ fun S' H' F' xs s' g' wf hd rr => ?_⟩
    · by_cases z : b = a
      · subst z
        rw [hA] at hb
        cases hb
        exact .inr ⟨ha, na⟩
      · have : A b = none := if_neg z
        rw [this] at hb
        cases hb
    · have s0 := s'.less (F2 := F') fun b hb => by simp [hb]
      obtain ⟨q1, q2, q3⟩ := s'.apart wf.sub ha na (gd.wf.out a ((mem a).mp (by simp))) (fun z => by rcases z with ⟨_, _, z⟩ | ⟨_, _, z⟩ <;> cases z)
      obtain ⟨F3, g3, s3, hs3⟩ := gd.back r' nd mem s0 g' hv
      refine k _ S' H' F3 [D] ⟨s3.keep, s3.trk, s3.sub, s3.new, fun b hb => ?_⟩ g3 ⟨g3.wf.sub, List.nodup_append.mpr ⟨g3.wf.nd, by simp, fun b hb c hc z => ?_⟩, fun b hb => ?_⟩ ⟨D, xs, [], rfl, hd, rfl, RepOs.pure_ rr⟩
      · rcases List.mem_append.mp hb with hb | hb
        · exact s3.foot b hb
        · rw [List.mem_singleton.mp hb]
          exact .inr hD
      · rw [List.mem_singleton.mp hc] at z
        subst z
        rcases hs3 b hb with z | z
        · exact (List.nodup_append.mp wf.nd).2.2 b z b (by simp) rfl
        · rw [List.mem_singleton.mp z] at q2
          exact q2 (by rw [← List.mem_singleton.mp z]; simp)
      · rcases List.mem_append.mp hb with hb | hb
        · exact g3.wf.out b hb
        · exact wf.out b (by simp [hb])
  · cases e'
theorem simE_lcV {i : Nat} {g : TG} {mg : MG} {tt : TT} {mt : M Bool} {te : TE} {me : M U} {vs : List Nat} (hg : SimG κ γ (fun j => !vs.contains j) g mg) (ht : SimT κ γ false tt mt) (he : SimE κ γ false te me) :
    SimE κ γ false (tLc (iList K (tVar i)) g tt te vs) (mLcV i vs mg mt me) := by
  constructor
  intro σ S H F env gd u env' e Q k
  obtain ⟨⟨res, e2⟩, e', e⟩ := bindS e
  cases e
  have q : mF (mLcOV i vs mg mt me) env = some (.lst res, e2) := by
    show ((mLcLV i vs mg mt me env).bind _).bind _ = _
    rw [e']
    show some (U.lst (frzs (res.map .p)), e2) = _
    rw [frzs_map]
  exact (simE_f (simO_lcV hg ht he)).run gd q Q k
end
end UL
set_option Elab.async false
set_option linter.all false
set_option maxRecDepth 100000
set_option maxHeartbeats 2000000
/-! calls; fields; new objects; places -/
namespace UL
open PySem PySem.Spec PyProof.Rows L2 LV
/-! promises -/
section
variable (κ : String → Addr) (γ : Gh)
def spP (f : List U → Option U) : Sp := fun vs H Q _ => rP κ f vs H Q
/-- the first argument is owned and may be changed -/
def spI (f : Ow → List U → Option (U × Ow)) : Sp := fun vs H Q _ => ∃ S F w us v0 vs' u w', vs = v0 :: vs' ∧ WF S H F ∧ RepO κ S H w v0 F ∧ Reps κ S us vs' ∧ f w us = some (u, w') ∧
  ∀ v S' H' F', Stp κ S H F S' H' F' → WF S' H' F' → RepO κ S' H' w' v0 F' → Rep κ S' u v → Q v H'
end
def hasS (env : Env) (i : Nat) : Option Unit := match env[i]? with
  | some (some _) => some ()
  | _ => none
def atS (env : Env) (i : Nat) : Option Ow := match env[i]? with
  | some (some w) => some w
  | _ => none
def mCallI (i : Nat) (f : Ow → List U → Option (U × Ow)) (a : M (List U)) : M U := fun env => (hasS env i).bind fun _ => (a env).bind fun x => (atS x.2 i).bind fun w => (f w x.1).bind fun z => some (z.1, x.2.set i (some z.2))
def mCallIR (i : Nat) (f : Ow → List U → Option (Ow × Ow)) (a : M (List U)) : M Ow := fun env => (hasS env i).bind fun _ => (a env).bind fun x => (atS x.2 i).bind fun w => (f w x.1).bind fun z => some (z.1, x.2.set i (some z.2))
/-- whether a value is an instance of the class without such an attribute -/
def rcv (c : String) (m : Str) : U → Option Unit
  | .obj c' ns _ => if c' = c ∧ ixF m ns = none then some () else none
  | .q _ => if c = "Exact" ∧ m ≠ "over" ∧ m ≠ "under" then some () else none
  | _ => none
def mMeth (c : String) (m : Str) (f : List U → Option U) (o : M U) (a : M (List U)) : M U := fun env => (o env).bind fun x => (rcv c m x.1).bind fun _ => (a x.2).bind fun y => (f (x.1 :: y.1)).bind fun z => some (z, y.2)
section
variable {κ : String → Addr} {γ : Gh} {ρ : Bool} {fx : Nat → Bool} {K : PySem.W.Frag} {E : XK}
theorem simE_call {f : List U → Option U} {n : Nat} {t : TA} {m : M (List U)} (h : SimA κ γ ρ n t m) : SimE κ γ ρ (tCall (spP κ f) [] E t) (mN f m) := by
  constructor
  intro σ S H F env g u env' e Q k
  obtain ⟨⟨x, e1⟩, h1, e⟩ := bindS e
  obtain ⟨z, h3, e⟩ := bindS e
  cases e
  refine h.run g h1 _ fun vs S1 H1 F1 s1 g1 r => ?_
  exact ⟨S1, x, u, g1.wf.sub, by rw [List.append_nil]; exact r, h3, fun v' S' H' p r' => k v' S' H' F1 (s1.trans p.stq) (g1.pure_ p) r'⟩
theorem atS_eq {env : Env} {i : Nat} {w : Ow} (h : atS env i = some w) : env[i]? = some (some w) := by
  unfold atS at h
  split at h
  · rename_i w' hw
    cases h
    exact hw
  · cases h
theorem hasS_val {σ : L2.St} {S H : Hp} {F : List Addr} {env : Env} (g : Gd κ γ σ S H F env) {i : Nat} {u : Unit} (h : hasS env i = some u) : ∃ v, σ[i]? = some (some v) := by
  unfold hasS at h
  split at h
  · rename_i w hw
    obtain ⟨v, hv, _⟩ := loc_root g hw
    exact ⟨v, hv⟩
  · cases h
/-- a step within one slot's foot -/
theorem Gd.inner {σ : L2.St} {S H S1 H1 : Hp} {F F0 F2 F2' : List Addr} {env : Env} (g : Gd κ γ σ S H F env) {i : Nat} {w w' : Ow} {v : V} (g0 : Gd κ γ σ S H F0 (env.set i none)) (hv : σ[i]? = some (some v)) (nd : (F0 ++ F2).Nodup) (mem : ∀ a, a ∈ F0 ++ F2 ↔ a ∈ F)
    (s : Stp κ S H F2 S1 H1 F2') (wf : WF S1 H1 F2') (r : RepO κ S1 H1 w' v F2') : ∃ F3, Gd κ γ σ S1 H1 F3 (env.set i (some w')) ∧ Stp κ S H F S1 H1 F3 ∧ (∀ a ∈ F3, a ∈ F0 ++ F2') ∧ (F0 ++ F2').Nodup ∧ ∀ a ∈ F0, H1 a = H a ∧ S1 a = none := by
  have ap : ∀ a ∈ F0, H1 a = H a ∧ a ∉ F2' ∧ S1 a = none := fun a ha => by
    obtain ⟨o, ho, nx⟩ := g0.env.foot a ha
    have na : a ∉ F2 := fun z => (List.nodup_append.mp nd).2.2 a ha a z rfl
    obtain ⟨q1, q2, q3⟩ := s.apart wf.sub ho na (g0.wf.out a ha) nx
    exact ⟨q1.trans ho.symm, q2, q3⟩
  have nd2 : (F0 ++ F2').Nodup := List.nodup_append.mpr ⟨g0.wf.nd, wf.nd, fun a ha b hb z => by
    subst z
    exact (ap a ha).2.1 hb⟩
  have wf2 : WF S1 H1 (F0 ++ F2') := ⟨wf.sub, nd2, fun a ha => by
    rcases List.mem_append.mp ha with ha | ha
    · exact (ap a ha).2.2
    · exact wf.out a ha⟩
  have g1 : Gd κ γ σ S1 H1 F0 (env.set i none) := ⟨wf2.left, g0.env.mono s.sub fun a ha => (ap a ha).1⟩
  obtain ⟨F3, g3, hs⟩ := g1.put2 wf2 r i
  rw [set_id hv, List.set_set] at g3
  refine ⟨F3, g3, ⟨fun b o hb h => s.keep b o (fun z => hb ((mem b).mp (by simp [z]))) h, s.trk, s.sub, fun b o h => ?_, fun a ha => ?_⟩, hs, nd2, fun a ha => ⟨(ap a ha).1, (ap a ha).2.2⟩⟩
  · rcases s.new b o h with z | z | z | z
    · exact .inl z
    · exact .inr (.inl z)
    · exact .inr (.inr (.inl z))
    · exact .inr (.inr (.inr ((mem b).mp (by simp [z]))))
  · rcases List.mem_append.mp (hs a ha) with z | z
    · exact .inl ((mem a).mp (by simp [z]))
    · rcases s.foot a z with z | z
      · exact .inl ((mem a).mp (by simp [z]))
      · exact .inr z
theorem callI_core {i : Nat} {f : Ow → List U → Option (U × Ow)} {σ : L2.St} {S H : Hp} {F : List Addr} {env : Env} {us : List U} {vs : List V} {w w' : Ow} {v0 : V} {u : U} (g : Gd κ γ σ S H F env) (hv : σ[i]? = some (some v0)) (r : Reps κ S us vs) (hw : env[i]? = some (some w)) (hf : f w us = some (u, w')) (Q : VK)
    (k : ∀ v S' H' F', Stp κ S H F S' H' F' → Gd κ γ σ S' H' F' (env.set i (some w')) → Rep κ S' u v → Q v H') : spI κ f (v0 :: vs) H Q E := by
  obtain ⟨v, F0, F2, hv', g0, rw', nd, mem⟩ := g.hide hw
  rw [hv] at hv'
  cases hv'
  have wf2 : WF S H F2 := ⟨g.wf.sub, (List.nodup_append.mp nd).2.1, fun a ha => g.wf.out a ((mem a).mp (by simp [ha]))⟩
  refine ⟨S, F2, w, us, v0, vs, u, w', rfl, wf2, rw', r, hf, fun v' S' H' F' s' wf' r' ru => ?_⟩
  obtain ⟨F3, g3, s3, _⟩ := g.inner (w := w) g0 hv nd mem s' wf' r'
  exact k v' S' H' F3 s3 g3 ru
theorem simE_callI {i n : Nat} {f : Ow → List U → Option (U × Ow)} {t : TA} {m : M (List U)} (h : SimA κ γ false n t m) : SimE κ γ false (tCall (spI κ f) [] E (tCons (tVar i) t)) (mCallI i f m) := by
  constructor
  intro σ S H F env g u env' e Q k
  obtain ⟨_, h0, e⟩ := bindS e
  obtain ⟨⟨x, e1⟩, h1, e⟩ := bindS e
  obtain ⟨w, h2, e⟩ := bindS e
  obtain ⟨⟨u', w'⟩, h3, e⟩ := bindS e
  cases e
  obtain ⟨v, hv⟩ := hasS_val g h0
  refine ⟨v, hv, h.run g h1 _ fun vs S1 H1 F1 s1 g1 r => ?_⟩
  show spI κ f ((v :: vs) ++ []) H1 Q E
  rw [List.append_nil]
  exact callI_core g1 hv r (atS_eq h2) h3 _ fun v' S' H' F' s' g' ru => k v' S' H' F' (s1.stp.trans s').stq g' ru
theorem ixF_none {n : Str} : ∀ {ns : List Str} {vs : List V}, ixF n ns = none → (ns.zip vs).lookup n = none
  | [], _, _ => rfl
  | m :: r, [], _ => rfl
  | m :: r, x :: vs, h => by
    unfold ixF at h
    by_cases hm : m = n
    · rw [if_pos hm] at h
      cases h
    · rw [if_neg hm] at h
      have hb : (n == m) = false := beq_eq_false_iff_ne.mpr (Ne.symm hm)
      simp only [List.zip_cons_cons, List.lookup, hb]
      exact ixF_none (by simpa using h)
theorem rcv_ok {c : String} {m : Str} {x : U} {S : Hp} {v : V} {z : Unit} (h : rcv c m x = some z) (r : Rep κ S x v) : ∃ a dx fs, v = .ref a ∧ S a = some (.ins (κ c) dx fs) ∧ fs.lookup m = none := by
  cases x <;> try cases h
  · rename_i q
    obtain ⟨a, dx, rfl, h2⟩ := r
    dsimp only [rcv] at h
    split at h
    · rename_i hc
      obtain ⟨rfl, h3, h4⟩ := hc
      refine ⟨a, dx, _, rfl, h2, ?_⟩
      have e1 : (m == "over") = false := beq_eq_false_iff_ne.mpr h3
      have e2 : (m == "under") = false := beq_eq_false_iff_ne.mpr h4
      simp only [exF, List.lookup, e1, e2]
    · cases h
  · rename_i c' ns us
    obtain ⟨a, dx, vs, rfl, h2, _⟩ := r
    dsimp only [rcv] at h
    split at h
    · rename_i hc
      obtain ⟨rfl, h3⟩ := hc
      exact ⟨a, dx, _, rfl, h2, ixF_none h3⟩
    · cases h
theorem simE_meth {c : String} {m : Str} {f : List U → Option U} {n : Nat} {to : TE} {mo : M U} {t : TA} {ma : M (List U)} (ho : SimE κ γ ρ to mo) (h : SimA κ γ ρ n t ma) : SimE κ γ ρ (tMeth (κ c) m (spP κ f) [] E to t) (mMeth c m f mo ma) := by
  constructor
  intro σ S H F env g u env' e Q k
  obtain ⟨⟨x, e1⟩, h1, e⟩ := bindS e
  obtain ⟨_, h2, e⟩ := bindS e
  obtain ⟨⟨y, e2⟩, h3, e⟩ := bindS e
  obtain ⟨z, h4, e⟩ := bindS e
  cases e
  refine ho.run g h1 _ fun v S1 H1 F1 s1 g1 r => ?_
  obtain ⟨a, dx, fs, rfl, ha, hm⟩ := rcv_ok h2 r
  refine ⟨a, dx, fs, rfl, g1.wf.sub _ _ ha, hm, h.run g1 h3 _ fun vs S2 H2 F2 s2 g2 rs => ?_⟩
  exact ⟨S2, x :: y, u, g2.wf.sub, ⟨_, vs, by rw [List.append_nil], Rep.mono s2.sub x r, rs⟩, h4, fun v' S' H' p r' => k v' S' H' F2 ((s1.trans s2).trans p.stq) (g2.pure_ p) r'⟩
/-! fields -/
/-- which attributes of which classes are read off the instance -/
structure Tb (K : PySem.W.Frag) (κ : String → Addr) (fd : String → Str → Bool) : Prop where
  ok : ∀ c f, fd c f = true → Cls K (κ c) ∧ NoAttr K (κ c) f
end
end UL
set_option Elab.async false
set_option linter.all false
set_option maxRecDepth 100000
set_option maxHeartbeats 2000000
/-! operations on pure values -/
namespace UL
open PySem PySem.Spec PyProof.Rows L2 LV
def smQ (r : Rat) : Bool := decide (r.num.natAbs < 2 ^ 4000) && decide (r.den < 2 ^ 4000)
def bigI (i : Int) : Bool := decide (i.natAbs < 2 ^ 8500)
def smI (i : Int) : Bool := decide (i.natAbs < 2 ^ 64)
def mulOk (i j : Int) : Bool := smI i || smI j || (bigI i && bigI j)
def okQ (a b : Rat) (x : U) : Option U := if smQ a && smQ b then some x else none
def addU : U → U → Option U
  | .int i, .int j => some (.int (i + j))
  | .q a, .q b => okQ a b (.q (a + b))
  | .q a, .int j => okQ a j (.q (a + j))
  | .int i, .q b => okQ i b (.q (i + b))
  | .str a, .str b => if a.length + b.length ≤ sizeLine then some (.str (a ++ b)) else none
  | .lst a, .lst b => if a.length + b.length ≤ sizeLine then some (.lst (a ++ b)) else none
  | .tup a, .tup b => if a.length + b.length ≤ sizeLine then some (.tup (a ++ b)) else none
  | _, _ => none
def subU : U → U → Option U
  | .int i, .int j => some (.int (i - j))
  | .q a, .q b => okQ a b (.q (a - b))
  | .q a, .int j => okQ a j (.q (a - j))
  | .int i, .q b => okQ i b (.q (i - b))
  | _, _ => none
def mulU : U → U → Option U
  | .int i, .int j => if mulOk i j then some (.int (i * j)) else none
  | .q a, .q b => okQ a b (.q (a * b))
  | .q a, .int j => okQ a j (.q (a * j))
  | .int i, .q b => okQ i b (.q (i * b))
  | _, _ => none
def negU : U → Option U
  | .int i => some (.int (-i))
  | .q a => if smQ a then some (.q (-a)) else none
  | _ => none
def fdivU : U → U → Option U
  | .int i, .int j => if j ≠ 0 ∧ j.natAbs.log2 < 9000 then some (.int (i.fdiv j)) else none
  | _, _ => none
def modU : U → U → Option U
  | .int i, .int j => if j ≠ 0 then some (.int (i.fmod j)) else none
  | _, _ => none
def powU : U → U → Option U
  | .int i, .int j => if 0 ≤ j ∧ j ≤ 1000000 ∧ i.natAbs < 2 ^ 64 then some (.int (i ^ j.toNat)) else none
  | _, _ => none
def ltU : U → U → Option U
  | .int i, .int j => some (.bl (decide (i < j)))
  | .q a, .q b => okQ a b (.bl (decide (a < b)))
  | .q a, .int j => okQ a j (.bl (decide (a < j)))
  | .int i, .q b => okQ i b (.bl (decide ((i : Rat) < b)))
  | _, _ => none
def leU : U → U → Option U
  | .int i, .int j => some (.bl (decide (i ≤ j)))
  | .q a, .q b => okQ a b (.bl (decide (a ≤ b)))
  | .q a, .int j => okQ a j (.bl (decide (a ≤ j)))
  | .int i, .q b => okQ i b (.bl (decide ((i : Rat) ≤ b)))
  | _, _ => none
def gtU (a b : U) : Option U := match a, b with
  | .int i, .int j => some (.bl (decide (j < i)))
  | .q a, .q b => okQ a b (.bl (decide (b < a)))
  | .q a, .int j => okQ a j (.bl (decide ((j : Rat) < a)))
  | .int i, .q b => okQ i b (.bl (decide (b < (i : Rat))))
  | _, _ => none
def geU (a b : U) : Option U := match a, b with
  | .int i, .int j => some (.bl (decide (j ≤ i)))
  | .q a, .q b => okQ a b (.bl (decide (b ≤ a)))
  | .q a, .int j => okQ a j (.bl (decide ((j : Rat) ≤ a)))
  | .int i, .q b => okQ i b (.bl (decide (b ≤ (i : Rat))))
  | _, _ => none
/-- == of flat values -/
def eqF : U → U → Option Bool
  | .non, .non => some true | .non, .int _ => some false | .int _, .non => some false | .non, .bl _ => some false | .bl _, .non => some false | .non, .str _ => some false | .str _, .non => some false
  | .int i, .int j => some (decide (i = j)) | .bl a, .bl b => some (decide (a = b)) | .str x, .str y => some (decide (x = y))
  | .int _, .str _ => some false | .str _, .int _ => some false | .bl _, .str _ => some false | .str _, .bl _ => some false
  | .q a, .q b => some (decide (a = b)) | .q a, .int j => some (decide (a = j)) | .int i, .q b => some (decide ((i : Rat) = b))
  | .q _, .non => some false | .q _, .bl _ => some false | .q _, .str _ => some false | .q _, .lst _ => some false | .q _, .tup _ => some false | .q _, .dic _ _ => some false
  | .non, .q _ => some false | .bl _, .q _ => some false | .str _, .q _ => some false | .lst _, .q _ => some false | .tup _, .q _ => some false | .dic _ _, .q _ => some false
  | _, _ => none
def allEq (f : U → U → Option Bool) : List U → List U → Option Bool
  | [], [] => some true
  | x :: xs, y :: ys => (f x y).bind fun b => (allEq f xs ys).bind fun c => some (b && c)
  | _, _ => none
/-- == within a depth -/
def eqN : Nat → U → U → Option Bool
  | n + 1, .lst a, .lst b => if a.length = b.length then allEq (eqN n) a b else some false
  | n + 1, .tup a, .tup b => if a.length = b.length then allEq (eqN n) a b else none
  | _, a, b => eqF a b
def eqU (n : Nat) (a b : U) : Option U := (eqN n a b).bind fun x => some (.bl x)
def ixU : U → U → Option U
  | .lst us, .int i => atI us i
  | .tup us, .int i => atI us i
  | .atl _ us, .int i => atI us i
  | .str z, .int i => if z.length ≤ sizeLine then (atI z.cps.toList i).bind fun c => some (.str ⟨#[c]⟩) else none
  | _, _ => none
def lenU : List U → Option U
  | [.lst us] => some (.int us.length)
  | [.tup us] => some (.int us.length)
  | [.atl _ us] => some (.int us.length)
  | [.str z] => if z.length ≤ sizeLine then some (.int z.length) else none
  | _ => none
def cutU (xs : List U) (lo hi : Option Int) : List U := (xs.drop (HT.sIx xs.length 0 lo)).take (HT.sIx xs.length xs.length hi - HT.sIx xs.length 0 lo)
def slU (u : U) (lo hi : Option Int) : Option U := match u with
  | .lst us => some (.lst (cutU us lo hi))
  | .tup us => some (.tup (cutU us lo hi))
  | _ => none
/-- the name of a value's class -/
def tyU : U → String
  | .non => "NoneType" | .bl _ => "bool" | .int _ => "int" | .str _ => "str" | .q _ => "Exact" | .lst _ => "list" | .tup _ => "tuple" | .dic _ _ => "dict" | .obj c _ _ => c | .kt _ => "tuple" | .atl _ _ => "list"
def isiN (T t : String) : Bool := decide (t = T) || (decide (T = "int") && decide (t = "bool"))
def allB : List U → Option (List Bool)
  | [] => some []
  | u :: us => (isB u).bind fun b => (allB us).bind fun bs => some (b :: bs)
def allU : List U → Option U
  | [.lst us] => (allB us).bind fun bs => some (.bl (bs.all id))
  | _ => none
def intU : List U → Option U
  | [.int i] => some (.int i)
  | [.bl b] => some (.int (if b then 1 else 0))
  | _ => none
end UL
set_option Elab.async false
set_option linter.all false
set_option maxRecDepth 100000
set_option maxHeartbeats 2000000
/-! further operations on pure values -/
namespace UL
open PySem PySem.Spec PyProof.Rows L2 LV
mutual
def toD : U → Option PyData
  | .non => some .none
  | .bl b => some (.bool b)
  | .int i => some (.int i)
  | .str x => some (.str x)
  | .lst us => (toDs us).bind fun ds => some (.list ds)
  | .tup us => (toDs us).bind fun ds => some (.tuple ds)
  | _ => none
def toDs : List U → Option (List PyData)
  | [] => some []
  | u :: us => (toD u).bind fun d => (toDs us).bind fun ds => some (d :: ds)
end
/-- != -/
def neU : U → U → Option U
  | .lst us, .lst [] => some (.bl (!us.isEmpty))
  | .q a, .q b => some (.bl (!decide (a = b)))
  | .q a, .int j => some (.bl (!decide (a = j)))
  | .q _, .non => some (.bl true) | .q _, .bl _ => some (.bl true) | .q _, .str _ => some (.bl true)
  | a, b => (toD a).bind fun d => (toD b).bind fun e => if SeqAt.shaped d && SeqAt.shaped e then some (.bl (!PyData.eqv d e)) else none
def addI (a b : U) : Option U := (isI a).bind fun i => (isI b).bind fun j => some (.int (i + j))
/-- the class of a value is known -/
def kwn (cs : List String) : U → Bool
  | .obj c _ _ => cs.contains c
  | .kt _ => false
  | .atl _ _ => false
  | _ => true
def isiU (cs : List String) (T : String) (u : U) : Option U := if kwn cs u then some (.bl (isiN T (tyU u))) else none
def isiA (cs : List String) (Ts : List String) (u : U) : Option U := if kwn cs u then some (.bl (Ts.any fun T => isiN T (tyU u))) else none
def isBU (a b : U) : Option U := (isB a).bind fun x => (isB b).bind fun y => some (.bl (decide (x = y)))
/-- how often a loop may turn -/
def fuel : Nat := 2 ^ 20000
/-! functions of the module exacts -/
def partF : List U → Option U
  | [.int i] => some (.q i)
  | [.q r] => some (.q r)
  | _ => none
def byF : List U → Option U
  | [.q a, .q b] => if b ≠ 0 then okQ a b (.q (a / b)) else none
  | [.q a, .int j] => if j ≠ 0 then okQ a j (.q (a / j)) else none
  | _ => none
def isIntF (cs : List String) : List U → Option U
  | [u] => if kwn cs u then some (.bl (isiN "int" (tyU u) && !isiN "bool" (tyU u))) else none
  | _ => none
def isNumF (cs : List String) : List U → Option U
  | [u] => if kwn cs u then some (.bl ((isiN "int" (tyU u) && !isiN "bool" (tyU u)) || isiN "Exact" (tyU u))) else none
  | _ => none
/-- Exact(o, u) -/
def mkF : List U → Option U
  | [.int o, .int u] => if u ≠ 0 ∧ bigI u = true then some (.q (Rat.divInt o u)) else none
  | [.int o] => some (.q o)
  | _ => none
end UL
set_option Elab.async false
set_option linter.all false
set_option maxRecDepth 100000
set_option maxHeartbeats 2000000
/-! defs as a whole; slices -/
namespace UL
open PySem PySem.Spec PyProof.Rows L2 LV
def env0 (ws : List Ow) (nl : Nat) : Env := ws.map some ++ List.replicate nl none
/-- a def that owns nothing from outside -/
def fnP (n nl : Nat) (b : MS) : List U → Option U := fun us => if us.length = n then (b (env0 (us.map .p) nl)).bind fun f => match f with
    | .rt w _ => isP w
    | .nx _ => some .non
    | .bk _ => none
  else none
/-- its first argument is owned -/
def fnI (n nl : Nat) (b : MS) : Ow → List U → Option (U × Ow) := fun w us => if us.length + 1 = n then (b (env0 (w :: us.map .p) nl)).bind fun f => match f with
    | .rt r e => (isP r).bind fun u => (atS e 0).bind fun w' => some (u, w')
    | .nx e => (atS e 0).bind fun w' => some (.non, w')
    | .bk _ => none
  else none
abbrev fx0 : Nat → Bool := fun _ => false
abbrev fx1 : Nat → Bool := fun i => i == 0
section
variable {κ : String → Addr} {γ : Gh} {ρ : Bool}
theorem envOk_nones {S H : Hp} : ∀ n : Nat, EnvOk κ [] S H (List.replicate n none) (List.replicate n none) []
  | 0 => rfl
  | n + 1 => by
    rw [List.replicate_succ]
    exact ⟨[], [], rfl, rfl, envOk_nones n⟩
theorem envOk_start {S H : Hp} {nl : Nat} : ∀ {ws : List Ow} {vs : List V} {F : List Addr}, RepOs κ S H ws vs F → EnvOk κ [] S H (vs.map some ++ List.replicate nl none) (ws.map some ++ List.replicate nl none) F
  | [], _, _, h => by
    obtain ⟨rfl, rfl⟩ := h
    exact envOk_nones nl
  | w :: ws, _, _, h => by
    obtain ⟨v, vs', F1, F2, rfl, rfl, h1, h2⟩ := h
    exact ⟨F1, F2, rfl, ⟨v, rfl, h1⟩, envOk_start h2⟩
theorem gd_start {S H : Hp} {nl : Nat} {N : List Str} {ws : List Ow} {vs : List V} {F : List Addr} (wf : WF S H F) (r : RepOs κ S H ws vs F) (hN : N.length = vs.length + nl) : Gd κ [] (L2.start N vs) S H F (env0 ws nl) := by
  refine ⟨wf, ?_⟩
  unfold L2.start env0
  rw [show N.length - vs.length = nl by omega]
  exact envOk_start r
theorem StpP.of {S H S' H' : Hp} {F : List Addr} (s : Stp κ S H [] S' H' F) (w : Same S' H') : StpP κ S H S' H' :=
  ⟨fun b o h => s.keep b o (by simp) h, s.sub, w, fun b o h => by
    rcases s.new b o h with z | z | z | z
    · exact .inl z
    · exact .inr (.inl z)
    · exact .inr (.inr z)
    · simp at z⟩
theorem sim_fnP {t : TS} {b : MS} {n nl : Nat} {N : List Str} {vs : List V} {H : Hp} {Q : VK} {E : XK} (h : SimS κ [] fx0 t b) (hs : spP κ (fnP n nl b) vs H Q E) (hN : N.length = n + nl) : t { nx := fun _ H' => Q .non H', rt := Q } (L2.start N vs) H := by
  obtain ⟨S, us, u, e, rs, hf, k⟩ := hs
  unfold fnP at hf
  split at hf <;> try cases hf
  rename_i hl
  obtain ⟨f, h1, hf⟩ := bindS hf
  have hN : N.length = vs.length + nl := by rw [hN, ← rs.len, hl]
  have g := gd_start (nl := nl) (N := N) ⟨e, by simp, fun a ha => by simp at ha⟩ (RepOs.pure_ (H := H) rs) hN
  refine h.run g h1 _ ?_
  cases f with
  | nx e1 =>
    cases hf
    exact fun σ' S' H' F' s' g' _ => k _ S' H' (StpP.of s' g'.wf.sub) rfl
  | rt w e1 =>
    have := isP_eq hf
    subst this
    intro v σ' S' H' F' Fw s' g' wf r _
    exact k _ S' H' (StpP.of s' g'.wf.sub) r.2
  | bk e1 => cases hf
theorem slot0 {σ : L2.St} {S H : Hp} {F : List Addr} {env : Env} {w : Ow} (g : Gd κ [] σ S H F env) (h : atS env 0 = some w) : ∃ v F1, σ[0]? = some (some v) ∧ RepO κ S H w v F1 ∧ WF S H F1 ∧ ∀ a ∈ F1, a ∈ F := by
  obtain ⟨s, A, B, C, h1, rfl, ⟨v, rfl, h3⟩, _⟩ := g.env.get (atS_eq h)
  have sb : ∀ a ∈ B, a ∈ A ++ B ++ C := fun a ha => by simp [ha]
  exact ⟨v, B, h1, h3, ⟨g.wf.sub, (List.nodup_append.mp (List.nodup_append.mp g.wf.nd).1).2.1, fun a ha => g.wf.out a (sb a ha)⟩, sb⟩
theorem start0 {N : List Str} {v0 : V} {vs : List V} : (L2.start N (v0 :: vs))[0]? = some (some v0) := rfl
theorem sim_fnI {t : TS} {b : MS} {n nl : Nat} {N : List Str} {vs : List V} {H : Hp} {Q : VK} {E : XK} (h : SimS κ [] fx1 t b) (hs : spI κ (fnI n nl b) vs H Q E) (hN : N.length = n + nl) : t { nx := fun _ H' => Q .non H', rt := Q } (L2.start N vs) H := by
  obtain ⟨S, F, w, us, v0, vs', u, w', rfl, wf, rw', rs, hf, k⟩ := hs
  unfold fnI at hf
  split at hf <;> try cases hf
  rename_i hl
  obtain ⟨f, h1, hf⟩ := bindS hf
  have hN : N.length = (v0 :: vs').length + nl := by rw [hN, List.length_cons, ← rs.len, hl]
  have g := gd_start (nl := nl) (N := N) (ws := w :: us.map .p) (vs := v0 :: vs') (F := F) wf ⟨v0, vs', F, [], rfl, by simp, rw', RepOs.pure_ rs⟩ hN
  refine h.run g h1 _ ?_
  cases f with
  | nx e1 =>
    obtain ⟨w2, h2, hf⟩ := bindS hf
    cases hf
    intro σ' S' H' F' s' g' f'
    obtain ⟨v, F1, q1, q2, q3, q4⟩ := slot0 g' h2
    have := (f'.2 0 rfl).symm.trans q1
    rw [start0] at this
    cases this
    exact k _ S' H' F1 (s'.less q4) q3 q2 rfl
  | rt r e1 =>
    obtain ⟨u', h3, hf⟩ := bindS hf
    obtain ⟨w2, h2, hf⟩ := bindS hf
    cases hf
    have := isP_eq h3
    subst this
    intro x σ' S' H' F' Fw s' g' wf' r' f'
    obtain ⟨v, F1, q1, q2, q3, q4⟩ := slot0 g' h2
    have := (f'.2 0 rfl).symm.trans q1
    rw [start0] at this
    cases this
    exact k _ S' H' F1 (s'.less fun a ha => by simp [q4 a ha]) q3 q2 r'.2
  | bk e1 => cases hf
theorem len_fnP {b : MS} {n nl : Nat} {vs : List V} {H : Hp} {Q : VK} {E : XK} (hs : spP κ (fnP n nl b) vs H Q E) : vs.length = n := by
  obtain ⟨S, us, u, e, rs, hf, k⟩ := hs
  unfold fnP at hf
  split at hf
  · rename_i hl
    rw [← rs.len, hl]
  · cases hf
theorem len_fnI {b : MS} {n nl : Nat} {vs : List V} {H : Hp} {Q : VK} {E : XK} (hs : spI κ (fnI n nl b) vs H Q E) : vs.length = n := by
  obtain ⟨S, F, w, us, v0, vs', u, w', rfl, wf, rw', rs, hf, k⟩ := hs
  unfold fnI at hf
  split at hf
  · rename_i hl
    rw [List.length_cons, ← rs.len, hl]
  · cases hf
/-! fields by their class -/
/-- self.f = e -/
def putN (f : Str) (w : Ow) : List Str → List Ow → List Str × List Ow
  | n :: ns, x :: ws => if n = f then (n :: ns, w :: ws) else let r := putN f w ns ws; (n :: r.1, x :: r.2)
  | _, _ => ([f], [w])
/-! slices -/
def mPart : Option (M U) → M (Option Int)
  | none => fun env => some (none, env)
  | some m => fun env => (m env).bind fun x => (isI x.1).bind fun i => some (some i, x.2)
def mSl (f : U → Option Int → Option Int → Option U) (m : M U) (lo hi : Option (M U)) : M U := fun env => (m env).bind fun x => (mPart lo x.2).bind fun l => (mPart hi l.2).bind fun h => (f x.1 l.1 h.1).bind fun z => some (z, h.2)
def rSl (κ : String → Addr) (f : U → Option Int → Option Int → Option U) : V → Option Int → Option Int → Hp → VK → Prop := fun x lo hi H Q => ∃ S a u, Same S H ∧ Rep κ S a x ∧ f a lo hi = some u ∧ ∀ v S' H', StpP κ S H S' H' → Rep κ S' u v → Q v H'
structure SimPt (κ : String → Addr) (γ : Gh) (ρ : Bool) (t : TO) (m : Option (M U)) : Prop where
  run : ∀ {σ : L2.St} {S H : Hp} {F : List Addr} {env : Env}, Gd κ γ σ S H F env → ∀ {o : Option Int} {env' : Env}, mPart m env = some (o, env') → ∀ Q : Option Int → Hp → Prop,
  (∀ S' H' F', StpQ κ ρ S H F env S' H' F' env' → Gd κ γ σ S' H' F' env' → Q o H') → t σ H Q
theorem simPt_none : SimPt κ γ ρ tNoPart none := by
  constructor
  intro σ S H F env g o env' e Q k
  cases e
  exact k S H F (StpQ.refl S H F env) g
theorem simPt_some {t : TE} {m : M U} (h : SimE κ γ ρ t m) : SimPt κ γ ρ (tPart t) (some m) := by
  constructor
  intro σ S H F env g o env' e Q k
  obtain ⟨⟨x, e1⟩, h1, e⟩ := bindS e
  obtain ⟨i, h2, e⟩ := bindS e
  cases e
  have := isI_eq h2
  dsimp only at this
  subst this
  refine h.run g h1 _ fun v S1 H1 F1 s1 g1 r => ⟨i, r, k S1 H1 F1 s1 g1⟩
theorem simE_sl {f : U → Option Int → Option Int → Option U} {t : TE} {m : M U} {tl th : TO} {ml mh : Option (M U)} (h : SimE κ γ ρ t m) (hl : SimPt κ γ ρ tl ml) (hh : SimPt κ γ ρ th mh) : SimE κ γ ρ (tSl (rSl κ f) t tl th) (mSl f m ml mh) := by
  constructor
  intro σ S H F env g u env' e Q k
  obtain ⟨⟨x, e1⟩, h1, e⟩ := bindS e
  obtain ⟨⟨l, e2⟩, h2, e⟩ := bindS e
  obtain ⟨⟨hi, e3⟩, h3, e⟩ := bindS e
  obtain ⟨z, h4, e⟩ := bindS e
  cases e
  refine h.run g h1 _ fun v S1 H1 F1 s1 g1 r => hl.run g1 h2 _ fun S2 H2 F2 s2 g2 => hh.run g2 h3 _ fun S3 H3 F3 s3 g3 => ?_
  exact ⟨S3, x, u, g3.wf.sub, Rep.mono (s2.sub.trans s3.sub) x r, h4, fun v' S' H' p r' => k v' S' H' F3 (((s1.trans s2).trans s3).trans p.stq) (g3.pure_ p) r'⟩
theorem cut_reps {S : Hp} {us : List U} {vs : List V} (r : Reps κ S us vs) (lo hi : Option Int) : Reps κ S (cutU us lo hi) (cutV vs lo hi) := by
  unfold cutU cutV
  rw [← r.len]
  exact (r.drop _).take _
end
end UL
set_option Elab.async false
set_option linter.all false
set_option maxRecDepth 100000
set_option maxHeartbeats 2000000
/-! several things at once; walks, further -/
namespace UL
open PySem PySem.Spec PyProof.Rows L2 LV
/-- arguments, some of them owned -/
structure SimAO (κ : String → Addr) (γ : Gh) (n : Nat) (t : TA) (m : M (List Ow)) : Prop where
  len : ∀ {env ws env'}, m env = some (ws, env') → ws.length = n
  run : ∀ {σ : L2.St} {S H : Hp} {F : List Addr} {env : Env}, Gd κ γ σ S H F env → ∀ {ws : List Ow} {env' : Env}, m env = some (ws, env') → ∀ Q : List V → Hp → Prop,
    (∀ vs S' H' F' Fw, Stp κ S H F S' H' (F' ++ Fw) → Gd κ γ σ S' H' F' env' → WF S' H' (F' ++ Fw) → RepOs κ S' H' ws vs Fw → Q vs H') → t σ H Q
def oNil : M (List Ow) := fun env => some ([], env)
def oCons (a : M Ow) (r : M (List Ow)) : M (List Ow) := fun env => (a env).bind fun x => (r x.2).bind fun y => some (x.1 :: y.1, y.2)
section
variable {κ : String → Addr} {γ : Gh} {ρ : Bool} {fx : Nat → Bool} {K : PySem.W.Frag}
def sParO (i j : Nat) (a : M (List Ow)) : MS := fun env => (a env).bind fun x => match x.1 with
  | [u, v] => some (.nx ((x.2.set i (some u)).set j (some v)))
  | _ => none
def sPar3O (i j l : Nat) (a : M (List Ow)) : MS := fun env => (a env).bind fun x => match x.1 with
  | [u, v, w] => some (.nx (((x.2.set i (some u)).set j (some v)).set l (some w)))
  | _ => none
/-- list(x) that is owned -/
def seq1 : List U → Option (List U)
  | [u] => seqU u
  | _ => none
theorem seq1_eq {x us : List U} (h : seq1 x = some us) : ∃ u, x = [u] ∧ (u = .lst us ∨ u = .tup us) := by
  cases x with
  | nil => cases h
  | cons u r =>
    cases r with
    | cons _ _ => cases h
    | nil =>
      refine ⟨u, rfl, ?_⟩
      cases u <;> first
        | (cases h; exact .inl rfl)
        | (cases h; exact .inr rfl)
        | cases h
def mListO (a : M (List U)) : M Ow := fun env => (a env).bind fun x => (seq1 x.1).bind fun us => some (.l (us.map .p), x.2)
/-- xs != [] -/
def mNeNilV (i : Nat) : M U := fun env => match env[i]? with
  | some (some (.l ws)) => some (.bl (!ws.isEmpty), env)
  | _ => none
/-- enumerate of a list or a tuple -/
def mEnumS (a : M (List U)) : M (List U) := fun env => (a env).bind fun x => (seq1 x.1).bind fun us => some (enumU us, x.2)
theorem none_spP {vs : List V} {H : Hp} {Q : VK} {E : XK} (h : spP κ (fun _ => none) vs H Q E) : False := by
  obtain ⟨_, _, _, _, _, h, _⟩ := h
  cases h
end
end UL
set_option Elab.async false
set_option linter.all false
set_option maxRecDepth 100000
set_option maxHeartbeats 2000000
/-! what is owned, lent for a look -/
namespace UL
open PySem PySem.Spec PyProof.Rows L2 LV
/-! no list, object or dict within -/
mutual
def tO : U → Bool
  | .lst _ => false
  | .obj _ _ _ => false
  | .dic _ _ => false
  | .atl _ _ => false
  | .tup us => tOs us
  | _ => true
def tOs : List U → Bool
  | [] => true
  | u :: us => tO u && tOs us
end
mutual
def tW : Ow → Bool
  | .p u => tO u
  | .l ws => tWs ws
  | .o _ _ ws => tWs ws
  | .d _ ws => tWs ws
def tWs : List Ow → Bool
  | [] => true
  | w :: ws => tW w && tWs ws
end
section
variable {κ : String → Addr} {γ : Gh} {ρ : Bool}
/-- a tuple or an Exact -/
def TX (κ : String → Addr) (o : HO) : Prop := XObj κ o ∨ ∃ vs, o = .tup vs
mutual
theorem Rep.less {S S' : Hp} (h : ∀ a o, S a = some o → TX κ o → S' a = some o) : ∀ (u : U) {v : V}, tO u = true → Rep κ S u v → Rep κ S' u v
  | .non, _, _, r => r
  | .bl _, _, _, r => r
  | .int _, _, _, r => r
  | .str _, _, _, r => r
  | .kt _, _, _, r => r
  | .q _, _, _, ⟨x, dx, h1, h2⟩ => ⟨x, dx, h1, h _ _ h2 (.inl (.inl ⟨_, _, rfl⟩))⟩
  | .tup us, _, t, ⟨a, vs, h1, h2, h3⟩ => ⟨a, vs, h1, h _ _ h2 (.inr ⟨_, rfl⟩), Reps.less h us t h3⟩
  | .lst _, _, t, _ => by cases t
  | .obj _ _ _, _, t, _ => by cases t
  | .dic _ _, _, t, _ => by cases t
  | .atl _ _, _, t, _ => by cases t
theorem Reps.less {S S' : Hp} (h : ∀ a o, S a = some o → TX κ o → S' a = some o) : ∀ (us : List U) {vs : List V}, tOs us = true → Reps κ S us vs → Reps κ S' us vs
  | [], _, _, r => r
  | u :: us, _, t, ⟨v, vs', h1, h2, h3⟩ => by
    rw [tOs, Bool.and_eq_true] at t
    exact ⟨v, vs', h1, Rep.less h u t.1 h2, Reps.less h us t.2 h3⟩
end
mutual
theorem RepO.less {S S' H : Hp} (h : ∀ a o, S a = some o → TX κ o → S' a = some o) : ∀ (w : Ow) {v : V} {F : List Addr}, tW w = true → RepO κ S H w v F → RepO κ S' H w v F
  | .p u, _, _, t, ⟨h1, h2⟩ => ⟨h1, Rep.less h u t h2⟩
  | .l ws, _, _, t, ⟨a, vs, F', h1, h2, h3, h4⟩ => ⟨a, vs, F', h1, h2, h3, RepOs.less h ws t h4⟩
  | .o _ _ ws, _, _, t, ⟨a, dx, vs, F', h1, h2, h3, h5, h6, h4⟩ => ⟨a, dx, vs, F', h1, h2, h3, h5, h6, RepOs.less h ws t h4⟩
  | .d _ ws, _, _, t, ⟨a, vs, F', h1, h2, h3, h5, h4⟩ => ⟨a, vs, F', h1, h2, h3, h5, RepOs.less h ws t h4⟩
theorem RepOs.less {S S' H : Hp} (h : ∀ a o, S a = some o → TX κ o → S' a = some o) : ∀ (ws : List Ow) {vs : List V} {F : List Addr}, tWs ws = true → RepOs κ S H ws vs F → RepOs κ S' H ws vs F
  | [], _, _, _, r => r
  | w :: ws, _, _, t, ⟨v, vs', F1, F2, h1, h2, h3, h4⟩ => by
    rw [tWs, Bool.and_eq_true] at t
    exact ⟨v, vs', F1, F2, h1, h2, RepO.less h w t.1 h3, RepOs.less h ws t.2 h4⟩
end
/-! owned places hold lists, dicts and objects -/
mutual
theorem RepO.foot2 {S H : Hp} : ∀ (w : Ow) {v : V} {F : List Addr}, RepO κ S H w v F → ∀ a ∈ F, ∃ o, H a = some o ∧ ¬ TX κ o
  | .p u, _, _, h => by
    obtain ⟨rfl, _⟩ := h
    exact fun a ha => by simp at ha
  | .l ws, _, _, h => by
    obtain ⟨a, vs, F', h1, h2, rfl, h4⟩ := h
    intro b hb
    rcases List.mem_cons.mp hb with rfl | hb
    · exact ⟨_, h2, fun z => by rcases z with (⟨_, _, z⟩ | ⟨_, _, z⟩) | ⟨_, z⟩ <;> cases z⟩
    · exact RepOs.foot2 ws h4 b hb
  | .o _ _ ws, _, _, h => by
    obtain ⟨a, dx, vs, F', h1, h2, h3, _, rfl, h4⟩ := h
    intro b hb
    rcases List.mem_cons.mp hb with rfl | hb
    · exact ⟨_, h2, fun z => by
        rcases z with (⟨_, _, z⟩ | ⟨_, _, z⟩) | ⟨_, z⟩
        · injection z with z
          exact h3 z
        · cases z
        · cases z⟩
    · exact RepOs.foot2 ws h4 b hb
  | .d _ ws, _, _, h => by
    obtain ⟨a, vs, F', h1, h2, _, rfl, h4⟩ := h
    intro b hb
    rcases List.mem_cons.mp hb with rfl | hb
    · exact ⟨_, h2, fun z => by rcases z with (⟨_, _, z⟩ | ⟨_, _, z⟩) | ⟨_, z⟩ <;> cases z⟩
    · exact RepOs.foot2 ws h4 b hb
theorem RepOs.foot2 {S H : Hp} : ∀ (ws : List Ow) {vs : List V} {F : List Addr}, RepOs κ S H ws vs F → ∀ a ∈ F, ∃ o, H a = some o ∧ ¬ TX κ o
  | [], _, _, h => by
    obtain ⟨_, rfl⟩ := h
    exact fun a ha => by simp at ha
  | w :: ws, _, _, h => by
    obtain ⟨v, vs', F1, F2, h1, rfl, h3, h4⟩ := h
    intro b hb
    rcases List.mem_append.mp hb with hb | hb
    · exact RepO.foot2 w h3 b hb
    · exact RepOs.foot2 ws h4 b hb
end
/-- the region with an owned thing within, for a look; and back -/
structure Lend (κ : String → Addr) (S H S0 : Hp) (G : List Addr) : Prop where
  sub : Same S S0
  in_ : Same S0 H
  new : ∀ b o, S0 b = some o → S b = some o ∨ b ∈ G
/-- behind a pure step in the lent region: a pure step in the first one -/
theorem Lend.back {S H S0 S' H' : Hp} {F G : List Addr} (l : Lend κ S H S0 G) (wf : WF S H F) (hG : ∀ a ∈ G, a ∈ F) (ft : ∀ a ∈ G, ∃ o, H a = some o ∧ ¬ TX κ o) (p : StpP κ S0 H S' H') :
    ∃ S2, StpP κ S H S2 H' ∧ ∀ a o, S' a = some o → TX κ o → S2 a = some o := by
  have hk : ∀ a ∈ G, ∀ o, S' a = some o → ¬ TX κ o := fun a ha o h => by
    obtain ⟨o', ho, nx⟩ := ft a ha
    have h2 := p.in_ a o h
    rw [p.keep a o' ho] at h2
    cases h2
    exact nx
  refine ⟨fun b => if b ∈ G then none else S' b, ⟨p.keep, fun b o h => ?_, fun b o h => ?_, fun b o h => ?_⟩, fun a o h t => ?_⟩
  · have : b ∉ G := fun z => by
      rw [wf.out b (hG b z)] at h
      cases h
    show (if b ∈ G then none else S' b) = _
    rw [if_neg this]
    exact p.sub b o (l.sub b o h)
  · by_cases hb : b ∈ G
    · rw [if_pos hb] at h
      cases h
    · rw [if_neg hb] at h
      exact p.in_ b o h
  · by_cases hb : b ∈ G
    · rw [if_pos hb] at h
      cases h
    · rw [if_neg hb] at h
      rcases p.new b o h with z | z | z
      · rcases l.new b o z with z | z
        · exact .inl z
        · exact (hb z).elim
      · exact .inr (.inl z)
      · exact .inr (.inr z)
  · show (if a ∈ G then none else S' a) = _
    rw [if_neg fun z => hk a z o h t]
    exact h
end
end UL
set_option Elab.async false
set_option linter.all false
set_option maxRecDepth 100000
set_option maxHeartbeats 2000000
/-! methods and calls that look at what is owned -/
namespace UL
open PySem PySem.Spec PyProof.Rows L2 LV
section
variable {κ : String → Addr} {γ : Gh} {ρ : Bool} {fx : Nat → Bool} {K : PySem.W.Frag} {E : XK}
/-- a pure method or def that tells a new list, quietly -/
def mNF (f : List U → Option Ow) (a : M (List U)) : M U := fun env => (a env).bind fun x => (f x.1).bind fun z => some (frz z, x.2)
end
end UL
set_option Elab.async false
set_option linter.all false
set_option maxRecDepth 100000
set_option maxHeartbeats 2000000
/-! places within what is owned -/
namespace UL
open PySem PySem.Spec PyProof.Rows L2 LV
abbrev PL := Env → Option (Nat × List Sg)
def plV (i : Nat) : PL := fun env => (atS env i).bind fun _ => some (i, [])
def isLs : Ow → Option (List Ow)
  | .l ws => some ws
  | _ => none
section
variable {κ : String → Addr} {γ : Gh} {ρ : Bool} {fx : Nat → Bool} {K : PySem.W.Frag} {E : XK}
structure SimW (κ : String → Addr) (γ : Gh) (t : TE) (pl : PL) : Prop where
  run : ∀ {σ : L2.St} {S H : Hp} {F : List Addr} {env : Env}, Gd κ γ σ S H F env → ∀ {x : Nat × List Sg}, pl env = some x → ∀ Q : VK,
    (∀ v S' H' w, StpP κ S H S' H' → Gd κ γ σ S' H' F env → getE env x.1 x.2 = some w → Loc κ γ σ S' H' F env x.1 x.2 w v → Q v H') → t σ H Q
theorem StpQ.quiet {σ : L2.St} {S H S' H' : Hp} {F F' : List Addr} {env env' : Env} (s : StpQ κ true S H F env S' H' F' env') (g : Gd κ γ σ S' H' F' env') : StpP κ S H S' H' ∧ F' = F ∧ env' = env := by
  obtain ⟨k, rfl, rfl⟩ := s.qt rfl
  refine ⟨⟨k, s.sub, g.wf.sub, fun b o h => ?_⟩, rfl, rfl⟩
  rcases s.stp.new b o h with z | z | z | z
  · exact .inl z
  · exact .inr (.inl z)
  · exact .inr (.inr z)
  · rw [g.wf.out b z] at h
    cases h
/-! looks at a place -/
def mRd (pl : PL) : M U := fun env => (pl env).bind fun x => (getE env x.1 x.2).bind fun w => (isP w).bind fun u => some (u, env)
/-- an operator with an owned thing on the left -/
def mOpA (f : U → U → Option U) (pl : PL) (b : M U) : M U := fun env => (pl env).bind fun y => (getE env y.1 y.2).bind fun w => (b env).bind fun x => (f (frz w) x.1).bind fun z => if tO z = true then some (z, x.2) else none
end
end UL
set_option Elab.async false
set_option linter.all false
set_option maxRecDepth 100000
set_option maxHeartbeats 2000000
/-! changes at places -/
namespace UL
open PySem PySem.Spec PyProof.Rows L2 LV
def mAppP (pl : PL) (a : M U) : M U := fun env => (pl env).bind fun x => (getE env x.1 x.2).bind fun w => (isLs w).bind fun ws => (a env).bind fun y => if ws.length < sizeLine then some (.non, putE env x.1 x.2 (.l (ws ++ [.p y.1]))) else none
/-- a def whose first argument is what stands at a place -/
def mCallP (pl : PL) (f : Ow → List U → Option (U × Ow)) (a : M (List U)) : M U := fun env => (pl env).bind fun x => (getE env x.1 x.2).bind fun w => (a env).bind fun y => (f w y.1).bind fun z => some (z.1, putE env x.1 x.2 z.2)
section
variable {κ : String → Addr} {γ : Gh} {ρ : Bool} {fx : Nat → Bool} {K : PySem.W.Frag} {E : XK} {σ : L2.St} {S H : Hp} {F : List Addr} {env : Env}
/-- what is exchanged at a place for what has a foot of its own -/
theorem Loc.put (g : Gd κ γ σ S H F env) {i : Nat} {p : List Sg} {w w' : Ow} {v : V} {S' H' : Hp} {G : List Addr} (h : ∃ F1 F2 F3, F = F1 ++ F2 ++ F3 ∧ RepO κ S H w v F2 ∧ (∀ {S' H' : Hp} {w' : Ow} {F2' : List Addr}, Same S S' → (∀ a, a ∈ F1 ∨ a ∈ F3 → H' a = H a) → RepO κ S' H' w' v F2' → EnvOk κ γ S' H' σ (putE env i p w') (F1 ++ F2' ++ F3)) ∧ Stp κ S H F2 S' H' G)
    (wf : WF S' H' G) (r : RepO κ S' H' w' v G) : ∃ F3, Gd κ γ σ S' H' F3 (putE env i p w') ∧ Stp κ S H F S' H' F3 := by
  obtain ⟨F1, F2, F3, rfl, r0, sg, s⟩ := h
  obtain ⟨nd1, nd2⟩ := nodup_mid g.wf.nd
  have ap : ∀ a, a ∈ F1 ∨ a ∈ F3 → H' a = H a ∧ a ∉ G ∧ S' a = none := fun a ha => by
    have hm : a ∈ F1 ++ F2 ++ F3 := by rcases ha with ha | ha <;> simp [ha]
    obtain ⟨o, ho, nx⟩ := g.env.foot a hm
    have na : a ∉ F2 := fun z => by
      obtain ⟨q1, q2⟩ := nd2 a z
      rcases ha with ha | ha
      · exact q1 ha
      · exact q2 ha
    obtain ⟨q1, q2, q3⟩ := s.apart wf.sub ho na (g.wf.out a hm) nx
    exact ⟨q1.trans ho.symm, q2, q3⟩
  have q := sg (S' := S') (H' := H') (w' := w') (F2' := G) s.sub (fun a ha => (ap a ha).1) r
  refine ⟨F1 ++ G ++ F3, ⟨⟨wf.sub, ?_, fun a ha => ?_⟩, q⟩, ⟨fun b o hb hh => s.keep b o (fun z => hb (by simp [z])) hh, s.trk, s.sub, fun b o hh => ?_, fun a ha => ?_⟩⟩
  · obtain ⟨n1, n2, n3⟩ := List.nodup_append.mp nd1
    rw [List.append_assoc]
    refine List.nodup_append.mpr ⟨n1, List.nodup_append.mpr ⟨wf.nd, n2, fun a ha b hb z => ?_⟩, fun a ha b hb z => ?_⟩
    · subst z
      exact (ap a (.inr hb)).2.1 ha
    · subst z
      rcases List.mem_append.mp hb with hb | hb
      · exact (ap a (.inl ha)).2.1 hb
      · exact n3 a ha a hb rfl
  · simp only [List.mem_append] at ha
    rcases ha with (ha | ha) | ha
    · exact (ap a (.inl ha)).2.2
    · exact wf.out a ha
    · exact (ap a (.inr ha)).2.2
  · rcases s.new b o hh with z | z | z | z
    · exact .inl z
    · exact .inr (.inl z)
    · exact .inr (.inr (.inl z))
    · exact .inr (.inr (.inr (by simp [z])))
  · simp only [List.mem_append] at ha
    rcases ha with (ha | ha) | ha
    · exact .inl (by simp [ha])
    · rcases s.foot a ha with z | z
      · exact .inl (by simp [z])
      · exact .inr z
    · exact .inl (by simp [ha])
end
end UL
set_option Elab.async false
set_option linter.all false
set_option maxRecDepth 100000
set_option maxHeartbeats 2000000
/-! comprehensions whose items are owned -/
namespace UL
open PySem PySem.Spec PyProof.Rows L2 LV
section
variable {κ : String → Addr} {γ : Gh} {ρ : Bool} {fx : Nat → Bool} {K : PySem.W.Frag}
end
end UL
set_option Elab.async false
set_option linter.all false
set_option maxRecDepth 100000
set_option maxHeartbeats 2000000
/-! comprehensions of two clauses -/
namespace UL
open PySem PySem.Spec PyProof.Rows L2 LV
section
variable {κ : String → Addr} {γ : Gh} {ρ : Bool} {fx : Nat → Bool} {K : PySem.W.Frag}
end
section
variable {κ : String → Addr} {γ : Gh} {ρ : Bool} {fx : Nat → Bool} {K : PySem.W.Frag}
end
end UL
set_option Elab.async false
set_option linter.all false
set_option maxRecDepth 100000
set_option maxHeartbeats 2000000
/-! further operations -/
namespace UL
open PySem PySem.Spec PyProof.Rows L2 LV
/-- one sign in a text -/
def inS (x y : U) : Option U := match x, y with
  | .str a, .str b => match a.cps.toList with
    | [c] => some (.bl (decide (c ∈ b.cps.toList)))
    | _ => none
  | _, _ => none
def sgnU (c : Nat) : U := .str ⟨#[c]⟩
def mStr (a : M U) : M (List U) := fun env => (a env).bind fun x => match x.1 with
  | .str z => some (z.cps.toList.map sgnU, x.2)
  | _ => none
section
variable {κ : String → Addr} {γ : Gh} {ρ : Bool} {fx : Nat → Bool} {K : PySem.W.Frag} {E : XK}
theorem itOk_str {z : Str} {S A : Hp} : ItOk κ (Its z) S A (z.cps.toList.map sgnU) := by
  have wk := walk_str (z := z)
  have hl : (z.cps.toList.map sgnU).length = z.cps.size := by simp
  refine ⟨fun i H hi q => wk.goes i H (by rw [hl] at hi; exact hi) trivial, fun H q => by rw [hl]; exact wk.stops H trivial, fun i H x H' S1 u hu e0 e1 e2 y => ?_⟩
  have hi : i < z.cps.size := by
    rw [← hl]
    exact (List.getElem?_eq_some_iff.mp hu).1
  obtain ⟨rfl, c, hc, rfl⟩ := wk.yields i H x H' hi trivial y
  refine ⟨S1, StpP.refl e2, ?_⟩
  have : u = sgnU c := by
    rw [List.getElem?_map] at hu
    obtain ⟨d, hd, rfl⟩ := Option.map_eq_some_iff.mp hu
    rw [Array.getElem?_toList, hc] at hd
    cases hd
    rfl
  subst this
  rfl
theorem simI_str {t : TE} {m : M U} (h : SimE κ γ ρ t m) : SimI κ γ ρ (iStr t) (mStr m) := by
  constructor
  intro σ S H F env gd items env' e R k
  obtain ⟨⟨x, e1⟩, h1, e⟩ := bindS e
  dsimp only at e
  split at e
  · rename_i z
    cases e
    refine h.run gd h1 _ fun v S1 H1 F1 s1 g1 r => ?_
    exact ⟨z, r, k _ S1 H1 F1 s1 g1 itOk_str⟩
  · cases e
end
end UL
set_option Elab.async false
set_option linter.all false
set_option maxRecDepth 100000
set_option maxHeartbeats 2000000
/-! new objects with defaults -/
namespace UL
open PySem PySem.Spec PyProof.Rows L2 LV
section
variable {κ : String → Addr} {γ : Gh} {ρ : Bool} {fx : Nat → Bool} {K : PySem.W.Frag} {E : XK}
end
end UL
set_option Elab.async false
set_option linter.all false
set_option maxRecDepth 100000
set_option maxHeartbeats 2000000
/-! xs.remove(x), xs owned -/
namespace UL
open PySem PySem.Spec PyProof.Rows L2 LV
/-- != within a depth -/
def neN (n : Nat) (a b : U) : Option U := match a, b with
  | .lst us, .lst ws => (eqN n (.lst us) (.lst ws)).bind fun x => some (.bl (!x))
  | .tup us, .tup ws => (eqN n (.tup us) (.tup ws)).bind fun x => some (.bl (!x))
  | a, b => neU a b
section
variable {κ : String → Addr} {γ : Gh}
end
end UL
set_option Elab.async false
set_option linter.all false
set_option maxRecDepth 100000
set_option maxHeartbeats 2000000
/-! a name for a row of what is owned, while the row changes in place -/
namespace UL
open PySem PySem.Spec PyProof.Rows L2 LV
mutual
def cnt : Ow → Nat
  | .p _ => 0
  | .l ws => cnts ws + 1
  | .o _ _ ws => cnts ws + 1
  | .d _ ws => cnts ws + 1
def cnts : List Ow → Nat
  | [] => 0
  | w :: ws => cnt w + cnts ws
end
def nav2 (H : Hp) (v0 : V) (f : Str) (n : Nat) (va : V) : Prop := ∃ a C dx fs b vs, v0 = .ref a ∧ H a = some (.ins C dx fs) ∧ fs.lookup f = some (.ref b) ∧ H b = some (.lst vs) ∧ vs[n]? = some va
theorem nav2.eq {H : Hp} {v0 : V} {f : Str} {n : Nat} {x y : V} (h : nav2 H v0 f n x) (h' : nav2 H v0 f n y) : x = y := by
  obtain ⟨a, C, dx, fs, b, vs, rfl, h1, h2, h3, h4⟩ := h
  obtain ⟨a', C', dx', fs', b', vs', e, g1, g2, g3, g4⟩ := h'
  cases e
  rw [h1] at g1
  cases g1
  rw [h2] at g2
  cases g2
  rw [h3] at g3
  cases g3
  rw [h4] at g4
  cases g4
  rfl
theorem nav2.mono {H H' : Hp} {v0 : V} {f : Str} {n : Nat} {x : V} (h : nav2 H v0 f n x) (e : Same H H') : nav2 H' v0 f n x := by
  obtain ⟨a, C, dx, fs, b, vs, h0, h1, h2, h3, h4⟩ := h
  exact ⟨a, C, dx, fs, b, vs, h0, e _ _ h1, h2, e _ _ h3, h4⟩
section
variable {κ : String → Addr} {γ : Gh} {ρ : Bool} {fx : Nat → Bool} {K : PySem.W.Frag} {E : XK} {σ : L2.St} {S H : Hp} {F : List Addr} {env : Env}
mutual
theorem RepO.cnt : ∀ (w : Ow) {v : V} {F : List Addr}, RepO κ S H w v F → F.length = UL.cnt w
  | .p u, _, _, h => by
    obtain ⟨rfl, _⟩ := h
    rfl
  | .l ws, _, _, h => by
    obtain ⟨a, vs, F', h1, h2, rfl, h4⟩ := h
    simp [UL.cnt, RepOs.cnt ws h4]
  | .o _ _ ws, _, _, h => by
    obtain ⟨a, dx, vs, F', h1, h2, h3, _, rfl, h4⟩ := h
    simp [UL.cnt, RepOs.cnt ws h4]
  | .d _ ws, _, _, h => by
    obtain ⟨a, vs, F', h1, h2, _, rfl, h4⟩ := h
    simp [UL.cnt, RepOs.cnt ws h4]
theorem RepOs.cnt : ∀ (ws : List Ow) {vs : List V} {F : List Addr}, RepOs κ S H ws vs F → F.length = cnts ws
  | [], _, _, h => by
    obtain ⟨_, rfl⟩ := h
    rfl
  | w :: ws, _, _, h => by
    obtain ⟨v, vs', F1, F2, h1, rfl, h3, h4⟩ := h
    simp [cnts, RepO.cnt w h3, RepOs.cnt ws h4]
end
/-! the row named by slot j -/
def AL (f : Str) (n j : Nat) (σ : L2.St) (H : Hp) : Prop := ∃ v0 va, σ[0]? = some (some v0) ∧ σ[j]? = some (some va) ∧ nav2 H v0 f n va
theorem AL.mono {f : Str} {n j : Nat} {σ : L2.St} {H H' : Hp} (h : AL f n j σ H) (e : Same H H') : AL f n j σ H' := by
  obtain ⟨v0, va, h1, h2, h3⟩ := h
  exact ⟨v0, va, h1, h2, h3.mono e⟩
theorem AL.set {f : Str} {n j i : Nat} {σ : L2.St} {H : Hp} {v : Option V} (h : AL f n j σ H) (h0 : i ≠ 0) (hj : i ≠ j) : AL f n j (σ.set i v) H := by
  obtain ⟨v0, va, h1, h2, h3⟩ := h
  exact ⟨v0, va, by rw [List.getElem?_set_ne h0]; exact h1, by rw [List.getElem?_set_ne hj]; exact h2, h3⟩
structure SimEA (κ : String → Addr) (γ : Gh) (f : Str) (n j : Nat) (t : TE) (m : M U) : Prop where
  run : ∀ {σ : L2.St} {S H : Hp} {F : List Addr} {env : Env}, Gd κ γ σ S H F env → AL f n j σ H → ∀ {u : U} {env' : Env}, m env = some (u, env') → ∀ Q : VK,
  (∀ v S' H', StpP κ S H S' H' → Gd κ γ σ S' H' F env → env' = env → Rep κ S' u v → Q v H') → t σ H Q
structure SimAA (κ : String → Addr) (γ : Gh) (f : Str) (n j : Nat) (t : TA) (m : M (List U)) : Prop where
  run : ∀ {σ : L2.St} {S H : Hp} {F : List Addr} {env : Env}, Gd κ γ σ S H F env → AL f n j σ H → ∀ {us : List U} {env' : Env}, m env = some (us, env') → ∀ Q : List V → Hp → Prop,
    (∀ vs S' H', StpP κ S H S' H' → Gd κ γ σ S' H' F env → env' = env → Reps κ S' us vs → Q vs H') → t σ H Q
structure SimSA (κ : String → Addr) (γ : Gh) (f : Str) (n j : Nat) (t : TS) (m : MS) : Prop where
  only : ∀ {env fl}, m env = some fl → ∃ e, fl = .nx e
  run : ∀ {σ : L2.St} {S H : Hp} {F : List Addr} {env : Env}, Gd κ γ σ S H F env → AL f n j σ H → ∀ {env' : Env}, m env = some (.nx env') → ∀ D : Ends,
    (∀ σ' S' H' F', Stp κ S H F S' H' F' → Gd κ γ σ' S' H' F' env' → AL f n j σ' H' → Fix fx1 σ σ' → D.nx σ' H') → t D σ H
variable {f : Str} {n j : Nat}
/-! statements -/
/-! a def that keeps the foot -/
structure SimSF (κ : String → Addr) (γ : Gh) (t : TS) (m : MS) : Prop where
  only : ∀ {env fl}, m env = some fl → ∃ e, fl = .nx e
  run : ∀ {σ : L2.St} {S H : Hp} {F : List Addr} {env : Env}, Gd κ γ σ S H F env → ∀ {env' : Env}, m env = some (.nx env') → ∀ D : Ends,
    (∀ S' H', Stp κ S H F S' H' F → Gd κ γ σ S' H' F env' → D.nx σ H') → t D σ H
end
end UL
set_option Elab.async false
set_option linter.all false
set_option maxRecDepth 100000
set_option maxHeartbeats 2000000
/-! x, y = e, e' by a tuple that is made and taken apart -/
namespace UL
open PySem PySem.Spec PyProof.Rows L2 LV
section
variable {κ : String → Addr} {γ : Gh} {fx : Nat → Bool} {K : PySem.W.Frag}
end
end UL
set_option Elab.async false
set_option linter.all false
set_option maxRecDepth 100000
set_option maxHeartbeats 2000000
/-! a call of a def that only looks at an owned thing -/
namespace UL
open PySem PySem.Spec PyProof.Rows L2 LV
section
variable {κ : String → Addr} {γ : Gh} {ρ : Bool} {E : XK}
end
end UL
set_option Elab.async false
set_option linter.all false
set_option maxRecDepth 100000
set_option maxHeartbeats 2000000
namespace UL
open PySem L2
/-- == where both may be empty dicts -/
def eqUd (n : Nat) (a b : U) : Option U := match a, b with
  | .dic [] [], .dic [] [] => some (.bl true)
  | a, b => eqU n a b
end UL
namespace UL
open PySem L2
def fldQ (f : Str) : U → Option U
  | .q r => if f = "over" then some (.int r.num) else if f = "under" then some (.int r.den) else none
  | _ => none
end UL
set_option Elab.async false
set_option linter.all false
set_option maxRecDepth 100000
set_option maxHeartbeats 2000000
/-! an own error over an own error over ValueError: __init__ says super().__init__(x), then self.f = x (the block of skel/42 turned to this) -/
namespace PySem
namespace LevX
open PySem.W PySem.Calls PyProof.Rows PySem.HandSPX
def iA (f : Str) (p1 p2 : Pos) : Arguments := { posonlyargs := [], args := [{ arg := "self", annotation := none, pos := p1 }, { arg := f, annotation := none, pos := p2 }], vararg := none, kwonlyargs := [], kw_defaults := [], kwarg := none, defaults := [] }
def iB (f : Str) (a1 a2 a3 a4 a5 a6 q1 q2 q3 q4 : Pos) : List Stmt :=
  [.Expr (.Call (.Attribute (.Call (.Name "super" a1) [] [] a2) "__init__" a3) [.Name f a4] [] a5) a6, .Assign [.Attribute (.Name "self" q1) f q2] (.Name f q3) q4]
def iS (f : Str) : Scope := { kind := .function, names := [(PySem.Str.ofString "self", .local), (f, .local), (PySem.Str.ofString "__class__", .free), (PySem.Str.ofString "super", .globalImplicit)], isGenerator := false, isCoroutine := false, more := [] }
/-- a name of a field that is none of the others -/
structure FName (f : Str) : Prop where
  s : ("self" : Str) ≠ f
  c : ("__class__" : Str) ≠ f
  u : ("super" : Str) ≠ f
  d : (f == ("__debug__" : Str)) = false
  b : ∀ (q : Str) (p1 p2 : Pos) (body : List Stmt) (doc pm : Value) (an : Option Addr) (cdv ct : Value) (cc : Addr) (x v : Value),
    bindArgs (ksFn "__init__" q (iA f p1 p2) body (iS f) .none .none doc pm an cdv ct cc) ⟨[x, v], []⟩ = pure [(("self" : Str), x), (f, v)]
theorem fLine : FName "line" := ⟨by decide, by decide, by decide, by decide, fun _ _ _ _ _ _ _ _ _ _ _ _ => by first | rfl | with_unfolding_all rfl⟩
/-- what the written part says of the class at C and of its __init__ at fI -/
structure LevTxt (prog : Program) (K : Frag) (mg : Str → Option Value) (cn f q : Str) (C fI : Addr) : Prop where
  gC : mg cn = some (.ref C)
  cls : ∃ nm qn N bs bm sn sub ab col dd k0 k1 k2 k3 k5, K.lookup C = some (excClassObj nm qn C N bs bm true sn sub ab col dd k0 k1 k2 k3 k5 "ValueError.__new__") ∧ refsVE bm = true
  sa : findIn K (.ref C) "__setattr__" = some (some (.builtin "object.__setattr__"))
  ga : findIn K (.ref C) "__getattribute__" = some (some (.builtin "BaseException.__getattribute__"))
  gg : findIn K (.ref C) "__getattr__" = some none
  noN : findIn K (.ref C) f = some none
  iC : findIn K (.ref C) "__init__" = some (some (.ref fI))
  tC : typeIn K (.ref fI) = some (.type "function")
  kC : keepIn K (.ref C) = true
  exC : subIn K (.ref C) (.type "BaseException") = some true
  veC : subIn K (.ref C) (.type "ValueError") = some true
  tyC : typeIn K (.ref C) = some (.type "type")
  hdC : hasDictIn K C = true
  su : ks_superIn K C C "__init__" = some (some (.builtin "ValueError.__init__"))
  op : nsIn K cStatics "thirdparty.any" = some none
  mr : mroIn K C (.ref C) = some true
  sup : mg "super" = none
  top : (prog.main.scope.names.lookup ("super" : Str)).isSome = false
  fn : ∃ (oc : Value) (od : Option Addr) (doc pm : Value) (an : Option Addr) (cda cc : Addr) (ct : Value) (osl : Array (Option Value)) (p1 p2 a1 a2 a3 a4 a5 a6 q1 q2 q3 q4 : Pos),
    K.lookup fI = some ⟨oc, od, .func (ksFn "__init__" q (iA f p1 p2) (iB f a1 a2 a3 a4 a5 a6 q1 q2 q3 q4) (iS f) .none .none doc pm an (.ref cda) ct cc), osl⟩ ∧ codeIn K (.ref cda) q = true ∧
    (∃ (vs : Array Value) (file : Str) (tf : Tok) (ccl : Value) (cdd : Option Addr) (ccs : Array (Option Value)), K.lookup cda = some ⟨ccl, cdd, .fields vs, ccs⟩ ∧ vs[2]? = some (.str file tf) ∧ ((prog.main.file : Str) == file) = true) ∧
    a3.endLine = a5.line ∧ ∃ (cl : Value) (cld : Option Addr) (csl : Array (Option Value)), K.lookup cc = some ⟨cl, cld, .cell (some (.ref C)), csl⟩
end LevX
end PySem
set_option Elab.async false
set_option linter.all false
set_option maxRecDepth 100000
set_option maxHeartbeats 2000000
/-! the error's __init__ walked -/
namespace PySem
namespace LevX
open PySem.W PySem.Calls PyProof.Rows PySem.HandSPX
section
variable {prog : Program} {w : World} {A : Around} {E : Value → Shared → Prop} {h : Heap} {g : Array GenState} {d : Drawn} {t : Nat} {os : OsState}
variable {nm q : Str} {C N : Addr} {bs bm : List Value} {hdct : Bool} {sn : List Str} {sub : List Value} {ab : Bool} {col : Option Bool} {dd : Option Addr} {k0 k1 k2 k3 k5 : Option Value}
/-- ValueError.__init__ bound to a fresh error, called -/
theorem call_vw {u e t0 : Addr} {rest : List Value} {Q : Value → Shared → Prop} (hC : h.get? C = some (excClassObj nm q C N bs bm hdct sn sub ab col dd k0 k1 k2 k3 k5 "ValueError.__new__")) (he : h.get? e = some (excO C t0))
    (hu : h.get? u = some (kxs_mw "ValueError.__init__" e)) (hz : rest.length ≤ sizeLine)
    (hq : ∀ h' t1, (∀ b o, b ≠ e → h.get? b = some o → h'.get? b = some o) → h'.get? e = some (excO C t1) → Q .none ⟨h', g, d, t, os⟩) : wpAny (model prog w) A (call (.ref u) rest) Q E ⟨h, g, d, t, os⟩ := by
  have FB := F.excBase_ValueError
  refine wpAny_call (codeAny_of_tree (show wpAny _ A.in1 (callAny (.ref u) ⟨rest, []⟩) _ _ _ from ?_))
  simp only [callAny]
  refine (wpAny_bind (wpAny_load hu ?_))
  simp only [kxs_mw, show (Value.type "method-wrapper" == Value.type "method" || Value.type "method-wrapper" == Value.type "builtin_function_or_method" || Value.type "method-wrapper" == Value.type "method-wrapper") = true by decide, if_true, id]
  refine (KFB.if_so (by decide) ?_)
  refine (wpAny_bind (check_bound_init FB.toExcCallFacts hC he rfl ?_))
  refine (wpAny_bind (wpAny_pure (wpAny_pure ?_)))
  refine ⟨plainId_quiet FB.init.plain _, codeAny_builtin FB.initEntry ?_⟩
  exact exc_init_tree (cls := .ref C) (t0 := t0) (dv := none) (c2 := .none) (c3 := .none) (b4 := .bool false) he hz fun h' k e' _ => hq h' _ k e'
end
/-- what __init__ leaves of a fresh error at x -/
structure InitEnd (f : Str) (h h' : Heap) (x C dx : Addr) (v : Value) : Prop where
  keep : ∀ b o, b ≠ x → h.get? b = some o → h'.get? b = some o
  obj : ∃ t1, h'.get? x = some { cls := .ref C, dict := some dx, data := .fields #[.ref t1, .none, .none, .none, .bool false, .none] }
  dbig : h.objs.size ≤ dx
  dne : dx ≠ x
  ns : h'.Ns1 dx (fun y => if y = f then some v else none)
section
variable {prog : Program} {w : World} {A : Around} {R : Result → Shared → Prop} {s : Shared} {K : Frag} {mg : Str → Option Value} {cn f q : Str} {C fI : Addr} {base : Heap}
theorem lev_init (T : LevTxt prog K mg cn f q C fI) (NF : FName f) (MO : L2.Mod K mg base) (BK : ∀ b o, base.get? b = some o → s.heap.get? b = some o) {x t0 : Addr} {v : Value} (hx : s.heap.get? x = some (excO C t0)) (hnx : base.get? x = none) (hroom : A.depth < recursionLimit)
    (hq : ∀ h' tk dx, InitEnd f s.heap h' x C dx v → R (.ok (.ret .none)) { s with heap := h', toks := tk }) :
    codeAny (model prog w) A (.call (.ref fI) ⟨[.ref x, v], []⟩) R s := by
  obtain ⟨oc, od, doc, pm, an, cda, cc, ct, osl, p1, p2, a1, a2, a3, a4, a5, a6, q1, q2, q3, q4, ho, hcd, ⟨vs, file, tf, ccl, cdd, ccs, hcode, hvs, hfile⟩, hln, cl, cld, csl, hcell⟩ := T.fn
  obtain ⟨nm, qn, N, bs, bm, sn, sub, ab, col, dd, k0, k1, k2, k3, k5, hC, hbm⟩ := T.cls
  have hcl : clsIn K C = some { name := nm, bases := bs, mro := .ref C :: bm, ns := N, qualname := qn, hasDict := true, slotNames := sn, subclasses := sub, abstract := ab, collection := col, hasDel := false } := by
    unfold clsIn
    rw [hC] <;> rfl
  have X : K.In s.heap := fun a o e => BK _ _ (MO.kin a o e)
  have ne1 : (f == ("self" : Str)) = false := by simpa using Ne.symm NF.s
  have lkf : (iS f).names.lookup f = some .local := by
    show List.lookup f [(PySem.Str.ofString "self", NameKind.local), (f, .local), (PySem.Str.ofString "__class__", .free), (PySem.Str.ofString "super", .globalImplicit)] = _
    simp [List.lookup, ne1]
  have lks : (iS f).names.lookup ("self" : Str) = some .local := by
    show List.lookup _ ((PySem.Str.ofString "self", NameKind.local) :: _) = _
    simp [List.lookup]
  have lkc : (iS f).names.lookup ("__class__" : Str) = some .free := by
    have e1 : (("__class__" : Str) == ("self" : Str)) = false := by decide
    have e2 : (("__class__" : Str) == f) = false := by simpa using NF.c
    show List.lookup _ [(PySem.Str.ofString "self", NameKind.local), (f, .local), (PySem.Str.ofString "__class__", .free), (PySem.Str.ofString "super", .globalImplicit)] = _
    simp [List.lookup, e1, e2]
  have lku : (iS f).names.lookup ("super" : Str) = some .globalImplicit := by
    have e1 : (("super" : Str) == ("self" : Str)) = false := by decide
    have e2 : (("super" : Str) == f) = false := by simpa using NF.u
    have e3 : (("super" : Str) == ("__class__" : Str)) = false := by decide
    show List.lookup _ [(PySem.Str.ofString "self", NameKind.local), (f, .local), (PySem.Str.ofString "__class__", .free), (PySem.Str.ofString "super", .globalImplicit)] = _
    simp [List.lookup, e1, e2, e3]
  refine ks_codeAny_call_defAt (binds := [("self", .ref x), (f, v)]) hroom (X _ _ ho) rfl (MO.nolimit.keeps BK) (codeRec_of X hcd) rfl (BindsTo.of_eq (NF.b _ _ _ _ _ _ _ _ _ _ _ _)) ?_ ?_ (fun h₁ hn k => ?_) rfl rfl rfl
  · intro y hy
    have hy' : y ∈ [(PySem.Str.ofString "self", NameKind.local), (f, .local), (PySem.Str.ofString "__class__", .free), (PySem.Str.ofString "super", .globalImplicit)] := hy
    simp only [List.mem_cons, List.not_mem_nil, or_false] at hy'
    rcases hy' with rfl | rfl | rfl | rfl <;> simp
  · intro y hy
    simp only [List.mem_cons, List.not_mem_nil, or_false] at hy
    rcases hy with rfl | rfl
    · exact lks
    · exact lkf
  · have K1 : K.In h₁ := fun a o e => k _ _ (X a o e)
    have hx1 := k _ _ hx
    have xC : x ≠ C := fun z => by
      have e1 := MO.kin _ _ hC
      rw [← z, hnx] at e1
      cases e1
    have xL : s.heap.objs.size ≠ x := Nat.ne_of_gt (Heap.lt_size hx)
    have hnS : (fun y => List.lookup y [(f, v), (("self" : Str), Value.ref x)]) ("self" : Str) = some (.ref x) := by
      have e2 : (("self" : Str) == f) = false := by simpa using NF.s
      simp [List.lookup, e2]
    have hnF : (fun y => List.lookup y [(f, v), (("self" : Str), Value.ref x)]) f = some v := by simp [List.lookup]
    obtain ⟨mb, hb1, hb2⟩ := MO.blt
    have bk1 : ∀ b o, base.get? b = some o → h₁.get? b = some o := fun b o e => k _ _ (BK b o e)
    generalize hE : callEnv (ksFn "__init__" q (iA f p1 p2) (iB f a1 a2 a3 a4 a5 a6 q1 q2 q3 q4) (iS f) .none .none doc pm an (.ref cda) ct cc) s.heap.objs.size fI = env at *
    have hmc : eval (.Call (.Attribute (.Call (.Name "super" a1) [] [] a2) "__init__" a3) [.Name f a4] [] a5) env = (do
        let ov ← attributeBase (.Call (.Name "super" a1) [] [] a2) "__init__" env (eval (.Call (.Name "super" a1) [] [] a2) env)
        standAt a3.atName
        let (g, first) ← holding [ov] (getMethod ov "__init__" (do return (← importBound (.Call (.Name "super" a1) [] [] a2) env).getD true))
        callWith a5 g first (backTo a5 (starEach [.Name f a4] env)) []) := by
      have e0 : (a3.endLine == a5.line) = true := by simp [hln]
      show (do
        let ov ← attributeBase (.Call (.Name "super" a1) [] [] a2) "__init__" env (eval (.Call (.Name "super" a1) [] [] a2) env)
        standAt a3.atName
        methodCall (.Call (.Name "super" a1) [] [] a2) "__init__" a3 a5 env ov 1 (backTo a5 (starEach [.Name f a4] env)) []) = _
      unfold methodCall methodCallPos calleeOf
      simp only [e0, Bool.or_true, if_true]
      rfl
    have hint : interactive env = false := by
      rw [← hE]
      rfl
    have eks : env.kindOf ("super" : Str) = some .globalImplicit := by
      rw [← hE]
      exact lku
    have ekc : env.kindOf ("__class__" : Str) = some .free := by
      rw [← hE]
      exact lkc
    have ekl : env.kindOf ("self" : Str) = some .local := by
      rw [← hE]
      exact lks
    have ekf : env.kindOf f = some .local := by
      rw [← hE]
      exact lkf
    have ekd : env.scope.kind = .function := by
      rw [← hE]
      rfl
    have eL : env.locals = s.heap.objs.size := by
      rw [← hE]
      rfl
    have efu : env.func = some fI := by
      rw [← hE]
      rfl
    have eco : env.code = .ref cda := by
      rw [← hE]
      rfl
    have egl : env.globals = mainGlobals := by
      rw [← hE]
      rfl
    have ebl : env.builtins = builtinsNs := by
      rw [← hE]
      rfl
    have ecl : env.cells.lookup ("__class__" : Str) = some cc := by
      rw [← hE]
      rfl
    have hn' : h₁.Ns env.locals (fun y => List.lookup y [(f, v), (("self" : Str), Value.ref x)]) := by
      rw [eL]
      exact hn
    have IX : InstAt h₁ x (excO C t0) C none := ⟨hx1, rfl, rfl, trivial⟩
    obtain ⟨hp0, g0, d0, tk0, os0⟩ := s
    refine ks_wpAt_execs_cons (ks_wpAt_Expr_any (ks_wpAt_MethodCall ?_ hmc) hint)
    refine ks_wpAt_super_base (env := env) eks ekc (by decide) efu (K1 _ _ ho) rfl (ar := { arg := "self", annotation := none, pos := p1 }) rfl eco (K1 _ _ hcode) rfl hvs hfile T.top ?_
    refine ks_loadName_global ekd eks (loadGlobal_builtin (env := env) (by rw [egl]; exact MO.glob.keeps bk1) T.sup (by rw [ebl]; exact hb1.keeps bk1) ((hb2 _ (by decide)).trans (by rfl)) ⟨rfl, ?_⟩)
    refine (wpAny_loadName_free ekd ekc ecl ⟨_, K1 _ _ hcell, rfl⟩ ?_)
    refine (wpAny_loadName_local ekd ekl hn' hnS ?_)
    have hC1 := K1 _ _ hC
    refine (ks_wpAny_isType_cls hC1 rfl ⟨rfl, ?_⟩)
    refine ks_wpAny_call_super hC1 rfl hx1 rfl (fun c z => by cases z) (looks_mroIn K1 T.mr) (fun h2 e2 k2 => ?_)
    have K2 : K.In h2 := fun a o e => k2 _ _ (K1 a o e)
    have IX2 : InstAt h2 x (excO C t0) C none := ⟨k2 _ _ hx1, rfl, rfl, trivial⟩
    have hsu := T.su
    unfold ks_superIn at hsu
    rw [hcl] at hsu
    refine kxs_getMethod kxs_ValueError e2 (looks_opaque K2 T.op) (l₀ := .ref C :: bm) ?_ rfl K2 hsu (IX2.type.andThen (looks_subIn K2 T.veC)) xC (by decide) ?_
    · exact fun A Q E s k q => wpAny_bind ((looks_clsIn K2 hcl) A _ E s k (wpAny_pure q))
    have k3 : ∀ b o, h2.get? b = some o → (h2.push (kxs_mw "ValueError.__init__" x)).get? b = some o := fun b o e => Heap.get?_push_of_some _ e
    have hu3 : (h2.push (kxs_mw "ValueError.__init__" x)).get? h2.objs.size = some (kxs_mw "ValueError.__init__" x) := Heap.get?_push_at rfl rfl
    refine kxs_callWith (i := "ValueError.__init__") (x := x) rfl (evalArgs_plain (spliced_more (env := env) (e := .Name f a4) (rest := []) (pos := a5) ?_))
    refine (wpAny_Name (wpAny_loadName_local ekd ekf ((hn'.keeps k2).keeps k3) hnF ?_) NF.d)
    refine spliced_none ⟨hu3, ?_⟩
    refine call_vw (k3 _ _ (K2 _ _ hC |> fun z => z)) (k3 _ _ (k2 _ _ hx1)) hu3 (show (1 : Nat) ≤ sizeLine by rw [sizeLine_eq]; decide) (fun h4 t4 k4 hx4 => ?_)
    have nLx : env.locals ≠ x := by
      rw [eL]
      exact xL
    have hn4 : h4.Ns env.locals (fun y => List.lookup y [(f, v), (("self" : Str), Value.ref x)]) := ((hn'.keeps k2).keeps k3).at (fun o z => k4 _ _ nLx z)
    have K4 : K.In h4 := fun a o e => k4 _ _ (fun z => by
      have e1 := MO.kin a o e
      rw [z, hnx] at e1
      cases e1) (k3 _ _ (K2 a o e))
    refine wpAt_of_wpAny (wpAny_execs_cons (plainObj_wpAny_Assign_Attribute ?_ (by rfl)))
    refine (wpAny_Name (wpAny_loadName_local ekd ekf hn4 hnF ?_) NF.d)
    refine (wpAny_Name (wpAny_loadName_local ekd ekl hn4 hnS ?_) (by decide))
    refine set_plain K4 (ox := excO C t4) (od := none) ⟨hx4, rfl, rfl, trivial⟩ T.sa ?_
    refine exc_osa K4 hx4 hcl (show refsVE (.ref C :: bm) = true from hbm) rfl T.noN (fun h5 tk5 dx k5 dn dne hx5 hn5 => ?_)
    refine wpAny_execs_nil (hq h5 tk5 dx ⟨fun b o hb e => k5 b o hb (k4 b o hb (k3 _ _ (k2 _ _ (k _ _ e)))), ⟨t4, hx5⟩, ?_, dne, hn5⟩)
    have z1 : hp0.objs.size < h₁.objs.size := by
      have := hn'.lt
      rw [eL] at this
      exact this
    have z2 : h₁.objs.size ≤ h4.objs.size := by
      have e3 := k4 _ _ (fun z => by
        have e4 := k2 _ _ hx1
        rw [← z] at e4
        exact absurd (Heap.lt_size e4) (Nat.lt_irrefl _)) hu3
      have e5 : h2.objs.size < h4.objs.size := Heap.lt_size e3
      have e6 : h₁.objs.size < h2.objs.size := Heap.lt_size e2
      omega
    exact Nat.le_trans (Nat.le_of_lt (Nat.lt_of_lt_of_le z1 z2)) dn
end
end LevX
end PySem
set_option Elab.async false
set_option linter.all false
set_option maxRecDepth 100000
set_option maxHeartbeats 2000000
/-! such an error made -/
namespace PySem
namespace LevX
open PySem.W PySem.Calls PyProof.Rows PySem.HandSPX
/-- a made error -/
structure OwnMade (f : Str) (h h' : Heap) (e C d : Addr) (v : Value) : Prop where
  keep : ∀ b o, h.get? b = some o → h'.get? b = some o
  new : h.objs.size ≤ e
  obj : ∃ t1, h'.get? e = some { cls := .ref C, dict := some d, data := .fields #[.ref t1, .none, .none, .none, .bool false, .none] }
  dbig : h.objs.size ≤ d
  dne : d ≠ e
  ns : h'.Ns1 d (fun y => if y = f then some v else none)
section
variable {prog : Program} {w : World} {A : Around} {R : Result → Shared → Prop} {s : Shared} {K : Frag} {mg : Str → Option Value} {cn f q : Str} {C fI : Addr} {base : Heap}
theorem lev_made (T : LevTxt prog K mg cn f q C fI) (NF : FName f) (MO : L2.Mod K mg base) (BK : ∀ b o, base.get? b = some o → s.heap.get? b = some o) {v : Value} (hroom : A.depth + 1 < recursionLimit)
    (hq : ∀ h' tk e d, OwnMade f s.heap h' e C d v → R (.ok (.ret (.ref e))) { s with heap := h', toks := tk }) : codeAny (model prog w) A (.call (.ref C) ⟨[v], []⟩) R s := by
  obtain ⟨nm, qn, N, bs, bm, sn, sub, ab, col, dd, k0, k1, k2, k3, k5, hC, hbm⟩ := T.cls
  obtain ⟨hp, g, dr, tk, os⟩ := s
  have X : K.In hp := fun a o e => BK _ _ (MO.kin a o e)
  have k : ∀ b o, hp.get? b = some o → ((hp.push (kdv_tup [v])).push (excO C hp.objs.size)).get? b = some o := fun b o z => Heap.get?_push_of_some _ (Heap.get?_push_of_some _ z)
  have hget : ((hp.push (kdv_tup [v])).push (excO C hp.objs.size)).get? (hp.objs.size + 1) = some (excO C hp.objs.size) := by
    heap_get
  have hnb : base.get? (hp.objs.size + 1) = none := by
    cases e : base.get? (hp.objs.size + 1) with
    | none => rfl
    | some o => exact absurd (Nat.lt_of_succ_lt (Heap.lt_size (BK _ _ e))) (Nat.lt_irrefl _)
  refine call_own F.excBase_ValueError (fun z => refsVE_contains z bm hbm) (X _ _ hC) (looks_findIn X T.iC) (fun self => bind_fn X self T.tC) (show (1 : Nat) ≤ sizeLine by rw [sizeLine_eq]; decide) ?_
  refine lev_init (s := ⟨(hp.push (kdv_tup [v])).push (excO C hp.objs.size), g, dr, tk, os⟩) T NF MO (fun b o e => k b o (BK b o e)) hget hnb (show A.depth + 1 < recursionLimit from hroom) fun h' tk' dx I => ?_
  have old : ∀ b o, hp.get? b = some o → h'.get? b = some o := fun b o e => I.keep b o (Nat.ne_of_lt (Nat.lt_succ_of_lt (Heap.lt_size e))) (k b o e)
  have z : hp.objs.size + 1 + 1 ≤ dx := by
    have z0 := I.dbig
    rw [show (⟨(hp.push (kdv_tup [v])).push (excO C hp.objs.size), g, dr, tk, os⟩ : Shared).heap = (hp.push (kdv_tup [v])).push (excO C hp.objs.size) from rfl, Heap.size_push, Heap.size_push] at z0
    exact z0
  exact ⟨rfl, hq h' tk' (hp.objs.size + 1) dx ⟨old, Nat.le_succ _, I.obj, by show hp.objs.size ≤ dx; omega, I.dne, I.ns⟩⟩
end
end LevX
end PySem
set_option Elab.async false
set_option linter.all false
set_option maxRecDepth 100000
set_option maxHeartbeats 2000000
/-! raise C(e) over the layer -/
namespace LV
open PySem PySem.Spec PyProof.Rows L2
theorem relO_one {f : Str} {v : V} {v' : Value} (r : RelV v v') (y : Str) : RelO (List.lookup y [(f, v)]) (if y = f then some v' else none) := by
  by_cases hw : y = f
  · subst hw
    rw [if_pos rfl, show List.lookup y [(y, v)] = some v by simp [List.lookup]]
    exact r
  · have qw : (y == f) = false := by simpa using hw
    rw [if_neg hw, show List.lookup y [(f, v)] = none by simp [List.lookup, qw]]
    trivial
section
variable {X : Cx} {C fI : Addr} {cn f q : Str}
/-- C(e) -/
def tMkLev (C : Addr) (f : Str) (ta : TA) : L2.St → Hp → XK → Prop := fun σ H Q => ta σ H fun vs H1 => ∃ v, vs = [v] ∧ ∀ d, H1 d = none → Q (.ref C) (some d) (upd H1 d (.xd [(f, v)]))
theorem pmk_lev {a : Expr} {ta : TA} {p pos : Pos} {k : Nat} (T : PySem.LevX.LevTxt X.prog X.K X.mg cn f q C fI) (NF : PySem.LevX.FName f) (hr : Room k X.A) (ha : PA X [a] ta) (hg : Gl X cn) (hdb : (cn == ("__debug__" : Str)) = false)
    (he : starEach (a :: []) X.env = (false, eval a X.env) :: starEach [] X.env := by rfl) (hpl : (backTo pos (starEach [] X.env)).any (·.1) = false := by rfl) : PMk X (.Call (.Name cn p) [a] [] pos) (tMkLev C f ta) := by
  intro pins s σ H Q I h
  refine (wpAny_Call_Name_kw (ld_glob I hg T.gC ?_ hdb))
  refine PySem.W.callWith_K (h₀ := X.base) I.ok.mod.kin T.kC (thn (ha.run pos pins s σ H _ I h) fun us s1 hh => ?_) he hpl
  obtain ⟨vs, H1, I1, r1, v, ev, q1⟩ := hh
  subst ev
  refine ⟨I1.kIn, ?_⟩
  cases r1 with
  | cons rv rn =>
    rename_i v' us'
    cases rn
    show wpAny _ _ (call (.ref C) [v']) _ _ _
    have MO := I1.mod
    have BK := I1.bk
    obtain ⟨hp, g, dr, tk, os⟩ := s1
    refine wpAny_call (PySem.LevX.lev_made T NF MO BK (by have := hr.dp; omega) fun h' tk' e d M => ?_)
    show MkP X pins σ Q (.ref e) ⟨h', g, dr, tk', os⟩
    obtain ⟨t1, hoe⟩ := M.obj
    have hns := M.ns
    obtain ⟨G', g1, g2⟩ := restrict h' fun b => decide (b ≠ e)
    have gk : ∀ b, b ≠ e → G'.get? b = h'.get? b := fun b hb => g1 b (decide_eq_true hb)
    have ge : G'.get? e = none := g2 e (by simp)
    have old : ∀ b o, hp.get? b = some o → G'.get? b = some o := fun b o z => (gk b (Nat.ne_of_lt (Nat.lt_of_lt_of_le (Heap.lt_size z) M.new))).trans (M.keep b o z)
    have ob : ObjOk X.prog X.w (upd H1 d (.xd [(f, v)])) G' d (.xd [(f, v)]) := ⟨_, hns.at (fun o z => (gk d M.dne).trans z), fun y => relO_one rv y⟩
    have J : Inv X pins σ (upd H1 d (.xd [(f, v)])) ⟨G', g, dr, tk', os⟩ := I1.laid (t' := tk') old M.dbig ob
    refine ⟨e, _, _, ⟨G', g, dr, tk', os⟩, _, .ref C, some d, rfl, J, fun b o z => ?_, ge, hoe, ⟨rfl, rfl⟩, rfl, rfl, ?_, rfl, I1.bare, raises_own T.exC T.tyC, q1 d (I1.hok.fresh M.dbig)⟩
    · by_cases hb : b = e
      · have z' : G'.get? b = some o := z
        rw [hb, ge] at z'
        cases z'
      · exact (gk b hb).symm.trans z
    · rw [upd_ne (Ne.symm M.dne)]
      exact I1.hok.fresh M.new
/-- raise C(e) -/
def tRaiseLev (C : Addr) (f : Str) (W : WX) (ta : TA) : TS := fun _ σ H => tMkLev C f ta σ H fun cls d H' => W cls d σ H'
theorem ps_raiseLev {a : Expr} {ta : TA} {W : WX} {p pos pos2 : Pos} {k : Nat} (hc : X.calm = true) (T : PySem.LevX.LevTxt X.prog X.K X.mg cn f q C fI) (NF : PySem.LevX.FName f) (hr : Room k X.A) (tk : Takes X W) (ha : PA X [a] ta) (hg : Gl X cn) (hdb : (cn == ("__debug__" : Str)) = false)
    (he : starEach (a :: []) X.env = (false, eval a X.env) :: starEach [] X.env := by rfl) (hpl : (backTo pos (starEach [] X.env)).any (·.1) = false := by rfl) :
    PS X (.Raise (some (.Call (.Name cn p) [a] [] pos)) none pos2) (tRaiseLev C f W ta) := ps_raise hc tk (pmk_lev T NF hr ha hg hdb he hpl)
end
end LV
set_option Elab.async false
set_option linter.all false
set_option maxRecDepth 100000
set_option maxHeartbeats 2000000
/-! errors without an __init__ of their own, made without arguments -/
namespace LV
open PySem PySem.Spec PyProof.Rows L2
section
variable {X : Cx} {C : Addr} {bmB : List Value} {B newId initId : String}
end
end LV
set_option Elab.async false
set_option linter.all false
set_option maxRecDepth 100000
set_option maxHeartbeats 2000000
/-! isinstance of a pinned error that may hold a field; its field -/
namespace LevX2
open PySem PySem.W PySem.Spec PySem.Calls PyProof.Rows
section
variable {prog : Program} {w : World} {A : Around} {E : Value → Shared → Prop} {s : Shared} {K : Frag} {x D : Addr} {ox : Obj} {od : Option Obj}
theorem find_cls (C : L2.ExcC K D) : findObj K D od "__class__" = some (.bind (.builtin "getset_descriptor.__get__") (.builtin "object.__class__")) := by
  have hs : (clsIn K D).isSome = true := by
    obtain ⟨cd, hc, _⟩ := any_some C.hd
    rw [hc]
    rfl
  cases od with
  | none => exact findObj_dataN hs C.ha C.hn C.ht
  | some o => exact findObj_data hs C.ha C.hn C.ht
theorem cls_of_exc {Q : Option Value → Shared → Prop} (C : L2.ExcC K D) (X : K.In s.heap) (I : InstAt s.heap x ox D od) (h : Q (some (.ref D)) { s with toks := s.toks + 1 }) : wpAny (model prog w) A (getAttr? (.ref x) "__class__") Q E s := by
  have hf := find_cls (od := od) C
  obtain ⟨hp, gg, dd, tt, oo⟩ := s
  have l0 := I.type (M := model prog w)
  have l1 := looks_findIn (M := model prog w) X C.hg
  have l2 := looks_findIn (M := model prog w) X C.hk
  have l3 := looks_find (M := model prog w) X I hf
  have sub : Looks (model prog w) hp (isInstance (.ref x) (.type "BaseException")) true := l0.andThen (looks_subIn X C.hs)
  have b2 : (Value.builtin "BaseException.__getattribute__" == Value.builtin "object.__getattribute__") = false := by decide +kernel
  have b1 : (onTheHeap (Value.ref D) && Value.builtin "BaseException.__getattribute__" == Value.builtin "object.__getattribute__") = false := by
    rw [b2]
    rfl
  unfold getAttr? getAttrBy? getAttrBy
  refine wpAny_bind (wpAny_mkText ?_)
  refine wpAny_bind (wpAny_attempt (wpAny_holding (wpAny_bind (l0.at ?_))))
  refine wpAny_bind (l1.at ?_)
  show wpAny _ _ (if (onTheHeap (Value.ref D) && Value.builtin "BaseException.__getattribute__" == Value.builtin "object.__getattribute__") = true then _ else _) _ _ _
  rw [if_neg (by rw [b1]; exact Bool.false_ne_true)]
  unfold getAttrByItsOwn hookBefore
  refine wpAny_bind ?_
  rw [if_pos (by rfl : onTheHeap (Value.ref D) = true)]
  refine l2.at (wpAny_bind (wpAny_attempt (wpAny_holding ?_)))
  unfold callGetattribute
  rw [if_neg (by decide : ¬ (false && onTheHeap (Value.builtin "BaseException.__getattribute__")) = true)]
  unfold boundAndCalled
  rw [PySem.F.excAttr_ValueError.ga.bind (.ref x)]
  refine wpAny_bind (wpAny_pure ?_)
  show wpAny _ _ (call (.builtin "BaseException.__getattribute__") [.ref x, .str "__class__" tt]) _ _ _
  refine wpAny_call (codeAny_call_builtin PySem.F.excAttr_ValueError.ga.plain PySem.F.entry_bexc_ga ?_)
  have aa := PySem.F.args_bexc_ga (.ref x) (.str "__class__" tt)
  refine @check_slot (model prog w) _ _ ⟨hp, gg, dd, tt + 1, oo⟩ "BaseException.__getattribute__" "BaseException" "__getattribute__" (.ref x) [.str "__class__" tt] [] _ (by decide +kernel) (by decide +kernel) sub aa ?_
  unfold Builtin.«object.__getattribute__»
  refine wpAny_bind (wpAny_of_eq (a := ((Value.ref x : Value), [Value.str "__class__" tt])) (by
    first
      | rfl
      | (simp only [slotArgs]; rfl)) ?_)
  refine wpAny_bind (wpAny_pure (wpAny_bind (l0.at (wpAny_bind (l3.at ?_)))))
  show wpAny _ _ (holding [Value.builtin "object.__class__"] (call (.builtin "getset_descriptor.__get__") [.builtin "object.__class__", .ref x, .ref D]) >>= ret) _ _ _
  refine wpAny_bind (wpAny_holding (wpAny_call (class_get (s := ⟨hp, gg, dd, tt + 1, oo⟩) (ox := ox) (od := od) X I C.hm ?_)))
  refine wpAny_pure ?_
  show wpAny _ _ (handedOut (.ref D)) _ _ _
  rw [handedOut_of (v := .ref D) rfl]
  first
    | exact wpAny_pure (wpAny_pure h)
    | exact wpAny_pure h
    | exact wpAny_pure (wpAny_bind (wpAny_pure (wpAny_pure h)))
theorem kit_exc (C : L2.ExcC K D) : KitX K (.ref x) (.ref D) (fun h => InstAt h x ox D od) := by
  obtain ⟨cdD, hcD, _⟩ := any_some C.hd
  unfold clsIn at hcD
  split at hcD
  case h_2 => cases hcD
  rename_i c' d' cd' sl' ho
  exact {
    ty := fun _ _ _ I => I.type
    it := fun _ _ X _ A' Q' E' s' k q => by
      unfold isType loadHead
      exact wpAny_bind (wpAny_loadPart (k _ _ (X _ _ ho)) (wpAny_pure q))
    ne := fun h tp dd its n sl X htp => Bool.eq_false_iff.mpr fun q => by
      have e : D = tp := Value.ref.inj (beq_iff_eq.mp q)
      subst e
      cases (X _ _ ho).symm.trans htp
    ca := fun X I k => cls_of_exc C X I k }
end
end LevX2
namespace LV
open PySem PySem.Spec PyProof.Rows L2
/-- the error's dict, as it is tracked -/
def XdOk (H : Hp) : Option Addr → Prop
  | none => True
  | some dd => ∃ fs, H dd = some (.xd fs)
/-- isinstance(e, c), e pinned in the context: its class, its dict -/
def rIsP (K : PySem.W.Frag) (D a : Addr) (d : Option Addr) : List V → Hp → VK → Prop := fun xs H Q => ∃ (c : V) (cv : Value) (b : Bool), xs = [.ref a, c] ∧ (∀ u, RelV c u → u = cv) ∧ PySem.W.kitOne K (.ref D) cv = some b ∧ XdOk H d ∧ Q (.bl b) H
theorem inst_of {X : Cx} {pins : List (Addr × Obj)} {σ : L2.St} {H : Hp} {s : Shared} {a D : Addr} {oe : Obj} {d : Option Addr} (I : Inv X pins σ H s) (hp : (a, oe) ∈ X.pn) (hz : Zc (.ref D) d oe) (hf : ∃ vs, oe.data = .fields vs) (hd : XdOk H d) : ∃ od, PySem.W.InstAt s.heap a oe D od := by
  obtain ⟨hget, _⟩ := I.pin (a, oe) (List.mem_append.mpr (.inl hp))
  obtain ⟨vs, hv⟩ := hf
  cases d with
  | none =>
    refine ⟨none, hget, hz.1, ?_, ?_⟩
    · unfold PySem.W.notCls
      rw [hv] <;> rfl
    · rw [hz.2]
      trivial
  | some dd =>
    obtain ⟨fs, ea⟩ := hd
    obtain ⟨mA, hns, hr⟩ := (I.hok dd _ ea : ObjOk X.prog X.w H s.heap dd (.xd fs))
    obtain ⟨od, ho, hl⟩ := lookIn_ns hns
    refine ⟨some od, hget, hz.1, ?_, ?_⟩
    · unfold PySem.W.notCls
      rw [hv] <;> rfl
    · rw [hz.2]
      exact ho
theorem call_isP {X : Cx} {a D : Addr} {oe : Obj} {d : Option Addr} (hp : (a, oe) ∈ X.pn) (C : ExcC X.K D) (hz : Zc (.ref D) d oe) (hf : ∃ vs, oe.data = .fields vs) : CallR X (.builtin "isinstance") (rIsP X.K D a d) := by
  intro pins s σ H xs us Q I r h
  obtain ⟨c, cv, b, rfl, hcv, e, hd, q⟩ := h
  cases r with
  | cons rx rr =>
    cases rr with
    | cons rt rr =>
      cases rr
      cases rx
      obtain rfl := hcv _ rt
      obtain ⟨od, J⟩ := inst_of I hp hz hf hd
      refine PySem.W.kia_one (LevX2.kit_exc (ox := oe) (od := od) C) I.kIn J e (by intro z; cases z) fun tk => ?_
      exact ⟨.bl b, H, I.kept (t' := tk) fun _ _ z => z, rfl, q⟩
/-- e.f, e pinned in the context -/
theorem pe_xfP {X : Cx} {a C : Addr} {oe : Obj} {cls : Value} {d : Option Addr} {e : Expr} {te : TE} {pos : Pos} {n : Str} (hp : (a, oe) ∈ X.pn) (T : XfC X.K C) (hno : PySem.W.findIn X.K (.ref C) n = some none)
    (hz : Zc cls d oe) (hf : ∃ vs, oe.data = .fields vs) (he : PE X e te) (hb : attributeBase e n X.env (eval e X.env) = eval e X.env := by rfl) : PE X (.Attribute e n pos) (tXf a cls d C n te) := by
  constructor
  intro pins s σ H Q I h
  refine attr_of hb (thn (he.run pins s σ H _ I h) ?_)
  rintro u s1 ⟨x, H1, I1, rx, rfl, rfl, dd, fs, v, rfl, ea, l, q⟩
  obtain rfl : u = Value.ref a := rx
  have ha := (I1.pin (a, oe) (List.mem_append.mpr (.inl hp))).1
  obtain ⟨vs, hd⟩ := hf
  obtain ⟨mA, hns, hr⟩ := (I1.hok dd _ ea : ObjOk X.prog X.w H1 s1.heap dd (.xd fs))
  obtain ⟨od, ho, hl⟩ := lookIn_ns hns
  obtain ⟨u, hu, ru⟩ := RelO.some_of (v := v) (o := mA n) (by rw [← l]; exact hr n)
  have nc : PySem.W.notCls oe = true := by
    unfold PySem.W.notCls
    rw [hd] <;> rfl
  have J : PySem.W.InstAt s1.heap a oe C (some od) := ⟨ha, hz.1, nc, by rw [hz.2]; exact ho⟩
  refine HandSPX.exc_get I1.kIn J T.ga T.gg T.exC (PySem.W.findObj_own T.hdC hno rfl (by rw [hl, hu])) (handed_of ru) ?_
  exact ⟨v, H1, I1.tok _, ru, q⟩
end LV
set_option Elab.async false
set_option linter.all false
set_option maxRecDepth 100000
set_option maxHeartbeats 2000000
/-! defs that an except suite calls with the caught error -/
namespace LV
open PySem PySem.Spec PyProof.Rows L2
open L2H (RoomH PinOk)
/-- what a def promises of the pinned error p -/
structure FnC (P : Program) (w : World) (K : PySem.W.Frag) (mg : Str → Option Value) (base : Heap) (k : Nat) (f : Addr) (fd : FuncData) (ps : List Str) (sp : Addr × Obj → Sp) : Prop where
  len : ∀ p vs H Q E, sp p vs H Q E → vs.length = ps.length
  go : ∀ (A : Around) (outer : List PySem.Env) (s : Shared) (H : Hp) (args : Args) (us : List Value) (vs : List V) (Q : VK) (E : XK) (p : Addr × Obj), RoomH k A → PinOk outer H s p →
    Env0 P w K mg base A outer s H → BindsTo s fd args (ps.zip us) → Vals vs us → sp p vs H Q E → codeAny (model P w) A (.call (.ref f) args) (CR CX0 outer P w H s Q E) s
theorem fnC_of {P : Program} {w : World} {K : PySem.W.Frag} {mg : Str → Option Value} {base : Heap} {k : Nat} {f : Addr} {name qual : Str} {params : Arguments} {body : List Stmt} {scope : Scope} {dV kV doc pm cdv ct oc : Value} {an od : Option Addr} {osl : Array (Option Value)} {N ps : List Str} {sp : Addr × Obj → Sp}
    (lk : K.lookup f = some ⟨oc, od, .func (PySem.W.fnOf name qual params body scope dV kV doc pm an cdv ct), osl⟩) (hcd : PySem.W.codeIn K cdv qual = true) (SC : FnScope N ps scope) (len : ∀ p vs H Q E, sp p vs H Q E → vs.length = ps.length)
    (hb : ∀ (A : Around) (outer : List PySem.Env) (s : Shared) (H : Hp) (vs : List V) (Q : VK) (E : XK) (p : Addr × Obj), RoomH k (A.deeper (envOfC qual scope s.heap.objs.size f cdv)) → sp p vs H Q E →
      ∃ t, PSs (L2H.cxH CX0 P w K mg base N qual scope f cdv A outer s H E p) body t ∧ t { nx := fun _ H' => Q .non H', rt := Q } (L2.start N vs) H) :
    FnC P w K mg base (k + 1) f (PySem.W.fnOf name qual params body scope dV kV doc pm an cdv ct) ps sp := by
  refine ⟨len, ?_⟩
  intro A outer s H args us vs Q E p hr hpin e0 bt rv hsp
  have hl := len _ _ _ _ _ hsp
  have inK : K.In s.heap := e0.mod.kin.keeps fun b o e => (e0.bs b o e).1
  have noL : s.heap.NoLimit := e0.mod.nolimit.keeps fun b o e => (e0.bs b o e).1
  have kinds : ∀ y ∈ ps.zip us, scope.names.lookup y.1 = some .local ∨ (scope.names.lookup y.1 = some .cell ∧ ((cellsFrom (s.heap.objs.size + 1) scope.names []).lookup y.1).isSome = true) := by
    rintro ⟨n, v⟩ hy
    rcases SC.par n (List.of_mem_zip hy).1 with q | q
    · exact Or.inl q
    · exact Or.inr ⟨q, PySem.W.cellsFrom_some _ _ _ (.inl q)⟩
  refine codeAny_call_function hr.depth (inK _ _ lk) rfl SC.co SC.gen rfl (PySem.W.codeRec_of inK hcd) (bt _ _ _ _ ?_)
  refine wpAny_newFunctionEnv_cells SC.kind kinds ?_
  rintro env rfl s1 x
  refine ⟨noL.keeps x.toInCall.keep, codeAny_func ?_⟩
  obtain ⟨t, ht, hq⟩ := hb A outer s H vs Q E p (hr.deeper _) hsp
  have I : Inv (L2H.cxH CX0 P w K mg base N qual scope f cdv A outer s H E p) [] (L2.start N vs) H s1 := L2H.inv_startH SC hpin e0 hl rv x
  refine wpAny_mono (ht.run [] s1 (L2.start N vs) H _ I hq) ?_ fun e s' z => z
  intro fl s' z
  cases fl with
  | ret u =>
    obtain ⟨v, σ', H', J, r, q⟩ := z
    exact ⟨v, H', J.os, J.bare, J.base, J.hok, r, q⟩
  | next =>
    obtain ⟨σ', H', J, q⟩ := z
    exact ⟨V.non, H', J.os, J.bare, J.base, J.hok, rfl, q⟩
  | brk =>
    obtain ⟨_, _, _, q⟩ := z
    exact q.elim
  | cont =>
    obtain ⟨_, _, _, q⟩ := z
    exact q.elim
section
variable {X : Cx} {k : Nat} {f : Addr} {fd : FuncData} {ps : List Str} {sp : Addr × Obj → Sp} {x : Str} {E : XK}
/-- x(e, ..), within a suite, the pinned error p -/
theorem pe_callC {e : Expr} {es : List Expr} {t : TA} {q pos : Pos} {p : Addr × Obj} (F : FnC X.prog X.w X.K X.mg X.base k f fd ps sp) (hr : RoomH k X.A) (hp : p ∈ X.pn) (hg : Gl X x) (hm : X.mg x = some (.ref f)) (hk : PySem.W.keepIn X.K (.ref f) = true) (hb : L2.Binds X.K fd ps [])
    (ha : PA X (e :: es) t) (hdb : (x == ("__debug__" : Str)) = false := by decide) (he : starEach (e :: es) X.env = (false, eval e X.env) :: starEach es X.env := by rfl) (hpl : (backTo pos (starEach es X.env)).any (·.1) = false := by rfl) : PE X (.Call (.Name x q) (e :: es) [] pos) (tCall (sp p) [] E t) := by
  constructor
  intro pins s σ H Q I h
  refine wpAny_Call_Name_kw (ld_glob I hg hm ?_ hdb)
  refine PySem.W.callWith_K (h₀ := X.base) I.ok.mod.kin hk (thn (ha.run pos pins s σ H _ I h) ?_) he hpl
  rintro us s1 ⟨vs, H1, I1, r, z⟩
  rw [List.append_nil] at z
  refine ⟨I1.kIn, ?_⟩
  have hl : us.length = ps.length := by
    rw [← r.length]
    exact F.len _ _ _ _ _ z
  have b := hb s1 us I1.kIn (by rw [List.append_nil]; exact hl)
  rw [List.append_nil] at b
  obtain ⟨p1, p2, p3, p4, p5⟩ := I1.pin p (List.mem_append.mpr (.inl hp))
  have pin : PinOk X.stack H1 s1 p := ⟨p1, p2, fun hm => by
    rcases List.mem_cons.mp (I1.stkSub p.1 hm) with z | z
    · exact p3 z
    · exact p4 z, p5⟩
  refine wpAny_call (codeAny_mono (F.go X.A X.stack s1 H1 ⟨us, []⟩ us vs Q E p hr pin I1.env0 b r z) ?_)
  intro res s' hq
  cases res with
  | error e => exact (show False from hq).elim
  | ok fl =>
    cases fl with
    | ret u => exact I1.after hq
    | next => exact False.elim hq
    | brk => exact False.elim hq
    | cont => exact False.elim hq
end
end LV
set_option Elab.async false
set_option linter.all false
set_option maxRecDepth 100000
set_option maxHeartbeats 2000000
/-! errors of the package, as the law words them -/
namespace UL
open PySem PySem.Spec PyProof.Rows L2 LV
inductive Ek where
  | part | text | level | fact | place | point | moment | line | unknown | height | frame | unfit | history
  deriving DecidableEq, Repr
/-- the class's name -/
def Ek.c : Ek → String
  | .part => "BadPart" | .text => "BadText" | .level => "BadLevel" | .fact => "BadFact" | .place => "BadPlace" | .point => "BadPoint" | .moment => "BadMoment" | .line => "BadLine"
  | .unknown => "UnknownLevel" | .height => "BadHeight" | .frame => "BadFrame" | .unfit => "Unfit" | .history => "HasHistory"
/-- its attribute -/
def Ek.f : Ek → Option String
  | .part => some "part" | .text => some "line" | .level => some "index" | .fact => some "index" | .place => some "index" | .point => some "index" | .moment => some "moment" | .line => some "line"
  | .unknown => some "name" | .height => some "height" | _ => none
/-- the law's word -/
def Ek.w : Ek → String
  | .part => "part" | .text => "text" | .level => "level" | .fact => "fact" | .place => "place" | .point => "point" | .moment => "moment" | .line => "line"
  | .unknown => "unknown" | .height => "height" | .frame => "frame" | .unfit => "unfit" | .history => "history"
structure Er where
  k : Ek
  u : U
/-- how the law tells an error -/
def erU (e : Er) : U := .tup [.str (Str.ofString e.k.w), e.u]
section
variable (κ : String → Addr)
/-- an error of this class and with this field, by its class and its dict -/
def ErOk (S : Hp) (e : Er) (cls : Value) (d : Option Addr) : Prop := cls = .ref (κ e.k.c) ∧ match e.k.f with
  | none => d = none ∧ e.u = .non
  | some f => ∃ dd v, d = some dd ∧ S dd = some (.xd [(Str.ofString f, v)]) ∧ Rep κ S e.u v
end
theorem ErOk.mono {κ : String → Addr} {S S' : Hp} {e : Er} {cls : Value} {d : Option Addr} (q : Same S S') (h : ErOk κ S e cls d) : ErOk κ S' e cls d := by
  refine ⟨h.1, ?_⟩
  have h2 := h.2
  split
  · rename_i hf
    rw [hf] at h2
    exact h2
  · rename_i f hf
    rw [hf] at h2
    obtain ⟨dd, v, a1, a2, a3⟩ := h2
    exact ⟨dd, v, a1, q _ _ a2, Rep.mono q _ a3⟩
/-- what the head must find of the errors' classes -/
structure ErrT (P : Program) (K : PySem.W.Frag) (mg : Str → Option Value) (κ : String → Addr) : Prop where
  gC : ∀ k : Ek, mg (Str.ofString k.c) = some (.ref (κ k.c))
  lev : ∀ (k : Ek) (f : String), k.f = some f → ∃ q fI, PySem.LevX.LevTxt P K mg (Str.ofString k.c) (Str.ofString f) q (κ k.c) fI
  bare : ∀ k : Ek, k.f = none → ∃ bmB B newId initId, ∃ F : ExcBaseFacts B newId initId bmB, PySem.W.excIn K (κ k.c) bmB newId = true ∧ PySem.W.keepIn K (.ref (κ k.c)) = true ∧ PySem.W.subIn K (.ref (κ k.c)) (.type "BaseException") = some true ∧ PySem.W.typeIn K (.ref (κ k.c)) = some (.type "type")
  isk : ∀ k k' : Ek, PySem.W.kitOne K (.ref (κ k.c)) (.ref (κ k'.c)) = some (decide (k = k'))
  exc : ∀ k : Ek, ExcC K (κ k.c)
  xf : ∀ k : Ek, XfC K (κ k.c)
  nof : ∀ (k : Ek) (f : String), k.f = some f → PySem.W.findIn K (.ref (κ k.c)) (Str.ofString f) = some none
  gL : mg "LevelError" = some (.ref (κ "LevelError"))
  exm : ∀ k : Ek, PySem.W.exmOne K (.ref (κ k.c)) (.ref (κ "LevelError")) = some true
/-- the promise of the law's _law_error and _law_bare_error, the pinned error p -/
def spErr (κ : String → Addr) (ok : Ek → Bool) : Addr × Obj → Sp := fun p vs H Q _ => ∃ (S : Hp) (e : Er) (cls : Value) (d : Option Addr), ok e.k = true ∧ vs = [.ref p.1] ∧ Zc cls d p.2 ∧ (∃ fs, p.2.data = .fields fs) ∧ Same S H ∧ ErOk κ S e cls d ∧
  ∀ v S' H', StpP κ S H S' H' → Rep κ S' (erU e) v → Q v H'
end UL
set_option Elab.async false
set_option linter.all false
set_option maxRecDepth 100000
set_option maxHeartbeats 2000000
/-! readings that end with an error, by their mirrors -/
namespace UL
open PySem PySem.Spec PyProof.Rows L2 LV
/-- the mirror of the errors: the error and the slots as they are then -/
abbrev MX := Env → Option (Er × Env)
def xN : MX := fun _ => none
def xCall (xa : MX) (ma : M (List U)) (g : List U → Option Er) : MX := fun env => match xa env with
  | some r => some r
  | none => (ma env).bind fun y => (g y.1).bind fun er => some (er, y.2)
def xIf (c : M Bool) (xa xb : MX) : MX := fun env => (c env).bind fun y => if y.1 = true then xa y.2 else xb y.2
def xSeq (xa : MX) (ma : MS) (xb : MX) : MX := fun env => match xa env with
  | some r => some r
  | none => (ma env).bind fun f => match f with
    | .nx e => xb e
    | _ => none
def xRaise (k : Ek) (xa : MX) (a : M (List U)) : MX := fun env => match xa env with
  | some r => some r
  | none => (a env).bind fun y => match y.1 with
    | [u] => some (⟨k, u⟩, y.2)
    | _ => none
/-- x(lambda: e), x the law's _law_tried -/
def mTried (m : M U) (x : MX) : M U := fun env => match x env with
  | some r => some (erU r.1, r.2)
  | none => (m env).bind fun y => some (.tup [.str "told", y.1], y.2)
section
variable (κ : String → Addr) (γ : Gh)
/-- what an error asks of the wish -/
def RchX (fx : Nat → Bool) (σ : L2.St) (S H : Hp) (F : List Addr) (E : XK) (r : Er × Env) : Prop :=
  ∀ cls d σ' S' H' F', Stp κ S H F S' H' F' → Gd κ γ σ' S' H' F' r.2 → Fix fx σ σ' → ErOk κ S' r.1 cls d → E cls d H'
structure SimEX (E : XK) (t : TE) (x : MX) : Prop where
  run : ∀ {σ : L2.St} {S H : Hp} {F : List Addr} {env : Env}, Gd κ γ σ S H F env → ∀ {r : Er × Env}, x env = some r → RchX κ γ (fun _ => true) σ S H F E r → ∀ Q : VK, t σ H Q
structure SimAX (E : XK) (t : TA) (x : MX) : Prop where
  run : ∀ {σ : L2.St} {S H : Hp} {F : List Addr} {env : Env}, Gd κ γ σ S H F env → ∀ {r : Er × Env}, x env = some r → RchX κ γ (fun _ => true) σ S H F E r → ∀ Q : List V → Hp → Prop, t σ H Q
structure SimIX (E : XK) (t : TI) (x : MX) : Prop where
  run : ∀ {σ : L2.St} {S H : Hp} {F : List Addr} {env : Env}, Gd κ γ σ S H F env → ∀ {r : Er × Env}, x env = some r → RchX κ γ (fun _ => true) σ S H F E r → ∀ Q : It → Hp → Prop, t σ H Q
structure SimSX (fx : Nat → Bool) (E : XK) (t : TS) (x : MX) : Prop where
  run : ∀ {σ : L2.St} {S H : Hp} {F : List Addr} {env : Env}, Gd κ γ σ S H F env → ∀ {r : Er × Env}, x env = some r → RchX κ γ fx σ S H F E r → ∀ D : Ends, t D σ H
/-- promises of defs that may raise -/
def spPX (f : List U → Option U) (g : List U → Option Er) : Sp := fun vs H Q E => ∃ S us, Same S H ∧ Reps κ S us vs ∧
  ((∃ u, f us = some u ∧ ∀ v S' H', StpP κ S H S' H' → Rep κ S' u v → Q v H') ∨ ∃ er, g us = some er ∧ ∀ cls d S' H', StpP κ S H S' H' → ErOk κ S' er cls d → E cls d H')
end
section
variable {κ : String → Addr} {γ : Gh} {fx : Nat → Bool} {ρ : Bool} {E : XK}
theorem Fix.all (fx : Nat → Bool) (σ : L2.St) {σ' : L2.St} (h : Fix (fun _ => true) σ σ') : σ' = σ := by
  apply List.ext_getElem?
  intro i
  exact h.2 i rfl
theorem Fix.of_all {fx : Nat → Bool} {σ σ' : L2.St} (h : Fix (fun _ => true) σ σ') : Fix fx σ σ' := ⟨h.1, fun i _ => h.2 i rfl⟩
theorem RchX.mono {σ σ1 : L2.St} {S H S1 H1 : Hp} {F F1 : List Addr} {r : Er × Env} (s : Stp κ S H F S1 H1 F1) (hf : Fix fx σ σ1) (h : RchX κ γ fx σ S H F E r) : RchX κ γ fx σ1 S1 H1 F1 E r :=
  fun cls d σ' S' H' F' s' g f e => h cls d σ' S' H' F' (s.trans s') g (hf.trans f) e
theorem RchX.toE {σ : L2.St} {S H : Hp} {F : List Addr} {r : Er × Env} (h : RchX κ γ fx σ S H F E r) : RchX κ γ (fun _ => true) σ S H F E r :=
  fun cls d σ' S' H' F' s' g f e => h cls d σ' S' H' F' s' g (Fix.of_all f) e
theorem simAX_none {t : TA} : SimAX κ γ E t xN := ⟨fun _ _ h => by cases h⟩
theorem simSX_none {t : TS} : SimSX κ γ fx E t xN := ⟨fun _ _ h => by cases h⟩
/-! calls -/
theorem RchX.pureE {σ : L2.St} {S H : Hp} {F : List Addr} {env : Env} {er : Er} (g : Gd κ γ σ S H F env) (q : RchX κ γ (fun _ => true) σ S H F E (er, env)) : ∀ cls d S' H', StpP κ S H S' H' → ErOk κ S' er cls d → E cls d H' :=
  fun cls d S' H' p e => q cls d σ S' H' F p.stp (g.pure_ p) (Fix.refl _ σ) e
/-! made instances -/
/-! methods of owned things -/
/-! statements -/
theorem simSX_seq {t u : TS} {m : MS} {xa xb : MX} (hm : SimS κ γ fx t m) (ha : SimSX κ γ fx E t xa) (hb : SimSX κ γ fx E u xb) : SimSX κ γ fx E (tSeq t u) (xSeq xa m xb) := by
  constructor
  intro σ S H F env g rr e q D
  unfold xSeq at e
  split at e
  · rename_i r' hr
    cases e
    exact ha.run g hr q _
  · obtain ⟨f, h1, e⟩ := bindS e
    cases f with
    | nx e1 => exact hm.run g h1 _ fun σ1 S1 H1 F1 s1 g1 f1 => hb.run g1 e (q.mono s1 f1) D
    | bk e1 => cases e
    | rt w e1 => cases e
theorem simSX_if {c : TT} {t u : TS} {mc : M Bool} {xa xb : MX} (hc : SimT κ γ false c mc) (ha : SimSX κ γ fx E t xa) (hb : SimSX κ γ fx E u xb) : SimSX κ γ fx E (tIfS c t u) (xIf mc xa xb) := by
  constructor
  intro σ S H F env g rr e q D
  obtain ⟨⟨y, e1⟩, h1, e⟩ := bindS e
  refine hc.run g h1 _ fun S1 H1 F1 s1 g1 => ?_
  cases y with
  | true => exact ha.run g1 e (q.mono s1.stp (Fix.refl _ σ)) _
  | false => exact hb.run g1 e (q.mono s1.stp (Fix.refl _ σ)) _
/-- raise C(e) -/
theorem simSX_raise {k : Ek} {f : String} (hf : k.f = some f) {n : Nat} {t : TA} {m : M (List U)} {xa : MX} (h : SimA κ γ false n t m) (hxa : SimAX κ γ E t xa) : SimSX κ γ fx E (tRaiseLev (κ k.c) (Str.ofString f) (fun cls d _ H => E cls d H) t) (xRaise k xa m) := by
  constructor
  intro σ S H F env gd rr e q D
  unfold xRaise at e
  split at e
  · rename_i r' hr
    cases e
    exact hxa.run gd hr q.toE _
  · obtain ⟨⟨y, e1⟩, h1, e⟩ := bindS e
    refine h.run gd h1 _ fun vs S1 H1 F1 s1 g1 r => ?_
    match y, e, r with
    | [u], e, r =>
      cases e
      obtain ⟨v, _, rfl, rv, rfl⟩ := r
      refine ⟨v, rfl, fun d hd => ?_⟩
      have st : StpP κ S1 H1 (upd S1 d (.xd [(Str.ofString f, v)])) (upd H1 d (.xd [(Str.ofString f, v)])) := StpP.new1 g1.wf.sub hd
      refine q _ _ σ _ _ F1 (s1.stp.trans st.stp) (g1.pure_ st) (Fix.refl _ σ) ⟨rfl, ?_⟩
      dsimp only
      rw [hf]
      exact ⟨d, v, rfl, upd_same, Rep.mono st.sub _ rv⟩
theorem sim_never' {t : TS} : SimS κ γ fx t sNever := ⟨fun _ _ h => by cases h⟩
/-! defs -/
def xfP (n nl : Nat) (x : MX) : List U → Option Er := fun us => if us.length = n then (x (env0 (us.map .p) nl)).bind fun r => some r.1 else none
theorem sim_xfP {t : TS} {x : MX} {n nl : Nat} {N : List Str} {vs : List V} {H S : Hp} {us : List U} {er : Er} {D : Ends} (h : SimSX κ [] fx0 E t x) (e : Same S H) (rs : Reps κ S us vs) (hf : xfP n nl x us = some er) (k : ∀ cls d S' H', StpP κ S H S' H' → ErOk κ S' er cls d → E cls d H') (hN : N.length = n + nl) : t D (L2.start N vs) H := by
  unfold xfP at hf
  split at hf <;> try cases hf
  rename_i hl
  obtain ⟨⟨er', e1⟩, h1, hf⟩ := bindS hf
  cases hf
  have hN : N.length = vs.length + nl := by rw [hN, ← rs.len, hl]
  have g := gd_start (nl := nl) (N := N) ⟨e, by simp, fun a ha => by simp at ha⟩ (RepOs.pure_ (H := H) rs) hN
  exact h.run g h1 (fun cls d σ' S' H' F' s' g' _ he => k cls d S' H' (StpP.of s' g'.wf.sub) he) D
theorem sim_fnPX {t : TS} {b : MS} {x : MX} {n nl : Nat} {N : List Str} {vs : List V} {H : Hp} {Q : VK} (h : SimS κ [] fx0 t b) (hx : SimSX κ [] fx0 E t x) (hs : spPX κ (fnP n nl b) (xfP n nl x) vs H Q E) (hN : N.length = n + nl) : t { nx := fun _ H' => Q .non H', rt := Q } (L2.start N vs) H := by
  obtain ⟨S, us, e, rs, hc | ⟨er, hf, k⟩⟩ := hs
  · obtain ⟨u, hf, k⟩ := hc
    exact sim_fnP (E := E) h ⟨S, us, u, e, rs, hf, k⟩ hN
  · exact sim_xfP hx e rs hf k hN
theorem len_fnPX {b : MS} {x : MX} {n nl : Nat} {vs : List V} {H : Hp} {Q : VK} (hs : spPX κ (fnP n nl b) (xfP n nl x) vs H Q E) : vs.length = n := by
  obtain ⟨S, us, e, rs, hc | ⟨er, hf, k⟩⟩ := hs
  · obtain ⟨u, hf, k⟩ := hc
    exact len_fnP (E := E) (Q := Q) (H := H) ⟨S, us, u, e, rs, hf, k⟩
  · unfold xfP at hf
    split at hf
    · rename_i hl
      rw [← rs.len, hl]
    · cases hf
/-! the promise without errors -/
section
variable {P : Program} {w : World} {K : PySem.W.Frag} {mg : Str → Option Value} {base : Heap} {k : Nat} {fa : Addr} {fd : FuncData} {ps : List Str}
theorem FnOk.calm {sp sp' : Sp} (F : FnOk P w K mg base (L2.CX P w) k fa fd ps sp) (h : ∀ vs H Q E, sp' vs H Q E → sp vs H Q fun _ _ _ => False) : FnOk P w K mg base CX0 k fa fd ps sp' := by
  refine ⟨fun vs H Q E q => F.len vs H Q _ (h _ _ _ _ q), fun A outer s H args us vs Q E hr he hb hv hs => ?_⟩
  refine codeAny_mono (F.run A outer s H args us vs Q (fun _ _ _ => False) hr he hb hv (h _ _ _ _ hs)) fun r s' hq => ?_
  cases r with
  | error e =>
    obtain ⟨_, _, _, _, _, _, _, _, _, _, _, _, z⟩ := hq
    exact z.elim
  | ok fl => cases fl <;> exact hq
theorem calmP {f : List U → Option U} {g : List U → Option Er} : ∀ vs H Q E, spP κ f vs H Q E → spPX κ f g vs H Q fun _ _ _ => False := fun vs H Q E ⟨S, us, u, e, rs, hf, k⟩ => ⟨S, us, e, rs, .inl ⟨u, hf, k⟩⟩
end
end
end UL
set_option Elab.async false
set_option linter.all false
set_option maxRecDepth 100000
set_option maxHeartbeats 2000000
/-! dicts with texts as keys -/
namespace UL
open PySem PySem.Spec PyProof.Rows L2 LV
def isDk (f : Str) : Ow → Option Unit
  | .d ks ws => (ixF f ks).bind fun j => (ws[j]?).bind fun _ => some ()
  | _ => none
def plK (f : Str) (pl : PL) : PL := fun env => (pl env).bind fun x => (getE env x.1 x.2).bind fun w => (isDk f w).bind fun _ => some (x.1, x.2 ++ [.k f])
def isDi : Ow → Option (List Str × List Ow)
  | .d ks ws => some (ks, ws)
  | _ => none
/-- a dict with a key put -/
def dpt (ks : List Str) (ws : List Ow) (f : Str) (w : Ow) : Option Ow := if ks.Nodup ∧ ks.length < 1000 then match ixF f ks with
  | some j => some (.d ks (ws.set j w))
  | none => some (.d (ks ++ [f]) (ws ++ [w])) else none
def kvz (ks : List Str) (vs : List V) : List (Key × V) := (ks.map Sum.inr).zip vs
section
variable {κ : String → Addr} {γ : Gh} {ρ : Bool} {fx : Nat → Bool} {K : PySem.W.Frag} {σ : L2.St} {S H : Hp} {F : List Addr} {env : Env}
/-- what is owned by nobody yet keeps its foot over a pure step -/
theorem WF.pure_ {S1 H1 : Hp} {A : List Addr} (ft : ∀ a ∈ A, ∃ o, H a = some o ∧ ¬ XObj κ o) (wf : WF S H A) (p : StpP κ S H S1 H1) : WF S1 H1 A := by
  refine ⟨p.in_, wf.nd, fun a ha => ?_⟩
  obtain ⟨o, ho, nx⟩ := ft a ha
  rcases hs : S1 a with _ | o1
  · rfl
  · have e1 := p.in_ _ _ hs
    rw [p.keep _ _ ho] at e1
    cases e1
    rcases p.new a _ hs with z | z | z
    · rw [wf.out a ha] at z
      cases z
    · rw [ho] at z
      cases z
    · exact (nx z).elim
def sDPt (pl : PL) (f : Str) (m : M Ow) : MS := fun env => (m env).bind fun x => (pl x.2).bind fun y => (getE x.2 y.1 y.2).bind fun w => (isDi w).bind fun z => (dpt z.1 z.2 f x.1).bind fun w' => some (.nx (putE x.2 y.1 y.2 w'))
end
end UL
set_option Elab.async false
set_option linter.all false
set_option maxRecDepth 100000
set_option maxHeartbeats 2000000
/-! dicts: displays; an owned thing lent to a def that changes the state, or hands back what is owned -/
namespace UL
open PySem PySem.Spec PyProof.Rows L2 LV
section
variable {κ : String → Addr} {γ : Gh} {ρ : Bool} {fx : Nat → Bool} {K : PySem.W.Frag} {E : XK}
/-- what is at a known place within a list -/
def atsL : List Ow → List Addr
  | [] => []
  | .p (.atl a _) :: ws => a :: atsL ws
  | _ :: ws => atsL ws
def atsO : Ow → List Addr
  | .l ws => atsL ws
  | _ => []
def okA (A : List Addr) : List Ow → Bool
  | [] => true
  | .p (.atl a us) :: ws => A.contains a && tOs us && okA A ws
  | w :: ws => tW w && okA A ws
def okW (A : List Addr) : Ow → Bool
  | .l ws => okA A ws
  | w => tW w
/-- f(state, p, ..), p only looked at -/
def mCallIB (i j : Nat) (f : Ow → List U → Option (U × Ow)) (a : M (List U)) : M U := fun env => (hasS env i).bind fun _ => (hasS env j).bind fun _ => (a env).bind fun x => (atS x.2 i).bind fun w => (atS x.2 j).bind fun wp => (f w (frz wp :: x.1)).bind fun z => if i ≠ j ∧ tO z.1 = true ∧ okW (atsO w) z.2 = true then some (z.1, x.2.set i (some z.2)) else none
/-- f(p, ..), p only looked at, what is handed back is new -/
def mCallBR (j : Nat) (f : List U → Option Ow) (a : M (List U)) : M Ow := fun env => (hasS env j).bind fun _ => (a env).bind fun x => (atS x.2 j).bind fun w => (f (frz w :: x.1)).bind fun z => if tW z = true then some (z, x.2) else none
/-! a display -/
structure SimD (κ : String → Addr) (γ : Gh) (trs : List (TE × TE)) (fs : List Str) (m : M (List U)) : Prop where
  len : ∀ {env us env'}, m env = some (us, env') → us.length = fs.length
  run : ∀ {σ : L2.St} {S H : Hp} {F : List Addr} {env : Env}, Gd κ γ σ S H F env → ∀ {us : List U} {env' : Env}, m env = some (us, env') → ∀ Q : List (V × V) → Hp → Prop,
    (∀ vs S' H' F', Stp κ S H F S' H' F' → Gd κ γ σ S' H' F' env' → Reps κ S' us vs → Q ((kvz fs vs).map fun kv => (kV kv.1, kv.2)) H') → tPairs trs σ H Q
def mDisp (fs : List Str) (m : M (List U)) : M Ow := fun env => (m env).bind fun x => if fs.Nodup ∧ fs.length ≤ 15 then some (.d fs (x.1.map .p), x.2) else none
end
end UL
set_option Elab.async false
set_option linter.all false
set_option maxRecDepth 100000
set_option maxHeartbeats 2000000
/-! what changes the state and leaves the dict of slot i -/
namespace UL
open PySem PySem.Spec PyProof.Rows L2 LV
section
variable {κ : String → Addr} {γ : Gh} {ρ : Bool} {fx : Nat → Bool} {K : PySem.W.Frag} {E : XK}
def isDs (env : Env) (i : Nat) : Prop := ∃ ks ws, env[i]? = some (some (.d ks ws))
def Stay (σ : L2.St) (i : Nat) (H H' : Hp) : Prop := ∀ a o, σ[i]? = some (some (.ref a)) → H a = some o → H' a = some o
structure SimEi (κ : String → Addr) (γ : Gh) (i : Nat) (t : TE) (m : M U) : Prop where
  run : ∀ {σ : L2.St} {S H : Hp} {F : List Addr} {env : Env}, Gd κ γ σ S H F env → isDs env i → ∀ {u : U} {env' : Env}, m env = some (u, env') → ∀ Q : VK,
    (∀ v S' H' F', Stp κ S H F S' H' F' → Gd κ γ σ S' H' F' env' → env'[i]? = env[i]? → Stay σ i H H' → Rep κ S' u v → Q v H') → t σ H Q
structure SimAi (κ : String → Addr) (γ : Gh) (i n : Nat) (t : TA) (m : M (List U)) : Prop where
  len : ∀ {env us env'}, m env = some (us, env') → us.length = n
  run : ∀ {σ : L2.St} {S H : Hp} {F : List Addr} {env : Env}, Gd κ γ σ S H F env → isDs env i → ∀ {us : List U} {env' : Env}, m env = some (us, env') → ∀ Q : List V → Hp → Prop,
    (∀ vs S' H' F', Stp κ S H F S' H' F' → Gd κ γ σ S' H' F' env' → env'[i]? = env[i]? → Stay σ i H H' → Reps κ S' us vs → Q vs H') → t σ H Q
variable {i : Nat}
theorem Stay.trans {σ : L2.St} {H H1 H2 : Hp} (a : Stay σ i H H1) (b : Stay σ i H1 H2) : Stay σ i H H2 := fun x o h1 h2 => b x o h1 (a x o h1 h2)
theorem isDs.eq {env env' : Env} (h : isDs env i) (e : env'[i]? = env[i]?) : isDs env' i := by
  obtain ⟨ks, ws, h⟩ := h
  exact ⟨ks, ws, e.trans h⟩
/-- p['k'].append(e), e may change the state -/
def mAppD (i : Nat) (f : Str) (me : M U) : M U := fun env => (plK f (plV i) env).bind fun _ => (getE env i [.k f]).bind fun w => (isLs w).bind fun _ => (me env).bind fun y => (getE y.2 i [.k f]).bind fun w => (isLs w).bind fun ws => if ws.length < sizeLine then some (.non, putE y.2 i [.k f] (.l (ws ++ [.p y.1]))) else none
end
end UL
set_option Elab.async false
set_option linter.all false
set_option maxRecDepth 100000
set_option maxHeartbeats 2000000
/-! sorted of whole numbers -/
namespace UL
open PySem PySem.Spec PyProof.Rows L2 LV
section
variable {κ : String → Addr} {X : Cx}
end
section
variable {κ : String → Addr} {γ : Gh} {K : PySem.W.Frag} {S H : Hp}
end
end UL
set_option Elab.async false
set_option linter.all false
set_option maxRecDepth 100000
set_option maxHeartbeats 2000000
/-! methods that hand back what is owned, and may raise -/
namespace UL
open PySem PySem.Spec PyProof.Rows L2 LV
section
variable {κ : String → Addr} {γ : Gh} {ρ : Bool} {E : XK}
def xdO (o : HO) : Prop := ∃ ps, o = .xd ps
mutual
theorem RepO.foot3 {S H : Hp} : ∀ (w : Ow) {v : V} {F : List Addr}, RepO κ S H w v F → ∀ a ∈ F, ∃ o, H a = some o ∧ ¬ xdO o
  | .p u, _, _, h => by
    obtain ⟨rfl, _⟩ := h
    exact fun a ha => by simp at ha
  | .l ws, _, _, h => by
    obtain ⟨a, vs, F', h1, h2, rfl, h4⟩ := h
    intro b hb
    rcases List.mem_cons.mp hb with rfl | hb
    · exact ⟨_, h2, fun ⟨_, z⟩ => by cases z⟩
    · exact RepOs.foot3 ws h4 b hb
  | .o _ _ ws, _, _, h => by
    obtain ⟨a, dx, vs, F', h1, h2, h3, _, rfl, h4⟩ := h
    intro b hb
    rcases List.mem_cons.mp hb with rfl | hb
    · exact ⟨_, h2, fun ⟨_, z⟩ => by cases z⟩
    · exact RepOs.foot3 ws h4 b hb
  | .d _ ws, _, _, h => by
    obtain ⟨a, vs, F', h1, h2, _, rfl, h4⟩ := h
    intro b hb
    rcases List.mem_cons.mp hb with rfl | hb
    · exact ⟨_, h2, fun ⟨_, z⟩ => by cases z⟩
    · exact RepOs.foot3 ws h4 b hb
theorem RepOs.foot3 {S H : Hp} : ∀ (ws : List Ow) {vs : List V} {F : List Addr}, RepOs κ S H ws vs F → ∀ a ∈ F, ∃ o, H a = some o ∧ ¬ xdO o
  | [], _, _, h => by
    obtain ⟨_, rfl⟩ := h
    exact fun a ha => by simp at ha
  | w :: ws, _, _, h => by
    obtain ⟨v, vs', F1, F2, h1, rfl, h3, h4⟩ := h
    intro b hb
    rcases List.mem_append.mp hb with hb | hb
    · exact RepO.foot3 w h3 b hb
    · exact RepOs.foot3 ws h4 b hb
end
theorem ErOk.less {S S' : Hp} {e : Er} {cls : Value} {d : Option Addr} (lk : ∀ a o, S a = some o → (TX κ o ∨ xdO o) → S' a = some o) (ht : tO e.u = true) (h : ErOk κ S e cls d) : ErOk κ S' e cls d := by
  refine ⟨h.1, ?_⟩
  have h2 := h.2
  split at h2
  · exact h2
  · obtain ⟨dd, v, h3, h4, h5⟩ := h2
    exact ⟨dd, v, h3, lk _ _ h4 (.inr ⟨_, rfl⟩), Rep.less (fun a o ha t => lk a o ha (.inl t)) e.u ht h5⟩
end
end UL
set_option Elab.async false
set_option linter.all false
set_option maxRecDepth 100000
set_option maxHeartbeats 2000000
/-! len of an instance with an own __len__ -/
namespace UL
open PySem PySem.Spec PyProof.Rows L2 LV PySem.F
end UL
set_option Elab.async false
set_option linter.all false
set_option maxRecDepth 100000
set_option maxHeartbeats 4000000
namespace LW
open PySem PySem.Spec PyProof.Rows L2 LV
def top (i : Nat) : Stmt := PySem.Challenge.pw_surelevels_k04_number_texts.main.body.getD i (.Pass ⟨0, 0, 0, 0⟩)
end LW
namespace LM
/-! fractions as pairs -/
def rwh (o u : Int) : Int := if u < 0 then -(o.gcd u : Int) else (o.gcd u : Int)
def rO (o u : Int) : Int := o.fdiv (rwh o u)
def rD (o u : Int) : Int := u.fdiv (rwh o u)
def Red (o u : Int) : Prop := 0 < u ∧ o.gcd u = 1
theorem gcd_step (a b : Int) : b.gcd (a.fmod b) = a.gcd b := by
  have h : a.fmod b = a + (-(a.fdiv b)) * b := by
    have := Int.mul_fdiv_add_fmod a b
    have e : a.fdiv b * b = b * a.fdiv b := Int.mul_comm _ _
    rw [Int.neg_mul, e]
    omega
  rw [h, Int.gcd_add_mul_right_right, Int.gcd_comm]
theorem fmod_lt (a b : Int) (h : b ≠ 0) : (a.fmod b).natAbs < b.natAbs := by
  rcases Int.lt_or_gt_of_ne h with h1 | h1
  · have q1 : b < a.fmod b := by
      have := Int.fmod_eq_emod (a := a) (b := b)
      have e1 := Int.emod_nonneg a h
      have e2 := Int.emod_lt_of_neg a h1
      by_cases hd : 0 ≤ b ∨ b ∣ a
      · rw [if_pos hd] at this
        omega
      · rw [if_neg hd] at this
        have e3 : a % b ≠ 0 := fun z => hd (.inr (Int.dvd_of_emod_eq_zero z))
        omega
    have q2 : a.fmod b ≤ 0 := by
      have := Int.fmod_eq_emod (a := a) (b := b)
      have e2 := Int.emod_lt_of_neg a h1
      by_cases hd : 0 ≤ b ∨ b ∣ a
      · rw [if_pos hd] at this
        have e3 : a % b = 0 := Int.emod_eq_zero_of_dvd (hd.resolve_left (by omega))
        omega
      · rw [if_neg hd] at this
        omega
    omega
  · have q1 := Int.fmod_nonneg_of_pos a h1
    have q2 := Int.fmod_lt_of_pos a h1
    omega
theorem gcd_pos {o u : Int} (h : u ≠ 0) : 0 < o.gcd u := Int.gcd_pos_of_ne_zero_right o h
theorem rwh_ne {o u : Int} (h : u ≠ 0) : rwh o u ≠ 0 := by
  have := gcd_pos (o := o) h
  unfold rwh
  split <;> omega
theorem rwh_dvd_o (o u : Int) : rwh o u ∣ o := by
  unfold rwh
  split
  · exact Int.neg_dvd.mpr (Int.gcd_dvd_left o u)
  · exact Int.gcd_dvd_left o u
theorem rwh_dvd_u (o u : Int) : rwh o u ∣ u := by
  unfold rwh
  split
  · exact Int.neg_dvd.mpr (Int.gcd_dvd_right o u)
  · exact Int.gcd_dvd_right o u
theorem fdiv_dvd {a b : Int} (h : b ∣ a) : a.fdiv b = a / b := by
  rw [Int.fdiv_eq_ediv_of_dvd h]
theorem rO_mul (o u : Int) : rO o u * rwh o u = o := by
  unfold rO
  rw [fdiv_dvd (rwh_dvd_o o u)]
  exact Int.ediv_mul_cancel (rwh_dvd_o o u)
theorem rD_mul (o u : Int) : rD o u * rwh o u = u := by
  unfold rD
  rw [fdiv_dvd (rwh_dvd_u o u)]
  exact Int.ediv_mul_cancel (rwh_dvd_u o u)
/-- what such a pair is, it is by these -/
theorem red_unique {o u x y w : Int} (hu : u ≠ 0) (hr : Red x y) (h1 : x * w = o) (h2 : y * w = u) : rO o u = x ∧ rD o u = y := by
  have hw : w ≠ 0 := fun z => by
    rw [z, Int.mul_zero] at h2
    omega
  have hg : o.gcd u = w.natAbs := by
    rw [← h1, ← h2, Int.gcd_mul_right, hr.2, Nat.one_mul]
  have hs : rwh o u = w := by
    unfold rwh
    rw [hg]
    have hy := hr.1
    by_cases hneg : w < 0
    · have : u < 0 := by
        rw [← h2]
        exact Int.mul_neg_of_pos_of_neg hy hneg
      rw [if_pos this]
      omega
    · have : ¬ u < 0 := by
        have : 0 < y * w := Int.mul_pos hy (by omega)
        omega
      rw [if_neg this]
      omega
  unfold rO rD
  rw [hs]
  constructor
  · rw [← h1]
    exact Int.mul_fdiv_cancel x hw
  · rw [← h2]
    exact Int.mul_fdiv_cancel y hw
theorem red_of {o u : Int} (hu : u ≠ 0) : Red (rO o u) (rD o u) := by
  have hg := gcd_pos (o := o) hu
  have e := Int.gcd_ediv_gcd_ediv_gcd (i := o) (j := u) hg
  have hgd := Int.gcd_dvd_right o u
  unfold rO rD
  rw [fdiv_dvd (rwh_dvd_o o u), fdiv_dvd (rwh_dvd_u o u)]
  by_cases hneg : u < 0
  · have hw : rwh o u = -(o.gcd u : Int) := by
      unfold rwh
      rw [if_pos hneg]
    rw [hw, Int.ediv_neg, Int.ediv_neg]
    refine ⟨?_, ?_⟩
    · have : u / (o.gcd u : Int) < 0 := Int.ediv_neg_of_neg_of_pos hneg (by omega)
      omega
    · rw [Int.gcd_neg, Int.neg_gcd]
      exact e
  · have hw : rwh o u = (o.gcd u : Int) := by
      unfold rwh
      rw [if_neg hneg]
    rw [hw]
    refine ⟨?_, e⟩
    exact Int.ediv_pos_of_pos_of_dvd (by omega) (by omega) hgd
theorem red_self {o u : Int} (h : Red o u) : rO o u = o ∧ rD o u = u :=
  red_unique (w := 1) (by have := h.1; omega) h (Int.mul_one o) (Int.mul_one u)
theorem red_scale {o u s : Int} (h : Red o u) (hs : s ≠ 0) : rO (o * s) (u * s) = o ∧ rD (o * s) (u * s) = u :=
  red_unique (w := s) (by
    have := h.1
    exact Int.mul_ne_zero (by omega) hs) h rfl rfl
theorem red_one (o : Int) : Red o 1 := ⟨by decide, by simp⟩
/-! bounds -/
theorem abs_rO {o u : Int} (hu : u ≠ 0) : (rO o u).natAbs ≤ o.natAbs := by
  have e := rO_mul o u
  have hw := rwh_ne (o := o) hu
  have : (rO o u).natAbs * (rwh o u).natAbs = o.natAbs := by rw [← Int.natAbs_mul, e]
  have hp : 0 < (rwh o u).natAbs := by omega
  rw [← this]
  exact Nat.le_mul_of_pos_right _ hp
theorem abs_rD {o u : Int} (hu : u ≠ 0) : (rD o u).natAbs ≤ u.natAbs := by
  have e := rD_mul o u
  have hw := rwh_ne (o := o) hu
  have : (rD o u).natAbs * (rwh o u).natAbs = u.natAbs := by rw [← Int.natAbs_mul, e]
  have hp : 0 < (rwh o u).natAbs := by omega
  rw [← this]
  exact Nat.le_mul_of_pos_right _ hp
theorem abs_rwh {o u : Int} (hu : u ≠ 0) : (rwh o u).natAbs ≤ u.natAbs := by
  have e := rD_mul o u
  have hw : rD o u ≠ 0 := by
    have := (red_of (o := o) hu).1
    omega
  have : (rD o u).natAbs * (rwh o u).natAbs = u.natAbs := by rw [← Int.natAbs_mul, e]
  have hp : 0 < (rD o u).natAbs := by omega
  rw [← this]
  exact Nat.le_mul_of_pos_left _ hp
end LM
set_option Elab.async false
set_option linter.all false
set_option maxRecDepth 100000
set_option maxHeartbeats 4000000
namespace LW
open PySem PySem.Spec PyProof.Rows L2 LV LM
/-! the class Exact -/
structure XC (K : PySem.W.Frag) (mg : Str → Option Value) (C : Addr) : Prop extends Bt mg where
  cl : Cls K C
  nO : NoAttr K C "over"
  nU : NoAttr K C "under"
  own : OwnC K C
  mgC : mg "Exact" = some (.ref C)
  ha : PySem.W.findIn K (.ref C) "__class__" = some (some (.builtin "object.__class__"))
  hn : PySem.W.specialIn K (.builtin "object.__class__") "__get__" = some (some (.builtin "getset_descriptor.__get__"))
  htk : PySem.W.takesIn K (.builtin "object.__class__") = some true
  hm : PySem.W.mroIn K C (.type "object") = some true
  kXI : PySem.W.kitOne K (.ref C) (.type "int") = some false
  kXB : PySem.W.kitOne K (.ref C) (.type "bool") = some false
  kXL : PySem.W.kitOne K (.ref C) (.type "list") = some false
  kXT : PySem.W.kitOne K (.ref C) (.type "tuple") = some false
  kIX : PySem.W.kitOne K (.type "int") (.ref C) = some false
  kLX : PySem.W.kitOne K (.type "list") (.ref C) = some false
  kTX : PySem.W.kitOne K (.type "tuple") (.ref C) = some false
  f_radd : ∃ g, PySem.W.findIn K (.ref C) "__radd__" = some (some (.ref g))
  f_rsub : ∃ g, PySem.W.findIn K (.ref C) "__rsub__" = some (some (.ref g))
  f_rmul : ∃ g, PySem.W.findIn K (.ref C) "__rmul__" = some (some (.ref g))
def exF (o u : Int) : List (Str × V) := [("over", .int o), ("under", .int u)]
/-- v is an Exact over o under u -/
def IsX (C : Addr) (H : Hp) (v : V) (o u : Int) : Prop := ∃ x dx, v = .ref x ∧ H x = some (.ins C dx (exF o u))
theorem IsX.same {C : Addr} {H H1 : Hp} {v : V} {o u : Int} (e : Same H H1) (h : IsX C H v o u) : IsX C H1 v o u := by
  obtain ⟨x, dx, rfl, h⟩ := h
  exact ⟨x, dx, rfl, e _ _ h⟩
theorem IsX.but {K : PySem.W.Frag} {a C : Addr} {H H1 : Hp} {v : V} {o u : Int} (e : Bus a H H1) (s : Stt K H a) (h : IsX C H v o u) : IsX C H1 v o u := by
  obtain ⟨x, dx, rfl, h⟩ := h
  exact ⟨x, dx, rfl, e.get s h rfl⟩
/-- v is a number: an int or an Exact -/
def IsN (C : Addr) (H : Hp) (v : V) (o u : Int) : Prop := (v = .int o ∧ u = 1) ∨ IsX C H v o u
theorem IsN.same {C : Addr} {H H1 : Hp} {v : V} {o u : Int} (e : Same H H1) (h : IsN C H v o u) : IsN C H1 v o u := h.imp id (IsX.same e)
theorem IsN.num {C : Addr} {H : Hp} {v : V} {o u : Int} (h : IsN C H v o u) : NumV C H v := by
  rcases h with ⟨rfl, _⟩ | ⟨x, dx, rfl, h⟩
  · exact .inl ⟨_, rfl⟩
  · exact .inr ⟨x, dx, _, rfl, h⟩
abbrev Big (i : Int) : Prop := i.natAbs < 2 ^ 8500
theorem big_ne {i : Int} (h : Big i) : i.natAbs.log2 < 9000 := Nat.lt_of_lt_of_le (PySem.Flt.log2_lt_of (by decide) h) (by decide)
theorem mulB {i j : Int} (h : Big i) (h' : Big j) : IntMulOk i j := (wide_mul h h' (by decide) (by decide) (by decide)).ok
abbrev Sm (i : Int) : Prop := i.natAbs < 2 ^ 4000
theorem Sm.big {i : Int} (h : Sm i) : Big i := Nat.lt_of_lt_of_le h (Nat.pow_le_pow_right (by decide) (by decide))
theorem smul {i j : Int} (h : Sm i) (h' : Sm j) : IntMulOk i j := mulB h.big h'.big
theorem big_mul {i j : Int} (h : Sm i) (h' : Sm j) : Big (i * j) := by
  have q := wide_lt h h'
  exact Nat.lt_of_lt_of_le q (Nat.pow_le_pow_right (by decide) (by decide))
theorem kII (K : PySem.W.Frag) : PySem.W.kitOne K (.type "int") (.type "int") = some true := rfl
theorem kIB (K : PySem.W.Frag) : PySem.W.kitOne K (.type "int") (.type "bool") = some false := by kernel_rfl
section
variable {P : Program} {w : World} {K : PySem.W.Frag} {mg : Str → Option Value} {base : Heap} {C : Addr}
/-! is_integer -/
def spInt (K : PySem.W.Frag) : Sp := fun vs H Q _ => ∃ (v : V) (t : Value) (b c : Bool), vs = [v] ∧ TyX K H v t ∧ PySem.W.kitOne K t (.type "int") = some b ∧ PySem.W.kitOne K t (.type "bool") = some c ∧ Q (.bl (b && !c)) H
abbrev s_is_integer : Stmt := top 17
abbrev N_is_integer : List Str := ["thing"]
theorem sc_is_integer : FnScope N_is_integer ["thing"] (defScope s_is_integer) := ⟨rfl, rfl, rfl, by decide +kernel, rfl, by decide +kernel, by decide +kernel⟩
theorem ok_is_integer {f : Addr} {fd : FuncData} (F : FunD K "is_integer" "is_integer" (defArgs s_is_integer) (defBody s_is_integer) (defScope s_is_integer) [] [] f fd) (T : Bt mg) : FnOk P w K mg base CX0 1 f fd ["thing"] (spInt K) := by
  refine F.ok sc_is_integer (fun vs H Q E h => ?_) (fun cdv A outer s H vs Q E hr h => ?_)
  · obtain ⟨v, t, b, c, rfl, ht, hb, hc, k⟩ := h
    rfl
  · obtain ⟨v, t, b, c, rfl, ht, hb, hc, k⟩ := h
    refine ⟨_, PSs.nox (pss_one (ps_ret (pe_and (pe_callB call_isi rfl T.isinstance (by decide +kernel) (pa_cons (pv 0) (pa_cons (pe_bltn (v := .ty "int") rfl T.int (by decide +kernel) rfl) pa_nil))) (pe_one (pe_not (pe_callB call_isi rfl T.isinstance (by decide +kernel) (pa_cons (pv 0) (pa_cons (pe_bltn (v := .ty "bool") rfl T.bool (by decide +kernel) rfl) pa_nil)))))))), ?_⟩
    refine ⟨_, rfl, _, _, t, _, b, rfl, .ty "int", ht, hb, b, rfl, ?_⟩
    cases b with
    | false => exact k
    | true => exact ⟨_, rfl, _, _, t, _, c, rfl, .ty "bool", ht, hc, c, rfl, k⟩
/-! common -/
def spGcd : Sp := fun vs H Q _ => ∃ a b : Int, vs = [.int a, .int b] ∧ Q (.int (a.gcd b : Int)) H
abbrev s_common : Stmt := top 19
abbrev N_common : List Str := ["a", "b"]
theorem sc_common : FnScope N_common ["a", "b"] (defScope s_common) := ⟨rfl, rfl, rfl, by decide +kernel, rfl, by decide +kernel, by decide +kernel⟩
theorem ok_common {f : Addr} {fd : FuncData} (F : FunD K "common" "common" (defArgs s_common) (defBody s_common) (defScope s_common) [] [] f fd) (T : Bt mg) : FnOk P w K mg base CX0 1 f fd ["a", "b"] spGcd := by
  refine F.ok sc_common (fun vs H Q E h => ?_) (fun cdv A outer s H vs Q E hr h => ?_)
  · obtain ⟨a, b, rfl, k⟩ := h
    rfl
  · obtain ⟨a, b, rfl, k⟩ := h
    refine ⟨_, PSs.nox (pss_cons (ps_while PassesOwn.never (pt_cmpR op_ne (pv 1) pe_int (nomark _)) (pss_one (ps_par (i := 0) (j := 1) rfl sc_common.nd rfl rfl (by decide) rfl rfl (pa_cons (pv 1) (pa_cons (pe_op op_modN (pv 0) (pv 1)) pa_nil)) rfl)))
      (pss_one (ps_ret (pe_ifExp (pt_cmpR op_gt (pv 0) pe_int (nomark _)) (pv 0) (pe_un un_neg (pv 0)))))), ?_⟩
    refine ⟨fun m σ H' => ∃ x y : Int, σ = [some (.int x), some (.int y)] ∧ H' = H ∧ m = y.natAbs ∧ x.gcd y = a.gcd b, ⟨_, a, b, rfl, rfl, rfl, rfl⟩, ?_⟩
    rintro m σ H' ⟨x, y, rfl, rfl, rfl, hg⟩
    refine ⟨_, rfl, rfl, _, rfl, ?_⟩
    by_cases hy : y = 0
    · subst hy
      refine iteF ?_
      rw [Int.gcd_zero_right] at hg
      refine ⟨_, rfl, _, _, rfl, rfl, _, rfl, ?_⟩
      refine ite2 (fun hc => ?_) (fun hc => ?_)
      · have h0 : 0 < x := of_decide_eq_true hc
        refine ⟨_, rfl, ?_⟩
        have e : x = (a.gcd b : Int) := by omega
        rw [e]
        exact k
      · have h0 : ¬ 0 < x := fun z => hc (decide_eq_true z)
        refine ⟨_, rfl, _, rfl, ?_⟩
        have e : -x = (a.gcd b : Int) := by omega
        show Q (.int (-x)) _
        rw [e]
        exact k
    · have e : (!decide (V.int y = V.int 0)) = true := by simp [hy]
      rw [e]
      refine iteT ⟨fun σ' H'' => σ' = [some (.int y), some (.int (x.fmod y))] ∧ H'' = H', fun σ' H'' ⟨h1, h2⟩ => ⟨_, fmod_lt x y hy, y, _, h1, h2, rfl, (gcd_step x y).trans hg⟩, ?_⟩
      exact ⟨_, rfl, _, rfl, _, rfl, _, _, rfl, rfl, hy, _, _, rfl, rfl, rfl⟩
/-! Exact(over, under) -/
def spInit (C : Addr) : Sp := fun vs H Q _ => ∃ (p dx : Addr) (o u : Int), vs = [.ref p, .int o, .int u] ∧ H p = some (.ins C dx []) ∧ u ≠ 0 ∧ Big u ∧ ∀ H', But p H H' → H' p = some (.ins C dx (exF (rO o u) (rD o u))) → Q .non H'
abbrev s_Exact___init__ : Stmt := inClass (top 23) 0
abbrev N_Exact___init__ : List Str := ["self", "over", "under", "part", "whole"]
theorem sc_Exact___init__ : FnScope N_Exact___init__ ["self", "over", "under"] (defScope s_Exact___init__) := ⟨rfl, rfl, rfl, by decide +kernel, rfl, by decide +kernel, by decide +kernel⟩
theorem ok_Exact___init__ {f : Addr} {fd : FuncData} (F : FunD K "__init__" "Exact.__init__" (defArgs s_Exact___init__) (defBody s_Exact___init__) (defScope s_Exact___init__) [.int 1] [] f fd) (T : XC K mg C) (c_is_integer : C8.Cal P w K mg base 1 "is_integer" (spInt K) []) (c_common : C8.Cal P w K mg base 1 "common" spGcd []) : FnOk P w K mg base CX0 2 f fd ["self", "over", "under"] (spInit C) := by
  refine F.ok sc_Exact___init__ (fun vs H Q E h => ?_) (fun cdv A outer s H vs Q E hr h => ?_)
  · obtain ⟨p, dx, o, u, rfl, hp, hu, hub, k⟩ := h
    rfl
  · obtain ⟨p, dx, o, u, rfl, hp, hu, hub, k⟩ := h
    refine ⟨_, PSs.nox (pss_cons (ps_for PassesOwn.never rfl (pi_tup (pe_tup (pa_cons (pv 1) (pa_cons (pv 2) pa_nil)))) (pg_name (i := 3) sc_Exact___init__.nd rfl (Or.inl rfl)) (pss_one (ps_if (pt_not (pt_val (C8.pe_c c_is_integer hr (by decide) rfl (pa_cons (pv 3) pa_nil)))) (pss_one ps_never) pss_nil)))
      (pss_cons (ps_if (pt_cmpR op_eq (pv 2) pe_int (nomark _)) (pss_one ps_never) pss_nil)
      (pss_cons (ps_set (i := 4) sc_Exact___init__.nd rfl (Or.inl rfl) (C8.pe_c c_common hr (by decide) rfl (pa_cons (pv 1) (pa_cons (pv 2) pa_nil))))
      (Evl.pss_cut (ps_if (pt_cmpR op_lt (pv 2) pe_int (nomark _)) (pss_one (ps_set (i := 4) sc_Exact___init__.nd rfl (Or.inl rfl) (pe_un un_neg (pv 4)))) pss_nil)
      (pss_cons (ps_fld (pv 0) (pe_op op_fdivG (pv 1) (pv 4)) rfl)
      (pss_one (ps_fld (pv 0) (pe_op op_fdivG (pv 2) (pv 4)) rfl))))))), ?_⟩
    refine ⟨_, rfl, _, rfl, by show 2 ≤ sizeLine; decide, fun t n1 => ?_⟩
    generalize q1 : upd H t _ = H1
    have h1 := nAt q1
    have e1 := nSm q1 n1
    refine ⟨t, rfl, ⟨_, SqT.of h1⟩, ?_⟩
    refine for_it (walk_tup (xs := [.int o, .int u])) (fun i σ H2 => ∃ x, σ = [some (.ref p), some (.int o), some (.int u), x, none] ∧ H2 = H1) ⟨_, rfl, rfl⟩ (fun i σ H2 _ ⟨_, _, e⟩ => by rw [e]; exact SqT.of h1) ?_ ?_
    · rintro i x σ H2 H3 hi ⟨x3, rfl, rfl⟩ ⟨rfl, hx⟩
      obtain ⟨z, rfl⟩ : ∃ z, x = .int z := by
        rcases i with _ | _ | i
        · exact ⟨_, (Option.some.inj hx).symm⟩
        · exact ⟨_, (Option.some.inj hx).symm⟩
        · exact absurd hi (by simp)
      exact ⟨_, rfl, _, _, true, false, rfl, .base (.int z), kII K, kIB K, _, rfl, iteF ⟨_, rfl, rfl⟩⟩
    rintro σ H2 ⟨x3, rfl, rfl⟩
    refine ⟨_, rfl, rfl, _, rfl, ?_⟩
    have e0 : decide (V.int u = V.int 0) = false := by simp [hu]
    rw [e0]
    refine iteF ⟨_, rfl, _, rfl, o, u, rfl, ?_⟩
    refine ⟨fun σ H3 => σ = [some (.ref p), some (.int o), some (.int u), x3, some (.int (rwh o u))] ∧ H3 = H2, ?_, ?_⟩
    · refine ⟨_, rfl, _, _, rfl, rfl, _, rfl, ?_⟩
      refine ite2 (fun hc => ?_) (fun hc => ?_)
      · have h0 : u < 0 := of_decide_eq_true hc
        refine ⟨_, rfl, _, rfl, ?_, rfl⟩
        have e : rwh o u = -(o.gcd u : Int) := by unfold rwh; rw [if_pos h0]
        rw [e]
        rfl
      · have h0 : ¬ u < 0 := fun z => hc (decide_eq_true z)
        refine ⟨?_, rfl⟩
        have e : rwh o u = (o.gcd u : Int) := by unfold rwh; rw [if_neg h0]
        rw [e]
        rfl
    rintro σ H3 ⟨rfl, rfl⟩
    have hw : rwh o u ≠ 0 ∧ (rwh o u).natAbs.log2 < 9000 := ⟨rwh_ne hu, big_ne (Nat.lt_of_le_of_lt (abs_rwh hu) hub)⟩
    have hp1 := e1 _ _ hp
    refine ⟨_, rfl, _, rfl, _, _, rfl, rfl, hw, _, rfl, p, C, dx, _, rfl, hp1, T.cl, T.nO, (by show 0 < 1000; decide), ?_⟩
    refine ⟨_, rfl, _, rfl, _, _, rfl, rfl, hw, _, rfl, p, C, dx, _, rfl, upd_same, T.cl, T.nU, (by show 1 < 1000; decide), ?_⟩
    refine k _ ((Same.but e1).trans (((But.refl p _).upd).upd)) ?_
    rw [upd_same]
    rfl
/-- what Exact(o, u) makes -/
theorem mkX {H : Hp} {o u : Int} {Q : VK} {E : XK} (hu : u ≠ 0) (hub : Big u) (k : ∀ v H', Same H H' → IsX C H' v (rO o u) (rD o u) → Q v H') :
    ∀ x dx : Addr, H x = none → H dx = none → dx ≠ x → spInit C [.ref x, .int o, .int u] (upd (upd H dx (.own x)) x (.ins C dx [])) (fun v H2 => v = .non ∧ Q (.ref x) H2) E := by
  intro x dx nx nd ne
  refine ⟨x, dx, o, u, rfl, upd_same, hu, hub, fun H' e h => ⟨rfl, k _ _ (fun b ob hb => ?_) ⟨x, dx, rfl, h⟩⟩⟩
  have n1 := ne_of_none hb nx
  refine e b ob n1 ?_
  rw [upd_ne n1, upd_ne (ne_of_none hb nd)]
  exact hb
/-! part_of -/
def spPart (C : Addr) : Sp := fun vs H Q _ => ∃ (v : V) (o u : Int), vs = [v] ∧ IsN C H v o u ∧ ∀ v' H', Same H H' → IsX C H' v' o u → Q v' H'
theorem tyX {H : Hp} {x dx : Addr} {fs : List (Str × V)} (T : XC K mg C) (h : H x = some (.ins C dx fs)) : TyX K H (.ref x) (.ref C) := .base (.ins h T.cl T.ha T.hn T.htk T.hm)
theorem kXX (K : PySem.W.Frag) (C : Addr) : PySem.W.kitOne K (.ref C) (.ref C) = some true := by
  unfold PySem.W.kitOne
  rw [if_pos (by simp)]
abbrev s_part_of : Stmt := top 24
abbrev N_part_of : List Str := ["other"]
theorem sc_part_of : FnScope N_part_of ["other"] (defScope s_part_of) := ⟨rfl, rfl, rfl, by decide +kernel, rfl, by decide +kernel, by decide +kernel⟩
theorem ok_part_of {f : Addr} {fd : FuncData} (F : FunD K "part_of" "part_of" (defArgs s_part_of) (defBody s_part_of) (defScope s_part_of) [] [] f fd) (T : XC K mg C) (c_is_integer : C8.Cal P w K mg base 1 "is_integer" (spInt K) []) (c_Exact : C8.Mak P w K mg base 2 "Exact" C (spInit C) [.int 1]) : FnOk P w K mg base CX0 4 f fd ["other"] (spPart C) := by
  refine F.ok sc_part_of (fun vs H Q E h => ?_) (fun cdv A outer s H vs Q E hr h => ?_)
  · obtain ⟨v, o, u, rfl, hv, k⟩ := h
    rfl
  · obtain ⟨v, o, u, rfl, hv, k⟩ := h
    refine ⟨_, PSs.nox (pss_cons (ps_if (pt_val (pe_callB call_isi rfl T.isinstance (by decide +kernel) (pa_cons (pv 0) (pa_cons (pe_glob (v := .ref C) rfl T.mgC rfl) pa_nil)))) (pss_one (ps_ret (pv 0))) pss_nil)
      (pss_cons (ps_if (pt_not (pt_val (C8.pe_c c_is_integer hr (by decide) rfl (pa_cons (pv 0) pa_nil)))) (pss_one ps_never) pss_nil)
      (pss_one (ps_ret (C8.pe_mk c_Exact hr (by decide) rfl (pa_cons (pv 0) pa_nil)))))), ?_⟩
    rcases hv with ⟨rfl, rfl⟩ | ⟨x, dx, rfl, hx⟩
    · refine ⟨_, rfl, _, _, _, _, _, rfl, .own C, .base (.int o), T.kIX, false, rfl, iteF ?_⟩
      refine ⟨_, rfl, _, _, true, false, rfl, .base (.int o), kII K, kIB K, _, rfl, iteF ?_⟩
      refine ⟨_, rfl, fun x dx nx nd ne => mkX (by decide) (by decide) (fun v' H' e hx => k v' H' e ?_) x dx nx nd ne⟩
      obtain ⟨e1, e2⟩ := red_self (red_one o)
      rw [e1, e2] at hx
      exact hx
    · exact ⟨_, rfl, _, _, _, _, _, rfl, .own C, tyX T hx, kXX K C, true, rfl, iteT ⟨_, rfl, k _ _ (Same.refl H) ⟨x, dx, rfl, hx⟩⟩⟩
end
end LW
set_option Elab.async false
set_option linter.all false
set_option maxRecDepth 100000
set_option maxHeartbeats 4000000
namespace LW
open PySem PySem.Spec PyProof.Rows L2 LV LM
def spBin (C : Addr) (f g : Int → Int → Int → Int → Int) : Sp := fun vs H Q _ => ∃ (x y : V) (o u p q : Int), vs = [x, y] ∧ IsX C H x o u ∧ IsN C H y p q ∧ Sm o ∧ Sm u ∧ Sm p ∧ Sm q ∧ u ≠ 0 ∧ q ≠ 0 ∧
  ∀ v H', Same H H' → IsX C H' v (rO (f o u p q) (g o u p q)) (rD (f o u p q) (g o u p q)) → Q v H'
abbrev spAdd (C : Addr) : Sp := spBin C (fun o u p q => o * q + p * u) (fun _ u _ q => u * q)
abbrev spSub (C : Addr) : Sp := spBin C (fun o u p q => o * q - p * u) (fun _ u _ q => u * q)
abbrev spMul (C : Addr) : Sp := spBin C (fun o _ p _ => o * p) (fun _ u _ q => u * q)
abbrev spRadd (C : Addr) : Sp := spBin C (fun o u p q => p * u + o * q) (fun _ u _ q => q * u)
abbrev spRsub (C : Addr) : Sp := spBin C (fun o u p q => p * u - o * q) (fun _ u _ q => q * u)
abbrev spRmul (C : Addr) : Sp := spBin C (fun o _ p _ => p * o) (fun _ u _ q => q * u)
section
variable {P : Program} {w : World} {K : PySem.W.Frag} {mg : Str → Option Value} {base : Heap} {C : Addr}
abbrev s_Exact___add__ : Stmt := inClass (top 23) 1
abbrev N_Exact___add__ : List Str := ["self", "other", "b"]
theorem sc_Exact___add__ : FnScope N_Exact___add__ ["self", "other"] (defScope s_Exact___add__) := ⟨rfl, rfl, rfl, by decide +kernel, rfl, by decide +kernel, by decide +kernel⟩
theorem ok_Exact___add__ {f : Addr} {fd : FuncData} (F : FunD K "__add__" "Exact.__add__" (defArgs s_Exact___add__) (defBody s_Exact___add__) (defScope s_Exact___add__) [] [] f fd) (T : XC K mg C) (c_part_of : C8.Cal P w K mg base 4 "part_of" (spPart C) []) (c_Exact : C8.Mak P w K mg base 2 "Exact" C (spInit C) []) : FnOk P w K mg base CX0 5 f fd ["self", "other"] (spAdd C) := by
  refine F.ok sc_Exact___add__ (fun vs H Q E h => ?_) (fun cdv A outer s H vs Q E hr h => ?_)
  · obtain ⟨x, y, o, u, p, q, rfl, hx, hy, so, su, sp, sq, hu, hq, k⟩ := h
    rfl
  · obtain ⟨x, y, o, u, p, q, rfl, hx, hy, so, su, sp, sq, hu, hq, k⟩ := h
    refine ⟨_, PSs.nox (pss_cons (ps_set (i := 2) sc_Exact___add__.nd rfl (Or.inl rfl) (C8.pe_c c_part_of hr (by decide) rfl (pa_cons (pv 1) pa_nil)))
      (pss_one (ps_ret (C8.pe_mk c_Exact hr (by decide) rfl (pa_cons (pe_op op_add (pe_op op_mulG (pe_fld (pv 0) rfl) (pe_fld (pv 2) rfl)) (pe_op op_mulG (pe_fld (pv 2) rfl) (pe_fld (pv 0) rfl))) (pa_cons (pe_op op_mulG (pe_fld (pv 0) rfl) (pe_fld (pv 2) rfl)) pa_nil)))))), ?_⟩
    refine ⟨_, rfl, y, p, q, rfl, hy, fun b H1 e1 hb => ?_⟩
    obtain ⟨xa, xd, rfl, hx1⟩ := hx.same e1
    obtain ⟨ba, bd, rfl, hb⟩ := hb
    refine ⟨_, rfl, xa, C, xd, _, _, rfl, hx1, T.cl, T.nO, rfl, _, rfl, ba, C, bd, _, _, rfl, hb, T.cl, T.nU, rfl, _, _, rfl, rfl, smul so sq, _, rfl, ba, C, bd, _, _, rfl, hb, T.cl, T.nO, rfl, _, rfl, xa, C, xd, _, _, rfl, hx1, T.cl, T.nU, rfl, _, _, rfl, rfl, smul sp su, _, _, rfl, rfl, _, rfl, xa, C, xd, _, _, rfl, hx1, T.cl, T.nU, rfl, _, rfl, ba, C, bd, _, _, rfl, hb, T.cl, T.nU, rfl, _, _, rfl, rfl, smul su sq, fun n dn nx nd ne => mkX (Int.mul_ne_zero hu hq) (big_mul su sq) (fun v H' e hv => k v H' (e1.trans e) hv) n dn nx nd ne⟩
abbrev s_Exact___sub__ : Stmt := inClass (top 23) 3
abbrev N_Exact___sub__ : List Str := ["self", "other", "b"]
theorem sc_Exact___sub__ : FnScope N_Exact___sub__ ["self", "other"] (defScope s_Exact___sub__) := ⟨rfl, rfl, rfl, by decide +kernel, rfl, by decide +kernel, by decide +kernel⟩
theorem ok_Exact___sub__ {f : Addr} {fd : FuncData} (F : FunD K "__sub__" "Exact.__sub__" (defArgs s_Exact___sub__) (defBody s_Exact___sub__) (defScope s_Exact___sub__) [] [] f fd) (T : XC K mg C) (c_part_of : C8.Cal P w K mg base 4 "part_of" (spPart C) []) (c_Exact : C8.Mak P w K mg base 2 "Exact" C (spInit C) []) : FnOk P w K mg base CX0 5 f fd ["self", "other"] (spSub C) := by
  refine F.ok sc_Exact___sub__ (fun vs H Q E h => ?_) (fun cdv A outer s H vs Q E hr h => ?_)
  · obtain ⟨x, y, o, u, p, q, rfl, hx, hy, so, su, sp, sq, hu, hq, k⟩ := h
    rfl
  · obtain ⟨x, y, o, u, p, q, rfl, hx, hy, so, su, sp, sq, hu, hq, k⟩ := h
    refine ⟨_, PSs.nox (pss_cons (ps_set (i := 2) sc_Exact___sub__.nd rfl (Or.inl rfl) (C8.pe_c c_part_of hr (by decide) rfl (pa_cons (pv 1) pa_nil)))
      (pss_one (ps_ret (C8.pe_mk c_Exact hr (by decide) rfl (pa_cons (pe_op op_sub (pe_op op_mulG (pe_fld (pv 0) rfl) (pe_fld (pv 2) rfl)) (pe_op op_mulG (pe_fld (pv 2) rfl) (pe_fld (pv 0) rfl))) (pa_cons (pe_op op_mulG (pe_fld (pv 0) rfl) (pe_fld (pv 2) rfl)) pa_nil)))))), ?_⟩
    refine ⟨_, rfl, y, p, q, rfl, hy, fun b H1 e1 hb => ?_⟩
    obtain ⟨xa, xd, rfl, hx1⟩ := hx.same e1
    obtain ⟨ba, bd, rfl, hb⟩ := hb
    refine ⟨_, rfl, xa, C, xd, _, _, rfl, hx1, T.cl, T.nO, rfl, _, rfl, ba, C, bd, _, _, rfl, hb, T.cl, T.nU, rfl, _, _, rfl, rfl, smul so sq, _, rfl, ba, C, bd, _, _, rfl, hb, T.cl, T.nO, rfl, _, rfl, xa, C, xd, _, _, rfl, hx1, T.cl, T.nU, rfl, _, _, rfl, rfl, smul sp su, _, _, rfl, rfl, _, rfl, xa, C, xd, _, _, rfl, hx1, T.cl, T.nU, rfl, _, rfl, ba, C, bd, _, _, rfl, hb, T.cl, T.nU, rfl, _, _, rfl, rfl, smul su sq, fun n dn nx nd ne => mkX (Int.mul_ne_zero hu hq) (big_mul su sq) (fun v H' e hv => k v H' (e1.trans e) hv) n dn nx nd ne⟩
abbrev s_Exact___mul__ : Stmt := inClass (top 23) 5
abbrev N_Exact___mul__ : List Str := ["self", "other", "b"]
theorem sc_Exact___mul__ : FnScope N_Exact___mul__ ["self", "other"] (defScope s_Exact___mul__) := ⟨rfl, rfl, rfl, by decide +kernel, rfl, by decide +kernel, by decide +kernel⟩
theorem ok_Exact___mul__ {f : Addr} {fd : FuncData} (F : FunD K "__mul__" "Exact.__mul__" (defArgs s_Exact___mul__) (defBody s_Exact___mul__) (defScope s_Exact___mul__) [] [] f fd) (T : XC K mg C) (c_part_of : C8.Cal P w K mg base 4 "part_of" (spPart C) []) (c_Exact : C8.Mak P w K mg base 2 "Exact" C (spInit C) []) : FnOk P w K mg base CX0 5 f fd ["self", "other"] (spMul C) := by
  refine F.ok sc_Exact___mul__ (fun vs H Q E h => ?_) (fun cdv A outer s H vs Q E hr h => ?_)
  · obtain ⟨x, y, o, u, p, q, rfl, hx, hy, so, su, sp, sq, hu, hq, k⟩ := h
    rfl
  · obtain ⟨x, y, o, u, p, q, rfl, hx, hy, so, su, sp, sq, hu, hq, k⟩ := h
    refine ⟨_, PSs.nox (pss_cons (ps_set (i := 2) sc_Exact___mul__.nd rfl (Or.inl rfl) (C8.pe_c c_part_of hr (by decide) rfl (pa_cons (pv 1) pa_nil)))
      (pss_one (ps_ret (C8.pe_mk c_Exact hr (by decide) rfl (pa_cons (pe_op op_mulG (pe_fld (pv 0) rfl) (pe_fld (pv 2) rfl)) (pa_cons (pe_op op_mulG (pe_fld (pv 0) rfl) (pe_fld (pv 2) rfl)) pa_nil)))))), ?_⟩
    refine ⟨_, rfl, y, p, q, rfl, hy, fun b H1 e1 hb => ?_⟩
    obtain ⟨xa, xd, rfl, hx1⟩ := hx.same e1
    obtain ⟨ba, bd, rfl, hb⟩ := hb
    refine ⟨_, rfl, xa, C, xd, _, _, rfl, hx1, T.cl, T.nO, rfl, _, rfl, ba, C, bd, _, _, rfl, hb, T.cl, T.nO, rfl, _, _, rfl, rfl, smul so sp, _, rfl, xa, C, xd, _, _, rfl, hx1, T.cl, T.nU, rfl, _, rfl, ba, C, bd, _, _, rfl, hb, T.cl, T.nU, rfl, _, _, rfl, rfl, smul su sq, fun n dn nx nd ne => mkX (Int.mul_ne_zero hu hq) (big_mul su sq) (fun v H' e hv => k v H' (e1.trans e) hv) n dn nx nd ne⟩
abbrev s_Exact___radd__ : Stmt := inClass (top 23) 2
abbrev N_Exact___radd__ : List Str := ["self", "other"]
theorem sc_Exact___radd__ : FnScope N_Exact___radd__ ["self", "other"] (defScope s_Exact___radd__) := ⟨rfl, rfl, rfl, by decide +kernel, rfl, by decide +kernel, by decide +kernel⟩
theorem ok_Exact___radd__ {f : Addr} {fd : FuncData} (F : FunD K "__radd__" "Exact.__radd__" (defArgs s_Exact___radd__) (defBody s_Exact___radd__) (defScope s_Exact___radd__) [] [] f fd) (T : XC K mg C) (c_part_of : C8.Cal P w K mg base 4 "part_of" (spPart C) []) (m__add__ : ∀ X : Cx, X.prog = P → X.w = w → X.K = K → X.mg = mg → X.base = base → OwnM X 5 C "__add__" (spAdd C)) : FnOk P w K mg base CX0 6 f fd ["self", "other"] (spRadd C) := by
  refine F.ok sc_Exact___radd__ (fun vs H Q E h => ?_) (fun cdv A outer s H vs Q E hr h => ?_)
  · obtain ⟨x, y, o, u, p, q, rfl, hx, hy, so, su, sp, sq, hu, hq, k⟩ := h
    rfl
  · obtain ⟨x, y, o, u, p, q, rfl, hx, hy, so, su, sp, sq, hu, hq, k⟩ := h
    refine ⟨_, PSs.nox (pss_one (ps_ret (pe_op (op_addL (m__add__ _ rfl rfl rfl rfl rfl) T.f_radd.choose_spec T.own (hr.mono (by decide))) (C8.pe_c c_part_of hr (by decide) rfl (pa_cons (pv 1) pa_nil)) (pv 0)))), ?_⟩
    refine ⟨_, rfl, y, p, q, rfl, hy, fun b H1 e1 hb => ?_⟩
    obtain ⟨ba, bd, rfl, hb⟩ := hb
    exact ⟨_, rfl, ba, bd, _, rfl, hb, (IsN.num (.inr (hx.same e1))), _, _, p, q, o, u, rfl, ⟨ba, bd, rfl, hb⟩, .inr (hx.same e1), sp, sq, so, su, hq, hu, fun v H' e hv => k v H' (e1.trans e) hv⟩
abbrev s_Exact___rsub__ : Stmt := inClass (top 23) 4
abbrev N_Exact___rsub__ : List Str := ["self", "other"]
theorem sc_Exact___rsub__ : FnScope N_Exact___rsub__ ["self", "other"] (defScope s_Exact___rsub__) := ⟨rfl, rfl, rfl, by decide +kernel, rfl, by decide +kernel, by decide +kernel⟩
theorem ok_Exact___rsub__ {f : Addr} {fd : FuncData} (F : FunD K "__rsub__" "Exact.__rsub__" (defArgs s_Exact___rsub__) (defBody s_Exact___rsub__) (defScope s_Exact___rsub__) [] [] f fd) (T : XC K mg C) (c_part_of : C8.Cal P w K mg base 4 "part_of" (spPart C) []) (m__sub__ : ∀ X : Cx, X.prog = P → X.w = w → X.K = K → X.mg = mg → X.base = base → OwnM X 5 C "__sub__" (spSub C)) : FnOk P w K mg base CX0 6 f fd ["self", "other"] (spRsub C) := by
  refine F.ok sc_Exact___rsub__ (fun vs H Q E h => ?_) (fun cdv A outer s H vs Q E hr h => ?_)
  · obtain ⟨x, y, o, u, p, q, rfl, hx, hy, so, su, sp, sq, hu, hq, k⟩ := h
    rfl
  · obtain ⟨x, y, o, u, p, q, rfl, hx, hy, so, su, sp, sq, hu, hq, k⟩ := h
    refine ⟨_, PSs.nox (pss_one (ps_ret (pe_op (op_subL (m__sub__ _ rfl rfl rfl rfl rfl) T.f_rsub.choose_spec T.own (hr.mono (by decide))) (C8.pe_c c_part_of hr (by decide) rfl (pa_cons (pv 1) pa_nil)) (pv 0)))), ?_⟩
    refine ⟨_, rfl, y, p, q, rfl, hy, fun b H1 e1 hb => ?_⟩
    obtain ⟨ba, bd, rfl, hb⟩ := hb
    exact ⟨_, rfl, ba, bd, _, rfl, hb, (IsN.num (.inr (hx.same e1))), _, _, p, q, o, u, rfl, ⟨ba, bd, rfl, hb⟩, .inr (hx.same e1), sp, sq, so, su, hq, hu, fun v H' e hv => k v H' (e1.trans e) hv⟩
abbrev s_Exact___rmul__ : Stmt := inClass (top 23) 6
abbrev N_Exact___rmul__ : List Str := ["self", "other"]
theorem sc_Exact___rmul__ : FnScope N_Exact___rmul__ ["self", "other"] (defScope s_Exact___rmul__) := ⟨rfl, rfl, rfl, by decide +kernel, rfl, by decide +kernel, by decide +kernel⟩
theorem ok_Exact___rmul__ {f : Addr} {fd : FuncData} (F : FunD K "__rmul__" "Exact.__rmul__" (defArgs s_Exact___rmul__) (defBody s_Exact___rmul__) (defScope s_Exact___rmul__) [] [] f fd) (T : XC K mg C) (c_part_of : C8.Cal P w K mg base 4 "part_of" (spPart C) []) (m__mul__ : ∀ X : Cx, X.prog = P → X.w = w → X.K = K → X.mg = mg → X.base = base → OwnM X 5 C "__mul__" (spMul C)) : FnOk P w K mg base CX0 6 f fd ["self", "other"] (spRmul C) := by
  refine F.ok sc_Exact___rmul__ (fun vs H Q E h => ?_) (fun cdv A outer s H vs Q E hr h => ?_)
  · obtain ⟨x, y, o, u, p, q, rfl, hx, hy, so, su, sp, sq, hu, hq, k⟩ := h
    rfl
  · obtain ⟨x, y, o, u, p, q, rfl, hx, hy, so, su, sp, sq, hu, hq, k⟩ := h
    refine ⟨_, PSs.nox (pss_one (ps_ret (pe_op (op_mulL (m__mul__ _ rfl rfl rfl rfl rfl) T.f_rmul.choose_spec T.own (hr.mono (by decide))) (C8.pe_c c_part_of hr (by decide) rfl (pa_cons (pv 1) pa_nil)) (pv 0)))), ?_⟩
    refine ⟨_, rfl, y, p, q, rfl, hy, fun b H1 e1 hb => ?_⟩
    obtain ⟨ba, bd, rfl, hb⟩ := hb
    exact ⟨_, rfl, ba, bd, _, rfl, hb, (IsN.num (.inr (hx.same e1))), _, _, p, q, o, u, rfl, ⟨ba, bd, rfl, hb⟩, .inr (hx.same e1), sp, sq, so, su, hq, hu, fun v H' e hv => k v H' (e1.trans e) hv⟩
def spNeg (C : Addr) : Sp := fun vs H Q _ => ∃ (x : V) (o u : Int), vs = [x] ∧ IsX C H x o u ∧ Sm u ∧ u ≠ 0 ∧ ∀ v H', Same H H' → IsX C H' v (rO (-o) u) (rD (-o) u) → Q v H'
abbrev s_Exact___neg__ : Stmt := inClass (top 23) 8
abbrev N_Exact___neg__ : List Str := ["self"]
theorem sc_Exact___neg__ : FnScope N_Exact___neg__ ["self"] (defScope s_Exact___neg__) := ⟨rfl, rfl, rfl, by decide +kernel, rfl, by decide +kernel, by decide +kernel⟩
theorem ok_Exact___neg__ {f : Addr} {fd : FuncData} (F : FunD K "__neg__" "Exact.__neg__" (defArgs s_Exact___neg__) (defBody s_Exact___neg__) (defScope s_Exact___neg__) [] [] f fd) (T : XC K mg C) (c_Exact : C8.Mak P w K mg base 2 "Exact" C (spInit C) []) : FnOk P w K mg base CX0 5 f fd ["self"] (spNeg C) := by
  refine F.ok sc_Exact___neg__ (fun vs H Q E h => ?_) (fun cdv A outer s H vs Q E hr h => ?_)
  · obtain ⟨x, o, u, rfl, hx, su, hu, k⟩ := h
    rfl
  · obtain ⟨x, o, u, rfl, hx, su, hu, k⟩ := h
    refine ⟨_, PSs.nox (pss_one (ps_ret (C8.pe_mk c_Exact hr (by decide) rfl (pa_cons (pe_un un_neg (pe_fld (pv 0) rfl)) (pa_cons (pe_fld (pv 0) rfl) pa_nil))))), ?_⟩
    obtain ⟨xa, xd, rfl, hx1⟩ := hx
    exact ⟨_, rfl, xa, C, xd, _, _, rfl, hx1, T.cl, T.nO, rfl, _, rfl, _, rfl, xa, C, xd, _, _, rfl, hx1, T.cl, T.nU, rfl, fun n dn nx nd ne => mkX hu su.big (fun v H' e hv => k v H' e hv) n dn nx nd ne⟩
/-- a number as results are told -/
def TN (C : Addr) (H : Hp) (v : V) (o u : Int) : Prop := (u = 1 ∧ v = .int o) ∨ (u ≠ 1 ∧ IsX C H v o u)
theorem TN.same {H H1 : Hp} {v : V} {o u : Int} (e : Same H H1) (h : TN C H v o u) : TN C H1 v o u := h.imp id fun ⟨n, x⟩ => ⟨n, x.same e⟩
end
end LW
set_option Elab.async false
set_option linter.all false
set_option maxRecDepth 100000
set_option maxHeartbeats 4000000
namespace LW
open PySem PySem.Spec PyProof.Rows L2 LV LM
abbrev typs : List String := ["NoneType", "bool", "int", "str", "list", "dict", "tuple"]
/-- the class Exact beside all kinds of objects -/
structure XE (K : PySem.W.Frag) (mg : Str → Option Value) (C : Addr) : Prop extends XC K mg C where
  kT : ∀ t ∈ typs, PySem.W.kitOne K (.type t) (.ref C) = some false ∧ PySem.W.subIn K (.type t) (.ref C) = some false ∧ PySem.W.subIn K (.ref C) (.type t) = some false
  ne : PySem.W.findIn K (.ref C) "__ne__" = some (some (.builtin "object.__ne__"))
section
variable {P : Program} {w : World} {K : PySem.W.Frag} {mg : Str → Option Value} {base : Heap} {C : Addr}
/-! is_number -/
def spNum (K : PySem.W.Frag) (C : Addr) : Sp := fun vs H Q _ => ∃ (v : V) (t : Value) (b c d : Bool), vs = [v] ∧ TyX K H v t ∧ PySem.W.kitOne K t (.type "int") = some b ∧ PySem.W.kitOne K t (.type "bool") = some c ∧ PySem.W.kitOne K t (.ref C) = some d ∧ Q (.bl ((b && !c) || d)) H
abbrev s_is_number : Stmt := top 18
abbrev N_is_number : List Str := ["thing"]
theorem sc_is_number : FnScope N_is_number ["thing"] (defScope s_is_number) := ⟨rfl, rfl, rfl, by decide +kernel, rfl, by decide +kernel, by decide +kernel⟩
theorem ok_is_number {f : Addr} {fd : FuncData} (F : FunD K "is_number" "is_number" (defArgs s_is_number) (defBody s_is_number) (defScope s_is_number) [] [] f fd) (T : XC K mg C) (c_is_integer : C8.Cal P w K mg base 1 "is_integer" (spInt K) []) : FnOk P w K mg base CX0 2 f fd ["thing"] (spNum K C) := by
  refine F.ok sc_is_number (fun vs H Q E h => ?_) (fun cdv A outer s H vs Q E hr h => ?_)
  · obtain ⟨v, t, b, c, d, rfl, ht, hb, hc, hd, k⟩ := h
    rfl
  · obtain ⟨v, t, b, c, d, rfl, ht, hb, hc, hd, k⟩ := h
    refine ⟨_, PSs.nox (pss_one (ps_ret (pe_or (C8.pe_c c_is_integer hr (by decide) rfl (pa_cons (pv 0) pa_nil)) (pe_one (pe_callB call_isi rfl T.isinstance (by decide +kernel) (pa_cons (pv 0) (pa_cons (pe_glob (v := .ref C) rfl T.mgC rfl) pa_nil))))))), ?_⟩
    refine ⟨_, rfl, _, t, b, c, rfl, ht, hb, hc, _, rfl, ?_⟩
    cases e : (b && !c) with
    | true =>
      rw [e] at k
      exact k
    | false =>
      rw [e, Bool.false_or] at k
      exact ⟨_, rfl, _, _, t, _, d, rfl, .own C, ht, hd, k⟩
/-- whether a thing is a number, by its type -/
def NumB (K : PySem.W.Frag) (C : Addr) (H : Hp) (v : V) (r : Bool) : Prop := ∃ (t : Value) (b c d : Bool), TyX K H v t ∧ PySem.W.kitOne K t (.type "int") = some b ∧ PySem.W.kitOne K t (.type "bool") = some c ∧ PySem.W.kitOne K t (.ref C) = some d ∧ r = ((b && !c) || d)
theorem NumB.sp {H : Hp} {v : V} {r : Bool} {Q : VK} {E : XK} (h : NumB K C H v r) (q : Q (.bl r) H) : spNum K C [v] H Q E := by
  obtain ⟨t, b, c, d, h1, h2, h3, h4, rfl⟩ := h
  exact ⟨v, t, b, c, d, rfl, h1, h2, h3, h4, q⟩
theorem IsN.numB {H : Hp} {v : V} {o u : Int} (T : XC K mg C) (h : IsN C H v o u) : NumB K C H v true := by
  rcases h with ⟨rfl, _⟩ | ⟨x, dx, rfl, h⟩
  · exact ⟨_, true, false, false, .base (.int o), kII K, kIB K, T.kIX, rfl⟩
  · exact ⟨_, false, false, true, tyX T h, T.kXI, T.kXB, kXX K C, rfl⟩
theorem IsN.notF {H : Hp} {v : V} {o u : Int} (T : XC K mg C) (h : IsN C H v o u) : NotF K C H v := by
  rcases h with ⟨rfl, _⟩ | ⟨x, dx, rfl, h⟩
  · refine ⟨_, .base (.int o), ?_⟩
    unfold PySem.W.notFirst
    rw [T.own.subI]
    rfl
  · refine ⟨_, tyX T h, ?_⟩
    unfold PySem.W.notFirst
    simp
/-! order -/
def spCmp (C : Addr) (r : Int → Int → Int → Int → Bool) : Sp := fun vs H Q _ => ∃ (x y : V) (o u p q : Int), vs = [x, y] ∧ IsX C H x o u ∧ IsN C H y p q ∧ Sm o ∧ Sm u ∧ Sm p ∧ Sm q ∧ ∀ H', Same H H' → Q (.bl (r o u p q)) H'
abbrev spLt (C : Addr) : Sp := spCmp C fun o u p q => decide (o * q < p * u)
abbrev spLe (C : Addr) : Sp := spCmp C fun o u p q => decide (o * q ≤ p * u)
abbrev spGt (C : Addr) : Sp := spCmp C fun o u p q => decide (p * u < o * q)
abbrev spGe (C : Addr) : Sp := spCmp C fun o u p q => decide (p * u ≤ o * q)
abbrev s_Exact___lt__ : Stmt := inClass (top 23) 10
abbrev N_Exact___lt__ : List Str := ["self", "other", "b"]
theorem sc_Exact___lt__ : FnScope N_Exact___lt__ ["self", "other"] (defScope s_Exact___lt__) := ⟨rfl, rfl, rfl, by decide +kernel, rfl, by decide +kernel, by decide +kernel⟩
theorem ok_Exact___lt__ {f : Addr} {fd : FuncData} (F : FunD K "__lt__" "Exact.__lt__" (defArgs s_Exact___lt__) (defBody s_Exact___lt__) (defScope s_Exact___lt__) [] [] f fd) (T : XC K mg C) (c_part_of : C8.Cal P w K mg base 4 "part_of" (spPart C) []) : FnOk P w K mg base CX0 5 f fd ["self", "other"] (spLt C) := by
  refine F.ok sc_Exact___lt__ (fun vs H Q E h => ?_) (fun cdv A outer s H vs Q E hr h => ?_)
  · obtain ⟨x, y, o, u, p, q, rfl, hx, hy, so, su, sp, sq, k⟩ := h
    rfl
  · obtain ⟨x, y, o, u, p, q, rfl, hx, hy, so, su, sp, sq, k⟩ := h
    refine ⟨_, PSs.nox (pss_cons (ps_set (i := 2) sc_Exact___lt__.nd rfl (Or.inl rfl) (C8.pe_c c_part_of hr (by decide) rfl (pa_cons (pv 1) pa_nil)))
      (pss_one (ps_ret (pe_cmpR op_lt (pe_op op_mulG (pe_fld (pv 0) rfl) (pe_fld (pv 2) rfl)) (pe_op op_mulG (pe_fld (pv 2) rfl) (pe_fld (pv 0) rfl)) (nomark _))))), ?_⟩
    refine ⟨_, rfl, y, p, q, rfl, hy, fun b H1 e1 hb => ?_⟩
    obtain ⟨xa, xd, rfl, hx1⟩ := hx.same e1
    obtain ⟨ba, bd, rfl, hb⟩ := hb
    exact ⟨_, rfl, xa, C, xd, _, _, rfl, hx1, T.cl, T.nO, rfl, _, rfl, ba, C, bd, _, _, rfl, hb, T.cl, T.nU, rfl, _, _, rfl, rfl, smul so sq, _, rfl, ba, C, bd, _, _, rfl, hb, T.cl, T.nO, rfl, _, rfl, xa, C, xd, _, _, rfl, hx1, T.cl, T.nU, rfl, _, _, rfl, rfl, smul sp su, _, _, rfl, rfl, k _ e1⟩
abbrev s_Exact___le__ : Stmt := inClass (top 23) 11
abbrev N_Exact___le__ : List Str := ["self", "other", "b"]
theorem sc_Exact___le__ : FnScope N_Exact___le__ ["self", "other"] (defScope s_Exact___le__) := ⟨rfl, rfl, rfl, by decide +kernel, rfl, by decide +kernel, by decide +kernel⟩
theorem ok_Exact___le__ {f : Addr} {fd : FuncData} (F : FunD K "__le__" "Exact.__le__" (defArgs s_Exact___le__) (defBody s_Exact___le__) (defScope s_Exact___le__) [] [] f fd) (T : XC K mg C) (c_part_of : C8.Cal P w K mg base 4 "part_of" (spPart C) []) : FnOk P w K mg base CX0 5 f fd ["self", "other"] (spLe C) := by
  refine F.ok sc_Exact___le__ (fun vs H Q E h => ?_) (fun cdv A outer s H vs Q E hr h => ?_)
  · obtain ⟨x, y, o, u, p, q, rfl, hx, hy, so, su, sp, sq, k⟩ := h
    rfl
  · obtain ⟨x, y, o, u, p, q, rfl, hx, hy, so, su, sp, sq, k⟩ := h
    refine ⟨_, PSs.nox (pss_cons (ps_set (i := 2) sc_Exact___le__.nd rfl (Or.inl rfl) (C8.pe_c c_part_of hr (by decide) rfl (pa_cons (pv 1) pa_nil)))
      (pss_one (ps_ret (pe_cmpR op_le (pe_op op_mulG (pe_fld (pv 0) rfl) (pe_fld (pv 2) rfl)) (pe_op op_mulG (pe_fld (pv 2) rfl) (pe_fld (pv 0) rfl)) (nomark _))))), ?_⟩
    refine ⟨_, rfl, y, p, q, rfl, hy, fun b H1 e1 hb => ?_⟩
    obtain ⟨xa, xd, rfl, hx1⟩ := hx.same e1
    obtain ⟨ba, bd, rfl, hb⟩ := hb
    exact ⟨_, rfl, xa, C, xd, _, _, rfl, hx1, T.cl, T.nO, rfl, _, rfl, ba, C, bd, _, _, rfl, hb, T.cl, T.nU, rfl, _, _, rfl, rfl, smul so sq, _, rfl, ba, C, bd, _, _, rfl, hb, T.cl, T.nO, rfl, _, rfl, xa, C, xd, _, _, rfl, hx1, T.cl, T.nU, rfl, _, _, rfl, rfl, smul sp su, _, _, rfl, rfl, k _ e1⟩
abbrev s_Exact___gt__ : Stmt := inClass (top 23) 12
abbrev N_Exact___gt__ : List Str := ["self", "other", "b"]
theorem sc_Exact___gt__ : FnScope N_Exact___gt__ ["self", "other"] (defScope s_Exact___gt__) := ⟨rfl, rfl, rfl, by decide +kernel, rfl, by decide +kernel, by decide +kernel⟩
theorem ok_Exact___gt__ {f : Addr} {fd : FuncData} (F : FunD K "__gt__" "Exact.__gt__" (defArgs s_Exact___gt__) (defBody s_Exact___gt__) (defScope s_Exact___gt__) [] [] f fd) (T : XC K mg C) (c_part_of : C8.Cal P w K mg base 4 "part_of" (spPart C) []) : FnOk P w K mg base CX0 5 f fd ["self", "other"] (spGt C) := by
  refine F.ok sc_Exact___gt__ (fun vs H Q E h => ?_) (fun cdv A outer s H vs Q E hr h => ?_)
  · obtain ⟨x, y, o, u, p, q, rfl, hx, hy, so, su, sp, sq, k⟩ := h
    rfl
  · obtain ⟨x, y, o, u, p, q, rfl, hx, hy, so, su, sp, sq, k⟩ := h
    refine ⟨_, PSs.nox (pss_cons (ps_set (i := 2) sc_Exact___gt__.nd rfl (Or.inl rfl) (C8.pe_c c_part_of hr (by decide) rfl (pa_cons (pv 1) pa_nil)))
      (pss_one (ps_ret (pe_cmpR op_gt (pe_op op_mulG (pe_fld (pv 0) rfl) (pe_fld (pv 2) rfl)) (pe_op op_mulG (pe_fld (pv 2) rfl) (pe_fld (pv 0) rfl)) (nomark _))))), ?_⟩
    refine ⟨_, rfl, y, p, q, rfl, hy, fun b H1 e1 hb => ?_⟩
    obtain ⟨xa, xd, rfl, hx1⟩ := hx.same e1
    obtain ⟨ba, bd, rfl, hb⟩ := hb
    exact ⟨_, rfl, xa, C, xd, _, _, rfl, hx1, T.cl, T.nO, rfl, _, rfl, ba, C, bd, _, _, rfl, hb, T.cl, T.nU, rfl, _, _, rfl, rfl, smul so sq, _, rfl, ba, C, bd, _, _, rfl, hb, T.cl, T.nO, rfl, _, rfl, xa, C, xd, _, _, rfl, hx1, T.cl, T.nU, rfl, _, _, rfl, rfl, smul sp su, _, _, rfl, rfl, k _ e1⟩
abbrev s_Exact___ge__ : Stmt := inClass (top 23) 13
abbrev N_Exact___ge__ : List Str := ["self", "other", "b"]
theorem sc_Exact___ge__ : FnScope N_Exact___ge__ ["self", "other"] (defScope s_Exact___ge__) := ⟨rfl, rfl, rfl, by decide +kernel, rfl, by decide +kernel, by decide +kernel⟩
theorem ok_Exact___ge__ {f : Addr} {fd : FuncData} (F : FunD K "__ge__" "Exact.__ge__" (defArgs s_Exact___ge__) (defBody s_Exact___ge__) (defScope s_Exact___ge__) [] [] f fd) (T : XC K mg C) (c_part_of : C8.Cal P w K mg base 4 "part_of" (spPart C) []) : FnOk P w K mg base CX0 5 f fd ["self", "other"] (spGe C) := by
  refine F.ok sc_Exact___ge__ (fun vs H Q E h => ?_) (fun cdv A outer s H vs Q E hr h => ?_)
  · obtain ⟨x, y, o, u, p, q, rfl, hx, hy, so, su, sp, sq, k⟩ := h
    rfl
  · obtain ⟨x, y, o, u, p, q, rfl, hx, hy, so, su, sp, sq, k⟩ := h
    refine ⟨_, PSs.nox (pss_cons (ps_set (i := 2) sc_Exact___ge__.nd rfl (Or.inl rfl) (C8.pe_c c_part_of hr (by decide) rfl (pa_cons (pv 1) pa_nil)))
      (pss_one (ps_ret (pe_cmpR op_ge (pe_op op_mulG (pe_fld (pv 0) rfl) (pe_fld (pv 2) rfl)) (pe_op op_mulG (pe_fld (pv 2) rfl) (pe_fld (pv 0) rfl)) (nomark _))))), ?_⟩
    refine ⟨_, rfl, y, p, q, rfl, hy, fun b H1 e1 hb => ?_⟩
    obtain ⟨xa, xd, rfl, hx1⟩ := hx.same e1
    obtain ⟨ba, bd, rfl, hb⟩ := hb
    exact ⟨_, rfl, xa, C, xd, _, _, rfl, hx1, T.cl, T.nO, rfl, _, rfl, ba, C, bd, _, _, rfl, hb, T.cl, T.nU, rfl, _, _, rfl, rfl, smul so sq, _, rfl, ba, C, bd, _, _, rfl, hb, T.cl, T.nO, rfl, _, rfl, xa, C, xd, _, _, rfl, hx1, T.cl, T.nU, rfl, _, _, rfl, rfl, smul sp su, _, _, rfl, rfl, k _ e1⟩
/-! equality: with a number by value, else False -/
def spEqX (K : PySem.W.Frag) (C : Addr) : Sp := fun vs H Q _ => ∃ (x y : V) (o u : Int), vs = [x, y] ∧ IsX C H x o u ∧
  ((∃ p q, IsN C H y p q ∧ ∀ H', Same H H' → Q (.bl (decide (o = p) && decide (u = q))) H') ∨ (NumB K C H y false ∧ ∀ H', Same H H' → Q (.bl false) H'))
abbrev s_Exact___eq__ : Stmt := inClass (top 23) 9
abbrev N_Exact___eq__ : List Str := ["self", "other", "b"]
theorem sc_Exact___eq__ : FnScope N_Exact___eq__ ["self", "other"] (defScope s_Exact___eq__) := ⟨rfl, rfl, rfl, by decide +kernel, rfl, by decide +kernel, by decide +kernel⟩
theorem ok_Exact___eq__ {f : Addr} {fd : FuncData} (F : FunD K "__eq__" "Exact.__eq__" (defArgs s_Exact___eq__) (defBody s_Exact___eq__) (defScope s_Exact___eq__) [] [] f fd) (T : XC K mg C) (c_part_of : C8.Cal P w K mg base 4 "part_of" (spPart C) []) (c_is_number : C8.Cal P w K mg base 2 "is_number" (spNum K C) []) : FnOk P w K mg base CX0 5 f fd ["self", "other"] (spEqX K C) := by
  refine F.ok sc_Exact___eq__ (fun vs H Q E h => ?_) (fun cdv A outer s H vs Q E hr h => ?_)
  · obtain ⟨x, y, o, u, rfl, hx, hy⟩ := h
    rfl
  · obtain ⟨x, y, o, u, rfl, hx, hy⟩ := h
    refine ⟨_, PSs.nox (pss_cons (ps_if (pt_not (pt_val (C8.pe_c c_is_number hr (by decide) rfl (pa_cons (pv 1) pa_nil)))) (pss_one (ps_ret pe_bl)) pss_nil)
      (pss_cons (ps_set (i := 2) sc_Exact___eq__.nd rfl (Or.inl rfl) (C8.pe_c c_part_of hr (by decide) rfl (pa_cons (pv 1) pa_nil)))
      (pss_one (ps_ret (pe_and (pe_cmpR op_eq (pe_fld (pv 0) rfl) (pe_fld (pv 2) rfl) (nomark _)) (pe_one (pe_cmpR op_eq (pe_fld (pv 0) rfl) (pe_fld (pv 2) rfl) (nomark _)))))))), ?_⟩
    rcases hy with ⟨p, q, hy, k⟩ | ⟨hy, k⟩
    · obtain ⟨t, b, c, d, h1, h2, h3, h4, h5⟩ := hy.numB T
      refine ⟨_, rfl, _, t, b, c, d, rfl, h1, h2, h3, h4, _, rfl, ?_⟩
      rw [← h5]
      refine iteF ⟨_, rfl, y, p, q, rfl, hy, fun b H1 e1 hb => ?_⟩
      obtain ⟨xa, xd, rfl, hx1⟩ := hx.same e1
      obtain ⟨ba, bd, rfl, hb⟩ := hb
      refine ⟨_, rfl, xa, C, xd, _, _, rfl, hx1, T.cl, T.nO, rfl, _, rfl, ba, C, bd, _, _, rfl, hb, T.cl, T.nO, rfl, rfl, _, rfl, ?_⟩
      by_cases ho : o = p
      · have z : decide (V.int o = V.int p) = true := by simp [ho]
        rw [z]
        refine iteT ⟨_, rfl, xa, C, xd, _, _, rfl, hx1, T.cl, T.nU, rfl, _, rfl, ba, C, bd, _, _, rfl, hb, T.cl, T.nU, rfl, rfl, ?_⟩
        have z2 : decide (V.int u = V.int q) = (decide (o = p) && decide (u = q)) := by simp [ho]
        rw [z2]
        exact k _ e1
      · have z : decide (V.int o = V.int p) = false := by simp [ho]
        rw [z]
        refine iteF ?_
        have z2 : false = (decide (o = p) && decide (u = q)) := by simp [ho]
        rw [z2]
        exact k _ e1
    · obtain ⟨t, b, c, d, h1, h2, h3, h4, h5⟩ := hy
      refine ⟨_, rfl, _, t, b, c, d, rfl, h1, h2, h3, h4, _, rfl, ?_⟩
      rw [← h5]
      exact iteT (k _ (Same.refl H))
end
end LW
namespace LM
/-! fractions by their value -/
theorem red_rat (q : Rat) : Red q.num q.den := ⟨by have := q.den_pos; omega, by
  have := q.reduced
  unfold Nat.Coprime at this
  exact this⟩
theorem red_same {o u p q : Int} (h1 : Red o u) (h2 : Red p q) (h : o * q = p * u) : o = p ∧ u = q := by
  have a := red_scale h1 (s := q) (by have := h2.1; omega)
  have b := red_scale h2 (s := u) (by have := h1.1; omega)
  rw [h, Int.mul_comm u q] at a
  exact ⟨a.1.symm.trans b.1, a.2.symm.trans b.2⟩
theorem rat_of {o u : Int} (hu : u ≠ 0) : rO o u = (Rat.divInt o u).num ∧ rD o u = ((Rat.divInt o u).den : Int) := by
  refine red_same (red_of hu) (red_rat _) ?_
  generalize hq : Rat.divInt o u = q
  have hd : (q.den : Int) ≠ 0 := by have := q.den_pos; omega
  have e := (Rat.divInt_eq_divInt_iff hu hd).mp (hq.trans (Rat.num_divInt_den q).symm)
  have e1 := rO_mul o u
  have e2 := rD_mul o u
  have hw := rwh_ne (o := o) hu
  refine Int.eq_of_mul_eq_mul_right hw ?_
  calc rO o u * q.den * rwh o u = (rO o u * rwh o u) * q.den := by rw [Int.mul_right_comm]
    _ = o * q.den := by rw [e1]
    _ = q.num * u := e
    _ = q.num * (rD o u * rwh o u) := by rw [e2]
    _ = q.num * rD o u * rwh o u := by rw [Int.mul_assoc]
theorem den0 (q : Rat) : (q.den : Int) ≠ 0 := by have := q.den_pos; omega
theorem q_add (a b : Rat) : Rat.divInt (a.num * b.den + b.num * a.den) (a.den * b.den) = a + b := by
  rw [← Rat.divInt_add_divInt _ _ (den0 a) (den0 b), Rat.num_divInt_den, Rat.num_divInt_den]
theorem q_sub (a b : Rat) : Rat.divInt (a.num * b.den - b.num * a.den) (a.den * b.den) = a - b := by
  rw [← Rat.divInt_sub_divInt _ _ (den0 a) (den0 b), Rat.num_divInt_den, Rat.num_divInt_den]
theorem q_mul (a b : Rat) : Rat.divInt (a.num * b.num) (a.den * b.den) = a * b := by
  rw [← Rat.divInt_mul_divInt, Rat.num_divInt_den, Rat.num_divInt_den]
theorem q_div (a b : Rat) : Rat.divInt (a.num * b.den) (a.den * b.num) = a / b := by
  rw [← Rat.divInt_mul_divInt, Rat.num_divInt_den, Rat.div_def]
  congr 1
  rw [← Rat.inv_divInt, Rat.num_divInt_den]
theorem q_neg (a : Rat) : Rat.divInt (-a.num) a.den = -a := by
  rw [← Rat.neg_divInt, Rat.num_divInt_den]
theorem num0 {a : Rat} (h : a ≠ 0) : a.num ≠ 0 := fun z => h (Rat.num_eq_zero.mp z)
/-! sizes -/
def Ht (n : Nat) (q : Rat) : Prop := q.num.natAbs < 2 ^ n ∧ q.den < 2 ^ n
theorem Ht.mono {n m : Nat} {q : Rat} (h : Ht n q) (l : n ≤ m) : Ht m q := ⟨Nat.lt_of_lt_of_le h.1 (Nat.pow_le_pow_right (by decide) l), Nat.lt_of_lt_of_le h.2 (Nat.pow_le_pow_right (by decide) l)⟩
theorem ht_div {o u : Int} {n : Nat} (hu : u ≠ 0) (h1 : o.natAbs < 2 ^ n) (h2 : u.natAbs < 2 ^ n) : Ht n (Rat.divInt o u) := by
  obtain ⟨e1, e2⟩ := rat_of (o := o) hu
  have b1 := abs_rO (o := o) hu
  have b2 := abs_rD (o := o) hu
  rw [e1] at b1
  rw [e2] at b2
  exact ⟨by omega, by omega⟩
theorem mul_lt2 {a b n m : Nat} (h1 : a < 2 ^ n) (h2 : b < 2 ^ m) : a * b < 2 ^ (n + m) := by
  rw [Nat.pow_add]
  rcases Nat.eq_zero_or_pos b with rfl | hb
  · rw [Nat.mul_zero]
    exact Nat.mul_pos (Nat.two_pow_pos n) (Nat.two_pow_pos m)
  · exact Nat.mul_lt_mul_of_lt_of_le h1 (Nat.le_of_lt h2) (by omega)
theorem Ht.add {a b : Rat} {n m : Nat} (h1 : Ht n a) (h2 : Ht m b) : Ht (n + m + 1) (a + b) := by
  rw [← q_add]
  have x1 := mul_lt2 h1.1 h2.2
  have x2 := mul_lt2 h2.1 h1.2
  have x3 := mul_lt2 h1.2 h2.2
  rw [Nat.add_comm m n] at x2
  have e : 2 ^ (n + m + 1) = 2 ^ (n + m) + 2 ^ (n + m) := by rw [Nat.pow_succ]; omega
  refine ht_div (Int.mul_ne_zero (den0 a) (den0 b)) ?_ ?_
  · have y1 : (a.num * b.den).natAbs = a.num.natAbs * b.den := by rw [Int.natAbs_mul]; rfl
    have y2 : (b.num * a.den).natAbs = b.num.natAbs * a.den := by rw [Int.natAbs_mul]; rfl
    have := Int.natAbs_add_le (a.num * b.den) (b.num * a.den)
    omega
  · have y1 : ((a.den : Int) * b.den).natAbs = a.den * b.den := by rw [Int.natAbs_mul]; rfl
    omega
theorem Ht.neg {a : Rat} {n : Nat} (h : Ht n a) : Ht n (-a) := by
  refine ⟨?_, ?_⟩
  · rw [Rat.neg_num, Int.natAbs_neg]; exact h.1
  · rw [Rat.neg_den]; exact h.2
theorem Ht.sub {a b : Rat} {n m : Nat} (h1 : Ht n a) (h2 : Ht m b) : Ht (n + m + 1) (a - b) := by
  rw [Rat.sub_eq_add_neg]
  exact h1.add h2.neg
theorem Ht.mul {a b : Rat} {n m : Nat} (h1 : Ht n a) (h2 : Ht m b) : Ht (n + m) (a * b) := by
  rw [← q_mul]
  have x1 := mul_lt2 h1.1 h2.1
  have x3 := mul_lt2 h1.2 h2.2
  refine ht_div (Int.mul_ne_zero (den0 a) (den0 b)) ?_ ?_
  · rw [Int.natAbs_mul]; exact x1
  · rw [Int.natAbs_mul]; exact x3
theorem Ht.div {a b : Rat} {n m : Nat} (h1 : Ht n a) (h2 : Ht m b) (hb : b ≠ 0) : Ht (n + m) (a / b) := by
  rw [← q_div]
  have x1 := mul_lt2 h1.1 h2.2
  have x3 := mul_lt2 h1.2 h2.1
  refine ht_div (Int.mul_ne_zero (den0 a) (num0 hb)) ?_ ?_
  · rw [Int.natAbs_mul]; exact x1
  · rw [Int.natAbs_mul]; exact x3
/-! two lists, item by item -/
def All2 {α β : Type _} (R : α → β → Prop) : List α → List β → Prop
  | [], [] => True
  | a :: as, b :: bs => R a b ∧ All2 R as bs
  | _, _ => False
section
variable {α β : Type _} {R S : α → β → Prop}
theorem All2.imp (h : ∀ a b, R a b → S a b) : ∀ {as : List α} {bs : List β}, All2 R as bs → All2 S as bs
  | [], [], _ => trivial
  | _ :: _, _ :: _, x => ⟨h _ _ x.1, All2.imp h x.2⟩
  | [], _ :: _, x => x.elim
  | _ :: _, [], x => x.elim
theorem All2.len : ∀ {as : List α} {bs : List β}, All2 R as bs → as.length = bs.length
  | [], [], _ => rfl
  | _ :: _, _ :: _, x => congrArg Nat.succ (All2.len x.2)
  | [], _ :: _, x => x.elim
  | _ :: _, [], x => x.elim
theorem All2.app : ∀ {as : List α} {bs : List β} {cs : List α} {ds : List β}, All2 R as bs → All2 R cs ds → All2 R (as ++ cs) (bs ++ ds)
  | [], [], _, _, _, y => y
  | _ :: _, _ :: _, _, _, x, y => ⟨x.1, All2.app x.2 y⟩
  | [], _ :: _, _, _, x, _ => x.elim
  | _ :: _, [], _, _, x, _ => x.elim
theorem All2.snoc {as : List α} {bs : List β} {a : α} {b : β} (h : All2 R as bs) (r : R a b) : All2 R (as ++ [a]) (bs ++ [b]) := h.app ⟨r, trivial⟩
theorem All2.get : ∀ {as : List α} {bs : List β} {i : Nat} {a : α}, All2 R as bs → as[i]? = some a → ∃ b, bs[i]? = some b ∧ R a b
  | _ :: _, b :: _, 0, _, x, h => by
    simp only [List.getElem?_cons_zero, Option.some.injEq] at h
    exact ⟨b, rfl, h ▸ x.1⟩
  | _ :: _, _ :: _, i + 1, _, x, h => by
    simp only [List.getElem?_cons_succ] at h ⊢
    exact All2.get x.2 h
  | [], [], _, _, _, h => by simp at h
  | [], _ :: _, _, _, x, _ => x.elim
  | _ :: _, [], _, _, x, _ => x.elim
theorem All2.at : ∀ {as : List α} {bs : List β} {i : Nat} {b : β}, All2 R as bs → bs[i]? = some b → ∃ a, as[i]? = some a ∧ R a b
  | a :: _, _ :: _, 0, _, x, h => by
    simp only [List.getElem?_cons_zero, Option.some.injEq] at h
    exact ⟨a, rfl, h ▸ x.1⟩
  | _ :: _, _ :: _, i + 1, _, x, h => by
    simp only [List.getElem?_cons_succ] at h ⊢
    exact All2.at x.2 h
  | [], [], _, _, _, h => by simp at h
  | [], _ :: _, _, _, x, _ => x.elim
  | _ :: _, [], _, _, x, _ => x.elim
theorem All2.take : ∀ {as : List α} {bs : List β} (n : Nat), All2 R as bs → All2 R (as.take n) (bs.take n)
  | [], [], n, _ => by simp [All2]
  | _ :: _, _ :: _, 0, _ => by simp [All2]
  | _ :: _, _ :: _, n + 1, x => ⟨x.1, All2.take n x.2⟩
  | [], _ :: _, _, x => x.elim
  | _ :: _, [], _, x => x.elim
theorem All2.dropLast {as : List α} {bs : List β} (h : All2 R as bs) : All2 R as.dropLast bs.dropLast := by
  rw [List.dropLast_eq_take, List.dropLast_eq_take, h.len]
  exact h.take _
theorem All2.map {γ : Type _} {f : γ → α} {g : γ → β} (h : ∀ c, R (f c) (g c)) : ∀ cs : List γ, All2 R (cs.map f) (cs.map g)
  | [] => trivial
  | _ :: cs => ⟨h _, All2.map h cs⟩
theorem All2.split : ∀ {as : List α} {bs cs : List β}, All2 R as (bs ++ cs) → ∃ a1 a2, as = a1 ++ a2 ∧ All2 R a1 bs ∧ All2 R a2 cs
  | as, [], cs, h => ⟨[], as, rfl, trivial, h⟩
  | a :: as, b :: bs, cs, h => by
    obtain ⟨a1, a2, e, h1, h2⟩ := All2.split (bs := bs) h.2
    exact ⟨a :: a1, a2, by rw [e]; rfl, ⟨h.1, h1⟩, h2⟩
  | [], _ :: _, _, h => h.elim
theorem All2.one {as : List α} {b : β} (h : All2 R as [b]) : ∃ a, as = [a] ∧ R a b := by
  match as, h with
  | [a], h => exact ⟨a, rfl, h.1⟩
theorem All2.two {as : List α} {b c : β} (h : All2 R as [b, c]) : ∃ a d, as = [a, d] ∧ R a b ∧ R d c := by
  match as, h with
  | [a, d], h => exact ⟨a, d, rfl, h.1, h.2.1⟩
theorem All2.drop : ∀ {as : List α} {bs : List β} (n : Nat), All2 R as bs → All2 R (as.drop n) (bs.drop n)
  | [], [], n, _ => by simp [All2]
  | _ :: _, _ :: _, 0, h => h
  | _ :: _, _ :: _, n + 1, h => All2.drop n h.2
  | [], _ :: _, _, h => h.elim
  | _ :: _, [], _, h => h.elim
end
end LM
set_option Elab.async false
set_option linter.all false
set_option maxRecDepth 100000
set_option maxHeartbeats 4000000
namespace LW
open PySem PySem.Spec PyProof.Rows L2 LV LM
theorem Sm.le {i : Int} (h : i.natAbs ≤ 10 ^ 38) : Sm i := Nat.lt_of_le_of_lt h (Nat.lt_of_lt_of_le (show 10 ^ 38 < 2 ^ 127 by decide) (Nat.pow_le_pow_right (by decide) (by decide)))
section
variable {P : Program} {w : World} {K : PySem.W.Frag} {mg : Str → Option Value} {base : Heap} {C : Addr}
/-! readings of comparisons -/
section
variable {H : Hp} {vx vy : V} {o u p q : Int} {Q : VK} {r r' : Int → Int → Int → Int → Bool}
theorem cmpB (T : XC K mg C) (hx : IsX C H vx o u) (hy : IsN C H vy p q) (so : Sm o) (su : Sm u) (sp : Sm p) (sq : Sm q) (k : ∀ H', Same H H' → Q (.bl (r o u p q)) H') : rCmpL K C (spCmp C r) vx vy H Q := by
  obtain ⟨xa, xd, rfl, hx'⟩ := id hx
  exact ⟨xa, xd, _, rfl, hx', hy.notF T, _, _, o, u, p, q, rfl, hx, hy, so, su, sp, sq, k⟩
theorem eqB (T : XC K mg C) (hx : IsX C H vx o u) (hy : IsN C H vy p q) (k : ∀ H', Same H H' → Q (.bl (decide (o = p) && decide (u = q))) H') : rCmpL K C (spEqX K C) vx vy H Q := by
  obtain ⟨xa, xd, rfl, hx'⟩ := id hx
  exact ⟨xa, xd, _, rfl, hx', hy.notF T, _, _, o, u, rfl, hx, .inl ⟨p, q, hy, k⟩⟩
theorem neB (T : XC K mg C) (hx : IsX C H vx o u) (hy : IsN C H vy p q) (k : ∀ H', Same H H' → Q (.bl (!(decide (o = p) && decide (u = q)))) H') : rNeL K C (spEqX K C) vx vy H Q := by
  obtain ⟨xa, xd, rfl, hx'⟩ := id hx
  exact ⟨xa, xd, _, rfl, hx', hy.notF T, _, _, o, u, rfl, hx, .inl ⟨p, q, hy, fun H' e => ⟨_, rfl, k H' e⟩⟩⟩
/-- an object that is no number -/
structure OthK (K : PySem.W.Frag) (C : Addr) (H : Hp) (v : V) : Prop where
  nb : NumB K C H v false
  nf : NotF K C H v
  lf : ∃ T, Lft K H v T ∧ PySem.W.subIn K (.ref C) (.type T) = some false
theorem eqO (hx : IsX C H vx o u) (hy : OthK K C H vy) (k : ∀ H', Same H H' → Q (.bl false) H') : rCmpL K C (spEqX K C) vx vy H Q := by
  obtain ⟨xa, xd, rfl, hx'⟩ := id hx
  exact ⟨xa, xd, _, rfl, hx', hy.nf, _, _, o, u, rfl, hx, .inr ⟨hy.nb, k⟩⟩
theorem neO (hx : IsX C H vx o u) (hy : OthK K C H vy) (k : ∀ H', Same H H' → Q (.bl true) H') : rNeL K C (spEqX K C) vx vy H Q := by
  obtain ⟨xa, xd, rfl, hx'⟩ := id hx
  exact ⟨xa, xd, _, rfl, hx', hy.nf, _, _, o, u, rfl, hx, .inr ⟨hy.nb, fun H' e => ⟨_, rfl, k H' e⟩⟩⟩
theorem eqOR (hx : IsX C H vx o u) (hy : OthK K C H vy) (k : ∀ H', Same H H' → Q (.bl false) H') : rCmpR K C (spEqX K C) vy vx H Q := by
  obtain ⟨xa, xd, rfl, hx'⟩ := id hx
  obtain ⟨t, h1, h2⟩ := hy.lf
  exact ⟨xa, xd, _, t, rfl, hx', h1, h2, _, _, o, u, rfl, hx, .inr ⟨hy.nb, k⟩⟩
theorem oth_of {v : V} {t : String} {b c : Bool} (T : XE K mg C) (ht : t ∈ typs) (h1 : TyX K H v (.type t)) (h2 : Lft K H v t) (h3 : PySem.W.kitOne K (.type t) (.type "int") = some b) (h4 : PySem.W.kitOne K (.type t) (.type "bool") = some c) (h5 : (b && !c) = false) : OthK K C H v := by
  obtain ⟨k1, k2, k3⟩ := T.kT t ht
  refine ⟨⟨_, b, c, false, h1, h3, h4, k1, by rw [h5]; rfl⟩, ⟨_, h1, ?_⟩, t, h2, k3⟩
  unfold PySem.W.notFirst
  rw [k2]
  simp
theorem oth_non (T : XE K mg C) : OthK K C H .non := oth_of T (b := false) (c := false) (by simp [typs]) (.base .non) .non (by kernel_rfl) (by kernel_rfl) rfl
theorem oth_bl (T : XE K mg C) (z : Bool) : OthK K C H (.bl z) := oth_of T (b := true) (c := true) (by simp [typs]) (.base (.bl z)) (.bl z) (by kernel_rfl) (by kernel_rfl) rfl
theorem oth_str (T : XE K mg C) (z : Str) : OthK K C H (.str z) := oth_of T (b := false) (c := false) (by simp [typs]) (.base (.str z)) (.str z) (by kernel_rfl) (by kernel_rfl) rfl
theorem oth_lst (T : XE K mg C) {a : Addr} {xs : List V} (h : H a = some (.lst xs)) : OthK K C H (.ref a) := oth_of T (b := false) (c := false) (by simp [typs]) (.base (.lst h)) (.lst h) (by kernel_rfl) (by kernel_rfl) rfl
theorem oth_tup (T : XE K mg C) {a : Addr} {xs : List V} (h : H a = some (.tup xs)) : OthK K C H (.ref a) := oth_of T (b := false) (c := false) (by simp [typs]) (.base (.tup h)) (.tup h) (by kernel_rfl) (by kernel_rfl) rfl
theorem oth_dK (T : XE K mg C) {a : Addr} {kvs : List (Key × V)} (h : H a = some (.dK kvs)) : OthK K C H (.ref a) := oth_of T (b := false) (c := false) (by simp [typs]) (.base (.dK h)) (.dK h) (by kernel_rfl) (by kernel_rfl) rfl
end
end
/-! numbers by their value -/
abbrev IsQ (C : Addr) (H : Hp) (v : V) (q : Rat) : Prop := IsX C H v q.num q.den
abbrev NumQ (C : Addr) (H : Hp) (v : V) (q : Rat) : Prop := IsN C H v q.num q.den
abbrev TQ (C : Addr) (H : Hp) (v : V) (q : Rat) : Prop := TN C H v q.num q.den
theorem smN {q : Rat} (h : Ht 4000 q) : Sm q.num := h.1
theorem smD {q : Rat} (h : Ht 4000 q) : Sm (q.den : Int) := by
  show ((q.den : Int)).natAbs < _
  rw [Int.natAbs_natCast]
  exact h.2
theorem TN.num {C : Addr} {H : Hp} {v : V} {o u : Int} (h : TN C H v o u) : IsN C H v o u := by
  rcases h with ⟨e, rfl⟩ | ⟨_, h⟩
  · exact .inl ⟨rfl, e⟩
  · exact .inr h
section
variable {P : Program} {w : World} {K : PySem.W.Frag} {mg : Str → Option Value} {base : Heap} {C : Addr} {H : Hp} {x y : V} {a b : Rat} {Q : VK} {E : XK}
theorem toQ {v : V} {o u : Int} {q : Rat} (hu : u ≠ 0) (e : Rat.divInt o u = q) (h : IsX C H v (rO o u) (rD o u)) : IsQ C H v q := by
  obtain ⟨e1, e2⟩ := rat_of (o := o) hu
  rw [e1, e2, e] at h
  exact h
theorem addQ (hx : IsQ C H x a) (hy : NumQ C H y b) (ha : Ht 4000 a) (hb : Ht 4000 b) (k : ∀ v H', Same H H' → IsQ C H' v (a + b) → Q v H') : rOwnL C (spAdd C) x y H Q := by
  obtain ⟨xa, xd, rfl, hx'⟩ := id hx
  exact ⟨xa, xd, _, rfl, hx', hy.num, _, _, _, _, _, _, rfl, hx, hy, smN ha, smD ha, smN hb, smD hb, den0 a, den0 b, fun v H' e h => k v H' e (toQ (Int.mul_ne_zero (den0 a) (den0 b)) (q_add a b) h)⟩
theorem subQ (hx : IsQ C H x a) (hy : NumQ C H y b) (ha : Ht 4000 a) (hb : Ht 4000 b) (k : ∀ v H', Same H H' → IsQ C H' v (a - b) → Q v H') : rOwnL C (spSub C) x y H Q := by
  obtain ⟨xa, xd, rfl, hx'⟩ := id hx
  exact ⟨xa, xd, _, rfl, hx', hy.num, _, _, _, _, _, _, rfl, hx, hy, smN ha, smD ha, smN hb, smD hb, den0 a, den0 b, fun v H' e h => k v H' e (toQ (Int.mul_ne_zero (den0 a) (den0 b)) (q_sub a b) h)⟩
theorem mulQ (hx : IsQ C H x a) (hy : NumQ C H y b) (ha : Ht 4000 a) (hb : Ht 4000 b) (k : ∀ v H', Same H H' → IsQ C H' v (a * b) → Q v H') : rOwnL C (spMul C) x y H Q := by
  obtain ⟨xa, xd, rfl, hx'⟩ := id hx
  exact ⟨xa, xd, _, rfl, hx', hy.num, _, _, _, _, _, _, rfl, hx, hy, smN ha, smD ha, smN hb, smD hb, den0 a, den0 b, fun v H' e h => k v H' e (toQ (Int.mul_ne_zero (den0 a) (den0 b)) (q_mul a b) h)⟩
theorem negQ (hx : IsQ C H x a) (ha : Ht 4000 a) (k : ∀ v H', Same H H' → IsQ C H' v (-a) → Q v H') : spNeg C [x] H Q E :=
  ⟨_, _, _, rfl, hx, smD ha, den0 a, fun v H' e h => k v H' e (toQ (den0 a) (q_neg a) h)⟩
theorem partQ (hy : NumQ C H y b) (k : ∀ v H', Same H H' → IsQ C H' v b → Q v H') : spPart C [y] H Q E := ⟨y, _, _, rfl, hy, k⟩
theorem dLt (a b : Rat) : decide (a.num * b.den < b.num * a.den) = decide (a < b) := decide_eq_decide.mpr (Rat.lt_iff a b).symm
theorem dLe (a b : Rat) : decide (a.num * b.den ≤ b.num * a.den) = decide (a ≤ b) := decide_eq_decide.mpr (Rat.le_iff a b).symm
theorem dEq (a b : Rat) : (decide (a.num = b.num) && decide ((a.den : Int) = b.den)) = decide (a = b) := by
  rw [← Bool.decide_and]
  refine decide_eq_decide.mpr ⟨fun h => Rat.ext h.1 (Int.ofNat.inj h.2), fun h => by rw [h]; exact ⟨rfl, rfl⟩⟩
theorem ltQ (T : XC K mg C) (hx : IsQ C H x a) (hy : NumQ C H y b) (ha : Ht 4000 a) (hb : Ht 4000 b) (k : ∀ H', Same H H' → Q (.bl (decide (a < b))) H') : rCmpL K C (spLt C) x y H Q :=
  cmpB T hx hy (smN ha) (smD ha) (smN hb) (smD hb) fun H' e => by
    rw [dLt]
    exact k H' e
theorem gtQ (T : XC K mg C) (hx : IsQ C H x a) (hy : NumQ C H y b) (ha : Ht 4000 a) (hb : Ht 4000 b) (k : ∀ H', Same H H' → Q (.bl (decide (b < a))) H') : rCmpL K C (spGt C) x y H Q :=
  cmpB T hx hy (smN ha) (smD ha) (smN hb) (smD hb) fun H' e => by
    rw [dLt]
    exact k H' e
theorem geQ (T : XC K mg C) (hx : IsQ C H x a) (hy : NumQ C H y b) (ha : Ht 4000 a) (hb : Ht 4000 b) (k : ∀ H', Same H H' → Q (.bl (decide (b ≤ a))) H') : rCmpL K C (spGe C) x y H Q :=
  cmpB T hx hy (smN ha) (smD ha) (smN hb) (smD hb) fun H' e => by
    rw [dLe]
    exact k H' e
theorem eqQ (T : XC K mg C) (hx : IsQ C H x a) (hy : NumQ C H y b) (k : ∀ H', Same H H' → Q (.bl (decide (a = b))) H') : rCmpL K C (spEqX K C) x y H Q :=
  eqB T hx hy fun H' e => by
    rw [dEq]
    exact k H' e
end
end LW
set_option Elab.async false
set_option linter.all false
set_option maxRecDepth 100000
set_option maxHeartbeats 4000000
namespace LW
open PySem PySem.Spec PyProof.Rows L2 LV LM UL
/-! operators on pure values -/
abbrev Std (X : Cx) (P : Program) (w : World) (K : PySem.W.Frag) (mg : Str → Option Value) (base : Heap) : Prop := X.prog = P ∧ X.w = w ∧ X.K = K ∧ X.mg = mg ∧ X.base = base
/-- the operators of Exact -/
structure UX (P : Program) (w : World) (K : PySem.W.Frag) (mg : Str → Option Value) (base : Heap) (κ : String → Addr) : Prop where
  T : XE K mg (κ "Exact")
  add : ∀ X, Std X P w K mg base → OwnM X 5 (κ "Exact") "__add__" (spAdd (κ "Exact"))
  sub : ∀ X, Std X P w K mg base → OwnM X 5 (κ "Exact") "__sub__" (spSub (κ "Exact"))
  mul : ∀ X, Std X P w K mg base → OwnM X 5 (κ "Exact") "__mul__" (spMul (κ "Exact"))
  radd : ∀ X, Std X P w K mg base → OwnM X 6 (κ "Exact") "__radd__" (spRadd (κ "Exact"))
  rsub : ∀ X, Std X P w K mg base → OwnM X 6 (κ "Exact") "__rsub__" (spRsub (κ "Exact"))
  rmul : ∀ X, Std X P w K mg base → OwnM X 6 (κ "Exact") "__rmul__" (spRmul (κ "Exact"))
  neg : ∀ X, Std X P w K mg base → OwnM X 5 (κ "Exact") "__neg__" (spNeg (κ "Exact"))
  lt : ∀ X, Std X P w K mg base → OwnM X 5 (κ "Exact") "__lt__" (spLt (κ "Exact"))
  le : ∀ X, Std X P w K mg base → OwnM X 5 (κ "Exact") "__le__" (spLe (κ "Exact"))
  gt : ∀ X, Std X P w K mg base → OwnM X 5 (κ "Exact") "__gt__" (spGt (κ "Exact"))
  ge : ∀ X, Std X P w K mg base → OwnM X 5 (κ "Exact") "__ge__" (spGe (κ "Exact"))
  eq : ∀ X, Std X P w K mg base → OwnM X 5 (κ "Exact") "__eq__" (spEqX K (κ "Exact"))
section
variable {P : Program} {w : World} {K : PySem.W.Frag} {mg : Str → Option Value} {base : Heap} {κ : String → Addr} {γ : Gh}
theorem smQ_ht {r : Rat} (h : smQ r = true) : Ht 4000 r := by
  unfold smQ at h
  simp only [Bool.and_eq_true, decide_eq_true_eq] at h
  exact h
theorem okQ_eq {a b : Rat} {x u : U} (h : okQ a b x = some u) : Ht 4000 a ∧ Ht 4000 b ∧ u = x := by
  unfold okQ at h
  split at h
  · rename_i hh
    rw [Bool.and_eq_true] at hh
    cases h
    exact ⟨smQ_ht hh.1, smQ_ht hh.2, rfl⟩
  · cases h
/-- a new Exact is of the region -/
theorem qStep {S H H' : Hp} {v : V} {r : Rat} (e : Same S H) (e' : Same H H') (h : IsQ (κ "Exact") H' v r) : ∃ S', StpP κ S H S' H' ∧ Rep κ S' (.q r) v := by
  obtain ⟨x, dx, rfl, hx⟩ := h
  have hS : Same S fun b => if b = x then H' b else S b := fun b o hb => by
    show (if b = x then H' b else S b) = some o
    by_cases z : b = x
    · rw [if_pos z]
      exact e' b o (e b o hb)
    · rw [if_neg z]
      exact hb
  refine ⟨fun b => if b = x then H' b else S b, ⟨e', hS, fun b o hb => ?_, fun b o hb => ?_⟩, x, dx, rfl, (if_pos rfl).trans hx⟩
  · have hb : (if b = x then H' b else S b) = some o := hb
    by_cases z : b = x
    · rw [if_pos z] at hb
      exact hb
    · rw [if_neg z] at hb
      exact e' b o (e b o hb)
  · have hb : (if b = x then H' b else S b) = some o := hb
    by_cases z : b = x
    · rw [if_pos z, z, hx] at hb
      exact .inr (.inr (.inl ⟨dx, _, (Option.some.inj hb).symm⟩))
    · rw [if_neg z] at hb
      exact .inl hb
theorem repQ {S H : Hp} {v : V} {r : Rat} (e : Same S H) (h : Rep κ S (.q r) v) : IsQ (κ "Exact") H v r := by
  obtain ⟨x, dx, rfl, hx⟩ := h
  exact ⟨x, dx, rfl, e _ _ hx⟩
theorem repI {C : Addr} {H : Hp} (i : Int) : NumQ C H (.int i) (i : Rat) := .inl ⟨by rw [Rat.num_intCast], by rw [Rat.den_intCast]; rfl⟩
theorem stay {S H : Hp} (e : Same S H) : StpP κ S H S H := StpP.refl e
theorem stay' {S H H' : Hp} (e : Same S H) (e' : Same H H') : StpP κ S H S H' := ⟨e', fun _ _ h => h, e.trans e', fun _ _ h => .inl h⟩
/-! the other way round: an int on the left -/
section
variable {C : Addr} {H : Hp} {y : V} {i : Int} {b : Rat} {Q : VK} {E : XK}
theorem raddQ (hy : IsQ C H y b) (ha : Ht 4000 (i : Rat)) (hb : Ht 4000 b) (k : ∀ v H', Same H H' → IsQ C H' v (i + b) → Q v H') : rOwnR C (spRadd C) (.int i) y H Q := by
  obtain ⟨ya, yd, rfl, hy'⟩ := id hy
  refine ⟨i, ya, yd, _, rfl, rfl, hy', _, _, _, _, _, _, rfl, hy, repI i, smN hb, smD hb, smN ha, smD ha, den0 b, den0 _, fun v H' e h => k v H' e (toQ (Int.mul_ne_zero (den0 _) (den0 b)) ?_ h)⟩
  exact q_add (i : Rat) b
theorem rsubQ (hy : IsQ C H y b) (ha : Ht 4000 (i : Rat)) (hb : Ht 4000 b) (k : ∀ v H', Same H H' → IsQ C H' v (i - b) → Q v H') : rOwnR C (spRsub C) (.int i) y H Q := by
  obtain ⟨ya, yd, rfl, hy'⟩ := id hy
  refine ⟨i, ya, yd, _, rfl, rfl, hy', _, _, _, _, _, _, rfl, hy, repI i, smN hb, smD hb, smN ha, smD ha, den0 b, den0 _, fun v H' e h => k v H' e (toQ (Int.mul_ne_zero (den0 _) (den0 b)) ?_ h)⟩
  exact q_sub (i : Rat) b
theorem rmulQ (hy : IsQ C H y b) (ha : Ht 4000 (i : Rat)) (hb : Ht 4000 b) (k : ∀ v H', Same H H' → IsQ C H' v (i * b) → Q v H') : rOwnR C (spRmul C) (.int i) y H Q := by
  obtain ⟨ya, yd, rfl, hy'⟩ := id hy
  refine ⟨i, ya, yd, _, rfl, rfl, hy', _, _, _, _, _, _, rfl, hy, repI i, smN hb, smD hb, smN ha, smD ha, den0 b, den0 _, fun v H' e h => k v H' e (toQ (Int.mul_ne_zero (den0 _) (den0 b)) ?_ h)⟩
  exact q_mul (i : Rat) b
end
theorem op_addU (B : UX P w K mg base κ) {X : Cx} (hX : Std X P w K mg base) {j : Nat} (hr : Room j X.A) (hj : 6 ≤ j := by decide) : OpR X (binaryOp .Add) (r2 κ addU) := by
  obtain ⟨rfl, rfl, rfl, rfl, rfl⟩ := hX
  have hX : Std X X.prog X.w X.K X.mg X.base := ⟨rfl, rfl, rfl, rfl, rfl⟩
  intro pins s σ H x y v u Q I rx ry h
  obtain ⟨S, a, b, c, e, ra, rb, hf, k⟩ := h
  have q : ∀ {v H' r}, Same H H' → IsQ (κ "Exact") H' v r → c = .q r → Q v H' := fun e' h hc => by
    subst hc
    obtain ⟨S', p, r⟩ := qStep e e' h
    exact k _ S' _ p r
  cases a <;> cases b <;> try cases hf
  · cases ra
    cases rb
    exact op_add pins s σ H _ _ v u Q I rx ry ⟨_, _, rfl, rfl, k _ S H (stay e) rfl⟩
  · obtain ⟨h1, h2, rfl⟩ := okQ_eq hf
    cases ra
    exact op_addR (B.add X hX) (B.radd X hX) B.T.own (hr.mono hj) pins s σ H _ y v u Q I rx ry (raddQ (repQ e rb) h1 h2 fun v H' e' h => q e' h rfl)
  · rename_i z1 z2
    dsimp only [addU] at hf
    split at hf
    · rename_i hz
      cases hf
      cases ra
      cases rb
      exact op_add_str pins s σ H _ _ v u Q I rx ry ⟨z1, z2, rfl, rfl, hz, k _ S H (stay e) rfl⟩
    · cases hf
  · obtain ⟨h1, h2, rfl⟩ := okQ_eq hf
    cases rb
    exact op_addL (B.add X hX) B.T.f_radd.choose_spec B.T.own (hr.mono (by omega)) pins s σ H x _ v u Q I rx ry (addQ (repQ e ra) (repI _) h1 h2 fun v H' e' h => q e' h rfl)
  · obtain ⟨h1, h2, rfl⟩ := okQ_eq hf
    exact op_addL (B.add X hX) B.T.f_radd.choose_spec B.T.own (hr.mono (by omega)) pins s σ H x y v u Q I rx ry (addQ (repQ e ra) (.inr (repQ e rb)) h1 h2 fun v H' e' h => q e' h rfl)
  · rename_i us ws
    dsimp only [addU] at hf
    split at hf
    · rename_i hz
      cases hf
      obtain ⟨p, xs, rfl, hp, r1⟩ := ra
      obtain ⟨p', ys, rfl, hp', r2⟩ := rb
      refine op_cat pins s σ H _ _ v u Q I rx ry ⟨p, p', xs, ys, rfl, rfl, e _ _ hp, e _ _ hp', by rw [← r1.len, ← r2.len]; exact hz, fun l hl => ?_⟩
      have st : StpP κ S H (upd S l (.lst (xs ++ ys))) (upd H l (.lst (xs ++ ys))) := StpP.new1 e hl
      exact k _ _ _ st ⟨l, _, rfl, upd_same, Reps.mono st.sub _ (r1.app r2)⟩
    · cases hf
  · rename_i us ws
    dsimp only [addU] at hf
    split at hf
    · rename_i hz
      cases hf
      obtain ⟨p, xs, rfl, hp, r1⟩ := ra
      obtain ⟨p', ys, rfl, hp', r2⟩ := rb
      refine op_catA pins s σ H _ _ v u Q I rx ry ⟨p, p', xs, ys, rfl, rfl, SqT.of (e _ _ hp), SqT.of (e _ _ hp'), by rw [← r1.len, ← r2.len]; exact hz, fun h0 => ?_, fun h0 h1 => ?_, fun h0 h1 l hl => ?_⟩
      · subst h0
        have : us = [] := List.length_eq_zero_iff.mp (by rw [r1.len]; rfl)
        subst this
        exact k _ S H (stay e) ⟨p', ys, rfl, hp', r2⟩
      · subst h1
        have : ws = [] := List.length_eq_zero_iff.mp (by rw [r2.len]; rfl)
        subst this
        exact k _ S H (stay e) ⟨p, xs, rfl, hp, by rw [List.append_nil]; exact r1⟩
      · have st : StpP κ S H (upd S l (.tup (xs ++ ys))) (upd H l (.tup (xs ++ ys))) := StpP.new1 e hl
        exact k _ _ _ st ⟨l, _, rfl, upd_same, Reps.mono st.sub _ (r1.app r2)⟩
    · cases hf
theorem op_subU (B : UX P w K mg base κ) {X : Cx} (hX : Std X P w K mg base) {j : Nat} (hr : Room j X.A) (hj : 6 ≤ j := by decide) : OpR X (binaryOp .Sub) (r2 κ subU) := by
  obtain ⟨rfl, rfl, rfl, rfl, rfl⟩ := hX
  have hX : Std X X.prog X.w X.K X.mg X.base := ⟨rfl, rfl, rfl, rfl, rfl⟩
  intro pins s σ H x y v u Q I rx ry h
  obtain ⟨S, a, b, c, e, ra, rb, hf, k⟩ := h
  have q : ∀ {v H' r}, Same H H' → IsQ (κ "Exact") H' v r → c = .q r → Q v H' := fun e' h hc => by
    subst hc
    obtain ⟨S', p, r⟩ := qStep e e' h
    exact k _ S' _ p r
  cases a <;> cases b <;> try cases hf
  · cases ra
    cases rb
    exact op_sub pins s σ H _ _ v u Q I rx ry ⟨_, _, rfl, rfl, k _ S H (stay e) rfl⟩
  · obtain ⟨h1, h2, rfl⟩ := okQ_eq hf
    cases ra
    exact op_subR (B.sub X hX) (B.rsub X hX) B.T.own (hr.mono hj) pins s σ H _ y v u Q I rx ry (rsubQ (repQ e rb) h1 h2 fun v H' e' h => q e' h rfl)
  · obtain ⟨h1, h2, rfl⟩ := okQ_eq hf
    cases rb
    exact op_subL (B.sub X hX) B.T.f_rsub.choose_spec B.T.own (hr.mono (by omega)) pins s σ H x _ v u Q I rx ry (subQ (repQ e ra) (repI _) h1 h2 fun v H' e' h => q e' h rfl)
  · obtain ⟨h1, h2, rfl⟩ := okQ_eq hf
    exact op_subL (B.sub X hX) B.T.f_rsub.choose_spec B.T.own (hr.mono (by omega)) pins s σ H x y v u Q I rx ry (subQ (repQ e ra) (.inr (repQ e rb)) h1 h2 fun v H' e' h => q e' h rfl)
theorem bigI_mul {i j : Int} (h : mulOk i j = true) : IntMulOk i j := by
  unfold mulOk at h
  rw [Bool.or_eq_true, Bool.or_eq_true, Bool.and_eq_true] at h
  rcases h with (h | h) | h
  · have := of_decide_eq_true h
    exact .of_left (intBits_le_64 (by omega) (by omega))
  · have := of_decide_eq_true h
    exact .of_right (intBits_le_64 (by omega) (by omega))
  · exact mulB (of_decide_eq_true h.1) (of_decide_eq_true h.2)
theorem op_mulU (B : UX P w K mg base κ) {X : Cx} (hX : Std X P w K mg base) {j : Nat} (hr : Room j X.A) (hj : 6 ≤ j := by decide) : OpR X (binaryOp .Mult) (r2 κ mulU) := by
  obtain ⟨rfl, rfl, rfl, rfl, rfl⟩ := hX
  have hX : Std X X.prog X.w X.K X.mg X.base := ⟨rfl, rfl, rfl, rfl, rfl⟩
  intro pins s σ H x y v u Q I rx ry h
  obtain ⟨S, a, b, c, e, ra, rb, hf, k⟩ := h
  have q : ∀ {v H' r}, Same H H' → IsQ (κ "Exact") H' v r → c = .q r → Q v H' := fun e' h hc => by
    subst hc
    obtain ⟨S', p, r⟩ := qStep e e' h
    exact k _ S' _ p r
  cases a <;> cases b <;> try cases hf
  · dsimp only [mulU] at hf
    split at hf
    · rename_i hz
      cases hf
      cases ra
      cases rb
      exact op_mulG pins s σ H _ _ v u Q I rx ry ⟨_, _, rfl, rfl, bigI_mul hz, k _ S H (stay e) rfl⟩
    · cases hf
  · obtain ⟨h1, h2, rfl⟩ := okQ_eq hf
    cases ra
    exact op_mulR (B.mul X hX) (B.rmul X hX) B.T.own (hr.mono hj) pins s σ H _ y v u Q I rx ry (rmulQ (repQ e rb) h1 h2 fun v H' e' h => q e' h rfl)
  · obtain ⟨h1, h2, rfl⟩ := okQ_eq hf
    cases rb
    exact op_mulL (B.mul X hX) B.T.f_rmul.choose_spec B.T.own (hr.mono (by omega)) pins s σ H x _ v u Q I rx ry (mulQ (repQ e ra) (repI _) h1 h2 fun v H' e' h => q e' h rfl)
  · obtain ⟨h1, h2, rfl⟩ := okQ_eq hf
    exact op_mulL (B.mul X hX) B.T.f_rmul.choose_spec B.T.own (hr.mono (by omega)) pins s σ H x y v u Q I rx ry (mulQ (repQ e ra) (.inr (repQ e rb)) h1 h2 fun v H' e' h => q e' h rfl)
/-! operators of ints alone -/
theorem op_fdivU {X : Cx} : OpR X (binaryOp .FloorDiv) (r2 κ fdivU) := by
  intro pins s σ H x y v u Q I rx ry h
  obtain ⟨S, a, b, c, e, ra, rb, hf, k⟩ := h
  cases a <;> cases b <;> try cases hf
  dsimp only [fdivU] at hf
  split at hf
  · rename_i hz
    cases hf
    cases ra
    cases rb
    exact op_fdivG pins s σ H _ _ v u Q I rx ry ⟨_, _, rfl, rfl, hz, k _ S H (stay e) rfl⟩
  · cases hf
theorem op_modU {X : Cx} : OpR X (binaryOp .Mod) (r2 κ modU) := by
  intro pins s σ H x y v u Q I rx ry h
  obtain ⟨S, a, b, c, e, ra, rb, hf, k⟩ := h
  cases a <;> cases b <;> try cases hf
  dsimp only [modU] at hf
  split at hf
  · rename_i hz
    cases hf
    cases ra
    cases rb
    exact op_modN pins s σ H _ _ v u Q I rx ry ⟨_, _, rfl, rfl, hz, k _ S H (stay e) rfl⟩
  · cases hf
theorem op_powU {X : Cx} : OpR X (binaryOp .Pow) (r2 κ powU) := by
  intro pins s σ H x y v u Q I rx ry h
  obtain ⟨S, a, b, c, e, ra, rb, hf, k⟩ := h
  cases a <;> cases b <;> try cases hf
  dsimp only [powU] at hf
  split at hf
  · rename_i hz
    cases hf
    cases ra
    cases rb
    exact op_pow pins s σ H _ _ v u Q I rx ry ⟨_, _, rfl, rfl, hz, k _ S H (stay e) rfl⟩
  · cases hf
end
end LW
set_option Elab.async false
set_option linter.all false
set_option maxRecDepth 100000
set_option maxHeartbeats 4000000
namespace LW
open PySem PySem.Spec PyProof.Rows L2 LV LM UL
/-! comparisons, subscripts, built-ins on pure values -/
section
variable {P : Program} {w : World} {K : PySem.W.Frag} {mg : Str → Option Value} {base : Heap} {κ : String → Addr} {γ : Gh}
section
variable {C : Addr} {H : Hp} {y : V} {i : Int} {b : Rat} {Q : VK}
theorem ltRQ (hy : IsQ C H y b) (ha : Ht 4000 (i : Rat)) (hb : Ht 4000 b) (k : ∀ H', Same H H' → Q (.bl (decide ((i : Rat) < b))) H') : rCmpRI C (spGt C) (.int i) y H Q := by
  obtain ⟨ya, yd, rfl, hy'⟩ := id hy
  refine ⟨i, ya, yd, _, rfl, rfl, hy', _, _, _, _, _, _, rfl, hy, repI i, smN hb, smD hb, smN ha, smD ha, fun H' e => ?_⟩
  dsimp only
  rw [dLt]
  exact k H' e
theorem gtRQ (hy : IsQ C H y b) (ha : Ht 4000 (i : Rat)) (hb : Ht 4000 b) (k : ∀ H', Same H H' → Q (.bl (decide (b < (i : Rat)))) H') : rCmpRI C (spLt C) (.int i) y H Q := by
  obtain ⟨ya, yd, rfl, hy'⟩ := id hy
  refine ⟨i, ya, yd, _, rfl, rfl, hy', _, _, _, _, _, _, rfl, hy, repI i, smN hb, smD hb, smN ha, smD ha, fun H' e => ?_⟩
  dsimp only
  rw [dLt]
  exact k H' e
theorem geRQ (hy : IsQ C H y b) (ha : Ht 4000 (i : Rat)) (hb : Ht 4000 b) (k : ∀ H', Same H H' → Q (.bl (decide (b ≤ (i : Rat)))) H') : rCmpRI C (spLe C) (.int i) y H Q := by
  obtain ⟨ya, yd, rfl, hy'⟩ := id hy
  refine ⟨i, ya, yd, _, rfl, rfl, hy', _, _, _, _, _, _, rfl, hy, repI i, smN hb, smD hb, smN ha, smD ha, fun H' e => ?_⟩
  dsimp only
  rw [dLe]
  exact k H' e
end
theorem op_ltU (B : UX P w K mg base κ) {X : Cx} (hX : Std X P w K mg base) {j : Nat} (hr : Room j X.A) (hj : 6 ≤ j := by decide) : OpR X (compareOp .Lt) (r2 κ ltU) := by
  obtain ⟨rfl, rfl, rfl, rfl, rfl⟩ := hX
  have hX : Std X X.prog X.w X.K X.mg X.base := ⟨rfl, rfl, rfl, rfl, rfl⟩
  intro pins s σ H x y v u Q I rx ry h
  obtain ⟨S, a, b, c, e, ra, rb, hf, k⟩ := h
  cases a <;> cases b <;> try cases hf
  · cases ra
    cases rb
    exact op_lt pins s σ H _ _ v u Q I rx ry ⟨_, _, rfl, rfl, k _ S H (stay e) rfl⟩
  · obtain ⟨h1, h2, rfl⟩ := okQ_eq hf
    cases ra
    exact op_ltR (B.gt X hX) B.T.own (hr.mono (by omega)) pins s σ H _ y v u Q I rx ry (ltRQ (repQ e rb) h1 h2 fun H' e' => k _ S H' (stay' e e') rfl)
  · obtain ⟨h1, h2, rfl⟩ := okQ_eq hf
    cases rb
    exact op_ltL (B.lt X hX) (hr.mono (by omega)) pins s σ H x _ v u Q I rx ry (ltQ B.T.toXC (repQ e ra) (repI _) h1 h2 fun H' e' => k _ S H' (stay' e e') rfl)
  · obtain ⟨h1, h2, rfl⟩ := okQ_eq hf
    exact op_ltL (B.lt X hX) (hr.mono (by omega)) pins s σ H x y v u Q I rx ry (ltQ B.T.toXC (repQ e ra) (.inr (repQ e rb)) h1 h2 fun H' e' => k _ S H' (stay' e e') rfl)
theorem op_gtU (B : UX P w K mg base κ) {X : Cx} (hX : Std X P w K mg base) {j : Nat} (hr : Room j X.A) (hj : 6 ≤ j := by decide) : OpR X (compareOp .Gt) (r2 κ gtU) := by
  obtain ⟨rfl, rfl, rfl, rfl, rfl⟩ := hX
  have hX : Std X X.prog X.w X.K X.mg X.base := ⟨rfl, rfl, rfl, rfl, rfl⟩
  intro pins s σ H x y v u Q I rx ry h
  obtain ⟨S, a, b, c, e, ra, rb, hf, k⟩ := h
  cases a <;> cases b <;> try cases hf
  · cases ra
    cases rb
    exact op_gt pins s σ H _ _ v u Q I rx ry ⟨_, _, rfl, rfl, k _ S H (stay e) rfl⟩
  · obtain ⟨h1, h2, rfl⟩ := okQ_eq hf
    cases ra
    exact op_gtR (B.lt X hX) B.T.own (hr.mono (by omega)) pins s σ H _ y v u Q I rx ry (gtRQ (repQ e rb) h1 h2 fun H' e' => k _ S H' (stay' e e') rfl)
  · obtain ⟨h1, h2, rfl⟩ := okQ_eq hf
    cases rb
    exact op_gtL (B.gt X hX) (hr.mono (by omega)) pins s σ H x _ v u Q I rx ry (gtQ B.T.toXC (repQ e ra) (repI _) h1 h2 fun H' e' => k _ S H' (stay' e e') rfl)
  · obtain ⟨h1, h2, rfl⟩ := okQ_eq hf
    exact op_gtL (B.gt X hX) (hr.mono (by omega)) pins s σ H x y v u Q I rx ry (gtQ B.T.toXC (repQ e ra) (.inr (repQ e rb)) h1 h2 fun H' e' => k _ S H' (stay' e e') rfl)
theorem op_geU (B : UX P w K mg base κ) {X : Cx} (hX : Std X P w K mg base) {j : Nat} (hr : Room j X.A) (hj : 6 ≤ j := by decide) : OpR X (compareOp .GtE) (r2 κ geU) := by
  obtain ⟨rfl, rfl, rfl, rfl, rfl⟩ := hX
  have hX : Std X X.prog X.w X.K X.mg X.base := ⟨rfl, rfl, rfl, rfl, rfl⟩
  intro pins s σ H x y v u Q I rx ry h
  obtain ⟨S, a, b, c, e, ra, rb, hf, k⟩ := h
  cases a <;> cases b <;> try cases hf
  · cases ra
    cases rb
    exact op_ge pins s σ H _ _ v u Q I rx ry ⟨_, _, rfl, rfl, k _ S H (stay e) rfl⟩
  · obtain ⟨h1, h2, rfl⟩ := okQ_eq hf
    cases ra
    exact op_geR (B.le X hX) B.T.own (hr.mono (by omega)) pins s σ H _ y v u Q I rx ry (geRQ (repQ e rb) h1 h2 fun H' e' => k _ S H' (stay' e e') rfl)
  · obtain ⟨h1, h2, rfl⟩ := okQ_eq hf
    cases rb
    exact op_geL (B.ge X hX) (hr.mono (by omega)) pins s σ H x _ v u Q I rx ry (geQ B.T.toXC (repQ e ra) (repI _) h1 h2 fun H' e' => k _ S H' (stay' e e') rfl)
  · obtain ⟨h1, h2, rfl⟩ := okQ_eq hf
    exact op_geL (B.ge X hX) (hr.mono (by omega)) pins s σ H x y v u Q I rx ry (geQ B.T.toXC (repQ e ra) (.inr (repQ e rb)) h1 h2 fun H' e' => k _ S H' (stay' e e') rfl)
/-! subscripts -/
theorem atI_reps {S : Hp} {us : List U} {vs : List V} {i : Int} {u : U} (r : Reps κ S us vs) (h : atI us i = some u) : ∃ v, atI vs i = some v ∧ Rep κ S u v := by
  obtain ⟨n, h1, h2⟩ := bindS (show (ixN us.length i).bind (fun n => us[n]?) = some u from h)
  obtain ⟨v, hv, rv⟩ := r.get h2
  refine ⟨v, ?_, rv⟩
  show (ixN vs.length i).bind _ = _
  rw [← r.len, h1]
  exact hv
theorem ix_U {X : Cx} : IxR X (r2 κ ixU) := by
  intro value slice pins s σ H x y v u Q I rx ry h hs
  obtain ⟨S, a, b, c, e, ra, rb, hf, k⟩ := h
  cases a <;> cases b <;> try cases hf
  · rename_i z i
    dsimp only [ixU] at hf
    split at hf
    · rename_i hz
      obtain ⟨ch, hc, hf⟩ := bindS hf
      cases hf
      cases ra
      cases rb
      exact ix_str value slice pins s σ H _ _ v u Q I rx ry ⟨z, i, ch, rfl, rfl, hz, hc, k _ S H (stay e) rfl⟩ hs
    · cases hf
  · rename_i us i
    obtain ⟨p, xs, rfl, hp, r1⟩ := ra
    cases rb
    obtain ⟨x, hx, rx'⟩ := atI_reps r1 hf
    exact ix_list value slice pins s σ H _ _ v u Q I rx ry ⟨p, xs, i, x, rfl, rfl, SqL.of (e _ _ hp), hx, k _ S H (stay e) rx'⟩ hs
  · rename_i us i
    obtain ⟨p, xs, rfl, hp, r1⟩ := ra
    cases rb
    obtain ⟨x, hx, rx'⟩ := atI_reps r1 hf
    exact ix_tup value slice pins s σ H _ _ v u Q I rx ry ⟨p, xs, i, x, rfl, rfl, SqT.of (e _ _ hp), hx, k _ S H (stay e) rx'⟩ hs
  · rename_i us i
    obtain ⟨p, xs, rfl, hp, r1, _⟩ := ra
    cases rb
    obtain ⟨x, hx, rx'⟩ := atI_reps r1 hf
    exact ix_list value slice pins s σ H _ _ v u Q I rx ry ⟨p, xs, i, x, rfl, rfl, SqL.of (e _ _ hp), hx, k _ S H (stay e) rx'⟩ hs
/-! built-ins -/
theorem cr_of {X : Cx} {f : Value} {r r' : List V → Hp → VK → Prop} (h : CallR X f r) (hi : ∀ xs H Q, r' xs H Q → r xs H Q) : CallR X f r' := fun pins s σ H xs us Q I rv q => h pins s σ H xs us Q I rv (hi xs H Q q)
theorem call_lenU {X : Cx} : CallR X (.builtin "len") (rP κ lenU) := fun pins s σ H xs us Q I rv h => by
  obtain ⟨S, ws, u, e, rs, hf, k⟩ := h
  unfold lenU at hf
  split at hf <;> try cases hf
  · obtain ⟨v, _, rfl, ⟨a, ys, rfl, ha, ry⟩, rfl⟩ := rs
    exact call_len_seq pins s σ H _ us Q I rv ⟨a, ys, rfl, .inl (SqL.of (e _ _ ha)), k _ S H (stay e) (by rw [ry.len]; rfl)⟩
  · obtain ⟨v, _, rfl, ⟨a, ys, rfl, ha, ry⟩, rfl⟩ := rs
    exact call_len_seq pins s σ H _ us Q I rv ⟨a, ys, rfl, .inr (SqT.of (e _ _ ha)), k _ S H (stay e) (by rw [ry.len]; rfl)⟩
  · obtain ⟨v, _, rfl, ⟨a, ys, rfl, ha, ry, _⟩, rfl⟩ := rs
    exact call_len_seq pins s σ H _ us Q I rv ⟨a, ys, rfl, .inl (SqL.of (e _ _ ha)), k _ S H (stay e) (by rw [ry.len]; rfl)⟩
  · split at hf
    · rename_i hz
      cases hf
      obtain ⟨v, _, rfl, rfl, rfl⟩ := rs
      exact call_len_str pins s σ H _ us Q I rv ⟨_, rfl, hz, k _ S H (stay e) rfl⟩
    · cases hf
theorem call_intU {X : Cx} : CallR X (.type "int") (rP κ intU) := cr_of call_int1 fun xs H Q h => by
  obtain ⟨S, us, u, e, rs, hf, k⟩ := h
  unfold intU at hf
  split at hf <;> try cases hf
  · obtain ⟨v, _, rfl, rfl, rfl⟩ := rs
    exact .inl ⟨_, rfl, k _ S H (stay e) rfl⟩
  · obtain ⟨v, _, rfl, rfl, rfl⟩ := rs
    exact .inr ⟨_, rfl, k _ S H (stay e) rfl⟩
theorem allB_reps {S : Hp} : ∀ {us : List U} {bs : List Bool} {vs : List V}, allB us = some bs → Reps κ S us vs → vs = bs.map V.bl
  | [], bs, vs, h, r => by
    cases h
    exact r
  | u :: us, bs, vs, h, r => by
    obtain ⟨b, h1, h⟩ := bindS h
    obtain ⟨bs', h2, h⟩ := bindS h
    cases h
    obtain ⟨v, vs', rfl, r1, r2⟩ := r
    rw [isB_rep h1 r1, allB_reps h2 r2]
    rfl
theorem call_allU {X : Cx} (hc : X.calm = true) : CallR X (.builtin "all") (rP κ allU) := cr_of (cr_all hc) fun xs H Q h => by
  obtain ⟨S, us, u, e, rs, hf, k⟩ := h
  unfold allU at hf
  split at hf <;> try cases hf
  obtain ⟨bs, h1, hf⟩ := bindS hf
  cases hf
  obtain ⟨v, _, rfl, ⟨a, ys, rfl, ha, ry⟩, rfl⟩ := rs
  have := allB_reps h1 ry
  subst this
  exact ⟨a, bs, rfl, SqL.of (e _ _ ha), k _ S H (stay e) rfl⟩
end
end LW
set_option Elab.async false
set_option linter.all false
set_option maxRecDepth 100000
set_option maxHeartbeats 4000000
namespace LW
open PySem PySem.Spec PyProof.Rows L2 LV LM UL
/-! == of pure values -/
section
variable {X : Cx} {n : Nat} {C : Addr} {sp : Sp}
theorem eqBool_r {prog : Program} {w : World} {A : Around} {E : Value → Shared → Prop} {s : Shared} {a : Value} {l : Addr} {Q : Bool → Shared → Prop} (hne : (a == .ref l) = false) (h : wpAny (model prog w) A (richCompare .Eq a (.ref l)) (fun v s' => ∃ r, v = .bool r ∧ Q r s') E s) : wpAny (model prog w) A (eqBool a (.ref l)) Q E s := by
  unfold eqBool
  refine wpAny_holding ?_
  refine wpAny_ite_split (fun hab => absurd hab (by rw [hne]; exact Bool.false_ne_true)) (fun _ => ?_)
  have go : wpAny (model prog w) A (richCompare .Eq a (.ref l) >>= truthOfDropped) Q E s := by
    refine wpAny_bind (wpAny_mono h (fun v s' hv => ?_) fun _ _ x => x)
    obtain ⟨r, rfl, q⟩ := hv
    exact wpAny_truthy_bool q
  cases a <;> exact go
theorem eqBool_l {prog : Program} {w : World} {A : Around} {E : Value → Shared → Prop} {s : Shared} {b : Value} {l : Addr} {Q : Bool → Shared → Prop} (hne : (Value.ref l == b) = false) (h : wpAny (model prog w) A (richCompare .Eq (.ref l) b) (fun v s' => ∃ r, v = .bool r ∧ Q r s') E s) : wpAny (model prog w) A (eqBool (.ref l) b) Q E s := by
  unfold eqBool
  refine wpAny_holding ?_
  refine wpAny_ite_split (fun hab => absurd hab (by rw [hne]; exact Bool.false_ne_true)) (fun _ => ?_)
  refine wpAny_bind (wpAny_mono h (fun v s' hv => ?_) fun _ _ x => x)
  obtain ⟨r, rfl, q⟩ := hv
  exact wpAny_truthy_bool q
/-- a method that tells a bool runs within -/
theorem runSub {A : Around} {f : Addr} {fd : FuncData} {ps : List Str} {pins : List (Addr × Obj)} {σ : L2.St} {H : Hp} {s : Shared} {us : List Value} {vs : List V} {b : Bool} (sb : Sub X n A) (F : FnOk X.prog X.w X.K X.mg X.base CX0 n f fd ps sp) (hbd : Binds X.K fd ps [])
    (I : Inv X pins σ H s) (r2 : Vals vs us) (hsp : sp vs H (fun v H'' => v = .bl b ∧ Ext H H'') E0) : wpAny (model X.prog X.w) A (call (.ref f) us) (PySem.W.CmpBack fun r s' => r = .bool b ∧ ∃ H', Inv X pins σ H' s' ∧ Ext H H') X.xe s := by
  have e0 : Env0 X.prog X.w X.K X.mg X.base A X.stack s H := by
    have e := I.env0
    exact ⟨by rw [sb.fr]; exact e.frames, e.mod, e.bs, e.bsz, e.funs, e.frf, e.hok, e.bare⟩
  have hl := F.len _ _ _ _ hsp
  refine wpAny_call (codeAny_mono (F.run A X.stack s H ⟨us, []⟩ us vs _ E0 sb.room e0 (by
    have := hbd s us I.kIn (by rw [List.append_nil, ← r2.length]; exact hl)
    simpa using this) r2 hsp) fun r s' hq => ?_)
  cases r with
  | error e => exact (show False from hq).elim
  | ok fl =>
    cases fl with
    | ret w =>
      obtain ⟨z, H', I', rz, ez, ex⟩ := I.after hq
      subst ez
      cases rz
      exact ⟨rfl, H', I', ex⟩
    | next => exact False.elim hq
    | brk => exact False.elim hq
    | cont => exact False.elim hq
theorem rcB_L (M : OwnM X n C "__eq__" sp) {A : Around} {pins : List (Addr × Obj)} {s : Shared} {σ : L2.St} {H : Hp} {x y : V} {u v : Value} {b : Bool} (sb : Sub X n A) (I : Inv X pins σ H s) (rx : RelV x u) (ry : RelV y v)
    (h : rCmpL X.K C sp x y H (fun v H'' => v = .bl b ∧ Ext H H'')) : wpAny (model X.prog X.w) A (richCompare .Eq u v) (fun r s' => r = .bool b ∧ ∃ H', Inv X pins σ H' s' ∧ Ext H H') X.xe s := by
  obtain ⟨a, dx, fs, rfl, ha, ⟨t, ht, hn⟩, q⟩ := h
  obtain ⟨f, fd, ps, hs, hf, F, hb⟩ := M.ex
  cases rx
  obtain ⟨mA, J, _⟩ := ins_get I.hok ha
  obtain ⟨od, J, _⟩ := J.look
  obtain ⟨m, hF⟩ := I.fr
  obtain ⟨PP, kt, hP, _⟩ := kit_of I ry ht
  have r2 : Vals [V.ref a, y] [Value.ref a, v] := .cons rfl (.cons ry .nil)
  exact PySem.W.cmp_K (op := .Eq) sb.room.units0 hF I.ok.mod.kin J (kt.ty _ _ I.kIn hP) hn hs hf (runSub sb F hb I r2 q)
theorem rcB_R (M : OwnM X n C "__eq__" sp) {A : Around} {pins : List (Addr × Obj)} {s : Shared} {σ : L2.St} {H : Hp} {x y : V} {v u : Value} {bb : Bool} (sb : Sub X n A) (I : Inv X pins σ H s) (rx : RelV x v) (ry : RelV y u)
    (h : rCmpR X.K C sp x y H (fun v H'' => v = .bl bb ∧ Ext H H'')) : wpAny (model X.prog X.w) A (richCompare .Eq v u) (fun r s' => r = .bool bb ∧ ∃ H', Inv X pins σ H' s' ∧ Ext H H') X.xe s := by
  obtain ⟨b, dy, gs, T, rfl, hb', hx, hsub, q⟩ := h
  obtain ⟨f, fd, ps, hs, hf, FM, hb⟩ := M.ex
  cases ry
  obtain ⟨mA, J, _⟩ := ins_get I.hok hb'
  obtain ⟨od, J, _⟩ := J.look
  obtain ⟨m, hF⟩ := I.fr
  have r2 : Vals [V.ref b, x] [Value.ref b, v] := .cons rfl (.cons rx .nil)
  have run := runSub sb FM hb I r2 q
  cases hx with
  | non =>
    cases rx
    exact cmpRefl sb.room.units0 hF I.ok.mod.kin J (PySem.W.Looks.of_pure rfl) rfl hsub (fun Q' q' => tryC (T := "NoneType") (show s.TypeIs Value.none "NoneType" from rfl) F.slot_NoneType_eq F.entry_NoneType_eq (F.args_NoneType_eq_2 _ _) (fun A' Q2 q2 => niNoneEq J.1 q2) q') hs hf run
  | bl z =>
    cases rx
    exact cmpRefl sb.room.units0 hF I.ok.mod.kin J (PySem.W.Looks.of_pure rfl) rfl hsub (fun Q' q' => tryC (T := "bool") (show s.TypeIs (Value.bool z) "bool" from rfl) F.slot_bool_eq F.entry_int_eq (F.args_int_eq_2 _ _) (fun A' Q2 q2 => niBoolEq J.1 q2) q') hs hf run
  | int i =>
    obtain ⟨t, rfl⟩ := rx
    exact cmpRefl sb.room.units0 hF I.ok.mod.kin J (PySem.W.Looks.of_pure rfl) rfl hsub (fun Q' q' => tryC (T := "int") (typeIs_int s i t) F.slot_int_eq F.entry_int_eq (F.args_int_eq_2 _ _) (fun A' Q2 q2 => niBin J.1 q2) q') hs hf run
  | str z =>
    obtain ⟨t, rfl⟩ := rx
    exact cmpRefl sb.room.units0 hF I.ok.mod.kin J (PySem.W.Looks.of_pure rfl) rfl hsub (fun Q' q' => tryC (T := "str") (show s.TypeIs (Value.str z t) "str" from rfl) F.slot_str_eq F.entry_str_eq (F.args_str_eq_2 _ _) (fun A' Q2 q2 => niStrEq J.1 q2) q') hs hf run
  | lst h =>
    obtain ⟨PP, kt, hP, _⟩ := kit_of I rx (TyX.base (TyOf.lst h))
    cases rx
    obtain ⟨_, _, n, _, h1⟩ := (show ObjOk X.prog X.w H s.heap _ (.lst _) from I.hok _ _ h)
    exact cmpRefl sb.room.units0 hF I.ok.mod.kin J (kt.ty _ _ I.kIn hP) rfl hsub (fun Q' q' => tryC (T := "list") ⟨_, h1, rfl⟩ F.slot_list_eq F.entry_list_eq (F.args_list_eq_2 _ _) (fun A' Q2 q2 => niListEq I.kIn hsub J.1 q2) q') hs hf run
  | tup h =>
    obtain ⟨PP, kt, hP, _⟩ := kit_of I rx (TyX.base (TyOf.tup h))
    cases rx
    obtain ⟨_, _, _, o, h1, h2, _⟩ := (show ObjOk X.prog X.w H s.heap _ (.tup _) from I.hok _ _ h)
    exact cmpRefl sb.room.units0 hF I.ok.mod.kin J (kt.ty _ _ I.kIn hP) rfl hsub (fun Q' q' => tryC (T := "tuple") ⟨o, h1, h2⟩ F.slot_tuple_eq F.entry_tuple_eq (F.args_tuple_eq_2 _ _) (fun A' Q2 q2 => niTupEq I.kIn hsub J.1 q2) q') hs hf run
  | dK h =>
    obtain ⟨PP, kt, hP, _⟩ := kit_of I rx (TyX.base (TyOf.dK h))
    cases rx
    obtain ⟨_, _, vs, _, o, es, ep, h1, h2, _⟩ := (show ObjOk X.prog X.w H s.heap _ (.dK _) from I.hok _ _ h)
    exact cmpRefl sb.room.units0 hF I.ok.mod.kin J (kt.ty _ _ I.kIn hP) rfl hsub (fun Q' q' => tryC (T := "dict") ⟨o, h1, h2.1⟩ F.slot_dict_eq F.entry_dict_eq (F.args_dict_eq_2 _ _) (fun A' Q2 q2 => niDictEq I.kIn hsub J.1 q2) q') hs hf run
end
end LW
set_option Elab.async false
set_option linter.all false
set_option maxRecDepth 100000
set_option maxHeartbeats 4000000
namespace LW
open PySem PySem.Spec PyProof.Rows L2 LV LM UL
section
variable {P : Program} {w : World} {K : PySem.W.Frag} {mg : Str → Option Value} {base : Heap} {κ : String → Addr} {γ : Gh}
def DF (κ : String → Addr) : EqvB := fun x y b H => ∃ S a c, Same S H ∧ Rep κ S a x ∧ Rep κ S c y ∧ eqF a c = some b
theorem rat_of_parts {a c : Rat} (h : UL.exF a.num a.den = UL.exF c.num c.den) : a = c := by
  unfold UL.exF at h
  injection h with h1 h2
  injection h2 with h2 _
  injection h1 with _ h1
  injection h2 with _ h2
  injection h1 with h1
  injection h2 with h2
  exact Rat.ext h1 (Int.ofNat.inj h2)
def othU : U → Bool
  | .non => true | .bl _ => true | .str _ => true | .lst _ => true | .tup _ => true | .dic _ _ => true | _ => false
/-- what stands beside an Exact and is no number -/
theorem oth_rep (T : XE K mg (κ "Exact")) {S H : Hp} {u : U} {v : V} (e : Same S H) (r : Rep κ S u v) (h : othU u = true) : OthK K (κ "Exact") H v := by
  cases u <;> try cases h
  · cases r
    exact oth_non T
  · cases r
    exact oth_bl T _
  · cases r
    exact oth_str T _
  · obtain ⟨a, vs, rfl, ha, _⟩ := r
    exact oth_lst T (e _ _ ha)
  · obtain ⟨a, vs, rfl, ha, _⟩ := r
    exact oth_tup T (e _ _ ha)
  · obtain ⟨a, vs, rfl, ha, _⟩ := r
    exact oth_dK T (e _ _ ha)
theorem eqB_F (B : UX P w K mg base κ) {X : Cx} (hX : Std X P w K mg base) : EqB X 5 (DF κ) := by
  obtain ⟨rfl, rfl, rfl, rfl, rfl⟩ := hX
  have hX : Std X X.prog X.w X.K X.mg X.base := ⟨rfl, rfl, rfl, rfl, rfl⟩
  intro A pins s σ H x y u v b sb I rx ry d
  obtain ⟨S, a, c, e, ra, rc, hf⟩ := d
  have flat : ∀ b', b = b' → flatV x = true → flatV y = true → eqV x y = b' → wpAny (model X.prog X.w) A (eqBool u v) (fun r s' => r = b ∧ ∃ H', L2.Inv X pins σ H' s' ∧ Ext H H') X.xe s := fun b' hb f1 f2 h => by
    subst hb
    exact eqAt_V rx ry f1 f2 X.prog X.w X.xe _ ⟨h, H, I, Ext.rfl'⟩
  -- an Exact to the left
  have left : ∀ {r : Rat}, Rep κ S (.q r) x → (∀ l, x = .ref l → y ≠ .ref l) → rCmpL X.K (κ "Exact") (spEqX X.K (κ "Exact")) x y H (fun v H'' => v = .bl b ∧ Ext H H'') → wpAny (model X.prog X.w) A (eqBool u v) (fun r s' => r = b ∧ ∃ H', L2.Inv X pins σ H' s' ∧ Ext H H') X.xe s := fun rq ne h => by
    obtain ⟨l, dx, rfl, hl⟩ := rq
    have z := rcB_L (B.eq X hX) sb I rx ry h
    cases rx
    refine eqBool_l (Bool.eq_false_iff.mpr fun hb => ?_) (wpAny_mono z (fun r s' q => ⟨b, q.1, rfl, q.2⟩) fun _ _ x => x)
    have := eq_of_beq hb
    subst this
    cases y <;> first
      | (cases ry; exact ne l rfl rfl)
      | (obtain ⟨_, z⟩ := ry; cases z)
      | cases ry
  have right : ∀ {r : Rat}, Rep κ S (.q r) y → (∀ l, x ≠ .ref l ∨ y ≠ .ref l) → rCmpR X.K (κ "Exact") (spEqX X.K (κ "Exact")) x y H (fun v H'' => v = .bl b ∧ Ext H H'') → wpAny (model X.prog X.w) A (eqBool u v) (fun r s' => r = b ∧ ∃ H', L2.Inv X pins σ H' s' ∧ Ext H H') X.xe s := fun rq ne h => by
    obtain ⟨l, dx, rfl, hl⟩ := rq
    have z := rcB_R (B.eq X hX) sb I rx ry h
    cases ry
    refine eqBool_r (Bool.eq_false_iff.mpr fun hb => ?_) (wpAny_mono z (fun r s' q => ⟨b, q.1, rfl, q.2⟩) fun _ _ x => x)
    have := eq_of_beq hb
    subst this
    cases x <;> first
      | (cases rx; rcases ne l with z | z <;> exact z rfl)
      | (obtain ⟨_, z⟩ := rx; cases z)
      | cases rx
  have oth : ∀ {uu : U} {vv : V}, Rep κ S uu vv → othU uu = true → OthK X.K (κ "Exact") H vv := fun r h => oth_rep B.T e r h
  -- an Exact and another thing stand apart
  have ne1 : ∀ {r : Rat} {uu : U} {v1 v2 : V} {l : Addr}, Rep κ S (.q r) v1 → Rep κ S uu v2 → (∀ q, uu ≠ .q q) → (∀ c, uu ≠ .kt c) → v1 = .ref l → v2 ≠ .ref l ∨ ∃ c ns us, uu = .obj c ns us := fun {r uu v1 v2 l} r1 r2 hu hu2 h1 => by
    obtain ⟨l', dx, rfl, hl⟩ := r1
    cases h1
    cases uu <;> first
      | exact absurd rfl (hu2 _)
      | (left; have r2 : v2 = _ := r2; rw [r2]; intro z; cases z)
      | exact absurd rfl (hu _)
      | (left; obtain ⟨a, vs, rfl, ha, _⟩ := r2; intro z; cases z; rw [hl] at ha; cases ha)
      | exact .inr ⟨_, _, _, rfl⟩
  cases a <;> cases c <;> try cases hf
  case non.non => exact flat _ rfl (by rw [show x = V.non from ra]; rfl) (by rw [show y = V.non from rc]; rfl) (by rw [show x = V.non from ra, show y = V.non from rc]; rfl)
  case non.bl => exact flat _ rfl (by rw [show x = V.non from ra]; rfl) (by rw [show y = V.bl _ from rc]; rfl) (by rw [show x = V.non from ra, show y = V.bl _ from rc]; rfl)
  case non.int => exact flat _ rfl (by rw [show x = V.non from ra]; rfl) (by rw [show y = V.int _ from rc]; rfl) (by rw [show x = V.non from ra, show y = V.int _ from rc]; rfl)
  case non.str => exact flat _ rfl (by rw [show x = V.non from ra]; rfl) (by rw [show y = V.str _ from rc]; rfl) (by rw [show x = V.non from ra, show y = V.str _ from rc]; rfl)
  case bl.non => exact flat _ rfl (by rw [show x = V.bl _ from ra]; rfl) (by rw [show y = V.non from rc]; rfl) (by rw [show x = V.bl _ from ra, show y = V.non from rc]; rfl)
  case bl.bl => exact flat _ rfl (by rw [show x = V.bl _ from ra]; rfl) (by rw [show y = V.bl _ from rc]; rfl) (by rw [show x = V.bl _ from ra, show y = V.bl _ from rc]; rfl)
  case bl.str => exact flat _ rfl (by rw [show x = V.bl _ from ra]; rfl) (by rw [show y = V.str _ from rc]; rfl) (by rw [show x = V.bl _ from ra, show y = V.str _ from rc]; rfl)
  case int.non => exact flat _ rfl (by rw [show x = V.int _ from ra]; rfl) (by rw [show y = V.non from rc]; rfl) (by rw [show x = V.int _ from ra, show y = V.non from rc]; rfl)
  case int.int => exact flat _ rfl (by rw [show x = V.int _ from ra]; rfl) (by rw [show y = V.int _ from rc]; rfl) (by rw [show x = V.int _ from ra, show y = V.int _ from rc]; rfl)
  case int.str => exact flat _ rfl (by rw [show x = V.int _ from ra]; rfl) (by rw [show y = V.str _ from rc]; rfl) (by rw [show x = V.int _ from ra, show y = V.str _ from rc]; rfl)
  case str.non => exact flat _ rfl (by rw [show x = V.str _ from ra]; rfl) (by rw [show y = V.non from rc]; rfl) (by rw [show x = V.str _ from ra, show y = V.non from rc]; rfl)
  case str.bl => exact flat _ rfl (by rw [show x = V.str _ from ra]; rfl) (by rw [show y = V.bl _ from rc]; rfl) (by rw [show x = V.str _ from ra, show y = V.bl _ from rc]; rfl)
  case str.int => exact flat _ rfl (by rw [show x = V.str _ from ra]; rfl) (by rw [show y = V.int _ from rc]; rfl) (by rw [show x = V.str _ from ra, show y = V.int _ from rc]; rfl)
  case str.str => exact flat _ rfl (by rw [show x = V.str _ from ra]; rfl) (by rw [show y = V.str _ from rc]; rfl) (by rw [show x = V.str _ from ra, show y = V.str _ from rc]; show (_ == _) = decide _; rw [Bool.eq_iff_iff]; simp)
  case q.q r1 r2 =>
    by_cases hxy : x = y
    · subst hxy
      obtain ⟨l, dx, rfl, hl⟩ := ra
      obtain ⟨l', dx', hz, hl'⟩ := rc
      cases hz
      rw [hl] at hl'
      injection hl' with hl'
      injection hl' with _ _ hl'
      have := rat_of_parts hl'
      subst this
      cases rx
      cases ry
      exact SeqAt.EqAt.same (A := A) (s := s) (.ref l) X.prog X.w X.xe _ ⟨by simp, H, I, Ext.rfl'⟩
    · exact left ra (fun l h1 h2 => hxy (h1.trans h2.symm)) (eqQ B.T.toXC (repQ e ra) (.inr (repQ e rc)) fun H' e' => ⟨rfl, e'⟩)
  case q.int r1 i =>
    have : y = .int i := rc
    subst this
    exact left ra (fun l h1 h2 => by cases h2) (eqQ B.T.toXC (repQ e ra) (repI i) fun H' e' => ⟨rfl, e'⟩)
  case int.q i r1 =>
    have : x = .int i := ra
    subst this
    refine right rc (fun l => .inl (fun z => by cases z)) ?_
    obtain ⟨xa, xd, rfl, hx'⟩ := id (repQ e rc)
    refine ⟨xa, xd, _, "int", rfl, hx', .int i, B.T.own.subC, _, _, r1.num, r1.den, rfl, repQ e rc, .inl ⟨_, _, repI i, fun H' e' => ⟨?_, e'⟩⟩⟩
    rw [dEq]
    congr 1
    exact decide_eq_decide.mpr eq_comm
  case q.non => exact left ra (fun l h1 h2 => by rcases ne1 ra rc (by intro q z; cases z) (by intro q z; cases z) h1 with z | ⟨_, _, _, z⟩; exact z h2; cases z) (eqO (repQ e ra) (oth rc rfl) fun H' e' => ⟨rfl, e'⟩)
  case q.bl => exact left ra (fun l h1 h2 => by rcases ne1 ra rc (by intro q z; cases z) (by intro q z; cases z) h1 with z | ⟨_, _, _, z⟩; exact z h2; cases z) (eqO (repQ e ra) (oth rc rfl) fun H' e' => ⟨rfl, e'⟩)
  case q.str => exact left ra (fun l h1 h2 => by rcases ne1 ra rc (by intro q z; cases z) (by intro q z; cases z) h1 with z | ⟨_, _, _, z⟩; exact z h2; cases z) (eqO (repQ e ra) (oth rc rfl) fun H' e' => ⟨rfl, e'⟩)
  case q.lst => exact left ra (fun l h1 h2 => by rcases ne1 ra rc (by intro q z; cases z) (by intro q z; cases z) h1 with z | ⟨_, _, _, z⟩; exact z h2; cases z) (eqO (repQ e ra) (oth rc rfl) fun H' e' => ⟨rfl, e'⟩)
  case q.tup => exact left ra (fun l h1 h2 => by rcases ne1 ra rc (by intro q z; cases z) (by intro q z; cases z) h1 with z | ⟨_, _, _, z⟩; exact z h2; cases z) (eqO (repQ e ra) (oth rc rfl) fun H' e' => ⟨rfl, e'⟩)
  case q.dic => exact left ra (fun l h1 h2 => by rcases ne1 ra rc (by intro q z; cases z) (by intro q z; cases z) h1 with z | ⟨_, _, _, z⟩; exact z h2; cases z) (eqO (repQ e ra) (oth rc rfl) fun H' e' => ⟨rfl, e'⟩)
  all_goals exact right rc (fun l => by
    by_cases h1 : y = .ref l
    · rcases ne1 rc ra (by intro q z; cases z) (by intro q z; cases z) h1 with z | ⟨_, _, _, z⟩
      · exact .inl z
      · cases z
    · exact .inr h1) (eqOR (repQ e rc) (oth ra rfl) fun H' e' => ⟨rfl, e'⟩)
end
end LW
set_option Elab.async false
set_option linter.all false
set_option maxRecDepth 100000
set_option maxHeartbeats 4000000
namespace LW
open PySem PySem.Spec PyProof.Rows L2 LV LM UL
section
variable {P : Program} {w : World} {K : PySem.W.Frag} {mg : Str → Option Value} {base : Heap} {κ : String → Addr} {γ : Gh}
def DN (κ : String → Addr) (n : Nat) : EqvB := fun x y b H => ∃ S a c, Same S H ∧ Rep κ S a x ∧ Rep κ S c y ∧ eqN n a c = some b
theorem eqN_flat {n : Nat} {a c : U} (h1 : ∀ us ws, ¬ (a = .lst us ∧ c = .lst ws)) (h2 : ∀ us ws, ¬ (a = .tup us ∧ c = .tup ws)) : eqN n a c = eqF a c := by
  cases n with
  | zero => rfl
  | succ n =>
    cases a <;> cases c <;> first
      | rfl
      | exact absurd ⟨rfl, rfl⟩ (h1 _ _)
      | exact absurd ⟨rfl, rfl⟩ (h2 _ _)
theorem allEq_f {f : U → U → Option Bool} : ∀ {us ws : List U} {b : Bool}, allEq f us ws = some b → us.length = ws.length ∧ ∃ g : Nat → Bool, (∀ i x y, us[i]? = some x → ws[i]? = some y → f x y = some (g i)) ∧ b = (List.range us.length).all g
  | [], [], b, h => by
    cases h
    exact ⟨rfl, fun _ => true, fun i x y h => by simp at h, rfl⟩
  | x :: us, y :: ws, b, h => by
    obtain ⟨b1, h1, h⟩ := bindS h
    obtain ⟨b2, h2, h⟩ := bindS h
    cases h
    obtain ⟨hl, g, hg, rfl⟩ := allEq_f h2
    refine ⟨by simp [hl], fun i => match i with | 0 => b1 | i + 1 => g i, fun i p q hp hq => ?_, ?_⟩
    · cases i with
      | zero =>
        simp at hp hq
        subst hp hq
        exact h1
      | succ i => exact hg i p q (by simpa using hp) (by simpa using hq)
    · rw [List.length_cons, List.range_succ_eq_map, List.all_cons, List.all_map]
      rfl
theorem q_apart {S : Hp} {r : Rat} {u : U} {v : V} (rq : Rep κ S (.q r) v) (ru : Rep κ S u v) (h : othU u = true ∨ ∃ i, u = .int i) : False := by
  obtain ⟨l, dx, rfl, hl⟩ := rq
  cases u with
  | non => cases (show V.ref l = .non from ru)
  | bl b => cases (show V.ref l = .bl b from ru)
  | int i => cases (show V.ref l = .int i from ru)
  | str z => cases (show V.ref l = .str z from ru)
  | lst us =>
    obtain ⟨l', vs, hz, hl', _⟩ := ru
    cases hz
    rw [hl] at hl'
    cases hl'
  | tup us =>
    obtain ⟨l', vs, hz, hl', _⟩ := ru
    cases hz
    rw [hl] at hl'
    cases hl'
  | dic ks us =>
    obtain ⟨l', vs, hz, hl', _⟩ := ru
    cases hz
    rw [hl] at hl'
    cases hl'
  | atl ks us =>
    obtain ⟨l', vs, hz, hl', _⟩ := ru
    cases hz
    rw [hl] at hl'
    cases hl'
  | q x =>
    rcases h with h | ⟨i, h⟩
    · cases h
    · cases h
  | obj c ns us =>
    rcases h with h | ⟨i, h⟩
    · cases h
    · cases h
  | kt c =>
    rcases h with h | ⟨i, h⟩
    · cases h
    · cases h
theorem eqF_self {S : Hp} {a c : U} {v : V} {b : Bool} (ra : Rep κ S a v) (rc : Rep κ S c v) (h : eqF a c = some b) : b = true := by
  cases a <;> cases c <;> try cases h
  case q.q r1 r2 =>
    obtain ⟨l, dx, rfl, hl⟩ := ra
    obtain ⟨l', dx', hz, hl'⟩ := rc
    cases hz
    rw [hl] at hl'
    injection hl' with hl'
    injection hl' with _ _ hl'
    have := rat_of_parts hl'
    subst this
    simp
  all_goals first
    | exact (q_apart ra rc (.inl rfl)).elim
    | exact (q_apart rc ra (.inl rfl)).elim
    | exact (q_apart ra rc (.inr ⟨_, rfl⟩)).elim
    | exact (q_apart rc ra (.inr ⟨_, rfl⟩)).elim
    | rfl
    | (have ra : v = _ := ra; have rc : v = _ := rc; rw [ra] at rc; cases rc; simp)
    | (have ra : v = _ := ra; have rc : v = _ := rc; rw [ra] at rc; cases rc)
theorem eqN_self {S : Hp} : ∀ (n : Nat) {a c : U} {v : V} {b : Bool}, Rep κ S a v → Rep κ S c v → eqN n a c = some b → b = true
  | 0, a, c, v, b, ra, rc, h => eqF_self ra rc h
  | n + 1, a, c, v, b, ra, rc, h => by
    have go : ∀ {us ws : List U} {vs : List V} {b : Bool}, Reps κ S us vs → Reps κ S ws vs → allEq (eqN n) us ws = some b → b = true := by
      intro us ws vs b r1 r2 h
      obtain ⟨hl, g, hg, rfl⟩ := allEq_f h
      rw [List.all_eq_true]
      intro i hi
      have hi : i < us.length := by simpa using hi
      have q1 : us[i]? = some us[i] := by simp [hi]
      have hi2 : i < ws.length := by omega
      have q2 : ws[i]? = some ws[i] := by simp [hi2]
      obtain ⟨v1, hv1, rv1⟩ := r1.get q1
      obtain ⟨v2, hv2, rv2⟩ := r2.get q2
      rw [hv1] at hv2
      cases hv2
      exact eqN_self n rv1 rv2 (hg i _ _ q1 q2)
    by_cases hL : ∃ us ws, a = .lst us ∧ c = .lst ws
    · obtain ⟨us, ws, rfl, rfl⟩ := hL
      obtain ⟨l, vs, rfl, hl, r1⟩ := ra
      obtain ⟨l', vs', hz, hl', r2⟩ := rc
      cases hz
      rw [hl] at hl'
      cases hl'
      dsimp only [eqN] at h
      rw [if_pos (by rw [r1.len, r2.len])] at h
      exact go r1 r2 h
    · by_cases hT : ∃ us ws, a = .tup us ∧ c = .tup ws
      · obtain ⟨us, ws, rfl, rfl⟩ := hT
        obtain ⟨l, vs, rfl, hl, r1⟩ := ra
        obtain ⟨l', vs', hz, hl', r2⟩ := rc
        cases hz
        rw [hl] at hl'
        cases hl'
        dsimp only [eqN] at h
        rw [if_pos (by rw [r1.len, r2.len])] at h
        exact go r1 r2 h
      · rw [eqN_flat (fun us ws z => hL ⟨us, ws, z⟩) (fun us ws z => hT ⟨us, ws, z⟩)] at h
        exact eqF_self ra rc h
theorem same_self {S S' H : Hp} (e : Same S H) (e' : Same S' H) : ∃ T : Hp, Same S T ∧ Same S' T := ⟨H, e, e'⟩
theorem mon_DN (n : Nat) : MonB (DN κ n) := fun x y b H H' e d => by
  obtain ⟨S, a, c, e', r1, r2, h⟩ := d
  exact ⟨S, a, c, e'.trans e, r1, r2, h⟩
theorem rfl_DN (n : Nat) : RflB (DN κ n) := fun x b H d => by
  obtain ⟨S, a, c, e', r1, r2, h⟩ := d
  exact eqN_self n r1 r2 h
theorem eqB_up {X : Cx} {n m : Nat} {D : EqvB} (h : EqB X n D) (hm : n ≤ m) : EqB X m D := fun A pins s σ H x y u v b sb I rx ry d => h A pins s σ H x y u v b (sb.mono hm) I rx ry d
theorem prs_of {S H : Hp} {n : Nat} {us ws : List U} {vs xs : List V} {g : Nat → Bool} (e : Same S H) (r1 : Reps κ S us vs) (r2 : Reps κ S ws xs) (hl : us.length = ws.length) (hg : ∀ i x y, us[i]? = some x → ws[i]? = some y → eqN n x y = some (g i)) : PrsB (DN κ n) vs xs g H := by
  refine ⟨by rw [← r1.len, ← r2.len, hl], fun i x y hx hy => ?_⟩
  obtain ⟨u, hu, ru⟩ := r1.at_ hx
  obtain ⟨w, hw, rw'⟩ := r2.at_ hy
  exact ⟨S, u, w, e, ru, rw', hg i u w hu hw⟩
/-- lists and tuples, by their items -/
theorem dl_of {S H : Hp} {n : Nat} {us ws : List U} {x y : V} {b : Bool} (e : Same S H) (ra : Rep κ S (.lst us) x) (rc : Rep κ S (.lst ws) y) (h : eqN (n + 1) (.lst us) (.lst ws) = some b) : DLstB (DN κ n) x y b H := by
  obtain ⟨l, vs, rfl, hl, r1⟩ := ra
  obtain ⟨l', xs, rfl, hl', r2⟩ := rc
  dsimp only [eqN] at h
  refine ⟨l, l', vs, xs, rfl, rfl, e _ _ hl, e _ _ hl', ?_⟩
  split at h
  · obtain ⟨hq, g, hg, rfl⟩ := allEq_f h
    exact .inr ⟨g, prs_of e r1 r2 hq hg, by rw [r1.len]⟩
  · rename_i hq
    cases h
    exact .inl ⟨by rw [← r1.len, ← r2.len]; exact hq, rfl⟩
theorem dt_of {S H : Hp} {n : Nat} {us ws : List U} {x y : V} {b : Bool} (e : Same S H) (ra : Rep κ S (.tup us) x) (rc : Rep κ S (.tup ws) y) (h : eqN (n + 1) (.tup us) (.tup ws) = some b) : DTupB (DN κ n) x y b H := by
  obtain ⟨l, vs, rfl, hl, r1⟩ := ra
  obtain ⟨l', xs, rfl, hl', r2⟩ := rc
  dsimp only [eqN] at h
  refine ⟨l, l', vs, xs, rfl, rfl, e _ _ hl, e _ _ hl', ?_⟩
  split at h
  · obtain ⟨hq, g, hg, rfl⟩ := allEq_f h
    exact ⟨g, prs_of e r1 r2 hq hg, by rw [r1.len]⟩
  · cases h
theorem eqB_N (B : UX P w K mg base κ) {X : Cx} (hX : Std X P w K mg base) : ∀ n : Nat, EqB X (n + 5) (DN κ n)
  | 0 => eqB_F B hX
  | n + 1 => by
    have ih := eqB_N B hX n
    have EL : EqB X (n + 5 + 1) (DLstB (DN κ n)) := (rcB_lst (mon_DN n) ih).eqB (rflB_lst (rfl_DN n)) fun _ _ _ _ d => let ⟨a, b, _, _, hx, hy, _⟩ := d; ⟨a, b, hx, hy⟩
    have ET : EqB X (n + 5 + 1) (DTupB (DN κ n)) := eqB_tup (mon_DN n) (rfl_DN n) ih
    intro A pins s σ H x y u v b sb I rx ry d
    have sb' : Sub X (n + 5 + 1) A := sb.mono (by omega)
    obtain ⟨S, a, c, e, ra, rc, h⟩ := d
    by_cases hL : ∃ us ws, a = .lst us ∧ c = .lst ws
    · obtain ⟨us, ws, rfl, rfl⟩ := hL
      exact EL A pins s σ H x y u v b sb' I rx ry (dl_of e ra rc h)
    · by_cases hT : ∃ us ws, a = .tup us ∧ c = .tup ws
      · obtain ⟨us, ws, rfl, rfl⟩ := hT
        exact ET A pins s σ H x y u v b sb' I rx ry (dt_of e ra rc h)
      · rw [eqN_flat (fun us ws z => hL ⟨us, ws, z⟩) (fun us ws z => hT ⟨us, ws, z⟩)] at h
        exact eqB_up (eqB_F B hX) (by omega) A pins s σ H x y u v b sb I rx ry ⟨S, a, c, e, ra, rc, h⟩
/-- x == y at the top, flat things -/
theorem eqF_run (B : UX P w K mg base κ) {X : Cx} (hX : Std X P w K mg base) {j : Nat} (hr : Room j X.A) (hj : 5 ≤ j) {pins : List (Addr × Obj)} {s : Shared} {σ : L2.St} {S H : Hp} {x y : V} {v u : Value} {Q : VK} (I : Inv X pins σ H s) (rx : RelV x v) (ry : RelV y u) {a c : U} {b : Bool} (e : Same S H) (ra : Rep κ S a x) (rc : Rep κ S c y) (hf : eqF a c = some b)
    (k : ∀ H', Same H H' → Q (.bl b) H') : wpAny (model X.prog X.w) X.A (compareOp .Eq v u) (EP X pins σ Q) X.xe s := by
  obtain ⟨rfl, rfl, rfl, rfl, rfl⟩ := hX
  have hX : Std X X.prog X.w X.K X.mg X.base := ⟨rfl, rfl, rfl, rfl, rfl⟩
  have k0 : Q (.bl b) H := k H (fun _ _ h => h)
  have flat : scal x y = true → decide (x = y) = b → wpAny (model X.prog X.w) X.A (compareOp .Eq v u) (EP X pins σ Q) X.xe s := fun h1 h2 => op_eq pins s σ H x y v u Q I rx ry ⟨h1, by rw [h2]; exact k0⟩
  have oth : ∀ {uu : U} {vv : V}, Rep κ S uu vv → othU uu = true → OthK X.K (κ "Exact") H vv := fun r h => oth_rep B.T e r h
  have left : ∀ {r : Rat}, Rep κ S (.q r) x → othU c = true → b = false → wpAny (model X.prog X.w) X.A (compareOp .Eq v u) (EP X pins σ Q) X.xe s := fun rq ho hb => op_eqL (B.eq X hX) (hr.mono hj) pins s σ H x y v u Q I rx ry (eqO (repQ e rq) (oth rc ho) fun H' e' => by
    have := k H' e'
    rw [hb] at this
    exact this)
  have right : ∀ {r : Rat}, Rep κ S (.q r) y → othU a = true → b = false → wpAny (model X.prog X.w) X.A (compareOp .Eq v u) (EP X pins σ Q) X.xe s := fun rq ho hb => op_eqR (B.eq X hX) (hr.mono hj) pins s σ H x y v u Q I rx ry (eqOR (repQ e rq) (oth ra ho) fun H' e' => by
    have := k H' e'
    rw [hb] at this
    exact this)
  cases a <;> cases c <;> try cases hf
  case q.q => exact op_eqL (B.eq X hX) (hr.mono hj) pins s σ H x y v u Q I rx ry (eqQ B.T.toXC (repQ e ra) (.inr (repQ e rc)) k)
  case q.int r1 i =>
    have : y = .int i := rc
    subst this
    exact op_eqL (B.eq X hX) (hr.mono hj) pins s σ H x _ v u Q I rx ry (eqQ B.T.toXC (repQ e ra) (repI i) k)
  case int.q i r1 =>
    have : x = .int i := ra
    subst this
    obtain ⟨xa, xd, rfl, hx'⟩ := id (repQ e rc)
    refine op_eqR (B.eq X hX) (hr.mono hj) pins s σ H _ _ v u Q I rx ry ⟨xa, xd, _, "int", rfl, hx', .int i, B.T.own.subC, _, _, r1.num, r1.den, rfl, repQ e rc, .inl ⟨_, _, repI i, fun H' e' => ?_⟩⟩
    rw [dEq, show decide (r1 = (i : Rat)) = decide ((i : Rat) = r1) from decide_eq_decide.mpr eq_comm]
    exact k H' e'
  all_goals first
    | exact left ra rfl rfl
    | exact right rc rfl rfl
    | (have ra : x = _ := ra; have rc : y = _ := rc; subst ra; subst rc; exact flat rfl (by first | rfl | simp))
theorem op_eqU (B : UX P w K mg base κ) {X : Cx} (hX : Std X P w K mg base) {j : Nat} (hr : Room j X.A) (n : Nat) (hj : n + 5 ≤ j := by decide) : OpR X (compareOp .Eq) (r2 κ (eqU n)) := by
  intro pins s σ H x y v u Q I rx ry h
  obtain ⟨S, a, c, z, e, ra, rc, hf, k⟩ := h
  obtain ⟨b, hb, hz⟩ := bindS hf
  cases hz
  have k' : ∀ H', Same H H' → Q (.bl b) H' := fun H' e' => k _ S H' (stay' e e') rfl
  by_cases hL : ∃ us ws, a = .lst us ∧ c = .lst ws
  · obtain ⟨us, ws, rfl, rfl⟩ := hL
    cases n with
    | zero => cases hb
    | succ n => exact op_eqB (rcB_lst (mon_DN n) (eqB_N B hX n)) (hr.mono (by omega)) pins s σ H x y v u Q I rx ry ⟨b, dl_of e ra rc hb, k'⟩
  · by_cases hT : ∃ us ws, a = .tup us ∧ c = .tup ws
    · obtain ⟨us, ws, rfl, rfl⟩ := hT
      cases n with
      | zero => cases hb
      | succ n => exact op_eqB (rcB_tup (mon_DN n) (eqB_N B hX n)) (hr.mono (by omega)) pins s σ H x y v u Q I rx ry ⟨b, dt_of e ra rc hb, k'⟩
    · rw [eqN_flat (fun us ws z => hL ⟨us, ws, z⟩) (fun us ws z => hT ⟨us, ws, z⟩)] at hb
      exact eqF_run B hX hr (by omega) I rx ry e ra rc hb k'
end
end LW
set_option Elab.async false
set_option linter.all false
set_option maxRecDepth 100000
set_option maxHeartbeats 4000000
namespace LW
open PySem PySem.Spec PyProof.Rows L2 LV LM UL
section
variable {P : Program} {w : World} {K : PySem.W.Frag} {mg : Str → Option Value} {base : Heap} {κ : String → Addr} {γ : Gh} {ρ : Bool} {E : XK}
/-! != -/
mutual
theorem dp_of {S H : Hp} (e : Same S H) : ∀ (u : U) {v : V} {d : PyData}, Rep κ S u v → toD u = some d → Dp K H v d
  | .non, _, _, r, h => by
    cases h
    have : _ = V.non := r
    subst this
    exact .non
  | .bl b, _, _, r, h => by
    cases h
    have : _ = V.bl b := r
    subst this
    exact .bl b
  | .int i, _, _, r, h => by
    cases h
    have : _ = V.int i := r
    subst this
    exact .int i
  | .str z, _, _, r, h => by
    cases h
    have : _ = V.str z := r
    subst this
    exact .str z
  | .lst us, _, _, r, h => by
    obtain ⟨ds, h1, h⟩ := bindS h
    cases h
    obtain ⟨a, vs, rfl, ha, rs⟩ := r
    exact .lst (SqL.of (e _ _ ha)) (dps_of e us rs h1)
  | .tup us, _, _, r, h => by
    obtain ⟨ds, h1, h⟩ := bindS h
    cases h
    obtain ⟨a, vs, rfl, ha, rs⟩ := r
    exact .tup (SqT.of (e _ _ ha)) (dps_of e us rs h1)
  | .q _, _, _, _, h => by cases h
  | .obj _ _ _, _, _, _, h => by cases h
  | .dic _ _, _, _, _, h => by cases h
theorem dps_of {S H : Hp} (e : Same S H) : ∀ (us : List U) {vs : List V} {ds : List PyData}, Reps κ S us vs → toDs us = some ds → DpAll K H vs ds
  | [], _, _, r, h => by
    cases h
    have : _ = [] := r
    subst this
    exact .nil
  | u :: us, _, _, r, h => by
    obtain ⟨d, h1, h⟩ := bindS h
    obtain ⟨ds, h2, h⟩ := bindS h
    cases h
    obtain ⟨v, vs, rfl, r1, r2⟩ := r
    exact .cons (dp_of e u r1 h1) (dps_of e us r2 h2)
end
theorem op_neU (B : UX P w K mg base κ) {X : Cx} (hX : Std X P w K mg base) {j : Nat} (hr : Room j X.A) (hu : X.A.units + 64 < cLine) (hj : 6 ≤ j := by decide) : OpR X (compareOp .NotEq) (r2 κ neU) := by
  obtain ⟨rfl, rfl, rfl, rfl, rfl⟩ := hX
  have hX : Std X X.prog X.w X.K X.mg X.base := ⟨rfl, rfl, rfl, rfl, rfl⟩
  intro pins s σ H x y v u Q I rx ry h
  obtain ⟨S, a, b, c, e, ra, rb, hf, k⟩ := h
  have q : ∀ r, (∃ w1, Rep κ S (.q w1) x) → rNeL X.K (κ "Exact") (spEqX X.K (κ "Exact")) x y H (fun v H' => v = .bl r ∧ Same H H') → c = .bl r → wpAny (model X.prog X.w) X.A (compareOp .NotEq v u) (EP X pins σ Q) X.xe s := fun r _ h hc => by
    subst hc
    refine op_neL (B.eq X hX) B.T.ne B.T.hm (hr.mono hj) pins s σ H x y v u Q I rx ry ?_
    obtain ⟨l, dx, fs, h1, h2, h3, h4⟩ := h
    have mono : ∀ {Q1 Q2 : VK}, (∀ v H', Q1 v H' → Q2 v H') → spEqX X.K (κ "Exact") [x, y] H Q1 E0 → spEqX X.K (κ "Exact") [x, y] H Q2 E0 := fun {Q1 Q2} hm h => by
      obtain ⟨x', y', o, u, e1, e2, e3⟩ := h
      exact ⟨x', y', o, u, e1, e2, e3.imp (fun ⟨p, q, z1, z2⟩ => ⟨p, q, z1, fun H' e => hm _ _ (z2 H' e)⟩) fun ⟨z1, z2⟩ => ⟨z1, fun H' e => hm _ _ (z2 H' e)⟩⟩
    refine ⟨l, dx, fs, h1, h2, h3, mono (fun v H' ⟨bb, hb, hq, hs⟩ => ⟨bb, hb, ?_⟩) h4⟩
    rw [hq]
    exact k _ S H' (stay' e hs) rfl
  have dat : ∀ {d e' : PyData}, toD a = some d → toD b = some e' → SeqAt.shaped d = true → SeqAt.shaped e' = true → c = .bl (!PyData.eqv d e') → wpAny (model X.prog X.w) X.A (compareOp .NotEq v u) (EP X pins σ Q) X.xe s := fun h1 h2 h3 h4 hc => by
    subst hc
    exact op_neD hu pins s σ H x y v u Q I rx ry ⟨_, _, dp_of e a ra h1, dp_of e b rb h2, h3, h4, k _ S H (stay e) rfl⟩
  unfold neU at hf
  split at hf
  · cases hf
    obtain ⟨l, vs, rfl, hl, r1⟩ := ra
    obtain ⟨l', vs', rfl, hl', r2⟩ := rb
    have : vs' = [] := r2
    subst this
    refine op_neNil hr.units0 pins s σ H _ _ v u Q I rx ry ⟨l, l', vs, rfl, rfl, e _ _ hl, e _ _ hl', ?_⟩
    rename_i us
    have : decide (vs = []) = us.isEmpty := by
      have := r1.len
      cases us <;> cases vs <;> simp at this <;> rfl
    rw [this]
    exact k _ S H (stay e) rfl
  · cases hf
    exact q _ ⟨_, ra⟩ (neB B.T.toXC (repQ e ra) (.inr (repQ e rb)) fun H' e' => ⟨rfl, e'⟩) (by rw [dEq])
  · cases hf
    rename_i r1 i
    have : y = .int i := rb
    subst this
    exact q _ ⟨_, ra⟩ (neB B.T.toXC (repQ e ra) (repI i) fun H' e' => ⟨rfl, e'⟩) (by rw [dEq])
  · cases hf
    exact q _ ⟨_, ra⟩ (neO (repQ e ra) (oth_rep B.T e rb rfl) fun H' e' => ⟨rfl, e'⟩) rfl
  · cases hf
    exact q _ ⟨_, ra⟩ (neO (repQ e ra) (oth_rep B.T e rb rfl) fun H' e' => ⟨rfl, e'⟩) rfl
  · cases hf
    exact q _ ⟨_, ra⟩ (neO (repQ e ra) (oth_rep B.T e rb rfl) fun H' e' => ⟨rfl, e'⟩) rfl
  · obtain ⟨d, h1, hf⟩ := bindS hf
    obtain ⟨e', h2, hf⟩ := bindS hf
    split at hf
    · rename_i hz
      rw [Bool.and_eq_true] at hz
      cases hf
      exact dat h1 h2 hz.1 hz.2 rfl
    · cases hf
/-! own classes -/
structure OC (K : PySem.W.Frag) (C : Addr) : Prop where
  cl : Cls K C
  ha : PySem.W.findIn K (.ref C) "__class__" = some (some (.builtin "object.__class__"))
  hm : PySem.W.mroIn K C (.type "object") = some true
  kT : ∀ t ∈ typs, PySem.W.kitOne K (.type t) (.ref C) = some false ∧ PySem.W.kitOne K (.ref C) (.type t) = some false
/-- the classes of the text -/
structure CW (K : PySem.W.Frag) (κ : String → Addr) (cs : List String) : Prop where
  oc : ∀ c ∈ cs, OC K (κ c)
  two : ∀ c ∈ cs, ∀ c' ∈ cs, PySem.W.kitOne K (.ref (κ c)) (.ref (κ c')) = some (decide (c = c'))
  ex : "Exact" ∈ cs
  nb : ∀ c ∈ cs, c ∉ typs
  hn : PySem.W.specialIn K (.builtin "object.__class__") "__get__" = some (some (.builtin "getset_descriptor.__get__"))
  htk : PySem.W.takesIn K (.builtin "object.__class__") = some true
def tyV1 (κ : String → Addr) (u : U) : Value := match u with
  | .q _ => .ref (κ "Exact")
  | .obj c _ _ => .ref (κ c)
  | u => .type (tyU u)
theorem tyX_of {cs : List String} (W : CW K κ cs) {S H : Hp} (e : Same S H) {u : U} {v : V} (hk : kwn cs u = true) (r : Rep κ S u v) : TyX K H v (tyV1 κ u) := by
  cases u with
  | non => rw [show v = .non from r]; exact .base .non
  | bl b => rw [show v = .bl b from r]; exact .base (.bl b)
  | int i => rw [show v = .int i from r]; exact .base (.int i)
  | str z => rw [show v = .str z from r]; exact .base (.str z)
  | q x =>
    obtain ⟨a, dx, rfl, ha⟩ := r
    have o := W.oc _ W.ex
    exact .base (.ins (e _ _ ha) o.cl o.ha W.hn W.htk o.hm)
  | lst us => obtain ⟨a, vs, rfl, ha, _⟩ := r; exact .base (.lst (e _ _ ha))
  | tup us => obtain ⟨a, vs, rfl, ha, _⟩ := r; exact .base (.tup (e _ _ ha))
  | dic ks us => obtain ⟨a, vs, rfl, ha, _⟩ := r; exact .base (.dK (e _ _ ha))
  | obj c ns us =>
    obtain ⟨a, dx, vs, rfl, ha, _⟩ := r
    have o := W.oc c (by simpa [kwn] using hk)
    exact .base (.ins (e _ _ ha) o.cl o.ha W.hn W.htk o.hm)
  | kt c => cases hk
  | atl a us => cases hk
/-- the classes that are asked for: built-in ones, own ones -/
def clV (κ : String → Addr) (cs : List String) (T : String) : V := if cs.contains T then .ref (κ T) else .ty T
def clU (κ : String → Addr) (cs : List String) (T : String) : Value := if cs.contains T then .ref (κ T) else .type T
theorem clsV (cs : List String) (T : String) : ClsV (clV κ cs T) (clU κ cs T) := by
  unfold clV clU
  split
  · exact .own _
  · exact .ty _
theorem kit_typs : ∀ t ∈ typs, ∀ T ∈ typs, kitB t T = some (isiN T t) := by decide +kernel
theorem kit_of1 {cs : List String} (W : CW K κ cs) {u : U} (hk : kwn cs u = true) {T : String} (hT : T ∈ cs ∨ T ∈ typs) : PySem.W.kitOne K (tyV1 κ u) (clU κ cs T) = some (isiN T (tyU u)) := by
  -- the value's class: built-in or own
  have val : (∃ t ∈ typs, tyV1 κ u = .type t ∧ tyU u = t) ∨ ∃ c ∈ cs, tyV1 κ u = .ref (κ c) ∧ tyU u = c := by
    cases u with
    | non => exact .inl ⟨_, by simp [typs, tyU], rfl, rfl⟩
    | bl b => exact .inl ⟨_, by simp [typs, tyU], rfl, rfl⟩
    | int i => exact .inl ⟨_, by simp [typs, tyU], rfl, rfl⟩
    | str z => exact .inl ⟨_, by simp [typs, tyU], rfl, rfl⟩
    | q x => exact .inr ⟨"Exact", W.ex, rfl, rfl⟩
    | lst us => exact .inl ⟨_, by simp [typs, tyU], rfl, rfl⟩
    | tup us => exact .inl ⟨_, by simp [typs, tyU], rfl, rfl⟩
    | dic ks us => exact .inl ⟨_, by simp [typs, tyU], rfl, rfl⟩
    | obj c ns us => exact .inr ⟨c, by simpa [kwn] using hk, rfl, rfl⟩
    | kt c => cases hk
    | atl a us => cases hk
  have nt : ∀ c ∈ cs, c ≠ "int" ∧ c ≠ "bool" := fun c hc => ⟨fun z => W.nb c hc (by rw [z]; simp [typs]), fun z => W.nb c hc (by rw [z]; simp [typs])⟩
  rcases hT with hT | hT
  · have e : clU κ cs T = .ref (κ T) := if_pos (by simpa using hT)
    rw [e]
    have i0 : ∀ t, isiN T t = decide (t = T) := fun t => by simp [isiN, (nt T hT).1]
    rcases val with ⟨t, ht, h1, h2⟩ | ⟨c, hc, h1, h2⟩
    · rw [h1, h2, i0, (((W.oc T hT).kT t ht)).1]
      have : ¬ t = T := fun z => W.nb T hT (z ▸ ht)
      rw [decide_eq_false this]
    · rw [h1, h2, i0, W.two c hc T hT]
  · have nc : ¬ cs.contains T = true := fun z => W.nb T (by simpa using z) hT
    have e : clU κ cs T = .type T := if_neg nc
    rw [e]
    rcases val with ⟨t, ht, h1, h2⟩ | ⟨c, hc, h1, h2⟩
    · rw [h1, h2]
      exact kit_ty (kit_typs t ht T hT)
    · rw [h1, h2, (((W.oc c hc).kT T hT)).2]
      have n1 : ¬ c = T := fun z => W.nb c hc (z ▸ hT)
      simp [isiN, n1, (nt c hc).2]
theorem simE_isi {cs : List String} (W : CW K κ cs) {T : String} (hT : T ∈ cs ∨ T ∈ typs) {t : TE} {m : M U} (h : SimE κ γ ρ t m) {cv : V} (hc : cv = clV κ cs T) : SimE κ γ ρ (tCB (rIsi K) (tCons t (tCons (tC cv) tNil))) (m1 (isiU cs T) m) := by
  subst hc
  constructor
  intro σ S H F env g u env' e Q k
  obtain ⟨⟨x, e1⟩, h1, e⟩ := bindS e
  obtain ⟨z, h2, e⟩ := bindS e
  cases e
  refine h.run g h1 _ fun v S1 H1 F1 s1 g1 r => ?_
  unfold isiU at h2
  split at h2
  · rename_i hk
    cases h2
    exact ⟨v, _, _, _, _, rfl, clsV cs T, tyX_of W g1.wf.sub hk r, kit_of1 W hk hT, k _ S1 H1 F1 s1 g1 rfl⟩
  · cases h2
/-- isinstance(x, (T1, T2)) -/
theorem simE_isi2 {cs : List String} (W : CW K κ cs) {T1 T2 : String} (hT1 : T1 ∈ cs ∨ T1 ∈ typs) (hT2 : T2 ∈ cs ∨ T2 ∈ typs) {t : TE} {m : M U} (h : SimE κ γ ρ t m) {c1 c2 : V} (hc1 : c1 = clV κ cs T1) (hc2 : c2 = clV κ cs T2) :
    SimE κ γ ρ (tCB (rIsiT K) (tCons t (tCons (tTup (tCons (tC c1) (tCons (tC c2) tNil))) tNil))) (m1 (isiA cs [T1, T2]) m) := by
  subst hc1
  subst hc2
  constructor
  intro σ S H F env g u env' e Q k
  obtain ⟨⟨x, e1⟩, h1, e⟩ := bindS e
  obtain ⟨z, h2, e⟩ := bindS e
  cases e
  refine h.run g h1 _ fun v S1 H1 F1 s1 g1 r => ⟨by show 2 ≤ sizeLine; decide, fun p hp => ?_⟩
  unfold isiA at h2
  split at h2
  · rename_i hk
    cases h2
    have st : StpP κ S1 H1 S1 (upd H1 p (.tup [clV κ cs T1, clV κ cs T2])) := stay' g1.wf.sub (Same.new hp)
    refine ⟨v, p, _, _, _, _, rfl, upd_same, .cons (clsV cs T1) (.cons (clsV cs T2) .nil), tyX_of W st.in_ hk r, kitAny_cons (kit_of1 W hk hT1) (fun h0 => kitAny_cons (kit_of1 W hk hT2) (fun h0' => ?_) (fun h0' => ?_)) (fun h0 => ?_), k _ S1 _ F1 (s1.trans st.stq) (g1.pure_ st) rfl⟩
    · rw [show ([T1, T2].any fun T => isiN T (tyU x)) = false by simp [h0, h0']]
      rfl
    · simp [h0']
    · simp [h0]
  · cases h2
/-- isinstance(x, (T1, .., T4)) -/
theorem simE_isi4 {cs : List String} (W : CW K κ cs) {T1 T2 T3 T4 : String} (hT1 : T1 ∈ cs ∨ T1 ∈ typs) (hT2 : T2 ∈ cs ∨ T2 ∈ typs) (hT3 : T3 ∈ cs ∨ T3 ∈ typs) (hT4 : T4 ∈ cs ∨ T4 ∈ typs) {t : TE} {m : M U} (h : SimE κ γ ρ t m) {c1 c2 c3 c4 : V} (hc1 : c1 = clV κ cs T1) (hc2 : c2 = clV κ cs T2) (hc3 : c3 = clV κ cs T3) (hc4 : c4 = clV κ cs T4) :
    SimE κ γ ρ (tCB (rIsiT K) (tCons t (tCons (tTup (tCons (tC c1) (tCons (tC c2) (tCons (tC c3) (tCons (tC c4) tNil))))) tNil))) (m1 (isiA cs [T1, T2, T3, T4]) m) := by
  subst hc1 hc2 hc3 hc4
  constructor
  intro σ S H F env g u env' e Q k
  obtain ⟨⟨x, e1⟩, h1, e⟩ := bindS e
  obtain ⟨z, h2, e⟩ := bindS e
  cases e
  refine h.run g h1 _ fun v S1 H1 F1 s1 g1 r => ⟨by show 4 ≤ sizeLine; decide, fun p hp => ?_⟩
  unfold isiA at h2
  split at h2
  · rename_i hk
    cases h2
    have st : StpP κ S1 H1 S1 (upd H1 p (.tup [clV κ cs T1, clV κ cs T2, clV κ cs T3, clV κ cs T4])) := stay' g1.wf.sub (Same.new hp)
    refine ⟨v, p, _, _, _, _, rfl, upd_same, .cons (clsV cs T1) (.cons (clsV cs T2) (.cons (clsV cs T3) (.cons (clsV cs T4) .nil))), tyX_of W st.in_ hk r, kitAny_cons (kit_of1 W hk hT1) (fun h0 => kitAny_cons (kit_of1 W hk hT2) (fun h1 => kitAny_cons (kit_of1 W hk hT3) (fun h2 => kitAny_cons (kit_of1 W hk hT4) (fun h3 => ?_) (fun h3 => ?_)) (fun h2 => ?_)) (fun h1 => ?_)) (fun h0 => ?_), k _ S1 _ F1 (s1.trans st.stq) (g1.pure_ st) rfl⟩
    · rw [show ([T1, T2, T3, T4].any fun T => isiN T (tyU x)) = false by simp [h0, h1, h2, h3]]
      rfl
    · simp [h3]
    · simp [h2]
    · simp [h1]
    · simp [h0]
  · cases h2
end
end LW
set_option Elab.async false
set_option linter.all false
set_option maxRecDepth 100000
set_option maxHeartbeats 4000000
namespace LW
open PySem PySem.Spec PyProof.Rows L2 LV LM UL
section
variable {P : Program} {w : World} {K : PySem.W.Frag} {mg : Str → Option Value} {base : Heap} {κ : String → Addr} {γ : Gh} {ρ : Bool} {E : XK}
theorem cal_imp {k : Nat} {x : Str} {sp sp' : Sp} {dvs : List V} (c : C8.Cal P w K mg base k x sp dvs) (h : ∀ vs H Q E, sp' vs H Q E → sp vs H Q E) : C8.Cal P w K mg base k x sp' dvs := by
  obtain ⟨f, fd, ps, ds, F, h1, h2, h3, h4⟩ := c.ex
  exact ⟨f, fd, ps, ds, F.imp h, h1, h2, h3, h4⟩
theorem int_imp {cs : List String} (W : CW K κ cs) (vs : List V) (H : Hp) (Q : VK) (E : XK) (h : spP κ (isIntF cs) vs H Q E) : spInt K vs H Q E := by
  obtain ⟨S, us, u, e, rs, hf, k⟩ := h
  unfold isIntF at hf
  split at hf
  · split at hf
    · rename_i x hk
      cases hf
      obtain ⟨v, _, rfl, r, rfl⟩ := rs
      have k1 := kit_of1 W hk (T := "int") (.inr (by simp [typs]))
      have k2 := kit_of1 W hk (T := "bool") (.inr (by simp [typs]))
      have n1 : clU κ cs "int" = .type "int" := if_neg (fun z => W.nb "int" (by simpa using z) (by simp [typs]))
      have n2 : clU κ cs "bool" = .type "bool" := if_neg (fun z => W.nb "bool" (by simpa using z) (by simp [typs]))
      rw [n1] at k1
      rw [n2] at k2
      exact ⟨v, _, _, _, rfl, tyX_of W e hk r, k1, k2, k _ S H (stay e) rfl⟩
    · cases hf
  · cases hf
theorem num_imp {cs : List String} (W : CW K κ cs) (vs : List V) (H : Hp) (Q : VK) (E : XK) (h : spP κ (isNumF cs) vs H Q E) : spNum K (κ "Exact") vs H Q E := by
  obtain ⟨S, us, u, e, rs, hf, k⟩ := h
  unfold isNumF at hf
  split at hf
  · split at hf
    · rename_i x hk
      cases hf
      obtain ⟨v, _, rfl, r, rfl⟩ := rs
      have k1 := kit_of1 W hk (T := "int") (.inr (by simp [typs]))
      have k2 := kit_of1 W hk (T := "bool") (.inr (by simp [typs]))
      have k3 := kit_of1 W hk (T := "Exact") (.inl W.ex)
      have n1 : clU κ cs "int" = .type "int" := if_neg (fun z => W.nb "int" (by simpa using z) (by simp [typs]))
      have n2 : clU κ cs "bool" = .type "bool" := if_neg (fun z => W.nb "bool" (by simpa using z) (by simp [typs]))
      have n3 : clU κ cs "Exact" = .ref (κ "Exact") := if_pos (by simpa using W.ex)
      rw [n1] at k1
      rw [n2] at k2
      rw [n3] at k3
      exact ⟨v, _, _, _, _, rfl, tyX_of W e hk r, k1, k2, k3, k _ S H (stay e) rfl⟩
    · cases hf
  · cases hf
theorem part_imp (vs : List V) (H : Hp) (Q : VK) (E : XK) (h : spP κ partF vs H Q E) : spPart (κ "Exact") vs H Q E := by
  obtain ⟨S, us, u, e, rs, hf, k⟩ := h
  unfold partF at hf
  split at hf <;> try cases hf
  · rename_i i
    obtain ⟨v, _, rfl, r, rfl⟩ := rs
    have : v = .int i := r
    subst this
    refine partQ (repI i) fun v H' e' h => ?_
    obtain ⟨S', p, r⟩ := qStep e e' h
    exact k v S' H' p r
  · obtain ⟨v, _, rfl, r, rfl⟩ := rs
    refine partQ (.inr (repQ e r)) fun v H' e' h => ?_
    obtain ⟨S', p, r⟩ := qStep e e' h
    exact k v S' H' p r
/-- Exact(o, u) -/
theorem simE_mkX {n : Nat} {t : TA} {m : M (List U)} (h : SimA κ γ ρ n t m) (hn : n = 2) : SimE κ γ ρ (tMake (κ "Exact") (spInit (κ "Exact")) [] E t) (mN mkF m) := by
  constructor
  intro σ S H F env g u env' e Q k
  obtain ⟨⟨x, e1⟩, h1, e⟩ := bindS e
  obtain ⟨z, h2, e⟩ := bindS e
  cases e
  have hl := h.len h1
  refine h.run g h1 _ fun vs S1 H1 F1 s1 g1 r => ?_
  dsimp only at h2
  unfold mkF at h2
  split at h2
  · split at h2
    · rename_i hz
      cases h2
      obtain ⟨v1, _, rfl, r1, v2, _, rfl, r2, rfl⟩ := r
      have r1 : v1 = .int _ := r1
      subst r1
      have r2 : v2 = .int _ := r2
      subst r2
      refine mkX hz.1 (of_decide_eq_true hz.2) fun v H' e' hx => ?_
      obtain ⟨S', p, r⟩ := qStep g1.wf.sub e' (toQ hz.1 rfl hx)
      exact k v S' H' F1 (s1.trans p.stq) (g1.pure_ p) r
    · cases h2
  · simp at hl
    omega
  · cases h2
theorem un_negU (B : UX P w K mg base κ) {X : Cx} (hX : Std X P w K mg base) {j : Nat} (hr : Room j X.A) (hj : 5 ≤ j := by decide) : UnR X (unaryOp .USub) (r1 κ negU) := by
  intro pins s σ H x v Q I rx h
  obtain ⟨S, a, c, e, ra, hf, k⟩ := h
  cases a <;> try cases hf
  · rename_i i
    have : x = .int i := ra
    subst this
    exact un_neg pins s σ H _ v Q I rx ⟨i, rfl, k _ S H (stay e) rfl⟩
  · rename_i q
    dsimp only [negU] at hf
    split at hf
    · rename_i hz
      cases hf
      obtain ⟨l, dx, rfl, hl⟩ := id ra
      refine un_own (B.neg X hX) (hr.mono hj) pins s σ H _ v Q I rx ⟨l, dx, _, rfl, e _ _ hl, negQ (repQ e ra) (smQ_ht hz) fun v H' e' h => ?_⟩
      obtain ⟨S', p, r⟩ := qStep e e' h
      exact k v S' H' p r
    · cases hf
theorem sl_U {X : Cx} : SlR X (rSl κ slU) := by
  intro pins s σ H x v vl vu lo hi sl Q I rx hs pl pu h
  obtain ⟨S, a, u, e, ra, hf, k⟩ := h
  cases a <;> try cases hf
  · obtain ⟨l, vs, rfl, hl, r⟩ := ra
    refine sl_list pins s σ H _ v vl vu lo hi sl Q I rx hs pl pu ⟨l, vs, rfl, SqL.of (e _ _ hl), fun p hp => ?_⟩
    have st : StpP κ S H (upd S p (.lst (cutV vs lo hi))) (upd H p (.lst (cutV vs lo hi))) := StpP.new1 e hp
    exact k _ _ _ st ⟨p, _, rfl, upd_same, Reps.mono st.sub _ (cut_reps r lo hi)⟩
  · obtain ⟨l, vs, rfl, hl, r⟩ := ra
    refine sl_tupA pins s σ H _ v vl vu lo hi sl Q I rx hs pl pu ⟨l, vs, rfl, SqT.of (e _ _ hl), fun hw => ?_, fun _ p hp => ?_⟩
    · have : cutV vs lo hi = vs := by
        unfold cutV
        rw [hw.1, hw.2]
        simp
      exact k _ S H (stay e) ⟨l, vs, rfl, hl, by rw [← this]; exact cut_reps r lo hi⟩
    · have st : StpP κ S H (upd S p (.tup (cutV vs lo hi))) (upd H p (.tup (cutV vs lo hi))) := StpP.new1 e hp
      exact k _ _ _ st ⟨p, _, rfl, upd_same, Reps.mono st.sub _ (cut_reps r lo hi)⟩
theorem ip_addU {X : Cx} : PIp X .Add (r2 κ addI) := by
  have h := ip_add (X := X)
  intro pins s σ H x y v u Q I rx ry q
  obtain ⟨S, a, b, c, e, ra, rb, hf, k⟩ := q
  obtain ⟨i, h1, hf⟩ := bindS hf
  obtain ⟨j, h2, hf⟩ := bindS hf
  cases hf
  have := isI_eq h1
  subst this
  have := isI_eq h2
  subst this
  have : x = .int i := ra
  subst this
  have : y = .int j := rb
  subst this
  exact h pins s σ H _ _ v u Q I rx ry ⟨i, j, rfl, rfl, k _ S H (stay e) rfl⟩
end
end LW
set_option Elab.async false
set_option linter.all false
set_option maxRecDepth 100000
set_option maxHeartbeats 4000000
namespace LW
open PySem PySem.Spec PyProof.Rows L2 LV LM UL
/-- names of built-ins that the text leaves as they are -/
abbrev bltN : List Str := ["len", "int", "enumerate", "isinstance", "zip", "all", "range", "list", "tuple", "bool", "any", "sorted", "dict", "str", "reversed", "repr", "iter"]
/-- what a def's walk leans on -/
structure En (P : Program) (w : World) (K : PySem.W.Frag) (mg : Str → Option Value) (base : Heap) (κ : String → Addr) (cs : List String) : Prop where
  B : UX P w K mg base κ
  W : CW K κ cs
  free : ∀ x ∈ bltN, mg x = none
  gx : mg "Exact" = some (.ref (κ "Exact"))
section
variable {P : Program} {w : World} {K : PySem.W.Frag} {mg : Str → Option Value} {base : Heap} {κ : String → Addr} {γ : Gh} {ρ : Bool} {E : XK} {fx : Nat → Bool}
theorem call_lenS {X : Cx} : CallR X (.builtin "len") (Evl.rLenS X.K) := call_len_seq
/-! in -/
/-! enumerate of a list or a tuple -/
theorem itOk_enumT {a : Addr} {S A : Hp} {us : List U} {vs : List V} (h : A a = some (.tup vs)) (r : Reps κ S us vs) : ItOk κ (IteT K a) S A (enumU us) := by
  have wk := walk_enumT (K := K) (a := a) (xs := vs)
  have hl := enumU_len us
  refine ⟨fun i H hi q => wk.goes i H (by rw [← r.len, ← hl]; exact hi) (SqT.of (q _ _ h)), fun H q => by rw [hl, r.len]; exact wk.stops H (SqT.of (q _ _ h)), fun i H x H' S1 u hu e0 e1 e2 y => ?_⟩
  have hi : i < vs.length := by
    rw [← r.len, ← hl]
    exact (List.getElem?_eq_some_iff.mp hu).1
  obtain ⟨T, p, z, rfl, hT, rfl, h1, h2⟩ := wk.yields i H x H' hi (SqT.of (e0 _ _ h)) y
  obtain ⟨w, hw, rfl⟩ := enumU_get hu
  obtain ⟨v, hv, rv⟩ := r.get hw
  have h2 : vs[i]? = some z := h2
  rw [h2] at hv
  cases hv
  cases h1
  exact pair_rep e2 hT rfl (Rep.mono e1 w rv)
theorem simI_enumS {n : Nat} {t : TA} {m : M (List U)} (h : SimA κ γ ρ n t m) : SimI κ γ ρ (iOr (iEnum K t) (iEnumT K t)) (mEnumS m) := by
  constructor
  intro σ S H F env gd items env' e R k
  obtain ⟨⟨x, e1⟩, h1, e⟩ := bindS e
  obtain ⟨us, h2, e⟩ := bindS e
  cases e
  obtain ⟨u, hx, hu⟩ := seq1_eq h2
  dsimp only at hx
  subst hx
  rcases hu with rfl | rfl
  · refine .inl (h.run gd h1 _ fun vs S1 H1 F1 s1 g1 r => ?_)
    obtain ⟨v, _, rfl, ⟨a, ws, rfl, ha, rs⟩, rfl⟩ := r
    exact ⟨a, ws, rfl, SqL.of (g1.wf.sub _ _ ha), k _ S1 H1 F1 s1 g1 (itOk_enum ha rs)⟩
  · refine .inr (h.run gd h1 _ fun vs S1 H1 F1 s1 g1 r => ?_)
    obtain ⟨v, _, rfl, ⟨a, ws, rfl, ha, rs⟩, rfl⟩ := r
    exact ⟨a, ws, rfl, SqT.of (g1.wf.sub _ _ ha), k _ S1 H1 F1 s1 g1 (itOk_enumT ha rs)⟩
theorem pi_enumS {X : Cx} {e : Expr} {ta : TA} {p pos tpos : Pos} {elts : List Expr} {kk : Nat} (hg : Gl X "enumerate") (hm : X.mg "enumerate" = none) (ha : PA X [e] ta) (hs : starEach [e] X.env = [(false, eval e X.env)] := by rfl) :
    PI X (.Tuple elts kk tpos) (.Call (.Name "enumerate" p) [e] [] pos) (iOr (iEnum X.K ta) (iEnumT X.K ta)) := pi_or (pi_enum hg hm ha hs) (pi_enumT hg hm ha hs)
end
end LW
set_option Elab.async false
set_option linter.all false
set_option maxRecDepth 100000
set_option maxHeartbeats 4000000
namespace LW
open PySem PySem.Spec PyProof.Rows L2 LV LM UL
section
variable {P : Program} {w : World} {K : PySem.W.Frag} {mg : Str → Option Value} {base : Heap} {κ : String → Addr} {γ : Gh} {ρ : Bool} {E : XK} {cs : List String}
theorem cl_blt (W : CW K κ cs) {T : String} (h : T ∈ typs) : V.ty T = clV κ cs T := (if_neg fun z => W.nb T (by simpa using z) h).symm
theorem cl_own {c : String} (h : c ∈ cs) : V.ref (κ c) = clV κ cs c := (if_pos (by simpa using h)).symm
theorem op_isBU {X : Cx} : OpR X (compareOp .Is) (r2 κ isBU) := by
  intro pins s σ H x y v u Q I rx ry h
  obtain ⟨S, a, b, z, e, ra, rb, hf, k⟩ := h
  obtain ⟨p, h1, hf⟩ := bindS hf
  obtain ⟨q, h2, hf⟩ := bindS hf
  cases hf
  exact op_isBl pins s σ H x y v u Q I rx ry ⟨p, q, isB_rep h1 ra, isB_rep h2 rb, k _ S H (stay e) rfl⟩
end
end LW
set_option Elab.async false
set_option linter.all false
set_option maxRecDepth 100000
set_option maxHeartbeats 2000000
namespace UL
open PySem PySem.Spec PyProof.Rows L2 LV LW
end UL
set_option Elab.async false
set_option linter.all false
set_option maxRecDepth 100000
set_option maxHeartbeats 2000000
/-! an owned thing lent to an expression; dict(x); x.f.pop(); several targets at once, keys of dicts among them -/
namespace UL
open PySem PySem.Spec PyProof.Rows L2 LV
section
variable {κ : String → Addr} {γ : Gh} {ρ : Bool} {fx : Nat → Bool} {K : PySem.W.Frag} {E : XK}
/-! dict(x) -/
/-! several targets -/
abbrev MGO := List Ow → Env → Option Env
structure SimGsO (κ : String → Addr) (γ : Gh) (fx : Nat → Bool) (g : TGs) (m : MGO) : Prop where
  run : ∀ {σ : L2.St} {S H : Hp} {F A : List Addr} {env : Env}, Gd κ γ σ S H F env → WF S H (F ++ A) → ∀ {ws : List Ow} {vs : List V} {env' : Env}, RepOs κ S H ws vs A → m ws env = some env' → ∀ Q : L2.St → Hp → Prop,
    (∀ σ' S' H' F', Stp κ S H (F ++ A) S' H' F' → Gd κ γ σ' S' H' F' env' → Fix fx σ σ' → Q σ' H') → g vs σ H Q
end
end UL
set_option Elab.async false
set_option linter.all false
set_option maxRecDepth 100000
set_option maxHeartbeats 2000000
/-! xs.extend(t), t a tuple -/
namespace UL
open PySem PySem.Spec PyProof.Rows L2 LV
section
variable {κ : String → Addr} {γ : Gh} {ρ : Bool} {fx : Nat → Bool} {K : PySem.W.Frag} {E : XK}
end
end UL
set_option Elab.async false
set_option linter.all false
set_option maxRecDepth 100000
set_option maxHeartbeats 2000000
/-! xs + ys as a list that is owned -/
namespace UL
open PySem PySem.Spec PyProof.Rows L2 LV
section
variable {κ : String → Addr} {γ : Gh}
end
end UL
set_option Elab.async false
set_option linter.all false
set_option maxRecDepth 100000
set_option maxHeartbeats 2000000
/-! p.append(e) at a place, e raising -/
namespace UL
open PySem PySem.Spec PyProof.Rows L2 LV
section
variable {κ : String → Addr} {γ : Gh} {K : PySem.W.Frag} {E : XK}
end
end UL
set_option Elab.async false
set_option linter.all false
set_option maxRecDepth 100000
set_option maxHeartbeats 2000000
/-! x[i] as one of several targets -/
namespace UL
open PySem PySem.Spec PyProof.Rows L2 LV
section
variable {κ : String → Addr} {γ : Gh} {fx : Nat → Bool} {K : PySem.W.Frag}
end
end UL
set_option Elab.async false
set_option linter.all false
set_option maxRecDepth 100000
set_option maxHeartbeats 2000000
/-! dict comprehensions (keys that are texts, each once); p[x] of a pure dict -/
namespace UL
open PySem PySem.Spec PyProof.Rows L2 LV
section
variable {κ : String → Addr} {γ : Gh} {ρ : Bool} {fx : Nat → Bool} {K : PySem.W.Frag}
end
end UL
set_option Elab.async false
set_option linter.all false
set_option maxRecDepth 100000
set_option maxHeartbeats 2000000
/-! zip of a tuple and a list: two iterators of any kind, told by what holds before and behind a step -/
namespace UZ
open PySem PySem.Spec PyProof.Rows L2
section
variable {pg : Program} {wd : World} {ar : Around}
/-- the iterator at it gives x: U holds before, V behind -/
def Gives (pg : Program) (wd : World) (ar : Around) (it : Addr) (U V : Heap → Prop) (x : Value) : Prop := ∀ (s : Shared) (E : Value → Shared → Prop) (Q : Value → Shared → Prop), U s.heap →
  (∀ g, V g → Heap.SameBut it s.heap g → Q x { s with heap := g }) → wpAny (model pg wd) ar (Builtin.SmallTypes.nextOf (.ref it)) Q E s
structure Far (z ti to i j : Addr) : Prop where
  tiz : ti ≠ z
  toz : to ≠ z
  iz : i ≠ z
  jz : j ≠ z
  toi : to ≠ i
  toj : to ≠ j
  ij : i ≠ j
end
end UZ
set_option Elab.async false
set_option linter.all false
set_option maxRecDepth 100000
set_option maxHeartbeats 2000000
/-! zip of a tuple and a list: the new iterator, the rule of the layer -/
namespace UZ
open PySem PySem.Spec PyProof.Rows L2
section
variable {pg : Program} {wd : World} {ar : Around}
variable {s : Shared} {E : Value → Shared → Prop}
/-! the new iterator -/
end
/-! the rule -/
end UZ
namespace UL
open PySem PySem.Spec PyProof.Rows L2 LV
section
variable {κ : String → Addr} {γ : Gh} {ρ : Bool}
end
end UL
set_option Elab.async false
set_option linter.all false
set_option maxRecDepth 100000
set_option maxHeartbeats 2000000
/-! mirrors of operators that raise -/
namespace UL
open PySem L2
end UL
set_option Elab.async false
set_option linter.all false
set_option maxRecDepth 100000
set_option maxHeartbeats 1000000
/-! texts: an int in nine digits -/
namespace LV
open PySem PySem.Spec PyProof.Rows L2
open PySem.Builtin PySem.Builtin.Float
/-- the style "09d" -/
def f9 : FormatSpec := { fill := 48, align := 61, width := some 9, type := some 100 }
theorem f9_of (n : String) : parseFormatSpec (Str.ofString "09d").cps.toList n 62 = .ok f9 := by rfl
/-- nine digits -/
def pad9 (a : Int) : Str := ⟨(List.replicate (9 - (Nat.toDigits 10 a.natAbs).length) 48).toArray⟩ ++ Str.ofString (toString a)
theorem gives_09d {a : Int} {t u : Tok} (hd : a.natAbs.log2 < 1920) : Gives (Builtin.«int.__format__» ⟨[.int a t, .str "09d" u], []⟩) (.str (intSpecText f9 a)) := by
  intro prog w A R s hq
  have hne : ((Str.ofString "09d").length == 0) = false := by decide
  have hasc : (((Str.ofString "09d").cps.toList.drop 1).any (· ≥ 128) || ((Str.ofString "09d").cps.getD 0 0 ≥ 128 && !([60, 62, 61, 94] : List Nat).contains ((Str.ofString "09d").cps.getD 1 0))) = false := by decide
  unfold Builtin.«int.__format__»
  simp only [selfAndOne, noKeywords, Int.intOfSelf, asInt?, asStr?, List.isEmpty_nil, if_true, pure_bind, bind_pure, bind_assoc, hne, hasc, Bool.false_eq_true, if_false, show (Value.str (Str.ofString "09d") u == Value.none) = false from rfl]
  refine wpAny_bind (wpAny_typeNameOf (T := "str") (typeIs_str _ _ _) (by decide) fun _ => ?_)
  refine wpAny_bind (wpAny_typeNameOfCut_int ?_)
  rw [f9_of]
  dsimp only
  rw [if_pos (by decide)]
  show wpAny _ _ (do let r ← Builtin.overDigitLimit? a; _) _ _ _
  rw [PySem.overDigitLimit_small hd]
  refine wpAny_bind (wpAny_pure ?_)
  dsimp only
  rw [if_neg (by decide)]
  exact (Gives.of_eq (m := .str (intSpecText f9 a)) (by
    show retStr _ = retStr _
    refine congrArg retStr ?_
    have e1 : (f9.type.getD (if ((Str.ofString "09d").cps.back? == some 0) = true then 0 else 100)) = 100 := rfl
    have e2 : f9.alt = false := rfl
    rw [e1, e2]
    simp only [Bool.false_eq_true, if_false, show ((10 : Nat) == 10) = true by decide, if_true]
    conv => lhs; whnf
    unfold intSpecText intField'
    rfl)) prog w A R s hq
theorem f9_text {a : Int} (h0 : 0 ≤ a) : intSpecText f9 a = pad9 a := intSpecText_zero rfl rfl rfl rfl h0
def tFmt9 (te : TE) : TE := fun σ H Q => te σ H fun x H1 => ∃ i : Int, x = .int i ∧ 0 ≤ i ∧ i < 1000000000 ∧ Q (.str (pad9 i)) H1
theorem pad9_len {a : Int} (h0 : 0 ≤ a) (h1 : a < 1000000000) : (pad9 a).length ≤ 9 := by
  have d : (Nat.toDigits 10 a.natAbs).length ≤ 9 := digits10_le (k := 9) (by decide) (by omega)
  obtain ⟨m, rfl⟩ := Int.eq_ofNat_of_zero_le h0
  have e : Str.ofString (toString ((m : Nat) : Int)) = ⟨((Nat.toDigits 10 m).map Char.toNat).toArray⟩ := text_ofNat m
  unfold pad9
  rw [e]
  have d : (Nat.toDigits 10 m).length ≤ 9 := d
  show (Array.replicate _ _ ++ _).size ≤ 9
  simp
  omega
section
variable {X : Cx}
theorem pe_fmt9 {e : Expr} {te : TE} {pos p1 p2 : Pos} {k : Nat} (he : PE X e te) : PE X (.FormattedValue e (-1) (some (.JoinedStr [.Constant (.str "09d") k p1] p2)) pos) (tFmt9 te) := by
  constructor
  intro pins s σ H Q I h
  refine wpAny_FormattedValue_spec (thn (he.run pins s σ H _ I h) fun v s1 hv => ?_)
  obtain ⟨x, H1, I1, r, i, rfl, h0, h1, q⟩ := hv
  obtain ⟨t, rfl⟩ := r
  have hd : i.natAbs.log2 < 1920 := Nat.lt_of_lt_of_le (PySem.Flt.log2_lt_of (k := 30) (by decide) (by omega)) (by decide)
  have zl : (pad9 i).length ≤ sizeLine := Nat.le_trans (pad9_len h0 h1) (by decide)
  have g := fun u => gives_09d (a := i) (t := t) (u := u) hd
  rw [f9_text h0] at g
  refine wpAny_JoinedStr_one (Calls.Constant_str ⟨_, _, rfl, ?_⟩)
  exact wpAny_formatField_spec (T := "int") (by decide) (fun s' => typeIs_int s' i t) F.slot_int_format F.entry_int_format F.args_int_format_2 g ⟨.str (pad9 i), H1, (I1.tok _).tok _, ⟨_, rfl⟩, q⟩ (by decide) zl
end
end LV
set_option Elab.async false
set_option linter.all false
set_option maxRecDepth 100000
set_option maxHeartbeats 2000000
/-! texts: words of mirrors -/
namespace UL
open PySem PySem.Spec PyProof.Rows L2 LV
def fmt9U : U → Option U
  | .int i => if 0 ≤ i ∧ i < 1000000000 then some (.str (pad9 i)) else none
  | _ => none
/-- {x} in a text -/
def fmtU : U → Option U
  | .str y => if y.length ≤ sizeLine then some (.str y) else none
  | .int i => if i.natAbs.log2 < 1920 then some (.str (toString i)) else none
  | _ => none
/-- texts one behind the other -/
def mJ : List (M U) → Str → Env → Option (Str × Env)
  | [], acc, env => some (acc, env)
  | m :: ms, acc, env => (m env).bind fun x => match x.1 with
    | .str y => if (acc ++ y).length ≤ sizeLine then mJ ms (acc ++ y) x.2 else none
    | _ => none
def mJs (ms : List (M U)) : M U := fun env => (mJ ms Str.empty env).bind fun x => some (.str x.1, x.2)
def splitL (a b : Str) : Option (List Str) := if b.length ≠ 0 ∧ a.length + 2 ≤ sizeLine then some (Txt.split a b) else none
/-- x.split(sep) -/
def mSplit (ma mb : M U) : M Ow := fun env => (ma env).bind fun x => (mb x.2).bind fun y => match x.1, y.1 with
  | .str a, .str b => (splitL a b).bind fun l => some (.l ((l.map U.str).map .p), y.2)
  | _, _ => none
def sIdx (a b : Str) : Option Nat := (Builtin.Str.occurrences a b 0 a.length 1).head?
/-- x.index(y) of texts -/
def sIdxU (x y : U) : Option U := match x, y with
  | .str a, .str b => (sIdx a b).bind fun i => some (.int (i : Nat))
  | _, _ => none
/-- the greatest common part -/
def gcdU : List U → Option U
  | [.int a, .int b] => some (.int (a.gcd b : Int))
  | _ => none
/-- str(n) -/
def strU : List U → Option U
  | [.int i] => if i.natAbs.log2 < 1920 then some (.str (toString i)) else none
  | _ => none
/-- int(text) -/
def intT : List U → Option U
  | [.str a] => if a.length ≤ 640 then (PySem.intText? a).bind fun n => some (.int n) else none
  | _ => none
def slS (u : U) (lo hi : Option Int) : Option U := match u with
  | .str z => if z.length ≤ sizeLine then some (.str (cutS z lo hi)) else none
  | _ => none
section
variable {κ : String → Addr} {γ : Gh} {ρ : Bool}
theorem fmt9U_eq {x z : U} (h : fmt9U x = some z) : ∃ i, x = .int i ∧ 0 ≤ i ∧ i < 1000000000 ∧ z = .str (pad9 i) := by
  cases x with
  | int i =>
    by_cases c : 0 ≤ i ∧ i < 1000000000
    · have e : fmt9U (.int i) = some (.str (pad9 i)) := if_pos c
      rw [e] at h
      exact ⟨i, rfl, c.1, c.2, (Option.some.inj h).symm⟩
    · have e : fmt9U (.int i) = none := if_neg c
      rw [e] at h
      cases h
  | _ => cases h
theorem fmtU_eq {x z : U} (h : fmtU x = some z) : (∃ y : Str, x = .str y ∧ y.length ≤ sizeLine ∧ z = .str y) ∨ ∃ i : Int, x = .int i ∧ i.natAbs.log2 < 1920 ∧ z = .str (toString i) := by
  cases x with
  | int i =>
    by_cases c : i.natAbs.log2 < 1920
    · have e : fmtU (.int i) = some (.str (toString i)) := if_pos c
      rw [e] at h
      exact .inr ⟨i, rfl, c, (Option.some.inj h).symm⟩
    · have e : fmtU (.int i) = none := if_neg c
      rw [e] at h
      cases h
  | str y =>
    by_cases c : y.length ≤ sizeLine
    · have e : fmtU (.str y) = some (.str y) := if_pos c
      rw [e] at h
      exact .inl ⟨y, rfl, c, (Option.some.inj h).symm⟩
    · have e : fmtU (.str y) = none := if_neg c
      rw [e] at h
      cases h
  | _ => cases h
theorem simE_fmt9 {ta : TE} {ma : M U} (ha : SimE κ γ ρ ta ma) : SimE κ γ ρ (tFmt9 ta) (m1 fmt9U ma) := by
  constructor
  intro σ S H F env g u env' e Q k
  obtain ⟨⟨x, e1⟩, h1, e⟩ := bindS e
  obtain ⟨z, h2, e⟩ := bindS e
  cases e
  obtain ⟨i, rfl, i0, i1, rfl⟩ := fmt9U_eq h2
  exact ha.run g h1 _ fun v S1 H1 F1 s1 g1 r => ⟨i, r, i0, i1, k _ S1 H1 F1 s1 g1 rfl⟩
theorem simE_fmt {ta : TE} {ma : M U} (ha : SimE κ γ ρ ta ma) : SimE κ γ ρ (tFmt ta) (m1 fmtU ma) := by
  constructor
  intro σ S H F env g u env' e Q k
  obtain ⟨⟨x, e1⟩, h1, e⟩ := bindS e
  obtain ⟨z, h2, e⟩ := bindS e
  cases e
  refine ha.run g h1 _ fun v S1 H1 F1 s1 g1 r => ?_
  rcases fmtU_eq h2 with ⟨y, rfl, hy, rfl⟩ | ⟨i, rfl, hi, rfl⟩
  · exact .inl ⟨y, r, hy, k _ S1 H1 F1 s1 g1 rfl⟩
  · exact .inr ⟨i, r, hi, k _ S1 H1 F1 s1 g1 rfl⟩
inductive SimJ (κ : String → Addr) (γ : Gh) (ρ : Bool) : List TE → List (M U) → Prop where
  | nil : SimJ κ γ ρ [] []
  | cons {t : TE} {m : M U} {ts : List TE} {ms : List (M U)} (h : SimE κ γ ρ t m) (r : SimJ κ γ ρ ts ms) : SimJ κ γ ρ (t :: ts) (m :: ms)
theorem simJ_run {ts : List TE} {ms : List (M U)} (h : SimJ κ γ ρ ts ms) : ∀ {acc : Str} {σ : L2.St} {S H : Hp} {F : List Addr} {env : Env}, Gd κ γ σ S H F env → ∀ {out : Str} {env' : Env}, mJ ms acc env = some (out, env') → ∀ Q : Str → Hp → Prop,
    (∀ S' H' F', StpQ κ ρ S H F env S' H' F' env' → Gd κ γ σ S' H' F' env' → Q out H') → tJs ts acc σ H Q := by
  induction h with
  | nil =>
    intro acc σ S H F env g out env' e Q k
    cases e
    exact k S H F (StpQ.refl S H F env) g
  | cons h r ih =>
    intro acc σ S H F env g out env' e Q k
    obtain ⟨⟨x, e1⟩, h1, e⟩ := bindS e
    cases x <;> try cases e
    rename_i y
    dsimp only at e
    split at e
    case isFalse => cases e
    rename_i hz
    exact h.run g h1 _ fun v S1 H1 F1 s1 g1 r => ⟨y, r, hz, ih g1 e Q fun S' H' F' s' g' => k S' H' F' (s1.trans s') g'⟩
theorem simE_js {ts : List TE} {ms : List (M U)} (h : SimJ κ γ ρ ts ms) : SimE κ γ ρ (fun σ H Q => tJs ts Str.empty σ H fun out H1 => Q (.str out) H1) (mJs ms) := by
  constructor
  intro σ S H F env g u env' e Q k
  obtain ⟨⟨x, e1⟩, h1, e⟩ := bindS e
  cases e
  exact simJ_run h g h1 _ fun S' H' F' s' g' => k _ S' H' F' s' g' rfl
theorem reps_strs (S : Hp) : ∀ l : List Str, Reps κ S (l.map U.str) (l.map V.str)
  | [] => rfl
  | z :: l => ⟨_, _, rfl, rfl, reps_strs S l⟩
theorem simO_split {ta tb : TE} {ma mb : M U} (ha : SimE κ γ false ta ma) (hb : SimE κ γ false tb mb) : SimO κ γ (tM1 (fun x xs H Q => ∃ a b, x = .str a ∧ xs = [.str b] ∧ (b.length == 0) = false ∧ a.length + 2 ≤ sizeLine ∧ rNewStrs (Txt.split a b) H Q) ta tb) (mSplit ma mb) := by
  constructor
  intro σ S H F env g w env' e Q k
  obtain ⟨⟨x, e1⟩, h1, e⟩ := bindS e
  obtain ⟨⟨y, e2⟩, h2, e⟩ := bindS e
  cases x with
  | str a =>
    cases y with
    | str b =>
      obtain ⟨l, h3, e⟩ := bindS e
      cases e
      by_cases hz : b.length ≠ 0 ∧ a.length + 2 ≤ sizeLine
      · have e3 : splitL a b = some (Txt.split a b) := if_pos hz
        rw [e3] at h3
        cases h3
        refine ha.run g h1 _ fun v S1 H1 F1 s1 g1 r => ⟨⟨a, r⟩, hb.run g1 h2 _ fun v2 S2 H2 F2 s2 g2 r2 => ?_⟩
        refine ⟨a, b, r, by rw [show v2 = .str b from r2], by simpa using hz.1, hz.2, fun p hp => ?_⟩
        obtain ⟨a1, a2, a3⟩ := new_owned (o := .lst ((Txt.split a b).map V.str)) g2 hp
        exact k _ _ _ F2 [p] ((s1.stp.trans s2.stp).trans a1) a2 a3 ⟨p, _, [], rfl, upd_same, rfl, RepOs.pure_ (reps_strs _ _)⟩
      · have e3 : splitL a b = none := if_neg hz
        rw [e3] at h3
        cases h3
    | _ => cases e
  | _ => cases e
theorem simE_sidx {ta tb : TE} {ma mb : M U} (ha : SimE κ γ ρ ta ma) (hb : SimE κ γ ρ tb mb) : SimE κ γ ρ (tM1 (fun x xs H Q => ∃ a b i rest, x = .str a ∧ xs = [.str b] ∧ Builtin.Str.occurrences a b 0 a.length 1 = i :: rest ∧ Q (.int (i : Nat)) H) ta tb) (m2 sIdxU ma mb) := by
  constructor
  intro σ S H F env g u env' e Q k
  obtain ⟨⟨x, e1⟩, h1, e⟩ := bindS e
  obtain ⟨⟨y, e2⟩, h2, e⟩ := bindS e
  obtain ⟨z, h3, e⟩ := bindS e
  cases e
  cases x with
  | str a =>
    cases y with
    | str b =>
      obtain ⟨i, h4, h3⟩ := bindS h3
      cases h3
      unfold sIdx at h4
      cases ho : Builtin.Str.occurrences a b 0 a.length 1 with
      | nil => rw [ho] at h4; cases h4
      | cons j rest =>
        rw [ho] at h4
        cases h4
        refine ha.run g h1 _ fun v S1 H1 F1 s1 g1 r => ⟨⟨a, r⟩, hb.run g1 h2 _ fun v2 S2 H2 F2 s2 g2 r2 => ?_⟩
        exact ⟨a, b, _, rest, r, by rw [show v2 = .str b from r2], ho, k _ S2 H2 F2 (s1.trans s2) g2 rfl⟩
    | _ => cases h3
  | _ => cases h3
end
end UL
set_option Elab.async false
set_option linter.all false
set_option maxRecDepth 100000
set_option maxHeartbeats 4000000
namespace UM
open PySem L2 UL
def b_is_digits (cs : List String) : MS :=
  (sSeq (sIf (mTest (m2 (eqU 0) (mVar 0) (mC (.str "0")))) (sRet (mP (mC (.bl true)))) sNext)
    (sRet (mP (mAndV (m2 (neN 0) (mVar 0) (mC (.str ""))) (mAndV (m2 (neN 0) (m2 ixU (mVar 0) (mC (.int 0))) (mC (.str "0"))) (mN allU (mCons (mLc [1] (mStr (mVar 0)) (gN 1) mYes (m2 inS (mVar 1) (mC (.str "0123456789")))) mNil)))))))
def m_is_digits (cs : List String) : List U → Option U := fnP 1 1 (b_is_digits cs)
def b_number_of (cs : List String) : MS :=
  (sSeq (sSet 1 (mP (mC (.int 0))))
    (sSeq (sFor (mStr (mVar 0)) (gN 2) (sSet 1 (mP (m2 addU (m2 mulU (mC (.int 10)) (mVar 1)) (m2 sIdxU (mC (.str "0123456789")) (mVar 2))))))
    (sRet (mP (mVar 1)))))
def m_number_of (cs : List String) : List U → Option U := fnP 1 2 (b_number_of cs)
def b_digits_of (cs : List String) : MS :=
  (sSeq (sSet 1 (mP (mC (.str ""))))
    (sSeq (whileO (mTest (m2 geU (mVar 0) (m2 powU (mC (.int 10)) (mC (.int 9))))) (sSeq (sSet 1 (mP (m2 addU (m1 fmt9U (m2 modU (mVar 0) (m2 powU (mC (.int 10)) (mC (.int 9))))) (mVar 1))))
    (sSet 0 (mP (m2 fdivU (mVar 0) (m2 powU (mC (.int 10)) (mC (.int 9))))))) fuel)
    (sRet (mP (mJs [(m1 fmtU (mVar 0)), (m1 fmtU (mVar 1))])))))
def m_digits_of (cs : List String) : List U → Option U := fnP 1 1 (b_digits_of cs)
def b_read_number (cs : List String) : MS :=
  (sSeq (sSet 1 (mSplit (mVar 0) (mC (.str "/"))))
    (sSeq (sSet 2 (mP (m2 (eqU 0) (mSl slS (mIxV 1 (mC (.int 0))) none (some (mC (.int 1)))) (mC (.str "-")))))
    (sSeq (sSetV 1 (mC (.int 0)) (mIf (mTest (mVar 2)) (mSl slS (mIxV 1 (mC (.int 0))) (some (mC (.int 1))) none) (mIxV 1 (mC (.int 0)))))
    (sSeq (sIf (mOr (mTest (m2 gtU (mLenV 1) (mC (.int 2)))) (mNot (mTest (mN allU (mCons (mLcV 1 [5] (gN 5) mYes (mN (m_is_digits cs) (mCons (mVar 5) mNil))) mNil))))) (sRet (mP (mC .non))) sNext)
    (sSeq (sPar 3 4 (mCons (mN (m_number_of cs) (mCons (mIxV 1 (mC (.int 0))) mNil)) (mCons (mIf (mTest (m2 (eqU 0) (mLenV 1) (mC (.int 2)))) (mN (m_number_of cs) (mCons (mIxV 1 (mC (.int 1))) mNil)) (mC (.int 1))) mNil)))
    (sSeq (sIf (mOr (mAnd (mTest (mVar 2)) (mTest (m2 (eqU 0) (mVar 3) (mC (.int 0))))) (mAnd (mTest (m2 (eqU 0) (mLenV 1) (mC (.int 2)))) (mOr (mTest (m2 ltU (mVar 4) (mC (.int 2)))) (mTest (m2 (neN 0) (mN gcdU (mCons (mVar 3) (mCons (mVar 4) mNil))) (mC (.int 1))))))) (sRet (mP (mC .non))) sNext)
    (sRet (mP (mN mkF (mCons (mIf (mTest (mVar 2)) (m1 negU (mVar 3)) (mVar 3)) (mCons (mVar 4) mNil)))))))))))
def m_read_number (cs : List String) : List U → Option U := fnP 1 5 (b_read_number cs)
def b_Exact_text (cs : List String) : MS :=
  (sSeq (sSet 1 (mP (mIf (mTest (m2 ltU (m1 (fldQ "over") (mVar 0)) (mC (.int 0)))) (mC (.str "-")) (mC (.str "")))))
    (sSeq (sSet 2 (mP (mIf (mTest (m2 (eqU 0) (m1 (fldQ "under") (mVar 0)) (mC (.int 1)))) (mC (.str "")) (m2 addU (mC (.str "/")) (mN (m_digits_of cs) (mCons (m1 (fldQ "under") (mVar 0)) mNil))))))
    (sRet (mP (m2 addU (m2 addU (mVar 1) (mN (m_digits_of cs) (mCons (mIf (mTest (m2 gtU (m1 (fldQ "over") (mVar 0)) (mC (.int 0)))) (m1 (fldQ "over") (mVar 0)) (m1 negU (m1 (fldQ "over") (mVar 0)))) mNil))) (mVar 2))))))
def m_Exact_text (cs : List String) : List U → Option U := fnP 1 2 (b_Exact_text cs)
def b_Exact_of_text (cs : List String) : MS :=
  (sSeq (sSet 1 (mP (mN (m_read_number cs) (mCons (mVar 0) mNil))))
    (sSeq (sIf (mTest (mIsN (mVar 1))) sNever sNext)
    (sRet (mP (mVar 1)))))
def m_Exact_of_text (cs : List String) : List U → Option U := fnP 1 1 (b_Exact_of_text cs)
def xb_Exact_of_text (cs : List String) : MX :=
  (xSeq xN (sSet 1 (mP (mN (m_read_number cs) (mCons (mVar 0) mNil))))
    (xSeq (xIf (mTest (mIsN (mVar 1))) (xRaise .text xN (mCons (mC (.int 1)) mNil)) xN) (sIf (mTest (mIsN (mVar 1))) sNever sNext)
    xN))
def x_Exact_of_text (cs : List String) : List U → Option Er := xfP 1 1 (xb_Exact_of_text cs)
end UM
namespace LM
/-! lines: points in order, straight rows between -/
abbrev Pt := Rat × Rat
def slp (p q : Pt) : Rat := (q.2 - p.2) / (q.1 - p.1)
def Inc (ps : List Pt) : Prop := ps.Pairwise fun p q => p.1 < q.1
def bnd (f : Pt) : List Pt → List Pt
  | [] => []
  | [p] => [p]
  | p :: q :: r => if slp f p = slp p q then bnd f (q :: r) else p :: bnd p (q :: r)
def bends : List Pt → List Pt
  | [] => []
  | p :: r => p :: bnd p r
theorem Inc.two {p q : Pt} {r : List Pt} (h : Inc (p :: q :: r)) : p.1 < q.1 := (List.pairwise_cons.mp h).1 q (by simp)
theorem Inc.tail {p : Pt} {r : List Pt} (h : Inc (p :: r)) : Inc r := (List.pairwise_cons.mp h).2
theorem bnd_sub (f : Pt) (r : List Pt) : (bnd f r).Sublist r := by
  induction r generalizing f with
  | nil => exact List.Sublist.refl _
  | cons p r ih =>
    cases r with
    | nil => exact List.Sublist.refl _
    | cons q r =>
      unfold bnd
      split
      · exact List.Sublist.cons p (ih f)
      · exact List.Sublist.cons_cons p (ih p)
theorem bends_sub (ps : List Pt) : (bends ps).Sublist ps := by
  cases ps with
  | nil => exact List.Sublist.refl _
  | cons f r => exact List.Sublist.cons_cons f (bnd_sub f r)
theorem Inc.bends {ps : List Pt} (h : Inc ps) : Inc (bends ps) := List.Pairwise.sublist (bends_sub ps) h
/-! the stack that bends a line -/
/-! the place of a moment -/
theorem between {a b s : Rat} (h : a ≤ b) (h0 : 0 ≤ s) (h1 : s ≤ 1) : a ≤ a + s * (b + -a) ∧ a + s * (b + -a) ≤ b := by
  have x : 0 ≤ s * (b - a) := Rat.mul_nonneg h0 (by grind)
  have y : 0 ≤ (1 - s) * (b - a) := Rat.mul_nonneg (by grind) (by grind)
  constructor <;> grind
end LM
namespace LM
/-! a line is known by its heights: bends are canonical -/
/-- no point on the straight row of its neighbours -/
def NoCol : List Pt → Prop
  | p :: q :: s :: r => slp p q ≠ slp q s ∧ NoCol (q :: s :: r)
  | _ => True
theorem NoCol.tail {p : Pt} {r : List Pt} (h : NoCol (p :: r)) : NoCol r := by
  match r, h with
  | [], _ => trivial
  | [_], _ => trivial
  | _ :: _ :: _, h => exact h.2
end LM
namespace LM
/-! heights as a function -/
/-- linear between a and b -/
def Ln (f : Rat → Rat) (a b : Rat) : Prop := ∃ u v : Rat, ∀ t, a ≤ t → t ≤ b → f t = u + v * t
theorem Ln.sub {f : Rat → Rat} {a b c d : Rat} (h : Ln f a b) (h1 : a ≤ c) (h2 : d ≤ b) : Ln f c d := by
  obtain ⟨u, v, h⟩ := h
  exact ⟨u, v, fun t x y => h t (by grind) (by grind)⟩
def Seg (f : Rat → Rat) : List Rat → Prop
  | a :: b :: r => Ln f a b ∧ Seg f (b :: r)
  | _ => True
end LM
namespace LM
theorem Seg.congr {f g : Rat → Rat} : ∀ {ms : List Rat}, (∀ t, (∃ a ∈ ms, a ≤ t) → (∃ b ∈ ms, t ≤ b) → f t = g t) → Seg f ms → Seg g ms
  | [], _, _ => trivial
  | [_], _, _ => trivial
  | a :: b :: r, h, s => by
    obtain ⟨⟨u, v, s1⟩, s2⟩ := s
    refine ⟨⟨u, v, fun t x y => ?_⟩, Seg.congr (fun t ⟨x, hx, h1⟩ ⟨y, hy, h2⟩ => h t ⟨x, by simp at hx ⊢; exact .inr hx, h1⟩ ⟨y, by simp at hy ⊢; exact .inr hy, h2⟩) s2⟩
    rw [← h t ⟨a, by simp, x⟩ ⟨b, by simp, y⟩]
    exact s1 t x y
end LM
set_option Elab.async false
set_option linter.all false
set_option maxRecDepth 100000
set_option maxHeartbeats 2000000
/-! mirrors run by simp: what each word of the layer does -/
namespace UL
open PySem L2 LM
/-! sizes of numbers, found by instances -/
class HtC (n : outParam Nat) (r : Rat) : Prop where
  h : Ht n r
section
variable {a b : Rat} {n m : Nat}
theorem HtC.of (h : Ht n a) : HtC n a := ⟨h⟩
theorem Ht.div' (h1 : Ht n a) (h2 : Ht m b) : Ht (n + m + 1) (a / b) := by
  by_cases hb : b = 0
  · subst hb
    rw [Rat.div_def, Rat.inv_zero, Rat.mul_zero]
    exact ⟨Nat.two_pow_pos _, Nat.one_lt_two_pow (by omega)⟩
  · exact (h1.div h2 hb).mono (by omega)
instance [x : HtC n a] [y : HtC m b] : HtC (n + m + 1) (a + b) := ⟨x.h.add y.h⟩
instance [x : HtC n a] [y : HtC m b] : HtC (n + m + 1) (a - b) := ⟨x.h.sub y.h⟩
instance [x : HtC n a] [y : HtC m b] : HtC (n + m) (a * b) := ⟨x.h.mul y.h⟩
instance [x : HtC n a] [y : HtC m b] : HtC (n + m + 1) (a / b) := ⟨Ht.div' x.h y.h⟩
instance [x : HtC n a] : HtC n (-a) := ⟨x.h.neg⟩
theorem smQ_of (h : Ht n a) (l : n ≤ 4000) : smQ a = true := by
  have h := h.mono l
  unfold smQ
  rw [decide_eq_true h.1, decide_eq_true h.2]
  rfl
theorem okQ_of {u : U} [x : HtC n a] [y : HtC m b] (h : n ≤ 4000) (h' : m ≤ 4000) : okQ a b u = some u := by
  unfold okQ
  rw [smQ_of x.h h, smQ_of y.h h']
  rfl
theorem ht0 : Ht 1 ((0 : Int) : Rat) := ⟨by decide, by decide⟩
@[simp] theorem addU_qq [HtC n a] [HtC m b] (h : n ≤ 4000) (h' : m ≤ 4000) : addU (.q a) (.q b) = some (.q (a + b)) := okQ_of h h'
@[simp] theorem subU_qq [HtC n a] [HtC m b] (h : n ≤ 4000) (h' : m ≤ 4000) : subU (.q a) (.q b) = some (.q (a - b)) := okQ_of h h'
@[simp] theorem mulU_qq [HtC n a] [HtC m b] (h : n ≤ 4000) (h' : m ≤ 4000) : mulU (.q a) (.q b) = some (.q (a * b)) := okQ_of h h'
@[simp] theorem ltU_qq [HtC n a] [HtC m b] (h : n ≤ 4000) (h' : m ≤ 4000) : ltU (.q a) (.q b) = some (.bl (decide (a < b))) := okQ_of h h'
@[simp] theorem leU_qq [HtC n a] [HtC m b] (h : n ≤ 4000) (h' : m ≤ 4000) : leU (.q a) (.q b) = some (.bl (decide (a ≤ b))) := okQ_of h h'
@[simp] theorem gtU_qq [HtC n a] [HtC m b] (h : n ≤ 4000) (h' : m ≤ 4000) : gtU (.q a) (.q b) = some (.bl (decide (b < a))) := okQ_of h h'
@[simp] theorem geU_qq [HtC n a] [HtC m b] (h : n ≤ 4000) (h' : m ≤ 4000) : geU (.q a) (.q b) = some (.bl (decide (b ≤ a))) := okQ_of h h'
@[simp] theorem negU_q [x : HtC n a] (h : n ≤ 4000) : negU (.q a) = some (.q (-a)) := by
  dsimp only [negU]
  rw [if_pos (smQ_of x.h h)]
@[simp] theorem byF_qq [HtC n a] [HtC m b] (h0 : b ≠ 0) (h : n ≤ 4000) (h' : m ≤ 4000) : byF [.q a, .q b] = some (.q (a / b)) := by
  dsimp only [byF]
  rw [if_pos h0]
  exact okQ_of h h'
@[simp] theorem ltU_q0 [HtC n a] (h : n ≤ 4000) : ltU (.q a) (.int 0) = some (.bl (decide (a < 0))) := by
  haveI : HtC 1 ((0 : Int) : Rat) := ⟨ht0⟩
  exact okQ_of (b := ((0 : Int) : Rat)) h (by decide)
@[simp] theorem leU_q0 [HtC n a] (h : n ≤ 4000) : leU (.q a) (.int 0) = some (.bl (decide (a ≤ 0))) := by
  haveI : HtC 1 ((0 : Int) : Rat) := ⟨ht0⟩
  exact okQ_of (b := ((0 : Int) : Rat)) h (by decide)
@[simp] theorem gtU_q0 [HtC n a] (h : n ≤ 4000) : gtU (.q a) (.int 0) = some (.bl (decide (0 < a))) := by
  haveI : HtC 1 ((0 : Int) : Rat) := ⟨ht0⟩
  exact okQ_of (b := ((0 : Int) : Rat)) h (by decide)
@[simp] theorem geU_q0 [HtC n a] (h : n ≤ 4000) : geU (.q a) (.int 0) = some (.bl (decide (0 ≤ a))) := by
  haveI : HtC 1 ((0 : Int) : Rat) := ⟨ht0⟩
  exact okQ_of (b := ((0 : Int) : Rat)) h (by decide)
/-! ints -/
@[simp] theorem addU_ii {i j : Int} : addU (.int i) (.int j) = some (.int (i + j)) := rfl
@[simp] theorem subU_ii {i j : Int} : subU (.int i) (.int j) = some (.int (i - j)) := rfl
@[simp] theorem negU_i {i : Int} : negU (.int i) = some (.int (-i)) := rfl
@[simp] theorem ltU_ii {i j : Int} : ltU (.int i) (.int j) = some (.bl (decide (i < j))) := rfl
@[simp] theorem leU_ii {i j : Int} : leU (.int i) (.int j) = some (.bl (decide (i ≤ j))) := rfl
@[simp] theorem gtU_ii {i j : Int} : gtU (.int i) (.int j) = some (.bl (decide (j < i))) := rfl
@[simp] theorem geU_ii {i j : Int} : geU (.int i) (.int j) = some (.bl (decide (j ≤ i))) := rfl
@[simp] theorem addI_ii {i j : Int} : addI (.int i) (.int j) = some (.int (i + j)) := rfl
@[simp] theorem eqU_ii {i j : Int} {n : Nat} : eqU n (.int i) (.int j) = some (.bl (decide (i = j))) := by cases n <;> rfl
@[simp] theorem eqU_bb {i j : Bool} {n : Nat} : eqU n (.bl i) (.bl j) = some (.bl (decide (i = j))) := by cases n <;> rfl
@[simp] theorem eqU_ss {i j : Str} {n : Nat} : eqU n (.str i) (.str j) = some (.bl (decide (i = j))) := by cases n <;> rfl
@[simp] theorem eqU_qq' {i j : Rat} {n : Nat} : eqU n (.q i) (.q j) = some (.bl (decide (i = j))) := by cases n <;> rfl
@[simp] theorem neU_ii {i j : Int} : neU (.int i) (.int j) = some (.bl (!decide (i = j))) := by
  simp [neU, toD, SeqAt.shaped, PyData.canLay0, PyData.depth, PyData.eqv]
  by_cases h : i = j <;> simp [h]
@[simp] theorem neN_ii {i j : Int} {n : Nat} : neN n (.int i) (.int j) = some (.bl (!decide (i = j))) := neU_ii
@[simp] theorem neN_qq {i j : Rat} {n : Nat} : neN n (.q i) (.q j) = some (.bl (!decide (i = j))) := rfl
theorem neN_ss {i j : Str} {n : Nat} (h1 : PyData.strOk i = true) (h2 : PyData.strOk j = true) : neN n (.str i) (.str j) = some (.bl (!decide (i = j))) := by
  have : neU (.str i) (.str j) = some (.bl (!(i == j))) := by simp [neU, toD, SeqAt.shaped, PyData.canLay0, PyData.depth, PyData.eqv, h1, h2]
  refine this.trans ?_
  congr 3
@[simp] theorem neN_tt {us ws : List U} {n : Nat} : neN n (.tup us) (.tup ws) = (eqN n (.tup us) (.tup ws)).bind fun x => some (.bl (!x)) := rfl
@[simp] theorem neN_ll {us ws : List U} {n : Nat} : neN n (.lst us) (.lst ws) = (eqN n (.lst us) (.lst ws)).bind fun x => some (.bl (!x)) := rfl
theorem smI_of {i : Int} (h : i.natAbs < 2 ^ 64) : smI i = true := decide_eq_true h
theorem mulOk_l {i j : Int} (h : smI i = true) : mulOk i j = true := by simp [mulOk, h]
theorem mulOk_r {i j : Int} (h : smI j = true) : mulOk i j = true := by simp [mulOk, h]
theorem mulU_ii {i j : Int} (h : mulOk i j = true) : mulU (.int i) (.int j) = some (.int (i * j)) := by
  dsimp only [mulU]
  rw [if_pos h]
theorem mulU_l {i j : Int} (h : i.natAbs < 2 ^ 64) : mulU (.int i) (.int j) = some (.int (i * j)) := mulU_ii (mulOk_l (smI_of h))
theorem mulU_r {i j : Int} (h : j.natAbs < 2 ^ 64) : mulU (.int i) (.int j) = some (.int (i * j)) := mulU_ii (mulOk_r (smI_of h))
theorem fdivU_ii {i j : Int} (h : j ≠ 0) (h' : j.natAbs < 2 ^ 9000) : fdivU (.int i) (.int j) = some (.int (i.fdiv j)) := by
  dsimp only [fdivU]
  rw [if_pos ⟨h, (Nat.log2_lt (by omega)).mpr h'⟩]
theorem modU_ii {i j : Int} (h : j ≠ 0) : modU (.int i) (.int j) = some (.int (i.fmod j)) := by
  dsimp only [modU]
  rw [if_pos h]
end
end UL
set_option Elab.async false
set_option linter.all false
set_option maxRecDepth 100000
set_option maxHeartbeats 2000000
/-! mirrors run by simp: the words of the layer -/
namespace UL
open PySem L2 LM
def getP (env : Env) (i : Nat) : Option U := match env[i]? with
  | some (some (.p u)) => some u
  | _ => none
@[simp] theorem mVar_d {env : Env} {i : Nat} : mVar i env = (getP env i).bind fun u => some (u, env) := by
  unfold mVar getP
  split <;> simp_all
@[simp] theorem getP_0 {u : U} {e : Env} : getP (some (.p u) :: e) 0 = some u := rfl
@[simp] theorem getP_s {x : Option Ow} {e : Env} {i : Nat} : getP (x :: e) (i + 1) = getP e i := rfl
section
variable {env : Env} {i j l : Nat} {u v x y : U} {a b c : M U} {α β : Type}
@[simp] theorem mC_d : mC u env = some (u, env) := rfl
@[simp] theorem m1_d {f : U → Option U} : m1 f a env = (a env).bind fun x => (f x.1).bind fun z => some (z, x.2) := rfl
@[simp] theorem m2_d {f : U → U → Option U} : m2 f a b env = (a env).bind fun x => (b x.2).bind fun y => (f x.1 y.1).bind fun z => some (z, y.2) := rfl
@[simp] theorem mNil_d : mNil env = some ([], env) := rfl
@[simp] theorem mCons_d {r : M (List U)} : mCons a r env = (a env).bind fun x => (r x.2).bind fun y => some (x.1 :: y.1, y.2) := rfl
@[simp] theorem mN_d {f : List U → Option U} {r : M (List U)} : mN f r env = (r env).bind fun x => (f x.1).bind fun z => some (z, x.2) := rfl
@[simp] theorem mLst_d {r : M (List U)} : mLst r env = (r env).bind fun x => some (.lst x.1, x.2) := rfl
@[simp] theorem mTup_d {r : M (List U)} : mTup r env = (r env).bind fun x => some (.tup x.1, x.2) := rfl
@[simp] theorem mLstO_d {r : M (List U)} : mLstO r env = (r env).bind fun x => some (.l (x.1.map .p), x.2) := rfl
@[simp] theorem mP_d : mP a env = (a env).bind fun x => some (.p x.1, x.2) := rfl
@[simp] theorem mF_d {r : M Ow} : mF r env = (r env).bind fun x => some (frz x.1, x.2) := rfl
@[simp] theorem isB_bl {t : Bool} : isB (.bl t) = some t := rfl
@[simp] theorem mTest_d : mTest a env = (a env).bind fun x => (isB x.1).bind fun b => some (b, x.2) := rfl
@[simp] theorem mAnd_d {a b : M Bool} : mAnd a b env = (a env).bind fun x => if x.1 = true then b x.2 else some (false, x.2) := rfl
@[simp] theorem mOr_d {a b : M Bool} : mOr a b env = (a env).bind fun x => if x.1 = true then some (true, x.2) else b x.2 := rfl
@[simp] theorem mNot_d {a : M Bool} : mNot a env = (a env).bind fun x => some (!x.1, x.2) := rfl
@[simp] theorem mIf_d {c : M Bool} : mIf c a b env = (c env).bind fun x => if x.1 = true then a x.2 else b x.2 := rfl
@[simp] theorem mAndV_d : mAndV a b env = (a env).bind fun x => (isB x.1).bind fun k => if k = true then b x.2 else some (.bl false, x.2) := rfl
@[simp] theorem mOrV_d : mOrV a b env = (a env).bind fun x => (isB x.1).bind fun k => if k = true then some (.bl true, x.2) else b x.2 := rfl
@[simp] theorem mNotV_d : mNotV a env = (a env).bind fun x => (isB x.1).bind fun k => some (.bl (!k), x.2) := rfl
@[simp] theorem mIsN_d : mIsN a env = (a env).bind fun x => some (.bl (isN x.1), x.2) := rfl
@[simp] theorem mNotN_d : mNotN a env = (a env).bind fun x => some (.bl (!isN x.1), x.2) := rfl
@[simp] theorem sNext_d : sNext env = some (.nx env) := rfl
@[simp] theorem sNever_d : sNever env = none := rfl
def seqK (t : MS) : Fl → Option Fl
  | .nx e => t e
  | f => some f
@[simp] theorem seqK_nx {t : MS} {e : Env} : seqK t (.nx e) = t e := rfl
@[simp] theorem seqK_rt {t : MS} {w : Ow} {e : Env} : seqK t (.rt w e) = some (.rt w e) := rfl
@[simp] theorem seqK_bk {t : MS} {e : Env} : seqK t (.bk e) = some (.bk e) := rfl
@[simp] theorem sSeq_d {s t : MS} : sSeq s t env = (s env).bind (seqK t) := by
  unfold sSeq
  cases s env with
  | none => rfl
  | some f => cases f <;> rfl
theorem sSeq_nx {s t : MS} {e : Env} (h : s env = some (.nx e)) : sSeq s t env = t e := by simp [sSeq, h]
@[simp] theorem sIf_d {c : M Bool} {s t : MS} : sIf c s t env = (c env).bind fun x => if x.1 = true then s x.2 else t x.2 := rfl
@[simp] theorem sDrop_d : sDrop a env = (a env).bind fun x => some (.nx x.2) := rfl
@[simp] theorem sRet_d {r : M Ow} : sRet r env = (r env).bind fun x => some (.rt x.1 x.2) := rfl
@[simp] theorem sSet_d {r : M Ow} : sSet i r env = (r env).bind fun x => some (.nx (x.2.set i (some x.1))) := rfl
@[simp] theorem gN_d : gN i u env = some (env.set i (some (.p u))) := rfl
@[simp] theorem gsNil_d : gsNil [] env = some env := rfl
@[simp] theorem gsCons_d {g : MG} {r : MGs} {us : List U} : gsCons g r (u :: us) env = (g u env).bind fun e => r us e := rfl
@[simp] theorem gT_d {n : Nat} {r : MGs} {us : List U} : gT n r (.tup us) env = if us.length = n then r us env else none := rfl
@[simp] theorem sAsg_d {g : MG} : sAsg a g env = (a env).bind fun x => (g x.1 x.2).bind fun e => some (.nx e) := rfl
def parK (i j : Nat) : List U × Env → Option Fl
  | ([u, v], e) => some (.nx ((e.set i (some (.p u))).set j (some (.p v))))
  | _ => none
@[simp] theorem parK_d {e : Env} : parK i j ([u, v], e) = some (.nx ((e.set i (some (.p u))).set j (some (.p v)))) := rfl
@[simp] theorem sPar_d {r : M (List U)} : sPar i j r env = (r env).bind (parK i j) := by
  unfold sPar
  cases r env with
  | none => rfl
  | some x =>
    obtain ⟨us, e⟩ := x
    rcases us with _ | ⟨a, _ | ⟨b, _ | ⟨c, us⟩⟩⟩ <;> rfl
def par3K (i j l : Nat) : List U × Env → Option Fl
  | ([u, v, w], e) => some (.nx (((e.set i (some (.p u))).set j (some (.p v))).set l (some (.p w))))
  | _ => none
@[simp] theorem par3K_d {e : Env} {w : U} : par3K i j l ([u, v, w], e) = some (.nx (((e.set i (some (.p u))).set j (some (.p v))).set l (some (.p w)))) := rfl
@[simp] theorem sPar3_d {r : M (List U)} : sPar3 i j l r env = (r env).bind (par3K i j l) := by
  unfold sPar3
  cases r env with
  | none => rfl
  | some x =>
    obtain ⟨us, e⟩ := x
    rcases us with _ | ⟨a, _ | ⟨b, _ | ⟨c, _ | ⟨d, us⟩⟩⟩⟩ <;> rfl
@[simp] theorem sAug_d {f : U → U → Option U} : sAug i f a env = (mVar i env).bind fun y => (a y.2).bind fun x => (f y.1 x.1).bind fun z => some (.nx (x.2.set i (some (.p z)))) := rfl
@[simp] theorem sFor_d {it : M (List U)} {g : MG} {s : MS} : sFor it g s env = (it env).bind fun x => forO g s x.1 x.2 := rfl
@[simp] theorem seqU_l {us : List U} : seqU (.lst us) = some us := rfl
@[simp] theorem seqU_t {us : List U} : seqU (.tup us) = some us := rfl
@[simp] theorem mSeq_d : mSeq a env = (a env).bind fun x => (seqU x.1).bind fun us => some (us, x.2) := rfl
@[simp] theorem isP_p : isP (.p u) = some u := rfl
@[simp] theorem isI_i {n : Int} : isI (.int n) = some n := rfl
@[simp] theorem mYes_d : mYes env = some (true, env) := rfl
@[simp] theorem mLc_d {vs : List Nat} {mi : M (List U)} {g : MG} {tt : M Bool} {te : M U} : mLc vs mi g tt te env = (mi env).bind fun x => (lcO vs g tt te x.1 [] x.2).bind fun y => some (.lst y.1, y.2) := by
  show ((mi env).bind _).bind _ = _
  cases mi env <;> rfl
@[simp] theorem forO_nil {g : MG} {s : MS} : forO g s [] env = some (.nx env) := rfl
theorem forO_cons {g : MG} {s : MS} {us : List U} {e e' : Env} (h : g u env = some e) (h' : s e = some (.nx e')) : forO g s (u :: us) env = forO g s us e' := by
  simp [forO, h, h']
theorem while_go {c : M Bool} {s : MS} {n : Nat} {e e' : Env} (h : c env = some (true, e)) (h' : s e = some (.nx e')) : whileO c s (n + 1) env = whileO c s n e' := by
  simp [whileO, h, h']
theorem while_stop {c : M Bool} {s : MS} {n : Nat} {e : Env} (h : c env = some (false, e)) : whileO c s (n + 1) env = some (.nx e) := by
  simp [whileO, h]
theorem lcO_yes {vs : List Nat} {g : MG} {tt : M Bool} {te : M U} {us acc : List U} {e1 e2 e3 : Env} (h1 : g u (wipeE env vs) = some e1) (h2 : tt e1 = some (true, e2)) (h3 : te e2 = some (y, e3)) (h4 : acc.length < sizeLine) : lcO vs g tt te (u :: us) acc env = lcO vs g tt te us (acc ++ [y]) (restE env e3 vs) := by
  simp [lcO, h1, h2, h3, h4]
theorem lcO_no {vs : List Nat} {g : MG} {tt : M Bool} {te : M U} {us acc : List U} {e1 e2 : Env} (h1 : g u (wipeE env vs) = some e1) (h2 : tt e1 = some (false, e2)) : lcO vs g tt te (u :: us) acc env = lcO vs g tt te us acc (restE env e2 vs) := by
  simp [lcO, h1, h2]
@[simp] theorem lcO_nil {vs : List Nat} {g : MG} {tt : M Bool} {te : M U} {acc : List U} : lcO vs g tt te [] acc env = some (acc, env) := rfl
theorem fnP_rt {n nl : Nat} {s : MS} {us : List U} {e : Env} (hn : us.length = n) (h : s (env0 (us.map .p) nl) = some (.rt (.p u) e)) : fnP n nl s us = some u := by
  unfold fnP
  rw [if_pos hn, h]
  rfl
theorem fnI_rt {n nl : Nat} {s : MS} {w w' : Ow} {us : List U} {e : Env} (hn : us.length + 1 = n) (h : s (env0 (w :: us.map .p) nl) = some (.rt (.p u) e)) (h' : e[0]? = some (some w')) : fnI n nl s w us = some (u, w') := by
  unfold fnI
  rw [if_pos hn, h]
  simp [atS, h']
theorem fnI_nx {n nl : Nat} {s : MS} {w w' : Ow} {us : List U} {e : Env} (hn : us.length + 1 = n) (h : s (env0 (w :: us.map .p) nl) = some (.nx e)) (h' : e[0]? = some (some w')) : fnI n nl s w us = some (.non, w') := by
  unfold fnI
  rw [if_pos hn, h]
  simp [atS, h']
theorem atI_nat' {α : Type} {l : List α} {n : Nat} {a : α} (h : l[n]? = some a) : atI l (n : Int) = some a := atI_nat h
@[simp] theorem atI_0 {α : Type} {a : α} {r : List α} : atI (a :: r) 0 = some a := atI_nat (xs := a :: r) (j := 0) rfl
@[simp] theorem atI_1 {α : Type} {a b : α} {r : List α} : atI (a :: b :: r) 1 = some b := atI_nat (xs := a :: b :: r) (j := 1) rfl
@[simp] theorem get_0 {α : Type} {a : α} {r : List α} : (a :: r)[0]? = some a := rfl
@[simp] theorem get_s {α : Type} {a : α} {r : List α} {n : Nat} : (a :: r)[n + 1]? = r[n]? := rfl
@[simp] theorem atI_2 {α : Type} {a b c : α} {r : List α} : atI (a :: b :: c :: r) 2 = some c := atI_nat (xs := a :: b :: c :: r) (j := 2) rfl
@[simp] theorem atI_3 {α : Type} {a b c d : α} {r : List α} : atI (a :: b :: c :: d :: r) 3 = some d := atI_nat (xs := a :: b :: c :: d :: r) (j := 3) rfl
@[simp] theorem atI_4 {α : Type} {a b c d e : α} {r : List α} : atI (a :: b :: c :: d :: e :: r) 4 = some e := atI_nat (xs := a :: b :: c :: d :: e :: r) (j := 4) rfl
@[simp] theorem atI_5 {α : Type} {a b c d e f : α} {r : List α} : atI (a :: b :: c :: d :: e :: f :: r) 5 = some f := atI_nat (xs := a :: b :: c :: d :: e :: f :: r) (j := 5) rfl
@[simp] theorem ixU_l {us : List U} {n : Int} : ixU (.lst us) (.int n) = atI us n := rfl
@[simp] theorem ixU_t {us : List U} {n : Int} : ixU (.tup us) (.int n) = atI us n := rfl
@[simp] theorem lenU_l {us : List U} : lenU [.lst us] = some (.int us.length) := rfl
@[simp] theorem ixU_a {us : List U} {n : Int} {a : Addr} : ixU (.atl a us) (.int n) = atI us n := rfl
@[simp] theorem lenU_a {us : List U} {a : Addr} : lenU [.atl a us] = some (.int us.length) := rfl
@[simp] theorem lenU_t {us : List U} : lenU [.tup us] = some (.int us.length) := rfl
end

/-! slots -/
section
variable {env : Env} {i j l : Nat} {u v x y : U} {a b c k : M U} {w : Ow} {ws : List Ow}
def isLw : Ow → Option (List Ow)
  | .l ws => some ws
  | _ => none
def getL (env : Env) (i : Nat) : Option (List Ow) := (atS env i).bind isLw
@[simp] theorem isLw_l : isLw (.l ws) = some ws := rfl
@[simp] theorem atS_0 {e : Env} : atS (some w :: e) 0 = some w := rfl
@[simp] theorem atS_s {z : Option Ow} {e : Env} : atS (z :: e) (i + 1) = atS e i := rfl
@[simp] theorem getL_0 {e : Env} : getL (some (.l ws) :: e) 0 = some ws := rfl
@[simp] theorem getL_s {z : Option Ow} {e : Env} : getL (z :: e) (i + 1) = getL e i := rfl
@[simp] theorem hasS_d : hasS env i = (atS env i).bind fun _ => some () := by
  unfold hasS atS
  rcases env[i]? with _ | _ | w <;> rfl
@[simp] theorem isL_d : isL env i = (getL env i).bind fun _ => some () := by
  unfold isL getL atS isLw
  rcases env[i]? with _ | _ | w
  · rfl
  · rfl
  · cases w <;> rfl
theorem matchL {α : Type} (e : Env) (i : Nat) (f : List Ow → Option α) : (match e[i]? with
    | some (some (.l ws)) => f ws
    | _ => none) = (getL e i).bind f := by
  unfold getL atS isLw
  rcases e[i]? with _ | _ | w
  · rfl
  · rfl
  · cases w <;> rfl
@[simp] theorem mIxV_d : mIxV i k env = (getL env i).bind fun _ => (k env).bind fun y => (getL y.2 i).bind fun ws => (isI y.1).bind fun j => (atI ws j).bind fun w => (isP w).bind fun u => some (u, y.2) := by
  unfold mIxV
  rw [isL_d]
  cases getL env i with
  | none => rfl
  | some _ =>
    cases k env with
    | none => rfl
    | some y =>
      exact matchL y.2 i _
@[simp] theorem mAppV_d : mAppV i a env = (getL env i).bind fun _ => (a env).bind fun y => (getL y.2 i).bind fun ws => if ws.length < sizeLine then some (.non, y.2.set i (some (.l (ws ++ [.p y.1])))) else none := by
  unfold mAppV
  rw [isL_d]
  cases getL env i with
  | none => rfl
  | some _ =>
    cases a env with
    | none => rfl
    | some y =>
      exact matchL y.2 i _
def lstU : U → Option (List U)
  | .lst us => some us
  | _ => none
@[simp] theorem lstU_l {us : List U} : lstU (.lst us) = some us := rfl
@[simp] theorem mExtV_d : mExtV i a env = (getL env i).bind fun _ => (a env).bind fun y => (getL y.2 i).bind fun ws => (lstU y.1).bind fun us => if ws.length + us.length ≤ sizeLine then some (.non, y.2.set i (some (.l (ws ++ us.map .p)))) else none := by
  unfold mExtV
  rw [isL_d]
  cases getL env i with
  | none => rfl
  | some _ =>
    cases a env with
    | none => rfl
    | some y =>
      obtain ⟨u, e⟩ := y
      cases u <;> exact matchL e i _
@[simp] theorem mInsV_d : mInsV i k a env = (getL env i).bind fun _ => (k env).bind fun y => (a y.2).bind fun x => (getL x.2 i).bind fun ws => (isI y.1).bind fun j => if ws.length < sizeLine ∧ 0 ≤ j ∧ j < 2 ^ 63 then some (.non, x.2.set i (some (.l (ws.take j.toNat ++ [.p x.1] ++ ws.drop j.toNat)))) else none := by
  unfold mInsV
  rw [isL_d]
  cases getL env i with
  | none => rfl
  | some _ =>
    cases k env with
    | none => rfl
    | some y =>
      show (a y.2).bind _ = (a y.2).bind _
      cases a y.2 with
      | none => rfl
      | some x =>
        exact matchL x.2 i _
@[simp] theorem mPopV_d : mPopV i env = (getL env i).bind fun ws => (ws[ws.length - 1]?).bind fun w => (isP w).bind fun u => some (u, env.set i (some (.l ws.dropLast))) := by
  unfold mPopV getL atS isLw
  rcases env[i]? with _ | _ | w
  · rfl
  · rfl
  · cases w <;> rfl
@[simp] theorem mLenV_d : mLenV i env = (getL env i).bind fun ws => some (.int ws.length, env) := by
  unfold mLenV getL atS isLw
  rcases env[i]? with _ | _ | w
  · rfl
  · rfl
  · cases w <;> rfl
@[simp] theorem mNeNilV_d : mNeNilV i env = (getL env i).bind fun ws => some (.bl (!ws.isEmpty), env) := by
  unfold mNeNilV getL atS isLw
  rcases env[i]? with _ | _ | w
  · rfl
  · rfl
  · cases w <;> rfl
@[simp] theorem mFrz_d : mFrz i env = (atS env i).bind fun w => some (frz w, env.set i (some (.p (frz w)))) := by
  unfold mFrz atS
  rcases env[i]? with _ | _ | w <;> rfl
@[simp] theorem mMov_d : mMov i env = (atS env i).bind fun w => some (w, env.set i none) := by
  unfold mMov atS
  rcases env[i]? with _ | _ | w <;> rfl
@[simp] theorem sSetV_d : sSetV i k a env = (a env).bind fun x => (getL x.2 i).bind fun _ => (k x.2).bind fun y => (getL y.2 i).bind fun ws => (isI y.1).bind fun j => (ixN ws.length j).bind fun n => (ws[n]?).bind fun w => (isP w).bind fun _ => some (.nx (y.2.set i (some (.l (ws.set n (.p x.1)))))) := by
  unfold sSetV
  cases a env with
  | none => rfl
  | some x =>
    show (isL x.2 i).bind _ = (getL x.2 i).bind _
    rw [isL_d]
    cases getL x.2 i with
    | none => rfl
    | some _ =>
      show (k x.2).bind _ = (k x.2).bind _
      cases k x.2 with
      | none => rfl
      | some y =>
        exact matchL y.2 i _
@[simp] theorem mCallI_d {f : Ow → List U → Option (U × Ow)} {r : M (List U)} : mCallI i f r env = (atS env i).bind fun _ => (r env).bind fun x => (atS x.2 i).bind fun w => (f w x.1).bind fun z => some (z.1, x.2.set i (some z.2)) := by
  unfold mCallI
  rw [hasS_d]
  cases atS env i <;> rfl
@[simp] theorem frz_l : frz (.l (ws)) = .lst (frzs ws) := rfl
@[simp] theorem frzs_m {us : List U} : frzs (us.map .p) = us := frzs_map us
theorem allP_map (us : List U) : allP (us.map .p) = some us := by
  induction us with
  | nil => rfl
  | cons u us ih => simp [allP, ih]
@[simp] theorem mLcV_d {vs : List Nat} {g : MG} {tt : M Bool} {te : M U} : mLcV i vs g tt te env = (getL env i).bind fun ws => (allP ws).bind fun us => (lcO vs g tt te us [] (env.set i none)).bind fun x => some (.lst x.1, x.2.set i (some (.l ws))) := by
  unfold mLcV mLcLV getL atS isLw
  rcases env[i]? with _ | _ | w
  · rfl
  · rfl
  · cases w with
    | l ws =>
      show Option.bind (Option.bind (allP ws) _) _ = Option.bind (allP ws) _
      cases allP ws with
      | none => rfl
      | some us =>
        show Option.bind (Option.bind (lcO vs g tt te us [] (env.set i none)) _) _ = Option.bind (lcO vs g tt te us [] (env.set i none)) _
        cases lcO vs g tt te us [] (env.set i none) <;> rfl
    | _ => rfl
def parOK (i j : Nat) : List Ow × Env → Option Fl
  | ([u, v], e) => some (.nx ((e.set i (some u)).set j (some v)))
  | _ => none
@[simp] theorem parOK_d {e : Env} {u v : Ow} : parOK i j ([u, v], e) = some (.nx ((e.set i (some u)).set j (some v))) := rfl
@[simp] theorem sParO_d {r : M (List Ow)} : sParO i j r env = (r env).bind (parOK i j) := by
  unfold sParO
  cases r env with
  | none => rfl
  | some x =>
    obtain ⟨us, e⟩ := x
    rcases us with _ | ⟨a, _ | ⟨b, _ | ⟨c, us⟩⟩⟩ <;> rfl
def par3OK (i j l : Nat) : List Ow × Env → Option Fl
  | ([u, v, w], e) => some (.nx (((e.set i (some u)).set j (some v)).set l (some w)))
  | _ => none
@[simp] theorem par3OK_d {e : Env} {u v w : Ow} : par3OK i j l ([u, v, w], e) = some (.nx (((e.set i (some u)).set j (some v)).set l (some w))) := rfl
@[simp] theorem sPar3O_d {r : M (List Ow)} : sPar3O i j l r env = (r env).bind (par3OK i j l) := by
  unfold sPar3O
  cases r env with
  | none => rfl
  | some x =>
    obtain ⟨us, e⟩ := x
    rcases us with _ | ⟨a, _ | ⟨b, _ | ⟨c, _ | ⟨d, us⟩⟩⟩⟩ <;> rfl
@[simp] theorem oNil_d : oNil env = some ([], env) := rfl
@[simp] theorem oCons_d {a : M Ow} {r : M (List Ow)} : oCons a r env = (a env).bind fun x => (r x.2).bind fun y => some (x.1 :: y.1, y.2) := rfl
end
end UL
set_option Elab.async false
set_option linter.all false
set_option maxRecDepth 100000
set_option maxHeartbeats 2000000
/-! mirrors: loops and comprehensions by what stays true -/
namespace UL
open PySem L2 LM
theorem for_inv {α : Type} (enc : α → U) (I : Nat → Env → Prop) {g : MG} {s : MS} : ∀ {xs : List α} {k : Nat} {env : Env}, I k env →
    (∀ j x env, xs[j]? = some x → I (k + j) env → ∃ e, g (enc x) env = some e ∧ ∃ env', s e = some (.nx env') ∧ I (k + j + 1) env') →
    ∃ env', forO g s (xs.map enc) env = some (.nx env') ∧ I (k + xs.length) env'
  | [], k, env, h0, _ => ⟨env, rfl, h0⟩
  | x :: xs, k, env, h0, hs => by
    obtain ⟨e, h1, e', h2, h3⟩ := hs 0 x env rfl h0
    obtain ⟨e2, h4, h5⟩ := for_inv enc I (xs := xs) (k := k + 1) (env := e') h3 (fun j y env hj hI => by
      have := hs (j + 1) y env (by simpa using hj) (by rw [show k + (j + 1) = k + 1 + j by omega]; exact hI)
      rw [show k + (j + 1) + 1 = k + 1 + j + 1 by omega] at this
      exact this)
    refine ⟨e2, ?_, by rw [List.length_cons, show k + (xs.length + 1) = k + 1 + xs.length by omega]; exact h5⟩
    rw [List.map_cons, forO_cons h1 h2, h4]
theorem while_inv {c : M Bool} {s : MS} (I : Nat → Env → Prop) (D : Env → Prop)
    (h : ∀ n env, I n env → (∃ e, c env = some (false, e) ∧ D e) ∨ ∃ e, c env = some (true, e) ∧ ∃ env', s e = some (.nx env') ∧ ∃ m, m < n ∧ I m env') :
    ∀ (k n : Nat) (env : Env), n < k → I n env → ∃ env', whileO c s k env = some (.nx env') ∧ D env'
  | 0, n, env, hk, _ => by omega
  | k + 1, n, env, hk, hI => by
    rcases h n env hI with ⟨e, h1, h2⟩ | ⟨e, h1, e', h2, m, hm, h3⟩
    · exact ⟨e, while_stop h1, h2⟩
    · obtain ⟨z, h4, h5⟩ := while_inv I D h k m e' (by omega) h3
      exact ⟨z, (while_go h1 h2).trans h4, h5⟩
/-- a comprehension: what stays true of what was made and of the slots -/
theorem lc_inv {α : Type} (enc : α → U) {vs : List Nat} {g : MG} {tt : M Bool} {te : M U} (I : Nat → List U → Env → Prop) : ∀ {xs : List α} {k : Nat} {acc : List U} {env : Env}, I k acc env → acc.length + xs.length < sizeLine →
    (∀ j x acc env, xs[j]? = some x → I (k + j) acc env → ∃ e1, g (enc x) (wipeE env vs) = some e1 ∧ ∃ b e2, tt e1 = some (b, e2) ∧
      (b = true → ∃ y e3, te e2 = some (y, e3) ∧ I (k + j + 1) (acc ++ [y]) (restE env e3 vs)) ∧ (b = false → I (k + j + 1) acc (restE env e2 vs))) →
    ∃ acc' env', lcO vs g tt te (xs.map enc) acc env = some (acc', env') ∧ I (k + xs.length) acc' env'
  | [], k, acc, env, h0, _, _ => ⟨acc, env, rfl, h0⟩
  | x :: xs, k, acc, env, h0, hl, hs => by
    have hs' : ∀ j y acc env, xs[j]? = some y → I (k + 1 + j) acc env → ∃ e1, g (enc y) (wipeE env vs) = some e1 ∧ ∃ b e2, tt e1 = some (b, e2) ∧
      (b = true → ∃ y e3, te e2 = some (y, e3) ∧ I (k + 1 + j + 1) (acc ++ [y]) (restE env e3 vs)) ∧ (b = false → I (k + 1 + j + 1) acc (restE env e2 vs)) := fun j y acc env hj hI => by
      have := hs (j + 1) y acc env (by simpa using hj) (by rw [show k + (j + 1) = k + 1 + j by omega]; exact hI)
      rw [show k + (j + 1) + 1 = k + 1 + j + 1 by omega] at this
      exact this
    obtain ⟨e1, h1, b, e2, h2, h3, h4⟩ := hs 0 x acc env rfl h0
    rw [List.length_cons] at hl
    rw [List.map_cons]
    cases b with
    | true =>
      obtain ⟨y, e3, h5, h6⟩ := h3 rfl
      obtain ⟨a', e', h7, h8⟩ := lc_inv enc I (xs := xs) (k := k + 1) (acc := acc ++ [y]) (env := restE env e3 vs) h6 (by simp; omega) hs'
      exact ⟨a', e', (lcO_yes h1 h2 h5 (by omega)).trans h7, by rw [List.length_cons, show k + (xs.length + 1) = k + 1 + xs.length by omega]; exact h8⟩
    | false =>
      obtain ⟨a', e', h7, h8⟩ := lc_inv enc I (xs := xs) (k := k + 1) (acc := acc) (env := restE env e2 vs) (h4 rfl) (by omega) hs'
      exact ⟨a', e', (lcO_no h1 h2).trans h7, by rw [List.length_cons, show k + (xs.length + 1) = k + 1 + xs.length by omega]; exact h8⟩
/-- a comprehension whose parts leave the slots as they are -/
theorem lc_eq {α : Type} (enc : α → U) (p : α → Bool) (f : α → U) {vs : List Nat} {g : MG} {tt : M Bool} {te : M U} {xs : List α} {env : Env} (hl : xs.length < sizeLine)
    (h : ∀ x ∈ xs, ∃ e1, g (enc x) (wipeE env vs) = some e1 ∧ ∃ e2, tt e1 = some (p x, e2) ∧
      (p x = true → ∃ e3, te e2 = some (f x, e3) ∧ restE env e3 vs = env) ∧ (p x = false → restE env e2 vs = env)) :
    lcO vs g tt te (xs.map enc) [] env = some ((xs.filter p).map f, env) := by
  obtain ⟨a, e, h1, h2, h3⟩ := lc_inv enc (vs := vs) (g := g) (tt := tt) (te := te) (fun k acc e => acc = ((xs.take k).filter p).map f ∧ e = env) (xs := xs) (k := 0) (acc := []) (env := env) ⟨by simp, rfl⟩ (by simpa using hl) (fun j x acc e hj hI => by
    obtain ⟨rfl, rfl⟩ := hI
    rw [Nat.zero_add]
    have hx : x ∈ xs := List.mem_of_getElem? hj
    obtain ⟨e1, h1, e2, h2, h3, h4⟩ := h x hx
    have ht : xs.take (j + 1) = xs.take j ++ [x] := by rw [List.take_add_one, hj]; rfl
    refine ⟨e1, h1, p x, e2, h2, fun hp => ?_, fun hp => ?_⟩
    · obtain ⟨e3, h5, h6⟩ := h3 hp
      exact ⟨f x, e3, h5, by rw [ht]; simp [hp], h6⟩
    · exact ⟨by rw [ht]; simp [hp], h4 hp⟩)
  rw [h1, h2, h3, Nat.zero_add, List.take_length]
theorem fnP_nx {n nl : Nat} {s : MS} {us : List U} {e : Env} (hn : us.length = n) (h : s (env0 (us.map .p) nl) = some (.nx e)) : fnP n nl s us = some .non := by
  unfold fnP
  rw [if_pos hn, h]
  rfl
theorem exN {α : Type} {P Q : α → Prop} {a : α} (h : P a) (k : Q a) : ∃ a, P a ∧ Q a := ⟨a, h, k⟩
theorem size1 : (1000 : Nat) < sizeLine := by decide
theorem fuel_big {n k : Nat} (h : n < 2 ^ k) (hk : k ≤ 20000) : n < fuel := Nat.lt_of_lt_of_le h (Nat.pow_le_pow_right (by decide) hk)
end UL
set_option Elab.async false
set_option linter.all false
set_option maxRecDepth 100000
set_option maxHeartbeats 4000000
namespace UM
open PySem L2 UL
def b__law_fill (cs : List String) : MS :=
  (sSeq (sPar 1 2 (mCons (mIxV 0 (mC (.int 0))) (mCons (mIxV 0 (mC (.int 1))) mNil)))
    (sSeq (sSet 3 (mP (m2 addU (m2 mulU (mC (.int 31)) (mVar 2)) (mC (.int 7)))))
    (sSeq (sIf (mTest (m2 gtU (mN lenU (mCons (mVar 1) mNil)) (mC (.int 0)))) (sSet 3 (mP (m2 addU (m2 mulU (mC (.int 104729)) (m2 fdivU (mVar 2) (mN lenU (mCons (mVar 1) mNil)))) (m2 ixU (mVar 1) (m2 modU (mN intU (mCons (mVar 2) mNil)) (mN lenU (mCons (mVar 1) mNil))))))) sNext)
    (sSeq (sSetV 0 (mC (.int 1)) (m2 addU (mVar 2) (mC (.int 1))))
    (sSeq (sSetV 0 (mC (.int 3)) (mOrV (m2 geU (mVar 2) (mN lenU (mCons (mVar 1) mNil))) (m2 ltU (mVar 3) (m2 powU (mC (.int 10)) (mC (.int 18))))))
    (sSeq (sSetV 0 (mC (.int 2)) (m2 subU (mVar 3) (m2 powU (mC (.int 10)) (mC (.int 18)))))
    (sIf (mTest (mIxV 0 (mC (.int 3)))) (sSeq (sSetV 0 (mC (.int 2)) (mC (.int 0)))
    (sFor (mEnumS (mCons (mTup (mCons (mC (.int 2147483647)) (mCons (mC (.int 2147483629)) (mCons (mC (.int 2147483587)) (mCons (mC (.int 2147483579)) (mCons (mC (.int 2147483563)) mNil)))))) mNil)) (gT 2 (gsCons (gN 4) (gsCons (gN 5) gsNil))) (sSeq (sSet 6 (mP (m2 modU (mN intU (mCons (m2 mulU (m2 addU (m2 addU (mVar 3) (m2 mulU (m2 mulU (mC (.int 10007)) (mVar 4)) (mVar 4))) (m2 mulU (mC (.int 101)) (mVar 4))) (m2 addU (mC (.int 48271)) (m2 mulU (mC (.int 2)) (mVar 4)))) mNil)) (mVar 5))))
    (sSetV 0 (mC (.int 2)) (m2 addU (m2 mulU (mIxV 0 (mC (.int 2))) (mVar 5)) (m2 modU (mN intU (mCons (m2 powU (mVar 6) (mC (.int 5))) mNil)) (mVar 5))))))) sNext)))))))
def m__law_fill (cs : List String) : Ow → List U → Option (U × Ow) := fnI 1 6 (b__law_fill cs)
def b__law_take (cs : List String) : MS :=
  (sSeq (sSet 2 (mP (mC (.int 0))))
    (sSeq (whileO (mAnd (mTest (m2 ltU (mVar 2) (mC (.int 64)))) (mOr (mTest (m2 (eqU 0) (mIxV 0 (mC (.int 2))) (mC (.int 0)))) (mAnd (mTest (mIxV 0 (mC (.int 3)))) (mTest (m2 ltU (mIxV 0 (mC (.int 2))) (m2 mulU (mVar 1) (mC (.int 4096)))))))) (sSeq (sDrop (mCallI 0 (m__law_fill cs) mNil))
    (sSeq (sAug 2 addI (mC (.int 1)))
    (sIf (mAnd (mTest (mIxV 0 (mC (.int 3)))) (mTest (m2 ltU (mIxV 0 (mC (.int 2))) (m2 mulU (mVar 1) (mC (.int 4096)))))) (sSetV 0 (mC (.int 2)) (m2 addU (mIxV 0 (mC (.int 2))) (m2 mulU (m2 mulU (mVar 1) (mC (.int 4096))) (m2 addU (mC (.int 1)) (m2 modU (mN intU (mCons (mIxV 0 (mC (.int 2))) mNil)) (mC (.int 4093))))))) sNext))) fuel)
    (sSeq (sSet 3 (mP (m2 modU (mN intU (mCons (mIxV 0 (mC (.int 2))) mNil)) (mVar 1))))
    (sSeq (sSetV 0 (mC (.int 2)) (m2 fdivU (mIxV 0 (mC (.int 2))) (mVar 1)))
    (sRet (mP (mVar 3)))))))
def m__law_take (cs : List String) : Ow → List U → Option (U × Ow) := fnI 2 2 (b__law_take cs)
def b__law_one (cs : List String) : MS :=
  (sRet (mP (m2 ixU (mVar 1) (mCallI 0 (m__law_take cs) (mCons (mN lenU (mCons (mVar 1) mNil)) mNil)))))
def m__law_one (cs : List String) : Ow → List U → Option (U × Ow) := fnI 2 0 (b__law_one cs)
end UM
set_option Elab.async false
set_option linter.all false
set_option maxRecDepth 100000
set_option maxHeartbeats 4000000
/-! draws -/
namespace UL
open PySem L2 LM
def Ex (s : MS) (env : Env) (Q : Fl → Prop) : Prop := ∃ f, s env = some f ∧ Q f
theorem Ex.seq {s t : MS} {env e : Env} {Q : Fl → Prop} (h : s env = some (.nx e)) (k : Ex t e Q) : Ex (sSeq s t) env Q := by
  obtain ⟨f, h1, h2⟩ := k
  exact ⟨f, (sSeq_nx h).trans h1, h2⟩
theorem Ex.seq' {s t : MS} {env : Env} {P : Env → Prop} {Q : Fl → Prop} (h : ∃ e, s env = some (.nx e) ∧ P e) (k : ∀ e, P e → Ex t e Q) : Ex (sSeq s t) env Q := by
  obtain ⟨e, h1, h2⟩ := h
  exact Ex.seq h1 (k e h2)
theorem Ex.fnI {n nl : Nat} {s : MS} {w : Ow} {us : List U} {P : U → Ow → Prop} (hn : us.length + 1 = n) (h : Ex s (env0 (w :: us.map .p) nl) fun f => match f with
    | .rt r e => ∃ u w', r = .p u ∧ e[0]? = some (some w') ∧ P u w'
    | .nx e => ∃ w', e[0]? = some (some w') ∧ P .non w'
    | .bk _ => False) : ∃ u w', UL.fnI n nl s w us = some (u, w') ∧ P u w' := by
  obtain ⟨f, h1, h2⟩ := h
  cases f with
  | nx e =>
    obtain ⟨w', h3, h4⟩ := h2
    exact ⟨_, w', fnI_nx hn h1 h3, h4⟩
  | rt r e =>
    obtain ⟨u, w', rfl, h3, h4⟩ := h2
    exact ⟨u, w', fnI_rt hn h1 h3, h4⟩
  | bk e => exact h2.elim
end UL
namespace UM
open PySem L2 UL LM
def StA (ca : Addr) (w : Ow) : Prop := ∃ (ns : List Int) (n l : Int) (m : Bool), w = .l [.p (.atl ca (ns.map .int)), .p (.int n), .p (.int l), .p (.bl m)] ∧ ns.length ≤ 63
def prs : List (Int × Int) := [(0, 2147483647), (1, 2147483629), (2, 2147483587), (3, 2147483579), (4, 2147483563)]
theorem prs_ok : ∀ x ∈ prs, 0 ≤ x.1 ∧ x.1 ≤ 4 ∧ 0 < x.2 ∧ x.2 ≤ 2147483647 := by decide
theorem fill_spec {cs : List String} {ca : Addr} {w : Ow} (h : StA ca w) : ∃ u w', m__law_fill cs w [] = some (u, w') ∧ StA ca w' := by
  obtain ⟨ns, n, l, m, rfl, hl⟩ := h
  unfold m__law_fill b__law_fill
  refine Ex.fnI (P := fun _ w => StA ca w) rfl ?_
  apply Ex.seq
  · simp [env0]
    rfl
  apply Ex.seq
  · simp (disch := decide) [mulU_l]
    rfl
  refine Ex.seq' (P := fun e => ∃ x, e = [some (.l [.p (.atl ca (ns.map .int)), .p (.int n), .p (.int l), .p (.bl m)]), some (.p (.atl ca (ns.map .int))), some (.p (.int n)), some (.p (.int x)), none, none, none]) ?_ ?_
  · by_cases h0 : ns = []
    · subst h0
      simp
    · have hp : 0 < ns.length := List.length_pos_iff.mpr h0
      have hm : ∃ j : Nat, n.fmod ns.length = j ∧ j < ns.length := ⟨(n.fmod ns.length).toNat, by
        have := Int.fmod_nonneg_of_pos n (b := ns.length) (by omega)
        have := Int.fmod_lt_of_pos n (b := ns.length) (by omega)
        omega⟩
      obtain ⟨j, hj, hj2⟩ := hm
      have hb : (ns.length : Int).natAbs < 2 ^ 9000 := Nat.lt_of_le_of_lt (m := 63) (by omega) (by decide)
      have h1 : (ns.map U.int)[j]? = some (.int ns[j]) := by simp [hj2]
      simp (disch := first | decide | omega | assumption) [mulU_l, fdivU_ii, intU, modU_ii, hj, hp, atI_nat' h1]
  rintro e ⟨x, rfl⟩
  apply Ex.seq
  · simp [ixN]
    rfl
  refine Ex.seq' (P := fun e => ∃ b, e = [some (.l [.p (.atl ca (ns.map .int)), .p (.int (n + 1)), .p (.int l), .p (.bl b)]), some (.p (.atl ca (ns.map .int))), some (.p (.int n)), some (.p (.int x)), none, none, none]) ?_ ?_
  · by_cases hc : (ns.length : Int) ≤ n
    · simp [ixN, hc, powU]
    · simp [ixN, hc, powU]
      omega
  rintro e ⟨b, rfl⟩
  apply Ex.seq
  · simp [ixN, powU]
    rfl
  cases b
  · refine ⟨_, by simp []; rfl, ?_⟩
    exact ⟨_, rfl, ns, _, _, _, rfl, hl⟩
  · have key : ∃ e, (sSeq (sSetV 0 (mC (.int 2)) (mC (.int 0)))
    (sFor (mEnumS (mCons (mTup (mCons (mC (.int 2147483647)) (mCons (mC (.int 2147483629)) (mCons (mC (.int 2147483587)) (mCons (mC (.int 2147483579)) (mCons (mC (.int 2147483563)) mNil)))))) mNil)) (gT 2 (gsCons (gN 4) (gsCons (gN 5) gsNil))) (sSeq (sSet 6 (mP (m2 modU (mN intU (mCons (m2 mulU (m2 addU (m2 addU (mVar 3) (m2 mulU (m2 mulU (mC (.int 10007)) (mVar 4)) (mVar 4))) (m2 mulU (mC (.int 101)) (mVar 4))) (m2 addU (mC (.int 48271)) (m2 mulU (mC (.int 2)) (mVar 4)))) mNil)) (mVar 5))))
    (sSetV 0 (mC (.int 2)) (m2 addU (m2 mulU (mIxV 0 (mC (.int 2))) (mVar 5)) (m2 modU (mN intU (mCons (m2 powU (mVar 6) (mC (.int 5))) mNil)) (mVar 5))))))) [some (.l [.p (.atl ca (ns.map .int)), .p (.int (n + 1)), .p (.int (x - 1000000000000000000)), .p (.bl true)]), some (.p (.atl ca (ns.map .int))), some (.p (.int n)), some (.p (.int x)), none, none, none] = some (.nx e) ∧ ∃ w, e[0]? = some (some w) ∧ StA ca w := by
      obtain ⟨e, h1, h2⟩ := for_inv (fun p : Int × Int => .tup [.int p.1, .int p.2]) (fun _ e => ∃ l a b c, e = [some (.l [.p (.atl ca (ns.map .int)), .p (.int (n + 1)), .p (.int l), .p (.bl true)]), some (.p (.atl ca (ns.map .int))), some (.p (.int n)), some (.p (.int x)), a, b, c])
        (g := gT 2 (gsCons (gN 4) (gsCons (gN 5) gsNil))) (s := sSeq (sSet 6 (mP (m2 modU (mN intU (mCons (m2 mulU (m2 addU (m2 addU (mVar 3) (m2 mulU (m2 mulU (mC (.int 10007)) (mVar 4)) (mVar 4))) (m2 mulU (mC (.int 101)) (mVar 4))) (m2 addU (mC (.int 48271)) (m2 mulU (mC (.int 2)) (mVar 4)))) mNil)) (mVar 5))))
    (sSetV 0 (mC (.int 2)) (m2 addU (m2 mulU (mIxV 0 (mC (.int 2))) (mVar 5)) (m2 modU (mN intU (mCons (m2 powU (mVar 6) (mC (.int 5))) mNil)) (mVar 5)))))
        (xs := prs) (k := 0) (env := [some (.l [.p (.atl ca (ns.map .int)), .p (.int (n + 1)), .p (.int 0), .p (.bl true)]), some (.p (.atl ca (ns.map .int))), some (.p (.int n)), some (.p (.int x)), none, none, none]) ⟨_, _, _, _, rfl⟩ (by
          rintro j y e hj ⟨l, a, b, c, rfl⟩
          obtain ⟨h1, h2, h3, h4⟩ := prs_ok y (List.mem_of_getElem? hj)
          obtain ⟨k, p⟩ := y
          dsimp only at h1 h2 h3 h4
          refine ⟨[some (.l [.p (.atl ca (ns.map .int)), .p (.int (n + 1)), .p (.int l), .p (.bl true)]), some (.p (.atl ca (ns.map .int))), some (.p (.int n)), some (.p (.int x)), some (.p (.int k)), some (.p (.int p)), c], by simp, ?_⟩
          have hf := Int.fmod_nonneg_of_pos ((x + 10007 * k * k + 101 * k) * (48271 + 2 * k)) (b := p) (by omega)
          have hg := Int.fmod_lt_of_pos ((x + 10007 * k * k + 101 * k) * (48271 + 2 * k)) (b := p) (by omega)
          have hpw : powU (.int (((x + 10007 * k * k + 101 * k) * (48271 + 2 * k)).fmod p)) (.int 5) = some (.int ((((x + 10007 * k * k + 101 * k) * (48271 + 2 * k)).fmod p) ^ 5)) := by
            dsimp only [powU]
            rw [if_pos ⟨by decide, by decide, by omega⟩]
            rfl
          apply exN
          · simp (disch := first | decide | omega) [mulU_r, modU_ii, intU, hpw, ixN]
            rfl
          · exact ⟨_, _, _, _, rfl⟩)
      obtain ⟨l', a, b, c, rfl⟩ := h2
      refine ⟨[some (.l [.p (.atl ca (ns.map .int)), .p (.int (n + 1)), .p (.int l'), .p (.bl true)]), some (.p (.atl ca (ns.map .int))), some (.p (.int n)), some (.p (.int x)), a, b, c], ?_, _, rfl, ns, _, _, _, rfl, hl⟩
      have e5 : enumU [.int 2147483647, .int 2147483629, .int 2147483587, .int 2147483579, .int 2147483563] = prs.map fun p : Int × Int => .tup [.int p.1, .int p.2] := by simp [enumU, prs]
      rw [sSeq_nx (e := [some (.l [.p (.atl ca (ns.map .int)), .p (.int (n + 1)), .p (.int 0), .p (.bl true)]), some (.p (.atl ca (ns.map .int))), some (.p (.int n)), some (.p (.int x)), none, none, none]) (by simp [ixN])]
      simp only [sFor_d, mEnumS, mCons_d, mTup_d, mC_d, mNil_d, Option.bind_some, seq1, e5]
      exact h1
    obtain ⟨e, h1, w, h2, h3⟩ := key
    refine ⟨.nx e, ?_, w, h2, h3⟩
    simp only [sIf_d]
    simp []
    exact h1
theorem take_spec {cs : List String} {ca : Addr} {w : Ow} (h : StA ca w) {z : Int} (h0 : 0 < z) (h1 : z.natAbs < 2 ^ 9000) : ∃ u w', m__law_take cs w [.int z] = some (u, w') ∧ ∃ d, u = .int d ∧ 0 ≤ d ∧ d < z ∧ StA ca w' := by
  unfold m__law_take b__law_take
  refine Ex.fnI (P := fun u w' => ∃ d, u = .int d ∧ 0 ≤ d ∧ d < z ∧ StA ca w') rfl ?_
  apply Ex.seq
  · simp [env0]
    rfl
  refine Ex.seq' (P := fun e => ∃ w x y, e = [some w, some (.p (.int z)), x, y] ∧ StA ca w) (while_inv (fun n e => ∃ w x, e = [some w, some (.p (.int z)), some (.p (.int x)), none] ∧ StA ca w ∧ x + (n : Int) = 64) _ ?_ fuel 64 _ (fuel_big (k := 7) (by decide) (by decide)) ⟨w, 0, rfl, h, rfl⟩) ?_
  · rintro n e ⟨w, x, rfl, hw, hx⟩
    obtain ⟨u1, w1, f1, k1⟩ := fill_spec (cs := cs) hw
    obtain ⟨ns1, n1, l1, m1, rfl, q1⟩ := k1
    obtain ⟨ns, n0, l, m, rfl, hl⟩ := id hw
    have hc : (mAnd (mTest (m2 ltU (mVar 2) (mC (.int 64)))) (mOr (mTest (m2 (eqU 0) (mIxV 0 (mC (.int 2))) (mC (.int 0)))) (mAnd (mTest (mIxV 0 (mC (.int 3)))) (mTest (m2 ltU (mIxV 0 (mC (.int 2))) (m2 mulU (mVar 1) (mC (.int 4096)))))))) [some (.l [.p (.atl ca (ns.map .int)), .p (.int n0), .p (.int l), .p (.bl m)]), some (.p (.int z)), some (.p (.int x)), none] = some (decide (x < 64) && (decide (l = 0) || (m && decide (l < z * 4096))), [some (.l [.p (.atl ca (ns.map .int)), .p (.int n0), .p (.int l), .p (.bl m)]), some (.p (.int z)), some (.p (.int x)), none]) := by
      by_cases c1 : x < 64 <;> by_cases c2 : l = 0 <;> cases m <;> simp (disch := decide) [c1, c2, mulU_r]
    cases hb : decide (x < 64) && (decide (l = 0) || (m && decide (l < z * 4096))) with
    | false =>
      left
      rw [hb] at hc
      exact ⟨_, hc, _, _, _, rfl, hw⟩
    | true =>
      right
      rw [hb] at hc
      refine ⟨_, hc, ?_⟩
      rw [Bool.and_eq_true] at hb
      have c1 := of_decide_eq_true hb.1
      have hm : ∃ k : Int, l1.fmod 4093 = k ∧ 0 ≤ k ∧ k < 4093 := ⟨_, rfl, Int.fmod_nonneg_of_pos l1 (by decide), Int.fmod_lt_of_pos l1 (by decide)⟩
      obtain ⟨k, hk, hk0, hk1⟩ := hm
      have hs : ∃ l2, (sIf (mAnd (mTest (mIxV 0 (mC (.int 3)))) (mTest (m2 ltU (mIxV 0 (mC (.int 2))) (m2 mulU (mVar 1) (mC (.int 4096)))))) (sSetV 0 (mC (.int 2)) (m2 addU (mIxV 0 (mC (.int 2))) (m2 mulU (m2 mulU (mVar 1) (mC (.int 4096))) (m2 addU (mC (.int 1)) (m2 modU (mN intU (mCons (mIxV 0 (mC (.int 2))) mNil)) (mC (.int 4093))))))) sNext) [some (.l [.p (.atl ca (ns1.map .int)), .p (.int n1), .p (.int l1), .p (.bl m1)]), some (.p (.int z)), some (.p (.int (x + 1))), none] = some (.nx [some (.l [.p (.atl ca (ns1.map .int)), .p (.int n1), .p (.int l2), .p (.bl m1)]), some (.p (.int z)), some (.p (.int (x + 1))), none]) := by
        cases m1
        · exact ⟨l1, by simp⟩
        · by_cases c4 : l1 < z * 4096
          · refine ⟨l1 + z * 4096 * (1 + k), ?_⟩
            simp (disch := first | decide | omega) [c4, mulU_r, modU_ii, intU, hk, ixN]
          · exact ⟨l1, by simp (disch := decide) [c4, mulU_r]⟩
      obtain ⟨l2, hs⟩ := hs
      refine ⟨_, ?_, n - 1, by omega, _, x + 1, rfl, ⟨ns1, n1, l2, m1, rfl, q1⟩, ?_⟩
      · rw [sSeq_nx (e := [some (.l [.p (.atl ca (ns1.map .int)), .p (.int n1), .p (.int l1), .p (.bl m1)]), some (.p (.int z)), some (.p (.int x)), none]) (by simp [f1])]
        rw [sSeq_nx (e := [some (.l [.p (.atl ca (ns1.map .int)), .p (.int n1), .p (.int l1), .p (.bl m1)]), some (.p (.int z)), some (.p (.int (x + 1))), none]) (by simp)]
        exact hs
      · omega
  · rintro e ⟨w, x, y, rfl, hw⟩
    obtain ⟨ns, n0, l, m, rfl, hl⟩ := hw
    refine ⟨_, by simp (disch := first | assumption | omega) [intU, modU_ii, ixN, fdivU_ii]; rfl, ?_⟩
    exact ⟨_, _, rfl, rfl, _, rfl, Int.fmod_nonneg_of_pos l h0, Int.fmod_lt_of_pos l h0, ns, _, _, _, rfl, hl⟩
end UM
set_option Elab.async false
set_option linter.all false
set_option maxRecDepth 100000
set_option maxHeartbeats 4000000
namespace UM
open PySem L2 UL LM
theorem one_spec {cs : List String} {ca : Addr} {w : Ow} (h : StA ca w) {us : List U} (h0 : us ≠ []) (h1 : us.length ≤ 1000) : ∃ u w', m__law_one cs w [.lst us] = some (u, w') ∧ u ∈ us ∧ StA ca w' := by
  have hp : 0 < us.length := List.length_pos_iff.mpr h0
  obtain ⟨u, w', h2, d, rfl, h3, h4, h5⟩ := take_spec (cs := cs) h (z := us.length) (by omega) (Nat.lt_of_le_of_lt (m := 1000) (by omega) (by decide))
  unfold m__law_one b__law_one
  refine Ex.fnI (P := fun u w' => u ∈ us ∧ StA ca w') rfl ?_
  obtain ⟨j, rfl⟩ : ∃ j : Nat, d = j := ⟨d.toNat, by omega⟩
  have hj : us[j]? = some us[j] := by simp
  refine ⟨_, by simp [env0, h2, atI_nat' hj]; rfl, ?_⟩
  exact ⟨_, _, rfl, rfl, List.mem_of_getElem? hj, h5⟩
end UM
set_option Elab.async false
set_option linter.all false
set_option maxRecDepth 100000
set_option maxHeartbeats 4000000
namespace UM
open PySem L2 UL
def b__law_gcd (cs : List String) : MS :=
  (sSeq (whileO (mTest (m2 (neN 0) (mVar 1) (mC (.int 0)))) (sPar 0 1 (mCons (mVar 1) (mCons (m2 modU (mVar 0) (mVar 1)) mNil))) fuel)
    (sRet (mP (mIf (mTest (m2 gtU (mVar 0) (mC (.int 0)))) (mVar 0) (m1 negU (mVar 0))))))
def m__law_gcd (cs : List String) : List U → Option U := fnP 2 0 (b__law_gcd cs)
def b__law_frac (cs : List String) : MS :=
  (sSeq (sSet 2 (mP (mN (m__law_gcd cs) (mCons (mVar 0) (mCons (mVar 1) mNil)))))
    (sSeq (sSet 2 (mP (mIf (mTest (m2 ltU (mVar 1) (mC (.int 0)))) (m1 negU (mVar 2)) (mVar 2))))
    (sRet (mP (mTup (mCons (m2 fdivU (mVar 0) (mVar 2)) (mCons (m2 fdivU (mVar 1) (mVar 2)) mNil)))))))
def m__law_frac (cs : List String) : List U → Option U := fnP 2 1 (b__law_frac cs)
def b__law_some_frac (cs : List String) : MS :=
  (sSeq (sSet 1 (mP (mCallI 0 (m__law_one cs) (mCons (mLst (mCons (mC (.int 4)) (mCons (mC (.int 12)) (mCons (mC (.int 1000)) (mCons (m2 powU (mC (.int 10)) (mC (.int 12))) (mCons (m2 powU (mC (.int 10)) (mC (.int 38))) mNil)))))) mNil))))
    (sRet (mP (mN (m__law_frac cs) (mCons (m2 subU (mCallI 0 (m__law_take cs) (mCons (m2 mulU (mC (.int 2)) (mVar 1)) mNil)) (mVar 1)) (mCons (m2 addU (mC (.int 1)) (mCallI 0 (m__law_take cs) (mCons (mCallI 0 (m__law_one cs) (mCons (mLst (mCons (mC (.int 1)) (mCons (mC (.int 2)) (mCons (mC (.int 6)) (mCons (mC (.int 1000)) (mCons (m2 powU (mC (.int 10)) (mC (.int 12))) mNil)))))) mNil)) mNil))) mNil))))))
def m__law_some_frac (cs : List String) : Ow → List U → Option (U × Ow) := fnI 1 1 (b__law_some_frac cs)
def b__law_as_exact (cs : List String) : MS :=
  (sSeq (sIf (mOr (mNot (mTest (m1 (isiU cs "Exact") (mVar 0)))) (mOr (mNot (mTest (m1 (isiU cs "int") (m1 (fldQ "over") (mVar 0))))) (mNot (mTest (m1 (isiU cs "int") (m1 (fldQ "under") (mVar 0))))))) (sRet (mP (mC .non))) sNext)
    (sRet (mP (mIf (mAnd (mTest (m2 gtU (m1 (fldQ "under") (mVar 0)) (mC (.int 0)))) (mTest (m2 (eqU 0) (mN (m__law_gcd cs) (mCons (m1 (fldQ "over") (mVar 0)) (mCons (m1 (fldQ "under") (mVar 0)) mNil))) (mC (.int 1))))) (mTup (mCons (m1 (fldQ "over") (mVar 0)) (mCons (m1 (fldQ "under") (mVar 0)) mNil))) (mC .non)))))
def m__law_as_exact (cs : List String) : List U → Option U := fnP 1 0 (b__law_as_exact cs)
def b__law_text (cs : List String) : MS :=
  (sRet (mP (m2 addU (mN strU (mCons (m2 ixU (mVar 0) (mC (.int 0))) mNil)) (mIf (mTest (m2 (eqU 0) (m2 ixU (mVar 0) (mC (.int 1))) (mC (.int 1)))) (mC (.str "")) (m2 addU (mC (.str "/")) (mN strU (mCons (m2 ixU (mVar 0) (mC (.int 1))) mNil)))))))
def m__law_text (cs : List String) : List U → Option U := fnP 1 0 (b__law_text cs)
def b__law_is_text (cs : List String) : MS :=
  (sSeq (sSet 1 (mP (mF (mSplit (mVar 0) (mC (.str "/"))))))
    (sSeq (sSet 2 (mP (mIf (mTest (m2 (eqU 0) (mSl slS (m2 ixU (mVar 1) (mC (.int 0))) none (some (mC (.int 1)))) (mC (.str "-")))) (mSl slS (m2 ixU (mVar 1) (mC (.int 0))) (some (mC (.int 1))) none) (m2 ixU (mVar 1) (mC (.int 0))))))
    (sSeq (sFor (mSeq (m2 addU (mLst (mCons (mVar 2) mNil)) (mSl slU (mVar 1) (some (mC (.int 1))) none))) (gN 3) (sIf (mOr (mTest (m2 (eqU 0) (mVar 3) (mC (.str "")))) (mOr (mNot (mTest (mN allU (mCons (mLc [4] (mStr (mVar 3)) (gN 4) mYes (m2 inS (mVar 4) (mC (.str "0123456789")))) mNil)))) (mAnd (mTest (m2 (neN 0) (mVar 3) (mC (.str "0")))) (mTest (m2 (eqU 0) (m2 ixU (mVar 3) (mC (.int 0))) (mC (.str "0"))))))) (sRet (mP (mC (.bl false)))) sNext))
    (sSeq (sIf (mOr (mTest (m2 gtU (mN lenU (mCons (mVar 1) mNil)) (mC (.int 2)))) (mTest (m2 (eqU 0) (mSl slS (mVar 0) none (some (mC (.int 2)))) (mC (.str "-0"))))) (sRet (mP (mC (.bl false)))) sNext)
    (sRet (mP (mOrV (m2 (eqU 0) (mN lenU (mCons (mVar 1) mNil)) (mC (.int 1))) (mAndV (m2 gtU (mN intT (mCons (m2 ixU (mVar 1) (mC (.int 1))) mNil)) (mC (.int 1))) (m2 (eqU 0) (mN (m__law_gcd cs) (mCons (mN intT (mCons (mVar 2) mNil)) (mCons (mN intT (mCons (m2 ixU (mVar 1) (mC (.int 1))) mNil)) mNil))) (mC (.int 1)))))))))))
def m__law_is_text (cs : List String) : List U → Option U := fnP 1 4 (b__law_is_text cs)
end UM
set_option Elab.async false
set_option linter.all false
set_option maxRecDepth 100000
set_option maxHeartbeats 4000000
/-! fractions as pairs -/
namespace UL
open PySem L2 LM
theorem Ex.fnP {n nl : Nat} {s : MS} {us : List U} {u : U} (hn : us.length = n) (h : Ex s (env0 (us.map .p) nl) fun f => match f with
    | .rt r e => r = .p u
    | .nx e => u = .non
    | .bk _ => False) : UL.fnP n nl s us = some u := by
  obtain ⟨f, h1, h2⟩ := h
  cases f with
  | nx e =>
    cases h2
    exact fnP_nx hn h1
  | rt r e =>
    cases h2
    exact fnP_rt hn h1
  | bk e => exact h2.elim
end UL
namespace UM
open PySem L2 UL LM
def fr (r : Rat) : U := .tup [.int r.num, .int r.den]
theorem gcd_eq {cs : List String} {a b : Int} (hb : b.natAbs < 2 ^ 20000) : m__law_gcd cs [.int a, .int b] = some (.int (a.gcd b)) := by
  unfold m__law_gcd b__law_gcd
  refine Ex.fnP rfl ?_
  refine Ex.seq' (P := fun e => ∃ x : Int, e = [some (.p (.int x)), some (.p (.int 0))] ∧ x.natAbs = a.gcd b) (while_inv (fun n e => ∃ x y : Int, e = [some (.p (.int x)), some (.p (.int y))] ∧ y.natAbs = n ∧ x.gcd y = a.gcd b) _ ?_ fuel b.natAbs _ hb ⟨a, b, rfl, rfl, rfl⟩) ?_
  · rintro n e ⟨x, y, rfl, hy, hg⟩
    by_cases h0 : y = 0
    · subst h0
      left
      exact ⟨[some (.p (.int x)), some (.p (.int 0))], by simp, x, rfl, by simpa using hg⟩
    · right
      refine ⟨[some (.p (.int x)), some (.p (.int y))], by simp [h0], [some (.p (.int y)), some (.p (.int (x.fmod y)))], by simp (disch := assumption) [modU_ii], _, ?_, _, _, rfl, rfl, ?_⟩
      · rw [← hy]
        exact fmod_lt x y h0
      · rw [gcd_step]
        exact hg
  · rintro e ⟨x, rfl, hx⟩
    by_cases hp : 0 < x
    · refine ⟨_, by simp [hp]; rfl, ?_⟩
      show Ow.p _ = Ow.p _
      congr 2
      omega
    · refine ⟨_, by simp [hp]; rfl, ?_⟩
      show Ow.p _ = Ow.p _
      congr 2
      omega
theorem frac_eq {cs : List String} {o u : Int} (h0 : u ≠ 0) (hb : u.natAbs < 2 ^ 8500) : m__law_frac cs [.int o, .int u] = some (fr (Rat.divInt o u)) := by
  have hg := gcd_eq (cs := cs) (a := o) (b := u) (Nat.lt_of_lt_of_le hb (Nat.pow_le_pow_right (by decide) (by decide)))
  have hw : (rwh o u).natAbs < 2 ^ 9000 := Nat.lt_of_le_of_lt (abs_rwh h0) (Nat.lt_of_lt_of_le hb (Nat.pow_le_pow_right (by decide) (by decide)))
  have hn := rwh_ne (o := o) h0
  obtain ⟨e1, e2⟩ := rat_of (o := o) h0
  unfold m__law_frac b__law_frac fr
  refine Ex.fnP rfl ?_
  rw [← e1, ← e2]
  unfold rO rD
  refine Ex.seq (e := [some (.p (.int o)), some (.p (.int u)), some (.p (.int (o.gcd u)))]) (by simp [env0, hg]) ?_
  refine Ex.seq (e := [some (.p (.int o)), some (.p (.int u)), some (.p (.int (rwh o u)))]) (by
    unfold rwh
    by_cases h : u < 0 <;> simp [h]) ?_
  refine ⟨_, by simp (disch := assumption) [fdivU_ii]; rfl, rfl⟩
section
variable {cs : List String} {a b : Rat} {n m : Nat}
theorem num_lt [h : HtC n a] (hn : n ≤ 4000) : a.num.natAbs < 2 ^ 4000 := (h.h.mono hn).1
/-- a number as it is told -/
def pl (r : Rat) : U := if r.den = 1 then .int r.num else .q r
end
end UM
set_option Elab.async false
set_option linter.all false
set_option maxRecDepth 100000
set_option maxHeartbeats 1000000
/-! the program's words for digits -/
namespace UM
open PySem L2 UL LM TL TQ
/-- a text by its signs -/
abbrev tx (l : List Nat) : Str := ⟨l.toArray⟩
abbrev Asc (l : List Nat) : Prop := ∀ c ∈ l, c < 128
theorem strOk_tx {l : List Nat} (h : Asc l) : PyData.strOk (tx l) = true := by
  unfold PyData.strOk
  rw [Array.all_eq_true']
  intro c hc
  have := h c (by simpa using hc)
  simp
  omega
theorem asc_all {l : List Nat} (h : AllD l) : Asc l := fun c hc => by
  have : 48 ≤ c ∧ c ≤ 57 := h c hc
  omega
theorem tx_eq {a b : List Nat} : tx a = tx b ↔ a = b := by
  constructor
  · intro h
    have := congrArg (fun s : Str => s.cps.toList) h
    simpa using this
  · rintro rfl
    rfl
theorem tx_len (l : List Nat) : (tx l).length = l.length := by
  show l.toArray.size = _
  simp
theorem s0 : ("0" : Str) = tx [48] := by decide +kernel
theorem sE : ("" : Str) = tx [] := by decide +kernel
theorem sD : ("0123456789" : Str) = tx [48, 49, 50, 51, 52, 53, 54, 55, 56, 57] := by decide +kernel
theorem sM : ("-" : Str) = tx [45] := by decide +kernel
theorem sS : ("/" : Str) = tx [47] := by decide +kernel
theorem sSeq_rt5 {s u : MS} {env e : UL.Env} {w : Ow} (h : s env = some (.rt w e)) : sSeq s u env = some (.rt w e) := by simp [sSeq, h]
theorem sIf_t5 {c : M Bool} {a b : MS} {env e : UL.Env} (h : c env = some (true, e)) : sIf c a b env = a e := by simp [sIf, h]
theorem sIf_f5 {c : M Bool} {a b : MS} {env e : UL.Env} (h : c env = some (false, e)) : sIf c a b env = b e := by simp [sIf, h]
section
variable {cs : List String} {l : List Nat}
theorem ne_tx {a b : List Nat} (ha : Asc a) (hb : Asc b) {n : Nat} : neN n (.str (tx a)) (.str (tx b)) = some (.bl (!decide (a = b))) := by
  rw [neN_ss (strOk_tx ha) (strOk_tx hb)]
  congr 3
  exact decide_eq_decide.mpr tx_eq
theorem eq_tx {a b : List Nat} {n : Nat} : UL.eqU n (.str (tx a)) (.str (tx b)) = some (.bl (decide (a = b))) := by
  have : eqN n (.str (tx a)) (.str (tx b)) = some (decide (tx a = tx b)) := by cases n <;> rfl
  unfold UL.eqU
  rw [this]
  show some (U.bl (decide (tx a = tx b))) = _
  congr 2
  exact decide_eq_decide.mpr tx_eq
theorem ix_tx0 {c : Nat} {r : List Nat} (h : (c :: r).length ≤ 1000) : ixU (.str (tx (c :: r))) (.int 0) = some (.str (tx [c])) := by
  show (if (tx (c :: r)).length ≤ sizeLine then (atI (tx (c :: r)).cps.toList 0).bind fun c => some (U.str ⟨#[c]⟩) else none) = _
  rw [if_pos (by rw [tx_len]; exact Nat.le_of_lt (Nat.lt_of_le_of_lt h size1)), show (tx (c :: r)).cps.toList = c :: r from List.toList_toArray, show atI (c :: r) 0 = some c from atI_nat' (n := 0) rfl]
  rfl
theorem in_digits (c : Nat) : inS (.str (tx [c])) (.str "0123456789") = some (.bl (decide (48 ≤ c) && decide (c ≤ 57))) := by
  rw [sD]
  show some (U.bl (decide (c ∈ [48, 49, 50, 51, 52, 53, 54, 55, 56, 57]))) = _
  congr 2
  rw [← Bool.decide_and]
  refine decide_eq_decide.mpr ?_
  simp only [List.mem_cons, List.not_mem_nil, or_false]
  omega
theorem sgns (l : List Nat) : (tx l).cps.toList.map sgnU = l.map fun c => U.str (tx [c]) := by
  show l.toArray.toList.map sgnU = _
  rw [List.toList_toArray]
  rfl
theorem allU_bl (f : Nat → Bool) (l : List Nat) : allU [.lst (l.map fun c => .bl (f c))] = some (.bl (l.all f)) := by
  have e : allB (l.map fun c => U.bl (f c)) = some (l.map f) := by
    induction l with
    | nil => rfl
    | cons a l ih => simp [allB, ih]
  show (allB _).bind _ = _
  rw [e]
  simp
theorem is_digits_eq (ha : Asc l) (hl : l.length ≤ 900) : m_is_digits cs [.str (tx l)] = some (.bl (dgB l)) := by
  have e0 : UL.eqU 0 (.str (tx l)) (.str "0") = some (.bl (decide (l = [48]))) := by rw [s0]; exact eq_tx
  have e1 : neN 0 (.str (tx l)) (.str "") = some (.bl (!decide (l = []))) := by rw [sE]; exact ne_tx ha (by intro c hc; cases hc)
  have lc := lc_eq (xs := l) (fun c => U.str (tx [c])) (fun _ => true) (fun c => .bl (decide (48 ≤ c) && decide (c ≤ 57))) (vs := [1]) (g := gN 1) (tt := mYes) (te := m2 inS (mVar 1) (mC (.str "0123456789"))) (env := [some (.p (.str (tx l))), none]) (Nat.lt_of_le_of_lt (m := 1000) (by omega) size1) (by
    intro c hc
    have e := in_digits c
    generalize tx [c] = u at *
    generalize tx l = z
    exact ⟨[some (.p (.str z)), some (.p (.str u))], by simp [wipeE], _, rfl, fun _ => ⟨[some (.p (.str z)), some (.p (.str u))], by simp [-inS, e], by simp [restE, keepP]⟩, fun h => nomatch h⟩)
  rw [List.filter_eq_self.mpr (fun _ _ => rfl)] at lc
  have al := allU_bl (fun c => decide (48 ≤ c) && decide (c ≤ 57)) l
  have ml : mLc [1] (mStr (mVar 0)) (gN 1) mYes (m2 inS (mVar 1) (mC (.str "0123456789"))) [some (.p (.str (tx l))), none] = some (.lst (l.map fun c => .bl (decide (48 ≤ c) && decide (c ≤ 57))), [some (.p (.str (tx l))), none]) := by
    rw [mLc_d]
    have it : mStr (mVar 0) [some (.p (.str (tx l))), none] = some (l.map fun c => U.str (tx [c]), [some (.p (.str (tx l))), none]) := by
      rw [← sgns]
      rfl
    rw [it, Option.bind_some]
    dsimp only
    rw [lc]
    rfl
  unfold m_is_digits b_is_digits
  refine Ex.fnP rfl ?_
  generalize mLc [1] (mStr (mVar 0)) (gN 1) mYes (m2 inS (mVar 1) (mC (.str "0123456789"))) = mm at *
  by_cases c1 : l = [48]
  · refine ⟨.rt (.p (.bl true)) [some (.p (.str (tx l))), none], ?_, ?_⟩
    · rw [decide_eq_true c1] at e0
      generalize tx l = z at *
      refine sSeq_rt5 ?_
      rw [sIf_t5 (e := [some (.p (.str z)), none]) (by simp [env0, e0])]
      simp
    · show Ow.p (.bl true) = .p (.bl (dgB l))
      rw [show dgB l = true by unfold dgB; rw [decide_eq_true c1]; rfl]
  · rw [decide_eq_false c1] at e0
    by_cases c2 : l = []
    · subst c2
      refine ⟨.rt (.p (.bl false)) [some (.p (.str (tx []))), none], ?_, rfl⟩
      generalize tx [] = z at *
      rw [sSeq_nx (e := [some (.p (.str z)), none]) (by rw [sIf_f5 (e := [some (.p (.str z)), none]) (by simp [env0, e0])]; simp)]
      simp [e1]
    · cases l with
      | nil => exact (c2 rfl).elim
      | cons a r =>
        rw [decide_eq_false c2] at e1
        have i0 := ix_tx0 (c := a) (r := r) (by omega)
        have e2 : neN 0 (.str (tx [a])) (.str "0") = some (.bl (!decide (a = 48))) := by
          rw [s0, ne_tx (fun c hc => ha c (by simp at hc; simp [hc])) (by intro c hc; simp at hc; omega)]
          simp
        have eg : dgB (a :: r) = (!decide (a = 48) && (a :: r).all fun c => decide (48 ≤ c) && decide (c ≤ 57)) := by
          unfold dgB
          rw [decide_eq_false c1]
          simp
        rw [eg]
        generalize (a :: r).map (fun c => U.bl (decide (48 ≤ c) && decide (c ≤ 57))) = bs at *
        generalize (a :: r).all (fun c => decide (48 ≤ c) && decide (c ≤ 57)) = bb at *
        generalize tx (a :: r) = z at *
        generalize tx [a] = za at *
        by_cases c3 : a = 48
        · rw [decide_eq_true c3] at e2 ⊢
          refine ⟨.rt (.p (.bl false)) [some (.p (.str z)), none], ?_, rfl⟩
          rw [sSeq_nx (e := [some (.p (.str z)), none]) (by rw [sIf_f5 (e := [some (.p (.str z)), none]) (by simp [env0, e0])]; simp)]
          simp [e1, i0, e2]
        · rw [decide_eq_false c3] at e2 ⊢
          refine ⟨.rt (.p (.bl bb)) [some (.p (.str z)), none], ?_, rfl⟩
          rw [sSeq_nx (e := [some (.p (.str z)), none]) (by rw [sIf_f5 (e := [some (.p (.str z)), none]) (by simp [env0, e0])]; simp)]
          simp [e1, i0, e2, ml, al]
end
end UM
set_option Elab.async false
set_option linter.all false
set_option maxRecDepth 100000
set_option maxHeartbeats 1000000
/-! numbers out of digits, digits out of numbers -/
namespace UM
open PySem L2 UL LM TL TQ LV
theorem sidx_eq {c : Nat} (h : 48 ≤ c ∧ c ≤ 57) : sIdxU (.str "0123456789") (.str (tx [c])) = some (.int ((c - 48 : Nat) : Int)) := by
  have e : sIdx "0123456789" (tx [c]) = some (c - 48) := by
    have : c = 48 ∨ c = 49 ∨ c = 50 ∨ c = 51 ∨ c = 52 ∨ c = 53 ∨ c = 54 ∨ c = 55 ∨ c = 56 ∨ c = 57 := by omega
    rcases this with rfl | rfl | rfl | rfl | rfl | rfl | rfl | rfl | rfl | rfl <;> decide +kernel
  show (sIdx "0123456789" (tx [c])).bind _ = _
  rw [e]
  rfl
theorem pd_len : ∀ (k r : Nat), (pd k r).length = k
  | 0, _ => rfl
  | k + 1, r => by
    show (pd k (r / 10) ++ [48 + r % 10]).length = _
    rw [List.length_append, pd_len k]
    rfl
theorem pad9_tx {r : Nat} (h : r < 1000000000) : pad9 (r : Int) = tx (pd 9 r) := by
  rw [pd_pad (by decide) (by simpa using h)]
  unfold pad9
  refine ext_tl ?_
  rw [tl_append, tl_num]
  show (List.replicate _ 48).toArray.toList ++ numL r = (_ : List Nat).toArray.toList
  rw [List.toList_toArray, List.toList_toArray]
  congr 2
  show 9 - (Nat.toDigits 10 (r : Int).natAbs).length = 9 - (numL r).length
  unfold numL
  rw [List.length_map]
  rfl
theorem str_num (n : Nat) : (Str.ofString (toString ((n : Nat) : Int))) = tx (numL n) := by
  refine ext_tl ?_
  rw [tl_num]
theorem tx_app (a b : List Nat) : tx a ++ tx b = tx (a ++ b) := by
  refine ext_tl ?_
  rw [tl_append]
theorem add_tx {a b : List Nat} (h : a.length + b.length ≤ 1000) : addU (.str (tx a)) (.str (tx b)) = some (.str (tx (a ++ b))) := by
  show (if (tx a).length + (tx b).length ≤ sizeLine then some (U.str (tx a ++ tx b)) else none) = _
  rw [tx_len, tx_len, if_pos (Nat.le_of_lt (Nat.lt_of_le_of_lt h size1)), tx_app]
section
variable {cs : List String} {l : List Nat}
theorem number_of_eq (ha : AllD l) (hl : l.length ≤ 900) : m_number_of cs [.str (tx l)] = some (.int ((dv l : Nat) : Int)) := by
  obtain ⟨e, F, x2, rfl⟩ := for_inv (fun c : Nat => U.str (tx [c])) (fun k e => ∃ x2, e = [some (.p (.str (tx l))), some (.p (.int ((dv (l.take k) : Nat) : Int))), x2]) (g := gN 2) (s := (sSet 1 (mP (m2 addU (m2 mulU (mC (.int 10)) (mVar 1)) (m2 sIdxU (mC (.str "0123456789")) (mVar 2)))))) (xs := l) (k := 0) (env := [some (.p (.str (tx l))), some (.p (.int 0)), none]) ⟨none, rfl⟩ (by
    rintro j c e hj ⟨x2, rfl⟩
    rw [Nat.zero_add]
    have hc : 48 ≤ c ∧ c ≤ 57 := ha c (List.mem_of_getElem? hj)
    have si := sidx_eq hc
    have ml : mulU (.int 10) (.int ((dv (l.take j) : Nat) : Int)) = some (.int (10 * ((dv (l.take j) : Nat) : Int))) := mulU_l (by decide)
    have nx : dv (l.take (j + 1)) = dv (l.take j) * 10 + (c - 48) := by
      rw [List.take_add_one, hj]
      exact dv_snoc _ _
    have ad : addU (.int (10 * ((dv (l.take j) : Nat) : Int))) (.int ((c - 48 : Nat) : Int)) = some (.int ((dv (l.take (j + 1)) : Nat) : Int)) := by
      show some (U.int _) = _
      rw [nx]
      congr 2
      omega
    generalize tx l = z at *
    generalize tx [c] = zc at *
    generalize ((dv (l.take j) : Nat) : Int) = d0 at *
    generalize ((dv (l.take (j + 1)) : Nat) : Int) = d1 at *
    generalize ((c - 48 : Nat) : Int) = d2 at *
    exact ⟨[some (.p (.str z)), some (.p (.int d0)), some (.p (.str zc))], by simp, _, by simp [-sIdxU, ml, si, ad]; rfl, _, rfl⟩)
  rw [Nat.zero_add, List.take_length] at F
  unfold m_number_of b_number_of
  refine Ex.fnP rfl ?_
  refine ⟨.rt (.p (.int ((dv l : Nat) : Int))) [some (.p (.str (tx l))), some (.p (.int ((dv l : Nat) : Int))), x2], ?_, rfl⟩
  rw [sSeq_nx (e := [some (.p (.str (tx l))), some (.p (.int 0)), none]) (by generalize tx l = z; simp [env0])]
  have it : mStr (mVar 0) [some (.p (.str (tx l))), some (.p (.int 0)), none] = some (l.map fun c => U.str (tx [c]), [some (.p (.str (tx l))), some (.p (.int 0)), none]) := by
    rw [← sgns]
    rfl
  rw [sSeq_nx (e := [some (.p (.str (tx l))), some (.p (.int ((dv l : Nat) : Int))), x2]) (by rw [sFor_d, it, Option.bind_some]; exact F)]
  generalize tx l = z
  simp
theorem fm_eq (q : Nat) : Int.fmod (q : Int) 1000000000 = ((q % 1000000000 : Nat) : Int) := by
  rw [Int.fmod_eq_emod_of_nonneg _ (by decide)]
  omega
theorem fd_eq (q : Nat) : Int.fdiv (q : Int) 1000000000 = ((q / 1000000000 : Nat) : Int) := by
  rw [Int.fdiv_eq_ediv_of_nonneg _ (by decide)]
  omega
theorem fmtI_of {i : Int} (h : i.natAbs.log2 < 1920) : fmtU (.int i) = some (.str (toString i)) := if_pos h
theorem fmtS_of {y : Str} (h : y.length ≤ sizeLine) : fmtU (.str y) = some (.str y) := if_pos h
theorem e9 : (10 : Nat) ^ 9 = 1000000000 := by decide
theorem fmt9_of {i : Int} (h : 0 ≤ i ∧ i < 1000000000) : fmt9U (.int i) = some (.str (pad9 i)) := if_pos h
abbrev dgBody : MS := (sSeq (sSet 1 (mP (m2 addU (m1 fmt9U (m2 modU (mVar 0) (m2 powU (mC (.int 10)) (mC (.int 9))))) (mVar 1))))
    (sSet 0 (mP (m2 fdivU (mVar 0) (m2 powU (mC (.int 10)) (mC (.int 9)))))))
abbrev dgCond : M Bool := mTest (m2 geU (mVar 0) (m2 powU (mC (.int 10)) (mC (.int 9))))
theorem p9_eq : powU (.int 10) (.int 9) = some (.int 1000000000) := by simp [powU]
theorem dg_stop {q : Nat} {z : Str} (c : q < 10 ^ 9) : dgCond [some (.p (.int (q : Int))), some (.p (.str z))] = some (false, [some (.p (.int (q : Int))), some (.p (.str z))]) := by
  have p9 := p9_eq
  rw [e9] at c
  have : ¬ ((1000000000 : Int) ≤ (q : Int)) := by omega
  generalize (q : Int) = i at *
  simp [-powU, p9, this]
theorem dg_go {q : Nat} {z : Str} (c : ¬ q < 10 ^ 9) : dgCond [some (.p (.int (q : Int))), some (.p (.str z))] = some (true, [some (.p (.int (q : Int))), some (.p (.str z))]) := by
  have p9 := p9_eq
  rw [e9] at c
  have : (1000000000 : Int) ≤ (q : Int) := by omega
  generalize (q : Int) = i at *
  simp [-powU, p9, this]
theorem mod9 {q : Nat} : modU (.int (q : Int)) (.int 1000000000) = some (.int ((q % 1000000000 : Nat) : Int)) := by
  rw [modU_ii (by decide), fm_eq]
theorem div9 {q : Nat} : fdivU (.int (q : Int)) (.int 1000000000) = some (.int ((q / 1000000000 : Nat) : Int)) := by
  rw [fdivU_ii (by decide) (Nat.lt_of_lt_of_le (by decide : (1000000000 : Int).natAbs < 2 ^ 30) (Nat.pow_le_pow_right (by decide) (by decide))), fd_eq]
theorem r9_lt {q : Nat} : q % 1000000000 < 1000000000 := Nat.mod_lt _ (by decide)
theorem f9_eq {q : Nat} : fmt9U (.int ((q % 1000000000 : Nat) : Int)) = some (.str (tx (pd 9 (q % 1000000000)))) := by
  have r0 := r9_lt (q := q)
  rw [← pad9_tx r0]
  generalize q % 1000000000 = r at *
  exact fmt9_of ⟨by omega, by omega⟩
theorem dg_stepA {q q1 q2 : Int} {z1 z z2 : Str} (fm : modU (.int q) (.int 1000000000) = some (.int q1)) (fd : fdivU (.int q) (.int 1000000000) = some (.int q2)) (f9 : fmt9U (.int q1) = some (.str z1)) (ad : addU (.str z1) (.str z) = some (.str z2)) :
    dgBody [some (.p (.int q)), some (.p (.str z))] = some (.nx [some (.p (.int q2)), some (.p (.str z2))]) := by
  have p9 := p9_eq
  generalize (1000000000 : Int) = B at *
  simp [-powU, -addU, -fmt9U, p9, fm, f9, ad, fd]
theorem add9 {r : Nat} {f : List Nat} (hl : f.length ≤ 91) : addU (.str (tx (pd 9 r))) (.str (tx f)) = some (.str (tx (pd 9 r ++ f))) := add_tx (by rw [pd_len]; omega)
theorem dg_step {q : Nat} {f : List Nat} (hl : f.length ≤ 91) : dgBody [some (.p (.int (q : Int))), some (.p (.str (tx f)))] = some (.nx [some (.p (.int ((q / 1000000000 : Nat) : Int))), some (.p (.str (tx (pd 9 (q % 1000000000) ++ f))))]) :=
  dg_stepA mod9 div9 f9_eq (add9 hl)
theorem num9 {q : Nat} (c : ¬ q < 10 ^ 9) : numL q = numL (q / 1000000000) ++ pd 9 (q % 1000000000) := by
  have e := e9
  generalize hB : 1000000000 = B at *
  have hB0 : 0 < B := by rw [← hB]; decide
  have h0 : 0 < q / B := Nat.div_pos (by omega) hB0
  have := numL_pd 9 (q := q / B) (r := q % B) h0 (by rw [e]; exact Nat.mod_lt _ hB0)
  rw [e, Nat.div_add_mod'] at this
  exact this
theorem digits_of_eq {n : Nat} (hn : n < 10 ^ 90) : m_digits_of cs [.int (n : Int)] = some (.str (tx (numL n))) := by
  obtain ⟨e, W, q, f, rfl, hq, hf, hl⟩ := while_inv (c := dgCond) (s := dgBody) (fun k e => ∃ (q : Nat) (f : List Nat), e = [some (.p (.int (q : Int))), some (.p (.str (tx f)))] ∧ q < 10 ^ (9 * (k + 1)) ∧ numL n = numL q ++ f ∧ f.length + 9 * k ≤ 100)
    (fun e => ∃ (q : Nat) (f : List Nat), e = [some (.p (.int (q : Int))), some (.p (.str (tx f)))] ∧ q < 10 ^ 9 ∧ numL n = numL q ++ f ∧ f.length ≤ 100) (by
    rintro k e ⟨q, f, rfl, hq, hf, hl⟩
    by_cases c : q < 10 ^ 9
    · exact .inl ⟨_, dg_stop c, q, f, rfl, c, hf, by omega⟩
    · right
      refine ⟨_, dg_go c, ?_⟩
      cases k with
      | zero => exact absurd hq c
      | succ k =>
        refine ⟨_, dg_step (by omega), k, by omega, _, _, rfl, ?_, ?_, ?_⟩
        · rw [show 9 * (k + 1 + 1) = 9 * (k + 1) + 9 from rfl, Nat.pow_add, e9] at hq
          exact Nat.div_lt_of_lt_mul (by rw [Nat.mul_comm]; exact hq)
        · rw [hf, num9 c, List.append_assoc]
        · rw [List.length_append, pd_len]
          omega) fuel 9 [some (.p (.int (n : Int))), some (.p (.str (tx [])))] (fuel_big (k := 4) (by decide) (by decide)) ⟨n, [], rfl, hn, by simp, by simp⟩
  have nl : (numL q).length ≤ 9 := numL_len (by decide) hq
  have c1 : fmtU (.int (q : Int)) = some (.str (tx (numL q))) := by
    rw [← str_num]
    rw [e9] at hq
    exact fmtI_of (Nat.lt_of_lt_of_le (PySem.Flt.log2_lt_of (k := 30) (by decide) (by omega)) (by decide))
  have c2 : fmtU (.str (tx f)) = some (.str (tx f)) := fmtS_of (by rw [tx_len]; exact Nat.le_of_lt (Nat.lt_of_le_of_lt (m := 1000) (by omega) size1))
  have J : mJs [(m1 fmtU (mVar 0)), (m1 fmtU (mVar 1))] [some (.p (.int (q : Int))), some (.p (.str (tx f)))] = some (.str (tx (numL n)), [some (.p (.int (q : Int))), some (.p (.str (tx f)))]) := by
    have e1 : Str.empty ++ tx (numL q) = tx (numL q) := Str.empty_append _
    have l1 : (tx (numL q)).length ≤ sizeLine := by rw [tx_len]; exact Nat.le_of_lt (Nat.lt_of_le_of_lt (m := 1000) (by omega) size1)
    have l2 : (tx (numL q) ++ tx f).length ≤ sizeLine := by rw [tx_app, tx_len, List.length_append]; exact Nat.le_of_lt (Nat.lt_of_le_of_lt (m := 1000) (by omega) size1)
    have e2 : tx (numL q) ++ tx f = tx (numL n) := by rw [tx_app, ← hf]
    generalize tx (numL n) = zn at *
    generalize tx (numL q) = zq at *
    generalize tx f = z at *
    generalize (q : Int) = qi at *
    rw [e2] at l2
    simp [-fmtU, mJs, mJ, c1, c2, e1, l1, l2, e2]
  unfold m_digits_of b_digits_of
  refine Ex.fnP rfl ?_
  refine ⟨.rt (.p (.str (tx (numL n)))) [some (.p (.int (q : Int))), some (.p (.str (tx f)))], ?_, rfl⟩
  rw [sSeq_nx (e := [some (.p (.int (n : Int))), some (.p (.str (tx [])))]) (by rw [← sE]; generalize ("" : Str) = z; simp [env0])]
  rw [sSeq_nx W]
  generalize mJs [(m1 fmtU (mVar 0)), (m1 fmtU (mVar 1))] = mm at *
  simp [J]
end
end UM
set_option Elab.async false
set_option linter.all false
set_option maxRecDepth 100000
set_option maxHeartbeats 1000000
/-! texts of fractions -/
namespace TQ
open PySem TL
/-- the parts between the signs 47 -/
abbrev sp (l : List Nat) : List (List Nat) := spl [47] 0 [] l
theorem pre47 {c : Nat} {r : List Nat} : pre [47] (c :: r) = decide (c = 47) := by
  unfold pre
  show (([c] : List Nat) == [47]) = _
  by_cases h : c = 47
  · subst h
    rfl
  · rw [decide_eq_false h]
    simp [h]
def jn : List (List Nat) → List Nat
  | [] => []
  | [a] => a
  | a :: b :: r => a ++ 47 :: jn (b :: r)
theorem jn_cons (a : List Nat) {r : List (List Nat)} (h : r ≠ []) : jn (a :: r) = a ++ 47 :: jn r := by
  cases r with
  | nil => exact (h rfl).elim
  | cons b r => rfl
theorem spl_ne : ∀ (l acc : List Nat), spl [47] 0 acc l ≠ []
  | [], acc => by rw [spl_nil]; simp
  | c :: r, acc => by
    by_cases h : c = 47
    · rw [spl_hit (by rw [pre47]; exact decide_eq_true h)]
      simp
    · rw [spl_miss (by rw [pre47]; exact decide_eq_false h)]
      exact spl_ne r _
theorem jn_spl : ∀ (l acc : List Nat), jn (spl [47] 0 acc l) = acc ++ l
  | [], acc => by rw [spl_nil]; simp [jn]
  | c :: r, acc => by
    by_cases h : c = 47
    · subst h
      rw [spl_hit (by rw [pre47]; rfl)]
      show jn (acc :: spl [47] 0 [] r) = _
      rw [jn_cons _ (spl_ne r []), jn_spl r []]
      simp
    · rw [spl_miss (by rw [pre47]; exact decide_eq_false h), jn_spl r]
      simp
theorem jn_sp (l : List Nat) : jn (sp l) = l := by
  have := jn_spl l []
  simpa using this
theorem spl_free : ∀ {l acc : List Nat}, 47 ∉ l → spl [47] 0 acc l = [acc ++ l]
  | [], acc, _ => by rw [spl_nil]; simp
  | c :: r, acc, h => by
    have hc : c ≠ 47 := fun z => h (by simp [z])
    rw [spl_miss (by rw [pre47]; exact decide_eq_false hc), spl_free (fun z => h (by simp [z]))]
    simp
theorem spl_cut : ∀ {a acc b : List Nat}, 47 ∉ a → spl [47] 0 acc (a ++ 47 :: b) = (acc ++ a) :: sp b
  | [], acc, b, _ => by
    show spl [47] 0 acc (47 :: b) = _
    rw [spl_hit (by rw [pre47]; rfl)]
    simp
  | c :: r, acc, b, h => by
    have hc : c ≠ 47 := fun z => h (by simp [z])
    show spl [47] 0 acc (c :: (r ++ 47 :: b)) = _
    rw [spl_miss (by rw [pre47]; exact decide_eq_false hc), spl_cut (fun z => h (by simp [z]))]
    simp
theorem mem_jn : ∀ {ps : List (List Nat)} {p : List Nat}, p ∈ ps → (∀ c ∈ p, c ∈ jn ps) ∧ p.length ≤ (jn ps).length
  | [], _, h => by cases h
  | [a], p, h => by
    have : p = a := by simpa using h
    subst this
    exact ⟨fun c hc => hc, Nat.le_refl _⟩
  | a :: b :: r, p, h => by
    rcases List.mem_cons.mp h with rfl | h
    · exact ⟨fun c hc => by simp [jn, hc], by simp [jn]⟩
    · obtain ⟨h1, h2⟩ := mem_jn (ps := b :: r) h
      refine ⟨fun c hc => ?_, ?_⟩
      · show c ∈ a ++ 47 :: jn (b :: r)
        simp [h1 c hc]
      · show p.length ≤ (a ++ 47 :: jn (b :: r)).length
        simp
        omega
theorem mem_sp {l p : List Nat} (h : p ∈ sp l) : (∀ c ∈ p, c ∈ l) ∧ p.length ≤ l.length := by
  have := mem_jn h
  rwa [jn_sp] at this
/-- the text of a fraction -/
def txt (r : Rat) : List Nat := (if r.num < 0 then [45] else []) ++ numL r.num.natAbs ++ (if r.den = 1 then [] else 47 :: numL r.den)
end TQ
namespace UM
open PySem L2 UL LM TL TQ LV
theorem tl_tx (l : List Nat) : tl (tx l) = l := by
  show l.toArray.toList = l
  rw [List.toList_toArray]
theorem split_tx (l : List Nat) : Txt.split (tx l) "/" = (sp l).map tx := by
  refine map_tl_inj ?_
  have e : tl ("/" : Str) = [47] := by rw [sS, tl_tx]
  rw [split_spl (tx l) "/" (by rw [e]; simp) (kind_ok (by decide +kernel)), e, tl_tx, List.map_map]
  have : (tl ∘ tx) = id := by
    funext a
    exact tl_tx a
  rw [this, List.map_id]
section
variable {cs : List String}
theorem text_eq {r : Rat} (h1 : r.num.natAbs < 10 ^ 90) (h2 : r.den < 10 ^ 90) : m_Exact_text cs [.q r] = some (.str (tx (txt r))) := by
  have fo : fldQ "over" (.q r) = some (.int r.num) := by
    show (if Str.ofString "over" = Str.ofString "over" then some (U.int r.num) else if Str.ofString "over" = Str.ofString "under" then some (U.int r.den) else none) = _
    rw [if_pos rfl]
  have fu : fldQ "under" (.q r) = some (.int r.den) := by
    show (if Str.ofString "under" = Str.ofString "over" then some (U.int r.num) else if Str.ofString "under" = Str.ofString "under" then some (U.int r.den) else none) = _
    rw [if_neg (by decide +kernel), if_pos rfl]
  have d1 := digits_of_eq (cs := cs) h1
  have d2 := digits_of_eq (cs := cs) h2
  have l1 : (numL r.num.natAbs).length ≤ 90 := numL_len (by decide) h1
  have l2 : (numL r.den).length ≤ 90 := numL_len (by decide) h2
  let sg : List Nat := if r.num < 0 then [45] else []
  let ta : List Nat := if r.den = 1 then [] else 47 :: numL r.den
  have lsg : sg.length ≤ 1 := by show (if r.num < 0 then [45] else []).length ≤ 1; split <;> decide
  have lta : ta.length ≤ 91 := by
    show (if r.den = 1 then [] else 47 :: numL r.den).length ≤ 91
    split
    · simp
    · simp; omega
  have A1 : addU (.str (tx sg)) (.str (tx (numL r.num.natAbs))) = some (.str (tx (sg ++ numL r.num.natAbs))) := add_tx (by omega)
  have A2 : addU (.str (tx (sg ++ numL r.num.natAbs))) (.str (tx ta)) = some (.str (tx (txt r))) := add_tx (by rw [List.length_append]; omega)
  have A3 : addU (.str "/") (.str (tx (numL r.den))) = some (.str (tx (47 :: numL r.den))) := by
    rw [sS]
    exact add_tx (a := [47]) (by simp; omega)
  unfold m_Exact_text b_Exact_text
  refine Ex.fnP rfl ?_
  have S1 : (sSet 1 (mP (mIf (mTest (m2 ltU (m1 (fldQ "over") (mVar 0)) (mC (.int 0)))) (mC (.str "-")) (mC (.str ""))))) [some (.p (.q r)), none, none] = some (.nx [some (.p (.q r)), some (.p (.str (tx sg))), none]) := by
    by_cases c : r.num < 0
    · have : sg = [45] := if_pos c
      rw [this, ← sM]
      simp [-fldQ, fo, c]
    · have : sg = [] := if_neg c
      rw [this, ← sE]
      simp [-fldQ, fo, c]
  have S2 : (sSet 2 (mP (mIf (mTest (m2 (UL.eqU 0) (m1 (fldQ "under") (mVar 0)) (mC (.int 1)))) (mC (.str "")) (m2 addU (mC (.str "/")) (mN (m_digits_of cs) (mCons (m1 (fldQ "under") (mVar 0)) mNil)))))) [some (.p (.q r)), some (.p (.str (tx sg))), none] = some (.nx [some (.p (.q r)), some (.p (.str (tx sg))), some (.p (.str (tx ta)))]) := by
    generalize tx sg = z
    by_cases c : r.den = 1
    · have : ta = [] := if_pos c
      rw [this, ← sE]
      simp [-fldQ, fu, c]
    · have : ta = 47 :: numL r.den := if_neg c
      rw [this]
      have c' : ¬ ((r.den : Int) = 1) := by omega
      generalize tx (47 :: numL r.den) = z2 at *
      generalize tx (numL r.den) = z3 at *
      simp [-fldQ, -addU, fu, c, c', d2, A3]
  refine ⟨.rt (.p (.str (tx (txt r)))) [some (.p (.q r)), some (.p (.str (tx sg))), some (.p (.str (tx ta)))], ?_, rfl⟩
  rw [show env0 ([U.q r].map .p) 2 = [some (.p (.q r)), none, none] from rfl, sSeq_nx S1, sSeq_nx S2]
  clear S1 S2 A3 d2
  clear_value sg ta
  have hn : (if 0 < r.num then r.num else -r.num) = ((r.num.natAbs : Nat) : Int) := by split <;> omega
  generalize tx (txt r) = z5 at *
  generalize tx (sg ++ numL r.num.natAbs) = z4 at *
  generalize tx (numL r.num.natAbs) = z3 at *
  generalize tx sg = z1 at *
  generalize tx ta = z2 at *
  by_cases c : 0 < r.num
  · rw [if_pos c] at hn
    rw [← hn] at d1
    simp [-fldQ, -addU, fo, c, d1, A1, A2]
  · rw [if_neg c] at hn
    rw [← hn] at d1
    simp [-fldQ, -addU, fo, c, d1, A1, A2]
end
end UM
set_option Elab.async false
set_option linter.all false
set_option maxRecDepth 100000
set_option maxHeartbeats 1000000
/-! reading a fraction -/
namespace TQ
open PySem TL
theorem num_lt {n k : Nat} (h : (numL n).length ≤ k) : n < 10 ^ k := by
  refine Nat.lt_of_not_le fun z => ?_
  have := PyProof.Rows.digits10_ge z
  unfold numL at h
  rw [List.length_map] at h
  omega
/-- whether the text begins below nought, what stands behind the sign -/
def bel (p : List Nat) : Bool := decide (p.take 1 = [45])
def hd (p : List Nat) : List Nat := if bel p = true then p.drop 1 else p
def und : List (List Nat) → Nat
  | [c] => dv c
  | _ => 1
/-- the conditions ahead of the values -/
def frm (p : List Nat) (rest : List (List Nat)) : Bool := decide (rest.length ≤ 1) && (dgB (hd p) && rest.all dgB)
def bad (p : List Nat) (rest : List (List Nat)) : Bool := (bel p && decide (dv (hd p) = 0)) || (decide (rest.length = 1) && (decide (und rest < 2) || !decide (Nat.gcd (dv (hd p)) (und rest) = 1)))
def rdP (p : List Nat) (rest : List (List Nat)) : Option Rat := if frm p rest = true ∧ bad p rest = false then some (Rat.divInt (if bel p = true then -((dv (hd p) : Nat) : Int) else ((dv (hd p) : Nat) : Int)) ((und rest : Nat) : Int)) else none
def rdN (l : List Nat) : Option Rat := match sp l with
  | [] => none
  | p :: rest => rdP p rest
end TQ
namespace TQ
open PySem TL
theorem spl_len : ∀ (l acc : List Nat), (spl [47] 0 acc l).length ≤ l.length + 1
  | [], acc => by rw [spl_nil]; simp
  | c :: r, acc => by
    by_cases h : c = 47
    · rw [spl_hit (by rw [pre47]; exact decide_eq_true h)]
      have := spl_len r []
      show (acc :: spl [47] 0 [] r).length ≤ _
      rw [List.length_cons, List.length_cons]
      omega
    · rw [spl_miss (by rw [pre47]; exact decide_eq_false h)]
      have := spl_len r (acc ++ [c])
      rw [List.length_cons]
      omega
end TQ
namespace UM
open PySem L2 UL LM TL TQ LV
def oU : Option Rat → U
  | some r => .q r
  | none => .non
theorem cut1 (p : List Nat) : cutS (tx p) none (some 1) = tx (p.take 1) := by
  show tx (((tx p).cps.toList.drop _).take _) = _
  rw [show (tx p).cps.toList = p from List.toList_toArray]
  cases p with
  | nil => rfl
  | cons a r =>
    show tx (((a :: r).drop (HT.sIx (tx (a :: r)).length 0 none)).take (HT.sIx (tx (a :: r)).length (tx (a :: r)).length (some 1) - HT.sIx (tx (a :: r)).length 0 none)) = _
    rw [tx_len]
    have e1 : HT.sIx (a :: r).length 0 none = 0 := rfl
    have e2 : HT.sIx (a :: r).length (a :: r).length (some 1) = 1 := by
      simp [HT.sIx]
    rw [e1, e2]
    rfl
theorem cut2 (p : List Nat) : cutS (tx p) (some 1) none = tx (p.drop 1) := by
  show tx (((tx p).cps.toList.drop _).take _) = _
  rw [show (tx p).cps.toList = p from List.toList_toArray]
  cases p with
  | nil => rfl
  | cons a r =>
    show tx (((a :: r).drop (HT.sIx (tx (a :: r)).length 0 (some 1))).take (HT.sIx (tx (a :: r)).length (tx (a :: r)).length none - HT.sIx (tx (a :: r)).length 0 (some 1))) = _
    rw [tx_len]
    have e1 : HT.sIx (a :: r).length 0 (some 1) = 1 := by
      simp [HT.sIx]
    have e2 : HT.sIx (a :: r).length (a :: r).length none = r.length + 1 := rfl
    rw [e1, e2]
    show tx (List.take (r.length + 1 - 1) r) = tx r
    rw [show r.length + 1 - 1 = r.length by omega, List.take_length]
theorem sl_tx {p : List Nat} (h : p.length ≤ 1000) {lo hi : Option Int} : slS (.str (tx p)) lo hi = some (.str (cutS (tx p) lo hi)) := if_pos (by rw [tx_len]; exact Nat.le_of_lt (Nat.lt_of_le_of_lt h size1))
section
variable {cs : List String} {l p : List Nat} {rest : List (List Nat)}
/-- a part, as an item of an owned list -/
abbrev pt (q : List Nat) : Ow := .p (.str (tx q))
theorem rd1 (e : sp l = p :: rest) (hl : l.length ≤ 900) {x1 x2 x3 x4 x5 : Option Ow} : (sSet 1 (mSplit (mVar 0) (mC (.str "/")))) [some (.p (.str (tx l))), x1, x2, x3, x4, x5] = some (.nx [some (.p (.str (tx l))), some (.l (pt p :: rest.map pt)), x2, x3, x4, x5]) := by
  have sl : splitL (tx l) "/" = some ((p :: rest).map tx) := by
    have : splitL (tx l) "/" = some (Txt.split (tx l) "/") := if_pos ⟨by decide +kernel, by rw [tx_len]; exact Nat.le_of_lt (Nat.lt_of_le_of_lt (m := 1000) (by omega) size1)⟩
    rw [this, split_tx, e]
  have S : mSplit (mVar 0) (mC (.str "/")) [some (.p (.str (tx l))), x1, x2, x3, x4, x5] = some (.l (pt p :: rest.map pt), [some (.p (.str (tx l))), x1, x2, x3, x4, x5]) := by
    unfold mSplit
    show ((splitL (tx l) "/").bind fun l' => some (Ow.l ((l'.map U.str).map .p), _)) = _
    rw [sl]
    show some (Ow.l ((((p :: rest).map tx).map U.str).map .p), _) = _
    rw [List.map_map, List.map_map]
    rfl
  unfold sSet
  rw [S]
  rfl
theorem rd2 (hp : p.length ≤ 900) {x0 x2 x3 x4 x5 : Option Ow} {ws : List Ow} : (sSet 2 (mP (m2 (UL.eqU 0) (mSl slS (mIxV 1 (mC (.int 0))) none (some (mC (.int 1)))) (mC (.str "-"))))) [x0, some (.l (pt p :: ws)), x2, x3, x4, x5] = some (.nx [x0, some (.l (pt p :: ws)), some (.p (.bl (bel p))), x3, x4, x5]) := by
  have a0 : atI (pt p :: ws) 0 = some (pt p) := atI_nat' (n := 0) rfl
  have s1 := sl_tx (p := p) (by omega) (lo := none) (hi := some 1)
  rw [cut1] at s1
  have q1 : UL.eqU 0 (.str (tx (p.take 1))) (.str "-") = some (.bl (bel p)) := by
    rw [sM, eq_tx]
    rfl
  generalize tx (p.take 1) = z1 at *
  have a0 : atI (Ow.p (.str (tx p)) :: ws) 0 = some (.p (.str (tx p))) := a0
  show (sSet 2 _) [x0, some (.l (Ow.p (.str (tx p)) :: ws)), x2, x3, x4, x5] = some (.nx [x0, some (.l (Ow.p (.str (tx p)) :: ws)), some (.p (.bl (bel p))), x3, x4, x5])
  generalize tx p = z at *
  simp [-slS, mSl, mPart, a0, s1, q1]
theorem rd3 (hp : p.length ≤ 900) {x0 x3 x4 x5 : Option Ow} {ws : List Ow} : (sSetV 1 (mC (.int 0)) (mIf (mTest (mVar 2)) (mSl slS (mIxV 1 (mC (.int 0))) (some (mC (.int 1))) none) (mIxV 1 (mC (.int 0))))) [x0, some (.l (pt p :: ws)), some (.p (.bl (bel p))), x3, x4, x5] = some (.nx [x0, some (.l (pt (hd p) :: ws)), some (.p (.bl (bel p))), x3, x4, x5]) := by
  have a0 : atI (Ow.p (.str (tx p)) :: ws) 0 = some (.p (.str (tx p))) := atI_nat' (n := 0) rfl
  have s1 := sl_tx (p := p) (by omega) (lo := some 1) (hi := none)
  rw [cut2] at s1
  have ix : ixN (ws.length + 1) 0 = some 0 := by simp [ixN]
  show (sSetV 1 _ _) [x0, some (.l (Ow.p (.str (tx p)) :: ws)), some (.p (.bl (bel p))), x3, x4, x5] = some (.nx [x0, some (.l (Ow.p (.str (tx (hd p))) :: ws)), some (.p (.bl (bel p))), x3, x4, x5])
  cases c : bel p with
  | true =>
    have : hd p = p.drop 1 := if_pos c
    rw [this]
    generalize tx (p.drop 1) = z1 at *
    generalize tx p = z at *
    simp [-slS, mSl, mPart, a0, s1, ix]
  | false =>
    have : hd p = p := if_neg (by rw [c]; decide)
    rw [this]
    generalize tx p = z at *
    simp [-slS, a0, ix]
theorem rd4 (hq : ∀ q ∈ hd p :: rest, Asc q ∧ q.length ≤ 900) (hr : rest.length ≤ 900) {x0 x2 x3 x4 : Option Ow} : mN allU (mCons (mLcV 1 [5] (gN 5) mYes (mN (m_is_digits cs) (mCons (mVar 5) mNil))) mNil) [x0, some (.l ((hd p :: rest).map pt)), x2, x3, x4, none] = some (.bl ((hd p :: rest).all dgB), [x0, some (.l ((hd p :: rest).map pt)), x2, x3, x4, none]) := by
  have lc := lc_eq (xs := hd p :: rest) (fun q => U.str (tx q)) (fun _ => true) (fun q => .bl (dgB q)) (vs := [5]) (g := gN 5) (tt := mYes) (te := mN (m_is_digits cs) (mCons (mVar 5) mNil)) (env := [x0, none, x2, x3, x4, none]) (Nat.lt_of_le_of_lt (m := 1000) (by rw [List.length_cons]; omega) size1) (by
    intro q hq'
    have e := is_digits_eq (cs := cs) (hq q hq').1 (hq q hq').2
    generalize tx q = u at *
    exact ⟨[x0, none, x2, x3, x4, some (.p (.str u))], by simp [wipeE], _, rfl, fun _ => ⟨[x0, none, x2, x3, x4, some (.p (.str u))], by simp [e], by simp [restE, keepP]⟩, fun h => nomatch h⟩)
  rw [List.filter_eq_self.mpr (fun _ _ => rfl)] at lc
  have e1 : (hd p :: rest).map pt = ((hd p :: rest).map fun q => U.str (tx q)).map .p := by
    rw [List.map_map]
    rfl
  rw [e1]
  have al := allP_map ((hd p :: rest).map fun q => U.str (tx q))
  have au : allU [.lst ((hd p :: rest).map fun q => .bl (dgB q))] = some (.bl ((hd p :: rest).all dgB)) := by
    have e : ∀ l : List (List Nat), allB (l.map fun c => U.bl (dgB c)) = some (l.map dgB) := fun l => by
      induction l with
      | nil => rfl
      | cons a l ih => simp [allB, ih]
    show (allB _).bind _ = _
    rw [e]
    simp
  generalize ((hd p :: rest).map fun q => U.str (tx q)) = us at *
  generalize (hd p :: rest).all dgB = bb at *
  generalize ((hd p :: rest).map fun q => U.bl (dgB q)) = bs at *
  have M : mLcV 1 [5] (gN 5) mYes (mN (m_is_digits cs) (mCons (mVar 5) mNil)) [x0, some (.l (us.map .p)), x2, x3, x4, none] = some (.lst bs, [x0, some (.l (us.map .p)), x2, x3, x4, none]) := by
    generalize us.map Ow.p = ws at *
    simp [al, lc]
  generalize mLcV 1 [5] (gN 5) mYes (mN (m_is_digits cs) (mCons (mVar 5) mNil)) = mm at *
  simp [M, au]
theorem dv_lt {q : List Nat} (h : dgB q = true) (hl : q.length ≤ 200) : dv q < 10 ^ 200 := by
  have e := dgB_back h
  rw [e] at hl
  exact TQ.num_lt hl
theorem mk_of {o u : Int} (h0 : u ≠ 0) (hb : bigI u = true) : mkF [.int o, .int u] = some (.q (Rat.divInt o u)) := if_pos ⟨h0, hb⟩
abbrev rdC : M Bool := (mOr (mAnd (mTest (mVar 2)) (mTest (m2 (UL.eqU 0) (mVar 3) (mC (.int 0))))) (mAnd (mTest (m2 (UL.eqU 0) (mLenV 1) (mC (.int 2)))) (mOr (mTest (m2 ltU (mVar 4) (mC (.int 2)))) (mTest (m2 (neN 0) (mN gcdU (mCons (mVar 3) (mCons (mVar 4) mNil))) (mC (.int 1)))))))
abbrev rdB (ws : List Ow) (b : Bool) (N M : Nat) : Bool := (b && decide (N = 0)) || (decide (ws.length = 2) && (decide (M < 2) || !decide (Nat.gcd N M = 1)))
theorem rd_cond {z : Str} {ws : List Ow} {b : Bool} {N M : Nat} : rdC [some (.p (.str z)), some (.l ws), some (.p (.bl b)), some (.p (.int (N : Int))), some (.p (.int (M : Int))), none] = some (rdB ws b N M, [some (.p (.str z)), some (.l ws), some (.p (.bl b)), some (.p (.int (N : Int))), some (.p (.int (M : Int))), none]) := by
  have gd : gcdU [.int (N : Int), .int (M : Int)] = some (.int ((Nat.gcd N M : Nat) : Int)) := rfl
  have e3 : UL.eqU 0 (.int (N : Int)) (.int 0) = some (.bl (decide (N = 0))) := by
    show some (U.bl (decide ((N : Int) = 0))) = _
    congr 2
    exact decide_eq_decide.mpr (by omega)
  have e1 : UL.eqU 0 (.int (ws.length : Int)) (.int 2) = some (.bl (decide (ws.length = 2))) := by
    show some (U.bl (decide ((ws.length : Int) = 2))) = _
    congr 2
    exact decide_eq_decide.mpr (by omega)
  have e4 : ltU (.int (M : Int)) (.int 2) = some (.bl (decide (M < 2))) := by
    show some (U.bl (decide ((M : Int) < 2))) = _
    congr 2
    exact decide_eq_decide.mpr (by omega)
  have e5 : neN 0 (.int ((Nat.gcd N M : Nat) : Int)) (.int 1) = some (.bl (!decide (Nat.gcd N M = 1))) := by
    rw [neN_ii]
    congr 3
    exact decide_eq_decide.mpr (by omega)
  unfold rdB
  generalize ((Nat.gcd N M : Nat) : Int) = gi at *
  generalize decide (Nat.gcd N M = 1) = g at *
  generalize decide (N = 0) = n0 at *
  generalize decide (M < 2) = m2' at *
  generalize decide (ws.length = 2) = w2 at *
  generalize (N : Int) = Ni at *
  generalize (M : Int) = Mi at *
  cases b <;> cases n0 <;> cases w2 <;> cases m2' <;> cases g <;> simp [-gcdU, -neN_ii, -ltU, gd, e3, e1, e4, e5]
theorem rd_fin {z : Str} {ws : List Ow} {b : Bool} {N M : Nat} (hM : ws.length = 2 ∨ M = 1) (hb : bigI (M : Int) = true) : Ex (sSeq (sIf rdC (sRet (mP (mC .non))) sNext)
    (sRet (mP (mN mkF (mCons (mIf (mTest (mVar 2)) (m1 negU (mVar 3)) (mVar 3)) (mCons (mVar 4) mNil)))))) [some (.p (.str z)), some (.l ws), some (.p (.bl b)), some (.p (.int (N : Int))), some (.p (.int (M : Int))), none] (fun f => match f with
      | .rt w _ => w = .p (oU (if rdB ws b N M = true then none else some (Rat.divInt (if b = true then -(N : Int) else (N : Int)) (M : Int))))
      | .nx _ => oU (if rdB ws b N M = true then none else some (Rat.divInt (if b = true then -(N : Int) else (N : Int)) (M : Int))) = .non
      | .bk _ => False) := by
  have C := rd_cond (z := z) (ws := ws) (b := b) (N := N) (M := M)
  cases hB : rdB ws b N M with
  | true =>
    rw [hB] at C
    exact ⟨.rt (.p .non) [some (.p (.str z)), some (.l ws), some (.p (.bl b)), some (.p (.int (N : Int))), some (.p (.int (M : Int))), none], sSeq_rt5 ((sIf_t5 C).trans (by generalize (N : Int) = Ni; generalize (M : Int) = Mi; simp)), rfl⟩
  | false =>
    rw [hB] at C
    have m0 : (M : Int) ≠ 0 := by
      rcases hM with h | h
      · intro zz
        have : M = 0 := by omega
        subst this
        unfold rdB at hB
        rw [decide_eq_true h] at hB
        simp at hB
      · omega
    refine Ex.seq ((sIf_f5 C).trans rfl) ?_
    have k1 := mk_of (o := (N : Int)) m0 hb
    have k2 := mk_of (o := -(N : Int)) m0 hb
    have ng : negU (.int (N : Int)) = some (.int (-(N : Int))) := rfl
    clear C hB hb m0 hM
    generalize (N : Int) = Ni at *
    generalize (M : Int) = Mi at *
    cases b with
    | true => exact ⟨.rt (.p (.q (Rat.divInt (-Ni) Mi))) [some (.p (.str z)), some (.l ws), some (.p (.bl true)), some (.p (.int Ni)), some (.p (.int Mi)), none], by simp [-mkF, ng, k2], rfl⟩
    | false => exact ⟨.rt (.p (.q (Rat.divInt Ni Mi))) [some (.p (.str z)), some (.l ws), some (.p (.bl false)), some (.p (.int Ni)), some (.p (.int Mi)), none], by simp [-mkF, k1], rfl⟩
theorem read_eq (ha : Asc l) (hl : l.length ≤ 200) : m_read_number cs [.str (tx l)] = some (oU (rdN l)) := by
  obtain ⟨p, rest, e⟩ : ∃ p rest, sp l = p :: rest := by
    cases h : sp l with
    | nil => exact absurd h (spl_ne l [])
    | cons p rest => exact ⟨p, rest, rfl⟩
  have hm : ∀ q ∈ p :: rest, (∀ c ∈ q, c ∈ l) ∧ q.length ≤ l.length := fun q hq => mem_sp (by rw [e]; exact hq)
  have hpl := (hm p (by simp)).2
  have hdm : (∀ c ∈ hd p, c ∈ p) ∧ (hd p).length ≤ p.length := by
    unfold TQ.hd
    split
    · exact ⟨fun c hc => List.mem_of_mem_drop hc, by rw [List.length_drop]; omega⟩
    · exact ⟨fun c hc => hc, Nat.le_refl _⟩
  have hq : ∀ q ∈ hd p :: rest, Asc q ∧ q.length ≤ 200 := fun q hq' => by
    rcases List.mem_cons.mp hq' with rfl | h
    · exact ⟨fun c hc => ha c ((hm p (by simp)).1 c (hdm.1 c hc)), by omega⟩
    · exact ⟨fun c hc => ha c ((hm q (by simp [h])).1 c hc), Nat.le_trans (hm q (by simp [h])).2 hl⟩
  have hrl : rest.length ≤ 900 := by
    have : (sp l).length ≤ l.length + 1 := spl_len l []
    rw [e, List.length_cons] at this
    omega
  have R : rdN l = rdP p rest := by
    unfold rdN
    rw [e]
  rw [R]
  have A := rd4 (cs := cs) (p := p) (rest := rest) (fun q h => ⟨(hq q h).1, by have := (hq q h).2; omega⟩) hrl (x0 := some (.p (.str (tx l)))) (x2 := some (.p (.bl (bel p)))) (x3 := none) (x4 := none)
  have F : ∀ {o : Option Rat}, Ex (sSeq (sIf (mOr (mTest (m2 gtU (mLenV 1) (mC (.int 2)))) (mNot (mTest (mN allU (mCons (mLcV 1 [5] (gN 5) mYes (mN (m_is_digits cs) (mCons (mVar 5) mNil))) mNil))))) (sRet (mP (mC .non))) sNext)
    (sSeq (sPar 3 4 (mCons (mN (m_number_of cs) (mCons (mIxV 1 (mC (.int 0))) mNil)) (mCons (mIf (mTest (m2 (UL.eqU 0) (mLenV 1) (mC (.int 2)))) (mN (m_number_of cs) (mCons (mIxV 1 (mC (.int 1))) mNil)) (mC (.int 1))) mNil)))
    (sSeq (sIf (mOr (mAnd (mTest (mVar 2)) (mTest (m2 (UL.eqU 0) (mVar 3) (mC (.int 0))))) (mAnd (mTest (m2 (UL.eqU 0) (mLenV 1) (mC (.int 2)))) (mOr (mTest (m2 ltU (mVar 4) (mC (.int 2)))) (mTest (m2 (neN 0) (mN gcdU (mCons (mVar 3) (mCons (mVar 4) mNil))) (mC (.int 1))))))) (sRet (mP (mC .non))) sNext)
    (sRet (mP (mN mkF (mCons (mIf (mTest (mVar 2)) (m1 negU (mVar 3)) (mVar 3)) (mCons (mVar 4) mNil)))))))) [some (.p (.str (tx l))), some (.l ((hd p :: rest).map pt)), some (.p (.bl (bel p))), none, none, none] (fun f => match f with
      | .rt w _ => w = .p (oU o)
      | .nx _ => oU o = .non
      | .bk _ => False) → m_read_number cs [.str (tx l)] = some (oU o) := fun {o} h => by
    unfold m_read_number b_read_number
    refine Ex.fnP rfl ?_
    refine Ex.seq (rd1 e (by omega)) ?_
    refine Ex.seq (rd2 (by omega)) ?_
    refine Ex.seq (rd3 (by omega)) ?_
    exact h
  refine F ?_
  clear F R
  by_cases c2 : 1 < rest.length
  · have rn : rdP p rest = none := if_neg fun h => by
      have := h.1
      unfold frm at this
      rw [decide_eq_false (by omega)] at this
      cases this
    rw [rn]
    have ln : ¬ ((((hd p :: rest).map pt).length : Int) ≤ 2) := by
      rw [List.length_map, List.length_cons]
      omega
    clear A
    generalize (hd p :: rest).map pt = ws at *
    generalize tx l = z at *
    exact ⟨.rt (.p .non) [some (.p (.str z)), some (.l ws), some (.p (.bl (bel p))), none, none, none], sSeq_rt5 ((sIf_t5 (e := [some (.p (.str z)), some (.l ws), some (.p (.bl (bel p))), none, none, none]) (by simp; omega)).trans (by simp)), rfl⟩
  have ln : (((hd p :: rest).map pt).length : Int) ≤ 2 := by
    rw [List.length_map, List.length_cons]
    omega
  by_cases ok : (hd p :: rest).all dgB = true
  case neg =>
    have rn : rdP p rest = none := if_neg fun h => by
      have := h.1
      unfold frm at this
      rw [Bool.and_eq_true] at this
      exact ok (by rw [List.all_cons]; exact this.2)
    rw [rn]
    rw [Bool.not_eq_true] at ok
    rw [ok] at A
    generalize (hd p :: rest).map pt = ws at *
    generalize tx l = z at *
    generalize mN allU (mCons (mLcV 1 [5] (gN 5) mYes (mN (m_is_digits cs) (mCons (mVar 5) mNil))) mNil) = mm at *
    have g : ¬ ((2 : Int) < (ws.length : Int)) := by omega
    exact ⟨.rt (.p .non) [some (.p (.str z)), some (.l ws), some (.p (.bl (bel p))), none, none, none], sSeq_rt5 ((sIf_t5 (e := [some (.p (.str z)), some (.l ws), some (.p (.bl (bel p))), none, none, none]) (by simp [A, g])).trans (by simp)), rfl⟩
  rw [ok] at A
  have okh : dgB (hd p) = true := by
    rw [List.all_cons, Bool.and_eq_true] at ok
    exact ok.1
  have okr : rest.all dgB = true := by
    rw [List.all_cons, Bool.and_eq_true] at ok
    exact ok.2
  have S1 : (sIf (mOr (mTest (m2 gtU (mLenV 1) (mC (.int 2)))) (mNot (mTest (mN allU (mCons (mLcV 1 [5] (gN 5) mYes (mN (m_is_digits cs) (mCons (mVar 5) mNil))) mNil))))) (sRet (mP (mC .non))) sNext) [some (.p (.str (tx l))), some (.l ((hd p :: rest).map pt)), some (.p (.bl (bel p))), none, none, none] = some (.nx [some (.p (.str (tx l))), some (.l ((hd p :: rest).map pt)), some (.p (.bl (bel p))), none, none, none]) := by
    generalize (hd p :: rest).map pt = ws at *
    generalize tx l = z at *
    generalize mN allU (mCons (mLcV 1 [5] (gN 5) mYes (mN (m_is_digits cs) (mCons (mVar 5) mNil))) mNil) = mm at *
    have g : ¬ ((2 : Int) < (ws.length : Int)) := by omega
    exact (sIf_f5 (e := [some (.p (.str z)), some (.l ws), some (.p (.bl (bel p))), none, none, none]) (by simp [A, g])).trans (by simp)
  refine Ex.seq S1 ?_
  clear S1 A
  have n0 := number_of_eq (cs := cs) (dgB_all okh).1 (by have := (hq (hd p) (by simp)).2; omega)
  have b0 := dv_lt okh (hq (hd p) (by simp)).2
  have fr : frm p rest = true := by
    unfold frm
    rw [okh, okr, decide_eq_true (by omega)]
    rfl
  have rp : rdP p rest = if bad p rest = true then none else some (Rat.divInt (if bel p = true then -((dv (hd p) : Nat) : Int) else ((dv (hd p) : Nat) : Int)) ((und rest : Nat) : Int)) := by
    unfold rdP
    cases hb : bad p rest <;> simp [fr]
  rw [rp]
  clear rp fr hm hdm
  cases rest with
  | nil =>
    have B : bad p [] = rdB ([hd p].map pt) (bel p) (dv (hd p)) 1 := by
      unfold bad rdB
      simp
    rw [B]
    refine Ex.seq (e := [some (.p (.str (tx l))), some (.l ([hd p].map pt)), some (.p (.bl (bel p))), some (.p (.int ((dv (hd p) : Nat) : Int))), some (.p (.int ((1 : Nat) : Int))), none]) ?_ (rd_fin (.inr rfl) (by decide +kernel))
    have a0 : atI [Ow.p (.str (tx (hd p)))] 0 = some (.p (.str (tx (hd p)))) := atI_nat' (n := 0) rfl
    show (sPar 3 4 _) [some (.p (.str (tx l))), some (.l [Ow.p (.str (tx (hd p)))]), some (.p (.bl (bel p))), none, none, none] = some (.nx [some (.p (.str (tx l))), some (.l [Ow.p (.str (tx (hd p)))]), some (.p (.bl (bel p))), some (.p (.int ((dv (hd p) : Nat) : Int))), some (.p (.int 1)), none])
    generalize tx (hd p) = z0 at *
    generalize tx l = z at *
    generalize ((dv (hd p) : Nat) : Int) = Ni at *
    simp [a0, n0]
  | cons c r =>
    cases r with
    | cons d r => exact absurd (by simp) c2
    | nil =>
      have okc : dgB c = true := by simpa using okr
      have n1 := number_of_eq (cs := cs) (dgB_all okc).1 (by have := (hq c (by simp)).2; omega)
      have b1 := dv_lt okc (hq c (by simp)).2
      have B : bad p [c] = rdB ([hd p, c].map pt) (bel p) (dv (hd p)) (dv c) := by
        unfold bad rdB
        rfl
      rw [B]
      have bg : bigI ((dv c : Nat) : Int) = true := decide_eq_true (Nat.lt_of_lt_of_le (Nat.lt_of_lt_of_le b1 (show 10 ^ 200 ≤ 2 ^ 700 by decide +kernel)) (Nat.pow_le_pow_right (by decide) (by decide)))
      refine Ex.seq (e := [some (.p (.str (tx l))), some (.l ([hd p, c].map pt)), some (.p (.bl (bel p))), some (.p (.int ((dv (hd p) : Nat) : Int))), some (.p (.int ((dv c : Nat) : Int))), none]) ?_ (rd_fin (.inl rfl) bg)
      have a0 : atI [Ow.p (.str (tx (hd p))), Ow.p (.str (tx c))] 0 = some (.p (.str (tx (hd p)))) := atI_nat' (n := 0) rfl
      have a1 : atI [Ow.p (.str (tx (hd p))), Ow.p (.str (tx c))] 1 = some (.p (.str (tx c))) := atI_nat' (n := 1) rfl
      clear b0 b1 bg B hq
      show (sPar 3 4 _) [some (.p (.str (tx l))), some (.l [Ow.p (.str (tx (hd p))), Ow.p (.str (tx c))]), some (.p (.bl (bel p))), none, none, none] = some (.nx [some (.p (.str (tx l))), some (.l [Ow.p (.str (tx (hd p))), Ow.p (.str (tx c))]), some (.p (.bl (bel p))), some (.p (.int ((dv (hd p) : Nat) : Int))), some (.p (.int ((dv c : Nat) : Int))), none])
      generalize tx (hd p) = z0 at *
      generalize tx c = z1 at *
      generalize tx l = z at *
      generalize ((dv (hd p) : Nat) : Int) = Ni at *
      generalize ((dv c : Nat) : Int) = Mi at *
      simp [a0, a1, n0, n1]
end
end UM
set_option Elab.async false
set_option linter.all false
set_option maxRecDepth 100000
set_option maxHeartbeats 1000000
/-! just the texts of fractions are read -/
namespace TQ
open PySem TL
theorem num_free (n : Nat) : 47 ∉ numL n := numL_free (by decide)
theorem bel_num (n : Nat) : bel (numL n) = false := by
  unfold bel
  refine decide_eq_false fun h => ?_
  cases e : numL n with
  | nil => exact numL_ne n e
  | cons a r =>
    rw [e] at h
    have : a = 45 := by simpa using h
    have d : 48 ≤ a ∧ a ≤ 57 := numL_digits n a (by rw [e]; simp)
    omega
theorem hd_num (n : Nat) : hd (numL n) = numL n := if_neg (by rw [bel_num]; decide)
theorem bel_neg (q : List Nat) : bel (45 :: q) = true := decide_eq_true rfl
theorem hd_neg (q : List Nat) : hd (45 :: q) = q := if_pos (bel_neg q)
theorem bel_hd {p : List Nat} : p = if bel p = true then 45 :: hd p else hd p := by
  by_cases h : bel p = true
  · rw [if_pos h]
    have e : hd p = p.drop 1 := if_pos h
    rw [e]
    have t : p.take 1 = [45] := of_decide_eq_true h
    cases p with
    | nil => cases t
    | cons a r =>
      have : a = 45 := by simpa using t
      rw [this]
      rfl
  · rw [if_neg h]
    exact (if_neg h).symm
/-- a fraction of parts that have nothing in common -/
theorem div_of {o : Int} {u : Nat} (h0 : u ≠ 0) (hc : Nat.gcd o.natAbs u = 1) : (Rat.divInt o (u : Int)).num = o ∧ (Rat.divInt o (u : Int)).den = u := by
  have := Rat.num_divInt_den (⟨o, u, h0, hc⟩ : Rat)
  rw [this]
  exact ⟨rfl, rfl⟩
theorem rd_txt (r : Rat) : rdN (txt r) = some r := by
  let p : List Nat := (if r.num < 0 then [45] else []) ++ numL r.num.natAbs
  let rest : List (List Nat) := if r.den = 1 then [] else [numL r.den]
  have pf : 47 ∉ p := by
    intro h
    rcases List.mem_append.mp h with h | h
    · split at h
      · simp at h
      · cases h
    · exact num_free _ h
  have e : sp (txt r) = p :: rest := by
    show sp (p ++ if r.den = 1 then [] else 47 :: numL r.den) = p :: if r.den = 1 then [] else [numL r.den]
    by_cases c : r.den = 1
    · rw [if_pos c, if_pos c, List.append_nil]
      have := spl_free (acc := []) pf
      simpa using this
    · rw [if_neg c, if_neg c]
      have := spl_cut (acc := []) (b := numL r.den) pf
      rw [show sp (numL r.den) = [numL r.den] from by simpa using spl_free (acc := []) (num_free r.den)] at this
      simpa using this
  have hb : bel p = decide (r.num < 0) ∧ hd p = numL r.num.natAbs := by
    by_cases c : r.num < 0
    · have : p = 45 :: numL r.num.natAbs := by
        show (if r.num < 0 then [45] else []) ++ numL r.num.natAbs = _
        rw [if_pos c]
        rfl
      rw [this, decide_eq_true c]
      exact ⟨bel_neg _, hd_neg _⟩
    · have : p = numL r.num.natAbs := by
        show (if r.num < 0 then [45] else []) ++ numL r.num.natAbs = _
        rw [if_neg c]
        rfl
      rw [this, decide_eq_false c]
      exact ⟨bel_num _, hd_num _⟩
  have dN : dv (hd p) = r.num.natAbs := by rw [hb.2]; exact numL_val _
  have hu : und rest = r.den := by
    show und (if r.den = 1 then [] else [numL r.den]) = r.den
    by_cases c : r.den = 1
    · rw [if_pos c, c]
      rfl
    · rw [if_neg c]
      exact numL_val _
  have hl : rest.length = if r.den = 1 then 0 else 1 := by
    show (if r.den = 1 then [] else [numL r.den]).length = _
    split <;> rfl
  have ra : rest.all dgB = true := by
    show (if r.den = 1 then [] else [numL r.den]).all dgB = true
    split
    · rfl
    · simp [dgB_num]
  have fr : frm p rest = true := by
    unfold frm
    rw [hb.2, dgB_num, ra, decide_eq_true (by rw [hl]; split <;> omega)]
    rfl
  have nb : bad p rest = false := by
    have b1 : (decide (r.num < 0) && decide (r.num.natAbs = 0)) = false := by
      by_cases z : r.num < 0
      · rw [decide_eq_false (p := r.num.natAbs = 0) (by omega), Bool.and_false]
      · rw [decide_eq_false z, Bool.false_and]
    unfold bad
    rw [hb.1, dN, hu, hl, b1, Bool.false_or]
    by_cases c : r.den = 1
    · rw [if_pos c]
      rfl
    · rw [if_neg c]
      have := r.den_nz
      have g : Nat.gcd r.num.natAbs r.den = 1 := r.reduced
      rw [decide_eq_true g, decide_eq_false (p := r.den < 2) (by omega)]
      rfl
  unfold rdN
  rw [e]
  show rdP p rest = some r
  unfold rdP
  rw [if_pos ⟨fr, nb⟩, hb.1, dN, hu]
  have : (if decide (r.num < 0) = true then -((r.num.natAbs : Nat) : Int) else ((r.num.natAbs : Nat) : Int)) = r.num := by
    by_cases c : r.num < 0
    · rw [if_pos (decide_eq_true c)]
      omega
    · rw [if_neg (by simpa using c)]
      omega
  rw [this, Rat.num_divInt_den]
theorem rd_back {l : List Nat} {r : Rat} (h : rdN l = some r) : l = txt r := by
  have j := jn_sp l
  cases e : sp l with
  | nil => exact absurd e (spl_ne l [])
  | cons p rest =>
    unfold rdN at h
    rw [e] at h j
    have h : rdP p rest = some r := h
    unfold rdP at h
    split at h
    case isFalse => cases h
    rename_i c
    obtain ⟨fr, nb⟩ := c
    cases h
    unfold frm at fr
    rw [Bool.and_eq_true, Bool.and_eq_true, decide_eq_true_iff] at fr
    obtain ⟨f1, f2, f3⟩ := fr
    have hn := dgB_back f2
    have hp := bel_hd (p := p)
    unfold bad at nb
    rw [Bool.or_eq_false_iff] at nb
    obtain ⟨nb1, nb2⟩ := nb
    generalize hN : dv (hd p) = N at *
    have hsg : ∀ (M : Nat), M ≠ 0 → Nat.gcd N M = 1 → txt (Rat.divInt (if bel p = true then -(N : Int) else (N : Int)) (M : Int)) = p ++ (if M = 1 then [] else 47 :: numL M) := by
      intro M h0 hg
      have dn := div_of (o := if bel p = true then -(N : Int) else (N : Int)) (u := M) h0 (by
        have : (if bel p = true then -(N : Int) else (N : Int)).natAbs = N := by split <;> omega
        rw [this]
        exact hg)
      unfold txt
      rw [dn.1, dn.2]
      congr 1
      rw [show (if bel p = true then -(N : Int) else (N : Int)).natAbs = N by split <;> omega, ← hn]
      cases hb : bel p with
      | true =>
        rw [hb] at nb1 hp
        have : N ≠ 0 := by simpa using nb1
        rw [if_pos rfl] at hp
        have e1 : (if true = true then -(N : Int) else (N : Int)) = -N := rfl
        rw [e1, if_pos (by omega)]
        exact hp.symm
      | false =>
        rw [hb] at hp
        rw [if_neg (by decide)] at hp
        have e1 : (if false = true then -(N : Int) else (N : Int)) = N := rfl
        rw [e1, if_neg (by omega)]
        exact hp.symm
    cases rest with
    | nil =>
      show l = txt (Rat.divInt _ ((1 : Nat) : Int))
      rw [hsg 1 (by decide) (Nat.gcd_one_right N), if_pos rfl, List.append_nil, ← j]
      rfl
    | cons c rs =>
      cases rs with
      | cons d rs => simp at f1
      | nil =>
        have hc : dgB c = true := by simpa using f3
        have hM := dgB_back hc
        show l = txt (Rat.divInt _ ((dv c : Nat) : Int))
        have nb2 : (decide (dv c < 2) || !decide (Nat.gcd N (dv c) = 1)) = false := nb2
        rw [Bool.or_eq_false_iff] at nb2
        have m2' : ¬ dv c < 2 := of_decide_eq_false nb2.1
        have g1 : Nat.gcd N (dv c) = 1 := by
          have := nb2.2
          simpa using this
        rw [hsg (dv c) (by omega) g1, if_neg (by omega), ← hM, ← j]
        rfl
end TQ
set_option Elab.async false
set_option linter.all false
set_option maxRecDepth 100000
set_option maxHeartbeats 1000000
/-! the law's text of a fraction -/
namespace UM
open PySem L2 UL LM TL TQ LV
theorem str_neg (n : Nat) : (Str.ofString (toString (-((n + 1 : Nat) : Int)))) = tx (45 :: numL (n + 1)) := by
  have e : toString (-((n + 1 : Nat) : Int)) = "-" ++ toString (((n + 1 : Nat) : Int)) := rfl
  refine ext_tl ?_
  show tl (Str.ofString (toString (-((n + 1 : Nat) : Int)))) = tl (tx (45 :: numL (n + 1)))
  rw [tl_ofString, e, String.toList_append, List.map_append]
  have := tl_num (n + 1)
  rw [tl_ofString] at this
  rw [this]
  rfl
theorem str_int (i : Int) : (Str.ofString (toString i)) = tx ((if i < 0 then [45] else []) ++ numL i.natAbs) := by
  by_cases c : i < 0
  · obtain ⟨n, rfl⟩ : ∃ n : Nat, i = -((n + 1 : Nat) : Int) := ⟨i.natAbs - 1, by omega⟩
    rw [if_pos c, str_neg]
    congr 2
  · obtain ⟨n, rfl⟩ : ∃ n : Nat, i = (n : Int) := ⟨i.natAbs, by omega⟩
    rw [if_neg c, str_num]
    rfl
section
variable {cs : List String}
theorem strU_of {i : Int} (h : i.natAbs.log2 < 1920) : strU [.int i] = some (.str (toString i)) := if_pos h
theorem law_text_eq {r : Rat} (h1 : r.num.natAbs < 10 ^ 90) (h2 : r.den < 10 ^ 90) : m__law_text cs [fr r] = some (.str (tx (txt r))) := by
  have l1 : (numL r.num.natAbs).length ≤ 90 := numL_len (by decide) h1
  have l2 : (numL r.den).length ≤ 90 := numL_len (by decide) h2
  have g : ∀ {n : Nat}, n < 10 ^ 90 → n.log2 < 1920 := fun {n} h => Nat.lt_of_lt_of_le (PySem.Flt.log2_lt_of (k := 300) (by decide) (Nat.lt_of_lt_of_le h (show 10 ^ 90 ≤ 2 ^ 300 by decide +kernel))) (by decide)
  have s1 := strU_of (i := r.num) (g h1)
  rw [str_int] at s1
  have s2 : strU [.int (r.den : Int)] = some (.str (tx (numL r.den))) := by
    have := strU_of (i := (r.den : Int)) (g h2)
    rw [str_num] at this
    exact this
  have A3 : addU (.str "/") (.str (tx (numL r.den))) = some (.str (tx (47 :: numL r.den))) := by
    rw [sS]
    exact add_tx (a := [47]) (by simp; omega)
  have ls : (if r.num < 0 then [45] else [] : List Nat).length ≤ 1 := by split <;> decide
  have i0 : ixU (fr r) (.int 0) = some (.int r.num) := rfl
  have i1 : ixU (fr r) (.int 1) = some (.int r.den) := rfl
  unfold m__law_text b__law_text
  refine Ex.fnP rfl ?_
  by_cases c : r.den = 1
  · have A2 : addU (.str (tx ((if r.num < 0 then [45] else []) ++ numL r.num.natAbs))) (.str "") = some (.str (tx (txt r))) := by
      rw [sE]
      unfold txt
      rw [if_pos c]
      exact add_tx (by rw [List.length_append, List.length_nil]; omega)
    have c' : (r.den : Int) = 1 := by omega
    generalize tx (txt r) = z5 at *
    generalize tx ((if r.num < 0 then [45] else []) ++ numL r.num.natAbs) = z4 at *
    generalize tx (numL r.den) = z3 at *
    generalize tx (47 :: numL r.den) = z2 at *
    generalize fr r = f at *
    exact ⟨.rt (.p (.str z5)) [some (.p f)], by simp [-strU, -addU, env0, i0, i1, s1, s2, A2, c'], rfl⟩
  · have A2 : addU (.str (tx ((if r.num < 0 then [45] else []) ++ numL r.num.natAbs))) (.str (tx (47 :: numL r.den))) = some (.str (tx (txt r))) := by
      unfold txt
      rw [if_neg c]
      exact add_tx (by rw [List.length_append, List.length_cons]; omega)
    have c' : ¬ ((r.den : Int) = 1) := by omega
    generalize tx (txt r) = z5 at *
    generalize tx ((if r.num < 0 then [45] else []) ++ numL r.num.natAbs) = z4 at *
    generalize tx (numL r.den) = z3 at *
    generalize tx (47 :: numL r.den) = z2 at *
    generalize fr r = f at *
    exact ⟨.rt (.p (.str z5)) [some (.p f)], by simp [-strU, -addU, env0, i0, i1, s1, s2, A2, A3, c'], rfl⟩
end
end UM
set_option Elab.async false
set_option linter.all false
set_option maxRecDepth 100000
set_option maxHeartbeats 1000000
/-! of_text, and a number as a pair -/
namespace UM
open PySem L2 UL LM TL TQ LV
section
variable {cs : List String} {l : List Nat} {r : Rat}
theorem of_text_ok (ha : Asc l) (hl : l.length ≤ 200) (h : rdN l = some r) : m_Exact_of_text cs [.str (tx l)] = some (.q r) := by
  have e := read_eq (cs := cs) ha hl
  rw [h] at e
  have e : m_read_number cs [.str (tx l)] = some (.q r) := e
  unfold m_Exact_of_text b_Exact_of_text
  refine Ex.fnP rfl ?_
  generalize tx l = z at *
  exact ⟨.rt (.p (.q r)) [some (.p (.str z)), some (.p (.q r))], by simp [env0, e, isN], rfl⟩
theorem of_text_x (ha : Asc l) (hl : l.length ≤ 200) : x_Exact_of_text cs [.str (tx l)] = if rdN l = none then some ⟨.text, .int 1⟩ else none := by
  have e := read_eq (cs := cs) ha hl
  cases h : rdN l with
  | none =>
    rw [h] at e
    have e : m_read_number cs [.str (tx l)] = some .non := e
    generalize tx l = z at *
    simp [x_Exact_of_text, xb_Exact_of_text, xfP, env0, xSeq, xIf, xN, xRaise, e, isN]
  | some r =>
    rw [h] at e
    have e : m_read_number cs [.str (tx l)] = some (.q r) := e
    generalize tx l = z at *
    simp [x_Exact_of_text, xb_Exact_of_text, xfP, env0, xSeq, xIf, xN, xRaise, e, isN]
theorem as_exact_eq (h2 : r.den < 10 ^ 90) : m__law_as_exact cs [.q r] = some (fr r) := by
  have fo : fldQ "over" (.q r) = some (.int r.num) := by
    show (if Str.ofString "over" = Str.ofString "over" then some (U.int r.num) else if Str.ofString "over" = Str.ofString "under" then some (U.int r.den) else none) = _
    rw [if_pos rfl]
  have fu : fldQ "under" (.q r) = some (.int r.den) := by
    show (if Str.ofString "under" = Str.ofString "over" then some (U.int r.num) else if Str.ofString "under" = Str.ofString "under" then some (U.int r.den) else none) = _
    rw [if_neg (by decide +kernel), if_pos rfl]
  have bd : ((r.den : Int)).natAbs < 2 ^ 8500 := by
    rw [Int.natAbs_natCast]
    exact Nat.lt_of_lt_of_le (Nat.lt_of_lt_of_le h2 (show 10 ^ 90 ≤ 2 ^ 300 by decide +kernel)) (Nat.pow_le_pow_right (by decide) (by decide))
  have g := gcd_eq (cs := cs) (a := r.num) (b := (r.den : Int)) (Nat.lt_of_lt_of_le bd (Nat.pow_le_pow_right (by decide) (by decide)))
  have g1 : r.num.gcd (r.den : Int) = 1 := r.reduced
  rw [g1] at g
  have dn : 0 < r.den := Nat.pos_of_ne_zero r.den_nz
  have dp : (0 : Int) < (r.den : Int) := by
    have := r.den_nz
    omega
  unfold m__law_as_exact b__law_as_exact
  refine Ex.fnP rfl ?_
  exact ⟨.rt (.p (fr r)) [some (.p (.q r))], by simp [-fldQ, env0, isiU, kwn, isiN, tyU, fo, fu, g, dp, dn, fr], rfl⟩
end
end UM
set_option Elab.async false
set_option linter.all false
set_option maxRecDepth 100000
set_option maxHeartbeats 1000000
/-! the law's look at a text: one part -/
namespace UM
open PySem L2 UL LM TL TQ LV
abbrev ltC : M Bool := (mOr (mTest (m2 (UL.eqU 0) (mVar 3) (mC (.str "")))) (mOr (mNot (mTest (mN allU (mCons (mLc [4] (mStr (mVar 3)) (gN 4) mYes (m2 inS (mVar 4) (mC (.str "0123456789")))) mNil)))) (mAnd (mTest (m2 (neN 0) (mVar 3) (mC (.str "0")))) (mTest (m2 (UL.eqU 0) (m2 ixU (mVar 3) (mC (.int 0))) (mC (.str "0")))))))
section
variable {q : List Nat} {x0 x1 x2 : Option Ow}
theorem lt_item (ha : Asc q) (hl : q.length ≤ 900) : ltC [x0, x1, x2, some (.p (.str (tx q))), none] = some (!dgB q, [x0, x1, x2, some (.p (.str (tx q))), none]) := by
  have e0 : neN 0 (.str (tx q)) (.str "0") = some (.bl (!decide (q = [48]))) := by rw [s0]; exact ne_tx ha (by intro c hc; simp at hc; omega)
  have e1 : UL.eqU 0 (.str (tx q)) (.str "") = some (.bl (decide (q = []))) := by rw [sE]; exact eq_tx
  have lc := lc_eq (xs := q) (fun c => U.str (tx [c])) (fun _ => true) (fun c => .bl (decide (48 ≤ c) && decide (c ≤ 57))) (vs := [4]) (g := gN 4) (tt := mYes) (te := m2 inS (mVar 4) (mC (.str "0123456789"))) (env := [x0, x1, x2, some (.p (.str (tx q))), none]) (Nat.lt_of_le_of_lt (m := 1000) (by omega) size1) (by
    intro c hc
    have e := in_digits c
    generalize tx [c] = u at *
    generalize tx q = z
    exact ⟨[x0, x1, x2, some (.p (.str z)), some (.p (.str u))], by simp [wipeE], _, rfl, fun _ => ⟨[x0, x1, x2, some (.p (.str z)), some (.p (.str u))], by simp [-inS, e], by simp [restE, keepP]⟩, fun h => nomatch h⟩)
  rw [List.filter_eq_self.mpr (fun _ _ => rfl)] at lc
  have al := allU_bl (fun c => decide (48 ≤ c) && decide (c ≤ 57)) q
  have ml : mLc [4] (mStr (mVar 3)) (gN 4) mYes (m2 inS (mVar 4) (mC (.str "0123456789"))) [x0, x1, x2, some (.p (.str (tx q))), none] = some (.lst (q.map fun c => .bl (decide (48 ≤ c) && decide (c ≤ 57))), [x0, x1, x2, some (.p (.str (tx q))), none]) := by
    rw [mLc_d]
    have it : mStr (mVar 3) [x0, x1, x2, some (.p (.str (tx q))), none] = some (q.map fun c => U.str (tx [c]), [x0, x1, x2, some (.p (.str (tx q))), none]) := by
      rw [← sgns]
      rfl
    rw [it, Option.bind_some]
    dsimp only
    rw [lc]
    rfl
  clear lc
  unfold ltC
  generalize mLc [4] (mStr (mVar 3)) (gN 4) mYes (m2 inS (mVar 4) (mC (.str "0123456789"))) = mm at *
  by_cases c2 : q = []
  · subst c2
    rw [decide_eq_true rfl] at e1
    rw [show dgB [] = false from rfl]
    generalize tx [] = z at *
    simp [e1]
  · rw [decide_eq_false c2] at e1
    cases q with
    | nil => exact (c2 rfl).elim
    | cons a r =>
      have i0 := ix_tx0 (c := a) (r := r) (by omega)
      have e2 : UL.eqU 0 (.str (tx [a])) (.str "0") = some (.bl (decide (a = 48))) := by
        rw [s0, eq_tx]
        simp
      have eg : (!dgB (a :: r)) = (!((a :: r).all fun c => decide (48 ≤ c) && decide (c ≤ 57)) || (!decide (a :: r = [48]) && decide (a = 48))) := by
        unfold dgB
        by_cases c1 : a :: r = [48]
        · rw [decide_eq_true c1]
          have : a = 48 ∧ r = [] := by simpa using c1
          obtain ⟨rfl, rfl⟩ := this
          rfl
        · rw [decide_eq_false c1]
          by_cases c3 : a = 48 <;> cases (a :: r).all (fun c => decide (48 ≤ c) && decide (c ≤ 57)) <;> simp [c3]
      rw [eg]
      generalize (a :: r).map (fun c => U.bl (decide (48 ≤ c) && decide (c ≤ 57))) = bs at *
      generalize (a :: r).all (fun c => decide (48 ≤ c) && decide (c ≤ 57)) = bb at *
      generalize decide (a :: r = [48]) = d1 at *
      generalize decide (a = 48) = d2 at *
      generalize tx (a :: r) = z at *
      generalize tx [a] = za at *
      cases bb <;> cases d1 <;> cases d2 <;> simp [e0, e1, e2, i0, ml, al]
abbrev ltB : MS := (sIf ltC (sRet (mP (mC (.bl false)))) sNext)
theorem lt_for : ∀ {qs : List (List Nat)} {x3 : Option Ow}, (∀ q ∈ qs, Asc q ∧ q.length ≤ 900) → (qs.all dgB = true ∧ ∃ y3, forO (gN 3) ltB (qs.map fun q => U.str (tx q)) [x0, x1, x2, x3, none] = some (.nx [x0, x1, x2, y3, none])) ∨ (qs.all dgB = false ∧ ∃ e, forO (gN 3) ltB (qs.map fun q => U.str (tx q)) [x0, x1, x2, x3, none] = some (.rt (.p (.bl false)) e))
  | [], x3, _ => .inl ⟨rfl, x3, rfl⟩
  | q :: qs, x3, h => by
    have i := lt_item (x0 := x0) (x1 := x1) (x2 := x2) (h q (by simp)).1 (h q (by simp)).2
    have g : (gN 3) (.str (tx q)) [x0, x1, x2, x3, none] = some [x0, x1, x2, some (.p (.str (tx q))), none] := by
      generalize tx q = z
      simp
    cases hq : dgB q with
    | true =>
      rw [hq] at i
      have b : ltB [x0, x1, x2, some (.p (.str (tx q))), none] = some (.nx [x0, x1, x2, some (.p (.str (tx q))), none]) := (sIf_f5 i).trans rfl
      have e := forO_cons (us := qs.map fun q => U.str (tx q)) g b
      rcases lt_for (qs := qs) (x3 := some (.p (.str (tx q)))) (fun z hz => h z (by simp [hz])) with ⟨h1, y, h2⟩ | ⟨h1, y, h2⟩
      · exact .inl ⟨by rw [List.all_cons, hq, h1]; rfl, y, by rw [List.map_cons]; exact e.trans h2⟩
      · exact .inr ⟨by rw [List.all_cons, hq, h1]; rfl, y, by rw [List.map_cons]; exact e.trans h2⟩
    | false =>
      rw [hq] at i
      have b : ltB [x0, x1, x2, some (.p (.str (tx q))), none] = some (.rt (.p (.bl false)) [x0, x1, x2, some (.p (.str (tx q))), none]) := (sIf_t5 i).trans (by generalize tx q = z; simp)
      refine .inr ⟨by rw [List.all_cons, hq]; rfl, [x0, x1, x2, some (.p (.str (tx q))), none], ?_⟩
      rw [List.map_cons]
      simp only [forO]
      rw [g, Option.bind_some, b]
      rfl
end
end UM
set_option Elab.async false
set_option linter.all false
set_option maxRecDepth 100000
set_option maxHeartbeats 1000000
/-! the law's look at a text: its parts -/
namespace UM
open PySem L2 UL LM TL TQ LV
section
variable {l p : List Nat} {rest : List (List Nat)} {x1 x2 x3 x4 : Option Ow}
abbrev st (q : List Nat) : U := .str (tx q)
theorem li1 (e : sp l = p :: rest) (hl : l.length ≤ 900) : (sSet 1 (mP (mF (mSplit (mVar 0) (mC (.str "/")))))) [some (.p (.str (tx l))), x1, x2, x3, x4] = some (.nx [some (.p (.str (tx l))), some (.p (.lst (st p :: rest.map st))), x2, x3, x4]) := by
  have sl : splitL (tx l) "/" = some ((p :: rest).map tx) := by
    have : splitL (tx l) "/" = some (Txt.split (tx l) "/") := if_pos ⟨by decide +kernel, by rw [tx_len]; exact Nat.le_of_lt (Nat.lt_of_le_of_lt (m := 1000) (by omega) size1)⟩
    rw [this, split_tx, e]
  have S : mSplit (mVar 0) (mC (.str "/")) [some (.p (.str (tx l))), x1, x2, x3, x4] = some (.l ((st p :: rest.map st).map .p), [some (.p (.str (tx l))), x1, x2, x3, x4]) := by
    unfold mSplit
    show ((splitL (tx l) "/").bind fun l' => some (Ow.l ((l'.map U.str).map .p), _)) = _
    rw [sl]
    show some (Ow.l ((((p :: rest).map tx).map U.str).map .p), _) = _
    rw [show (st p :: rest.map st) = (p :: rest).map st from rfl, List.map_map, List.map_map, List.map_map]
    rfl
  have fz : frz (.l ((st p :: rest.map st).map .p)) = .lst (st p :: rest.map st) := congrArg U.lst (frzs_map _)
  generalize st p :: rest.map st = us at *
  generalize mSplit (mVar 0) (mC (.str "/")) = mm at *
  generalize tx l = z at *
  generalize Ow.l (us.map .p) = ow at *
  simp [S, fz]
theorem li2 (hp : p.length ≤ 900) {us : List U} {x0 : Option Ow} : (sSet 2 (mP (mIf (mTest (m2 (UL.eqU 0) (mSl slS (m2 ixU (mVar 1) (mC (.int 0))) none (some (mC (.int 1)))) (mC (.str "-")))) (mSl slS (m2 ixU (mVar 1) (mC (.int 0))) (some (mC (.int 1))) none) (m2 ixU (mVar 1) (mC (.int 0)))))) [x0, some (.p (.lst (st p :: us))), x2, x3, x4] = some (.nx [x0, some (.p (.lst (st p :: us))), some (.p (.str (tx (hd p)))), x3, x4]) := by
  have a0 : ixU (.lst (st p :: us)) (.int 0) = some (.str (tx p)) := atI_nat' (n := 0) rfl
  have s1 := sl_tx (p := p) (by omega) (lo := none) (hi := some 1)
  have s2 := sl_tx (p := p) (by omega) (lo := some 1) (hi := none)
  rw [cut1] at s1
  rw [cut2] at s2
  have q1 : UL.eqU 0 (.str (tx (p.take 1))) (.str "-") = some (.bl (bel p)) := by
    rw [sM, eq_tx]
    rfl
  generalize U.lst (st p :: us) = lu at *
  cases c : bel p with
  | true =>
    have : hd p = p.drop 1 := if_pos c
    rw [this]
    rw [c] at q1
    generalize tx (p.drop 1) = z1 at *
    generalize tx (p.take 1) = z2 at *
    generalize tx p = z at *
    simp [-slS, -ixU_l, mSl, mPart, a0, s1, s2, q1]
  | false =>
    have : hd p = p := if_neg (by rw [c]; decide)
    rw [this]
    rw [c] at q1
    generalize tx (p.take 1) = z2 at *
    generalize tx p = z at *
    simp [-slS, -ixU_l, mSl, mPart, a0, s1, q1]
theorem cutU1 (a : U) (us : List U) : cutU (a :: us) (some 1) none = us := by
  unfold cutU
  have e1 : HT.sIx (a :: us).length 0 (some 1) = 1 := by
    simp [HT.sIx]
  have e2 : HT.sIx (a :: us).length (a :: us).length none = us.length + 1 := rfl
  rw [e1, e2]
  show List.take (us.length + 1 - 1) us = us
  rw [show us.length + 1 - 1 = us.length by omega, List.take_length]
theorem li3 (hr : rest.length ≤ 900) {x0 : Option Ow} : mSeq (m2 addU (mLst (mCons (mVar 2) mNil)) (mSl slU (mVar 1) (some (mC (.int 1))) none)) [x0, some (.p (.lst (st p :: rest.map st))), some (.p (.str (tx (hd p)))), x3, x4] = some ((hd p :: rest).map fun q => U.str (tx q), [x0, some (.p (.lst (st p :: rest.map st))), some (.p (.str (tx (hd p)))), x3, x4]) := by
  have s1 : slU (.lst (st p :: rest.map st)) (some 1) none = some (.lst (rest.map st)) := by
    show some (U.lst (cutU (st p :: rest.map st) (some 1) none)) = _
    rw [cutU1]
  have ad : addU (.lst [.str (tx (hd p))]) (.lst (rest.map st)) = some (.lst ((hd p :: rest).map fun q => U.str (tx q))) := by
    show (if [U.str (tx (hd p))].length + (rest.map st).length ≤ sizeLine then some (U.lst ([U.str (tx (hd p))] ++ rest.map st)) else none) = _
    rw [if_pos (by rw [List.length_map]; exact Nat.le_of_lt (Nat.lt_of_le_of_lt (m := 1000) (by simp; omega) size1))]
    rfl
  generalize ((hd p :: rest).map fun q => U.str (tx q)) = res at *
  generalize rest.map st = us at *
  generalize U.lst (st p :: us) = lu at *
  generalize tx (hd p) = z at *
  have r1 : U.lst us = U.lst us := rfl
  simp [-slU, -addU, mSl, mPart, s1, ad, seqU]
end
end UM
set_option Elab.async false
set_option linter.all false
set_option maxRecDepth 100000
set_option maxHeartbeats 1000000
/-! below nought, and nought -/
namespace TQ
open PySem TL
theorem jn_head (p : List Nat) (rest : List (List Nat)) : ∃ t, jn (p :: rest) = p ++ t := by
  cases rest with
  | nil => exact ⟨[], (List.append_nil p).symm⟩
  | cons b r => exact ⟨47 :: jn (b :: r), rfl⟩
theorem take2 {l p : List Nat} {rest : List (List Nat)} (e : sp l = p :: rest) (h : dgB (hd p) = true) : decide (l.take 2 = [45, 48]) = (bel p && decide (dv (hd p) = 0)) := by
  obtain ⟨t, ht⟩ := jn_head p rest
  have j := jn_sp l
  rw [e, ht] at j
  have hn := dgB_back h
  have hp := bel_hd (p := p)
  cases en : numL (dv (hd p)) with
  | nil => exact absurd en (numL_ne _)
  | cons a r =>
    have hh : hd p = a :: r := hn.trans en
    have da : 48 ≤ a ∧ a ≤ 57 := numL_digits (dv (hd p)) a (by rw [en]; simp)
    cases b : bel p with
    | true =>
      rw [b, if_pos rfl, hh] at hp
      rw [← j, hp]
      show decide (([45, a] : List Nat) = [45, 48]) = (true && decide (dv (hd (45 :: a :: r)) = 0))
      rw [hd_neg, Bool.true_and]
      refine decide_eq_decide.mpr ?_
      rw [hh] at en
      constructor
      · intro z
        have : a = 48 := by simpa using z
        subst this
        refine Nat.eq_zero_of_not_pos fun pz => ?_
        have := numL_head pz
        rw [en] at this
        exact this rfl
      · intro z
        rw [z] at en
        have e0 : numL 0 = [48] := numL_lt (n := 0) (by decide)
        rw [e0] at en
        have : a = 48 := by
          have := List.cons.inj en
          exact this.1.symm
        rw [this]
    | false =>
      rw [b, if_neg (by decide), hh] at hp
      rw [Bool.false_and]
      refine decide_eq_false fun z => ?_
      rw [← j, hp] at z
      cases r with
      | nil =>
        cases t with
        | nil => simp at z
        | cons c t =>
          have : a = 45 := by
            have := congrArg List.head? z
            simpa using this
          omega
      | cons c r =>
        have : a = 45 := by
          have := congrArg List.head? z
          simpa using this
        omega
end TQ
set_option Elab.async false
set_option linter.all false
set_option maxRecDepth 100000
set_option maxHeartbeats 1000000
/-! the law's look at a text: behind its parts -/
namespace UM
open PySem L2 UL LM TL TQ LV
theorem cut02 (l : List Nat) : cutS (tx l) none (some 2) = tx (l.take 2) := by
  show tx (((tx l).cps.toList.drop (HT.sIx (tx l).length 0 none)).take (HT.sIx (tx l).length (tx l).length (some 2) - HT.sIx (tx l).length 0 none)) = _
  rw [show (tx l).cps.toList = l from List.toList_toArray, tx_len]
  have e1 : HT.sIx l.length 0 none = 0 := rfl
  rw [e1]
  cases l with
  | nil => rfl
  | cons a r =>
    cases r with
    | nil => rfl
    | cons b r =>
      have e2 : HT.sIx (a :: b :: r).length (a :: b :: r).length (some 2) = 2 := by
        simp [HT.sIx]
      rw [e2]
      rfl
theorem intT_of {q : List Nat} (h : AllD q) (h0 : q ≠ []) (hl : q.length ≤ 640) : intT [.str (tx q)] = some (.int ((dv q : Nat) : Int)) := by
  have e : (tx q).cps.toList = q := List.toList_toArray
  have t : PySem.intText? (tx q) = some ((dv q : Nat) : Int) := by
    have := PySem.intText_digits (x := tx q) (by rw [e]; exact h) (by rw [e]; exact h0) (by rw [tx_len]; omega)
    rw [e] at this
    exact this
  show (if (tx q).length ≤ 640 then (PySem.intText? (tx q)).bind fun n => some (U.int n) else none) = _
  rw [if_pos (by rw [tx_len]; exact hl), t]
  rfl
section
variable {l : List Nat} {us : List U} {x2 x3 x4 : Option Ow}
theorem li4 (ha : Asc l) (hl : l.length ≤ 900) : (mOr (mTest (m2 gtU (mN lenU (mCons (mVar 1) mNil)) (mC (.int 2)))) (mTest (m2 (UL.eqU 0) (mSl slS (mVar 0) none (some (mC (.int 2)))) (mC (.str "-0"))))) [some (.p (.str (tx l))), some (.p (.lst us)), x2, x3, x4] = some (decide (2 < us.length) || decide (l.take 2 = [45, 48]), [some (.p (.str (tx l))), some (.p (.lst us)), x2, x3, x4]) := by
  have s1 := sl_tx (p := l) (by omega) (lo := none) (hi := some 2)
  rw [cut02] at s1
  have sZ : ("-0" : Str) = tx [45, 48] := by decide +kernel
  have q1 : UL.eqU 0 (.str (tx (l.take 2))) (.str "-0") = some (.bl (decide (l.take 2 = [45, 48]))) := by
    rw [sZ, eq_tx]
  have ln : lenU [.lst us] = some (.int us.length) := rfl
  have gt : gtU (.int (us.length : Int)) (.int 2) = some (.bl (decide (2 < us.length))) := by
    show some (U.bl (decide ((2 : Int) < (us.length : Int)))) = _
    congr 2
    exact decide_eq_decide.mpr (by omega)
  generalize decide (l.take 2 = [45, 48]) = b2 at *
  generalize decide (2 < us.length) = b1 at *
  generalize tx (l.take 2) = z2 at *
  generalize tx l = z at *
  generalize (us.length : Int) = n at *
  generalize U.lst us = lu at *
  cases b1 <;> simp [-slS, -lenU, -gtU, mSl, mPart, ln, gt, s1, q1]
end
end UM
set_option Elab.async false
set_option linter.all false
set_option maxRecDepth 100000
set_option maxHeartbeats 1000000
/-! the law's look at a text tells whether it is read -/
namespace UM
open PySem L2 UL LM TL TQ LV
section
variable {cs : List String} {l p : List Nat} {rest : List (List Nat)}
theorem rdP_some : (rdP p rest).isSome = (frm p rest && !bad p rest) := by
  unfold rdP
  cases frm p rest <;> cases bad p rest <;> simp
theorem is_text_eq (ha : Asc l) (hl : l.length ≤ 200) : m__law_is_text cs [.str (tx l)] = some (.bl (rdN l).isSome) := by
  obtain ⟨p, rest, e⟩ : ∃ p rest, sp l = p :: rest := by
    cases h : sp l with
    | nil => exact absurd h (spl_ne l [])
    | cons p rest => exact ⟨p, rest, rfl⟩
  have hm : ∀ q ∈ p :: rest, (∀ c ∈ q, c ∈ l) ∧ q.length ≤ l.length := fun q hq => mem_sp (by rw [e]; exact hq)
  have hpl := (hm p (by simp)).2
  have hdm : (∀ c ∈ hd p, c ∈ p) ∧ (hd p).length ≤ p.length := by
    unfold TQ.hd
    split
    · exact ⟨fun c hc => List.mem_of_mem_drop hc, by rw [List.length_drop]; omega⟩
    · exact ⟨fun c hc => hc, Nat.le_refl _⟩
  have hq : ∀ q ∈ hd p :: rest, Asc q ∧ q.length ≤ 200 := fun q hq' => by
    rcases List.mem_cons.mp hq' with rfl | h
    · exact ⟨fun c hc => ha c ((hm p (by simp)).1 c (hdm.1 c hc)), by omega⟩
    · exact ⟨fun c hc => ha c ((hm q (by simp [h])).1 c hc), Nat.le_trans (hm q (by simp [h])).2 hl⟩
  have hrl : rest.length ≤ 900 := by
    have : (sp l).length ≤ l.length + 1 := spl_len l []
    rw [e, List.length_cons] at this
    omega
  have R : rdN l = rdP p rest := by
    unfold rdN
    rw [e]
  rw [R, rdP_some]
  have it := li3 (p := p) (rest := rest) hrl (x0 := some (.p (.str (tx l)))) (x3 := none) (x4 := none)
  unfold m__law_is_text b__law_is_text
  refine Ex.fnP rfl ?_
  refine Ex.seq (li1 e (by omega)) ?_
  refine Ex.seq (li2 (by omega)) ?_
  rcases lt_for (x0 := some (.p (.str (tx l)))) (x1 := some (.p (.lst (st p :: rest.map st)))) (x2 := some (.p (.str (tx (hd p))))) (qs := hd p :: rest) (x3 := none) (fun q h => ⟨(hq q h).1, by have := (hq q h).2; omega⟩) with ⟨h1, y, F⟩ | ⟨h1, y, F⟩
  · refine Ex.seq (e := [some (.p (.str (tx l))), some (.p (.lst (st p :: rest.map st))), some (.p (.str (tx (hd p)))), y, none]) (by rw [sFor_d, it, Option.bind_some]; exact F) ?_
    rw [List.all_cons, Bool.and_eq_true] at h1
    obtain ⟨okh, okr⟩ := h1
    have c4 := li4 (l := l) (us := st p :: rest.map st) (x2 := some (.p (.str (tx (hd p))))) (x3 := y) (x4 := none) ha (by omega)
    rw [take2 e okh] at c4
    have ln : (st p :: rest.map st).length = rest.length + 1 := by rw [List.length_cons, List.length_map]
    rw [ln] at c4
    cases c : (decide (2 < rest.length + 1) || (bel p && decide (dv (hd p) = 0))) with
    | true =>
      rw [c] at c4
      have fb : (frm p rest && !bad p rest) = false := by
        unfold frm bad
        rw [Bool.or_eq_true] at c
        rcases c with c | c
        · rw [decide_eq_false (p := rest.length ≤ 1) (by have := of_decide_eq_true c; omega)]
          rfl
        · rw [c]
          simp
      rw [fb]
      exact ⟨.rt (.p (.bl false)) [some (.p (.str (tx l))), some (.p (.lst (st p :: rest.map st))), some (.p (.str (tx (hd p)))), y, none], sSeq_rt5 ((sIf_t5 c4).trans (by
        generalize U.lst (st p :: rest.map st) = lu
        generalize tx l = z
        generalize tx (hd p) = z2
        simp)), rfl⟩
    | false =>
      rw [c] at c4
      rw [Bool.or_eq_false_iff] at c
      obtain ⟨cl, cb⟩ := c
      have cl := of_decide_eq_false cl
      refine Ex.seq ((sIf_f5 c4).trans rfl) ?_
      have fr : frm p rest = true := by
        unfold frm
        rw [okh, okr, decide_eq_true (by omega)]
        rfl
      rw [fr, Bool.true_and]
      have i0 := intT_of (dgB_all okh).1 (dgB_all okh).2 (by have := (hq (hd p) (by simp)).2; omega)
      clear F it c4
      cases rest with
      | nil =>
        have nb : bad p [] = false := by
          unfold bad
          rw [cb]
          rfl
        rw [nb]
        refine ⟨.rt (.p (.bl true)) [some (.p (.str (tx l))), some (.p (.lst [st p])), some (.p (.str (tx (hd p)))), y, none], ?_, rfl⟩
        have le : lenU [.lst [st p]] = some (.int 1) := rfl
        show (sRet _) [some (.p (.str (tx l))), some (.p (.lst [st p])), some (.p (.str (tx (hd p)))), y, none] = _
        generalize U.lst [st p] = lu at *
        generalize tx l = z at *
        generalize tx (hd p) = z2 at *
        simp [-lenU, le]
      | cons c r =>
        cases r with
        | cons d r => simp at cl
        | nil =>
          have okc : dgB c = true := by simpa using okr
          have i1 := intT_of (dgB_all okc).1 (dgB_all okc).2 (by have := (hq c (by simp)).2; omega)
          have b1 := dv_lt okc (hq c (by simp)).2
          have gd := gcd_eq (cs := cs) (a := ((dv (hd p) : Nat) : Int)) (b := ((dv c : Nat) : Int)) (Nat.lt_of_lt_of_le (Nat.lt_of_lt_of_le b1 (show 10 ^ 200 ≤ 2 ^ 700 by decide +kernel)) (Nat.pow_le_pow_right (by decide) (by decide)))
          have gN : Int.gcd ((dv (hd p) : Nat) : Int) ((dv c : Nat) : Int) = Nat.gcd (dv (hd p)) (dv c) := rfl
          rw [gN] at gd
          have nb : (!bad p [c]) = (decide (1 < dv c) && decide (Nat.gcd (dv (hd p)) (dv c) = 1)) := by
            have : bad p [c] = ((bel p && decide (dv (hd p) = 0)) || (decide (dv c < 2) || !decide (Nat.gcd (dv (hd p)) (dv c) = 1))) := rfl
            rw [this, cb, Bool.false_or]
            by_cases z : dv c < 2
            · rw [decide_eq_true z, decide_eq_false (p := 1 < dv c) (by omega)]
              rfl
            · rw [decide_eq_false z, decide_eq_true (p := 1 < dv c) (by omega)]
              simp
          rw [nb]
          refine ⟨.rt (.p (.bl (decide (1 < dv c) && decide (Nat.gcd (dv (hd p)) (dv c) = 1)))) [some (.p (.str (tx l))), some (.p (.lst [st p, st c])), some (.p (.str (tx (hd p)))), y, none], ?_, rfl⟩
          have le : lenU [.lst [st p, st c]] = some (.int 2) := rfl
          have a1 : ixU (.lst [st p, st c]) (.int 1) = some (.str (tx c)) := atI_nat' (n := 1) rfl
          have gt : gtU (.int ((dv c : Nat) : Int)) (.int 1) = some (.bl (decide (1 < dv c))) := by
            show some (U.bl (decide ((1 : Int) < ((dv c : Nat) : Int)))) = _
            congr 2
            exact decide_eq_decide.mpr (by omega)
          have eg : UL.eqU 0 (.int ((Nat.gcd (dv (hd p)) (dv c) : Nat) : Int)) (.int 1) = some (.bl (decide (Nat.gcd (dv (hd p)) (dv c) = 1))) := by
            show some (U.bl (decide (((Nat.gcd (dv (hd p)) (dv c) : Nat) : Int) = 1))) = _
            congr 2
            exact decide_eq_decide.mpr (by omega)
          clear nb b1 gN hq hm okr okc fr e
          show (sRet _) [some (.p (.str (tx l))), some (.p (.lst [st p, st c])), some (.p (.str (tx (hd p)))), y, none] = _
          generalize decide (Nat.gcd (dv (hd p)) (dv c) = 1) = d1 at *
          generalize ((Nat.gcd (dv (hd p)) (dv c) : Nat) : Int) = gi at *
          generalize decide (1 < dv c) = d2 at *
          generalize ((dv c : Nat) : Int) = Mi at *
          generalize ((dv (hd p) : Nat) : Int) = Ni at *
          generalize U.lst [st p, st c] = lu at *
          generalize tx c = z3 at *
          generalize tx l = z at *
          generalize tx (hd p) = z2 at *
          cases d2 <;> simp [-lenU, -gtU, -intT, -ixU_l, le, a1, gt, eg, i0, i1, gd]
  · have fr : frm p rest = false := by
      unfold frm
      rw [List.all_cons] at h1
      rw [h1, Bool.and_false]
    rw [fr, Bool.false_and]
    exact ⟨.rt (.p (.bl false)) y, sSeq_rt5 (by rw [sFor_d, it, Option.bind_some]; exact F), rfl⟩
end
end UM
set_option Elab.async false
set_option linter.all false
set_option maxRecDepth 100000
set_option maxHeartbeats 4000000
/-! words of places, dicts, draws from dicts -/
namespace UL
open PySem L2 LM
section
variable {env : Env} {i j l : Nat} {a b c k : M U} {w x : Ow} {ws : List Ow} {us : List U}
@[simp] theorem mListO_d {m : M (List U)} : mListO m env = (m env).bind fun x => (seq1 x.1).bind fun us => some (.l (us.map .p), x.2) := rfl
@[simp] theorem seq1_l : seq1 [.lst us] = some us := rfl
@[simp] theorem seq1_t : seq1 [.tup us] = some us := rfl
@[simp] theorem plV_d : plV i env = (atS env i).bind fun _ => some (i, []) := rfl
@[simp] theorem plK_d {f : Str} {p : PL} : plK f p env = (p env).bind fun x => (getE env x.1 x.2).bind fun w => (isDk f w).bind fun _ => some (x.1, x.2 ++ [.k f]) := rfl
@[simp] theorem mRd_d {p : PL} : mRd p env = (p env).bind fun x => (getE env x.1 x.2).bind fun w => (isP w).bind fun u => some (u, env) := rfl
@[simp] theorem getE_0 {e : Env} {p : List Sg} : getE (some w :: e) 0 p = getO w p := rfl
@[simp] theorem getE_s {z : Option Ow} {e : Env} {p : List Sg} : getE (z :: e) (i + 1) p = getE e i p := rfl
@[simp] theorem putE_0 {e : Env} {p : List Sg} : putE (some w :: e) 0 p x = some (putO w p x) :: e := rfl
@[simp] theorem putE_s {z : Option Ow} {e : Env} {p : List Sg} : putE (z :: e) (i + 1) p x = z :: putE e i p x := by
  unfold putE
  simp only [List.getElem?_cons_succ]
  rcases e[i]? with _ | _ | y <;> rfl
@[simp] theorem getO_nil : getO w [] = some w := rfl
@[simp] theorem getO_k {ks : List Str} {f : Str} {p : List Sg} : getO (.d ks ws) (.k f :: p) = ((ixF f ks).bind fun j => ws[j]?).bind fun x => getO x p := rfl
@[simp] theorem putO_nil : putO w [] x = x := rfl
@[simp] theorem putO_k {ks : List Str} {f : Str} {p : List Sg} : putO (.d ks ws) (.k f :: p) x = match (ixF f ks).bind fun j => ws[j]? with
  | some y => put1 (.d ks ws) (.k f) (putO y p x)
  | none => .d ks ws := rfl
@[simp] theorem isDk_d {ks : List Str} {f : Str} : isDk f (.d ks ws) = (ixF f ks).bind fun j => (ws[j]?).bind fun _ => some () := rfl
@[simp] theorem isDi_d {ks : List Str} : isDi (.d ks ws) = some (ks, ws) := rfl
@[simp] theorem isLs_l : isLs (.l ws) = some ws := rfl
@[simp] theorem sDPt_d {p : PL} {f : Str} {m : M Ow} : sDPt p f m env = (m env).bind fun x => (p x.2).bind fun y => (getE x.2 y.1 y.2).bind fun w => (isDi w).bind fun z => (dpt z.1 z.2 f x.1).bind fun w' => some (.nx (putE x.2 y.1 y.2 w')) := rfl
@[simp] theorem mAppP_d {p : PL} : mAppP p a env = (p env).bind fun x => (getE env x.1 x.2).bind fun w => (isLs w).bind fun ws => (a env).bind fun y => if ws.length < sizeLine then some (.non, putE env x.1 x.2 (.l (ws ++ [.p y.1]))) else none := rfl
@[simp] theorem mAppD_d {f : Str} : mAppD i f a env = (plK f (plV i) env).bind fun _ => (getE env i [.k f]).bind fun w => (isLs w).bind fun _ => (a env).bind fun y => (getE y.2 i [.k f]).bind fun w => (isLs w).bind fun ws => if ws.length < sizeLine then some (.non, putE y.2 i [.k f] (.l (ws ++ [.p y.1]))) else none := rfl
@[simp] theorem mDisp_d {fs : List Str} {m : M (List U)} : mDisp fs m env = (m env).bind fun x => if fs.Nodup ∧ fs.length ≤ 15 then some (.d fs (x.1.map .p), x.2) else none := rfl
@[simp] theorem mOpA_d {f : U → U → Option U} {p : PL} : mOpA f p b env = (p env).bind fun y => (getE env y.1 y.2).bind fun w => (b env).bind fun x => (f (frz w) x.1).bind fun z => if tO z = true then some (z, x.2) else none := rfl
@[simp] theorem mCallIR_d {f : Ow → List U → Option (Ow × Ow)} {r : M (List U)} : mCallIR i f r env = (atS env i).bind fun _ => (r env).bind fun x => (atS x.2 i).bind fun w => (f w x.1).bind fun z => some (z.1, x.2.set i (some z.2)) := by
  unfold mCallIR
  rw [hasS_d]
  cases atS env i <;> rfl
@[simp] theorem mCallIB_d {f : Ow → List U → Option (U × Ow)} {r : M (List U)} : mCallIB i j f r env = (atS env i).bind fun _ => (atS env j).bind fun _ => (r env).bind fun x => (atS x.2 i).bind fun w => (atS x.2 j).bind fun wp => (f w (frz wp :: x.1)).bind fun z => if i ≠ j ∧ tO z.1 = true ∧ okW (atsO w) z.2 = true then some (z.1, x.2.set i (some z.2)) else none := by
  unfold mCallIB
  rw [hasS_d, hasS_d]
  cases atS env i <;> cases atS env j <;> rfl
@[simp] theorem mCallBR_d {f : List U → Option Ow} {r : M (List U)} : mCallBR j f r env = (atS env j).bind fun _ => (r env).bind fun x => (atS x.2 j).bind fun w => (f (frz w :: x.1)).bind fun z => if tW z = true then some (z, x.2) else none := by
  unfold mCallBR
  rw [hasS_d]
  cases atS env j <;> rfl
theorem mRng1_i {m : M (List U)} {n : Int} {e : Env} (h : m env = some ([.int n], e)) (hn : n.natAbs < 2 ^ 60) : mRng1 m env = some (rngU 0 n.toNat, e) := by
  unfold mRng1
  rw [h]
  show (if -2 ^ 62 ≤ n ∧ n < 2 ^ 62 then some (rngU 0 n.toNat, e) else none) = _
  rw [if_pos]
  have a : ((2 : Int) ^ 62) = 4611686018427387904 := by decide
  have b : ((2 : Nat) ^ 60) = 1152921504606846976 := by decide
  omega
theorem rngU_map (n : Nat) : rngU 0 n = (List.range n).map fun (k : Nat) => U.int (k : Int) := by
  unfold rngU
  simp
@[simp] theorem frz_p {u : U} : frz (.p u) = u := rfl
@[simp] theorem frz_d {ks : List Str} : frz (.d ks ws) = .dic ks (frzs ws) := rfl
@[simp] theorem frz_o {c : String} {ks : List Str} : frz (.o c ks ws) = .obj c ks (frzs ws) := rfl
@[simp] theorem frzs_nil : frzs [] = [] := rfl
@[simp] theorem frzs_cons : frzs (w :: ws) = frz w :: frzs ws := rfl
end
end UL
set_option Elab.async false
set_option linter.all false
set_option maxRecDepth 100000
set_option maxHeartbeats 4000000
namespace UM
open PySem L2 UL
def b__law_same (cs : List String) (rec : List U → Option U) : MS :=
  (sSeq (sIf (mTest (m1 (isiA cs ["list", "tuple"]) (mVar 1))) (sSeq (sIf (mOr (mTest (m2 (neN 3) (m1 (isiU cs "list") (mVar 0)) (m1 (isiU cs "list") (mVar 1)))) (mTest (m2 (neN 3) (m1 (isiU cs "tuple") (mVar 0)) (m1 (isiU cs "tuple") (mVar 1))))) (sRet (mP (mC (.bl false)))) sNext)
    (sRet (mP (mAndV (m2 (eqU 3) (mN lenU (mCons (mVar 0) mNil)) (mN lenU (mCons (mVar 1) mNil))) (mN allU (mCons (mLc [2, 3] (mZip (mCons (mVar 0) (mCons (mVar 1) mNil))) (gT 2 (gsCons (gN 2) (gsCons (gN 3) gsNil))) mYes (mN rec (mCons (mVar 2) (mCons (mVar 3) mNil)))) mNil)))))) sNext)
    (sSeq (sIf (mTest (m1 (isiU cs "int") (mVar 1))) (sRet (mP (mAndV (m1 (isiU cs "int") (mVar 0)) (mAndV (m2 (eqU 3) (m1 (isiU cs "bool") (mVar 0)) (m1 (isiU cs "bool") (mVar 1))) (m2 (eqUd 0) (mVar 0) (mVar 1)))))) sNext)
    (sRet (mP (mAndV (m2 isBU (m1 (isiA cs ["bool", "int", "list", "tuple"]) (mVar 0)) (mC (.bl false))) (m2 (eqUd 0) (mVar 0) (mVar 1)))))))
def m__law_same (cs : List String) : Nat → List U → Option U
  | 0 => fun _ => none
  | n + 1 => fnP 2 2 (b__law_same cs (m__law_same cs n))
end UM
set_option Elab.async false
set_option linter.all false
set_option maxRecDepth 100000
set_option maxHeartbeats 4000000
/-! the same thing, told twice, is the same (k05) -/
namespace UM
open PySem L2 UL LM
section
variable {cs : List String}
theorem sSeq_rt {s u : MS} {env e : UL.Env} {w : Ow} (h : s env = some (.rt w e)) : sSeq s u env = some (.rt w e) := by simp [sSeq, h]
theorem sIf_t {c : M Bool} {a b : MS} {env e : UL.Env} (h : c env = some (true, e)) : sIf c a b env = a e := by simp [sIf, h]
theorem sIf_f {c : M Bool} {a b : MS} {env e : UL.Env} (h : c env = some (false, e)) : sIf c a b env = b e := by simp [sIf, h]
/-! the same thing -/
def flatS : U → Prop
  | .non => True
  | .bl _ => True
  | .int _ => True
  | .str _ => True
  | .q _ => True
  | .dic [] [] => True
  | _ => False
def okS : Nat → U → Prop
  | 0, _ => False
  | n + 1, u => flatS u ∨ ∃ us, (u = .lst us ∨ u = .tup us) ∧ us.length ≤ 1000 ∧ ∀ x ∈ us, okS n x
theorem neN_bb {a b : Bool} {n : Nat} : neN n (.bl a) (.bl b) = some (.bl (!decide (a = b))) := by
  cases a <;> cases b <;> simp [neN, neU, toD, SeqAt.shaped, PyData.canLay0, PyData.depth, PyData.eqv]
theorem zip_self : ∀ us : List U, zipU us us = us.map fun x => U.tup [x, x]
  | [] => rfl
  | a :: r => by
    have := zip_self r
    unfold zipU at this ⊢
    simp [this]
theorem allB_true {us : List U} : allB (us.map fun _ => U.bl true) = some (us.map fun _ => true) := by
  induction us with
  | nil => rfl
  | cons u us ih => simp [allB, ih]
theorem same_self : ∀ (n : Nat) (u : U), okS n u → m__law_same cs n [u, u] = some (.bl true)
  | 0, _, h => h.elim
  | n + 1, u, h => by
    have lst : ∀ us : List U, us.length ≤ 1000 → (∀ x ∈ us, okS n x) → ∀ u, (u = .lst us ∨ u = .tup us) → m__law_same cs (n + 1) [u, u] = some (.bl true) := fun us hl hu u hh => by
      have hlc := lc_eq (xs := us) (fun x => U.tup [x, x]) (fun _ => true) (fun _ => .bl true) (vs := [2, 3]) (g := gT 2 (gsCons (gN 2) (gsCons (gN 3) gsNil))) (tt := mYes) (te := mN (m__law_same cs n) (mCons (mVar 2) (mCons (mVar 3) mNil))) (env := [some (.p u), some (.p u), none, none]) (Nat.lt_of_le_of_lt hl (by decide)) (by
        intro x hx
        have := same_self n x (hu x hx)
        refine ⟨_, by simp [wipeE]; rfl, _, by simp; rfl, fun _ => ⟨_, by simp [this]; rfl, by simp [restE, keepP]⟩, fun h => by cases h⟩)
      have hz : zipU us us = us.map fun x => U.tup [x, x] := zip_self us
      have ha : allB ((us.filter fun _ => true).map fun _ => U.bl true) = some ((us.filter fun _ => true).map fun _ => true) := allB_true
      unfold m__law_same
      refine Ex.fnP rfl ?_
      have hall : ((us.filter fun _ => true).map fun _ => true).all id = true := by simp
      rcases hh with rfl | rfl
      · refine ⟨.rt (.p (.bl true)) [some (.p (.lst us)), some (.p (.lst us)), none, none], ?_, rfl⟩
        unfold b__law_same
        refine sSeq_rt ?_
        rw [sIf_t (e := [some (.p (.lst us)), some (.p (.lst us)), none, none]) (by simp [env0, isiA, kwn, isiN, tyU]), sSeq_nx (e := [some (.p (.lst us)), some (.p (.lst us)), none, none]) (sIf_f (by simp [isiU, kwn, isiN, tyU, neN_bb]))]
        simp [mZip, hz, hlc, allU, ha]
      · refine ⟨.rt (.p (.bl true)) [some (.p (.tup us)), some (.p (.tup us)), none, none], ?_, rfl⟩
        unfold b__law_same
        refine sSeq_rt ?_
        rw [sIf_t (e := [some (.p (.tup us)), some (.p (.tup us)), none, none]) (by simp [env0, isiA, kwn, isiN, tyU]), sSeq_nx (e := [some (.p (.tup us)), some (.p (.tup us)), none, none]) (sIf_f (by simp [isiU, kwn, isiN, tyU, neN_bb]))]
        simp [mZip, hz, hlc, allU, ha]
    rcases h with h | ⟨us, hh, hl, hu⟩
    · unfold m__law_same
      refine Ex.fnP rfl ?_
      have fin : ∀ u : U, b__law_same cs (m__law_same cs n) (env0 ([u, u].map .p) 2) = some (.rt (.p (.bl true)) [some (.p u), some (.p u), none, none]) → Ex (b__law_same cs (m__law_same cs n)) (env0 ([u, u].map .p) 2) fun f => match f with
        | .rt w _ => w = .p (.bl true)
        | .nx _ => U.bl true = .non
        | .bk _ => False := fun u h => ⟨_, h, rfl⟩
      cases u with
      | non => exact fin _ (by simp [b__law_same, env0, isiA, isiU, kwn, isiN, tyU, isBU, eqUd, UL.eqU, eqN, eqF])
      | bl b => exact fin _ (by simp [b__law_same, env0, isiA, isiU, kwn, isiN, tyU, isBU, eqUd, UL.eqU, eqN, eqF])
      | int i => exact fin _ (by simp [b__law_same, env0, isiA, isiU, kwn, isiN, tyU, isBU, eqUd, UL.eqU, eqN, eqF])
      | str x => exact fin _ (by simp [b__law_same, env0, isiA, isiU, kwn, isiN, tyU, isBU, eqUd, UL.eqU, eqN, eqF])
      | q r => exact fin _ (by simp [b__law_same, env0, isiA, isiU, kwn, isiN, tyU, isBU, eqUd, UL.eqU, eqN, eqF])
      | lst us => cases h
      | tup us => cases h
      | obj c ns us => cases h
      | dic ks us =>
        match ks, us, h with
        | [], [], _ => exact fin _ (by simp [b__law_same, env0, isiA, isiU, kwn, isiN, tyU, isBU, eqUd])
      | kt c => cases h
      | atl c us => cases h
    · exact lst us hl hu u hh
end
end UM
set_option Elab.async false
set_option linter.all false
set_option maxRecDepth 100000
set_option maxHeartbeats 1000000
/-! k04: what the law draws -/
namespace UM
open PySem L2 UL LM TL TQ LV
theorem fr_ne (a : Rat) (n : Nat) : neN (n + 1) (fr a) (fr a) = some (.bl false) := by
  have q : ∀ i j : Int, eqN n (.int i) (.int j) = some (decide (i = j)) := fun i j => by cases n <;> rfl
  unfold fr
  rw [neN_tt]
  simp only [eqN, List.length_cons, List.length_nil, if_true, allEq, q, Option.bind_some]
  simp
theorem pw_90 : (10 : Nat) ^ 38 < 10 ^ 39 ∧ (10 : Nat) ^ 12 < 10 ^ 13 ∧ ∃ Y : Nat, 2 * 10 ^ 38 ≤ Y ∧ 10 ^ 12 ≤ Y ∧ Y < 2 ^ 8500 ∧ Y < 2 ^ 9000 := ⟨by decide +kernel, by decide +kernel, 2 ^ 200, by decide +kernel, by decide +kernel, Nat.pow_lt_pow_right (by decide) (by decide), Nat.pow_lt_pow_right (by decide) (by decide)⟩
section
variable {cs : List String} {ca : Addr} {w : Ow}
/-- the bounds of a drawn fraction -/
def Small (r : Rat) : Prop := r.num.natAbs < 10 ^ 39 ∧ r.den < 10 ^ 13
theorem top_cases {u : U} (h : u ∈ [.int 4, .int 12, .int 1000, .int 1000000000000, .int 100000000000000000000000000000000000000]) : ∃ t : Int, u = .int t ∧ 1 ≤ t ∧ t ≤ ((10 ^ 38 : Nat) : Int) := by
  simp only [List.mem_cons, List.not_mem_nil, or_false] at h
  rcases h with rfl | rfl | rfl | rfl | rfl <;> exact ⟨_, rfl, by decide +kernel, by decide +kernel⟩
theorem low_cases {u : U} (h : u ∈ [.int 1, .int 2, .int 6, .int 1000, .int 1000000000000]) : ∃ t : Int, u = .int t ∧ 1 ≤ t ∧ t ≤ ((10 ^ 12 : Nat) : Int) := by
  simp only [List.mem_cons, List.not_mem_nil, or_false] at h
  rcases h with rfl | rfl | rfl | rfl | rfl <;> exact ⟨_, rfl, by decide +kernel, by decide +kernel⟩
theorem some_frac4 (h : StA ca w) : ∃ (r : Rat) (w' : Ow), m__law_some_frac cs w [] = some (fr r, w') ∧ Small r ∧ StA ca w' := by
  have e12 : powU (.int 10) (.int 12) = some (.int 1000000000000) := by simp [powU]
  have e38 : powU (.int 10) (.int 38) = some (.int 100000000000000000000000000000000000000) := by simp [powU]
  obtain ⟨u1, w1, t1, m1', k1⟩ := one_spec (cs := cs) h (us := [.int 4, .int 12, .int 1000, .int 1000000000000, .int 100000000000000000000000000000000000000]) (by simp) (by simp)
  obtain ⟨t, rfl, q1, q2⟩ := top_cases m1'
  obtain ⟨p1, p2, Y, y1, y2, y3, y4⟩ := pw_90
  have lc := fun u : U => low_cases (u := u)
  unfold Small
  generalize (10 ^ 38 : Nat) = A at *
  generalize (10 ^ 12 : Nat) = B at *
  generalize (10 ^ 39 : Nat) = C at *
  generalize (10 ^ 13 : Nat) = D at *
  have s1 : mulU (.int 2) (.int t) = some (.int (2 * t)) := mulU_l (by decide)
  obtain ⟨u2, w2, t2, d, rfl, d0, d1, k2⟩ := take_spec (cs := cs) k1 (z := 2 * t) (by omega) (Nat.lt_of_le_of_lt (m := Y) (by omega) y4)
  obtain ⟨u3, w3, t3, m3, k3⟩ := one_spec (cs := cs) k2 (us := [.int 1, .int 2, .int 6, .int 1000, .int 1000000000000]) (by simp) (by simp)
  obtain ⟨z, rfl, z1, z2⟩ := lc _ m3
  obtain ⟨u4, w4, t4, b, rfl, b0, b1, k4⟩ := take_spec (cs := cs) k3 (z := z) (by omega) (Nat.lt_of_le_of_lt (m := Y) (by omega) y4)
  have a1 : subU (.int d) (.int t) = some (.int (d - t)) := rfl
  have a2 : addU (.int 1) (.int b) = some (.int (1 + b)) := rfl
  have fe := frac_eq (cs := cs) (o := d - t) (u := 1 + b) (by omega) (Nat.lt_of_le_of_lt (m := Y) (by omega) y3)
  have dd := abs_rD (o := d - t) (u := 1 + b) (by omega)
  have dn := abs_rO (o := d - t) (u := 1 + b) (by omega)
  have rr := rat_of (o := d - t) (u := 1 + b) (by omega)
  refine ⟨Rat.divInt (d - t) (1 + b), w4, ?_, ⟨?_, ?_⟩, k4⟩
  · unfold m__law_some_frac b__law_some_frac
    refine fnI_rt (e := [some w4, some (.p (.int t))]) rfl ?_ rfl
    have S1 : sSet 1 (mP (mCallI 0 (m__law_one cs) (mCons (mLst (mCons (mC (.int 4)) (mCons (mC (.int 12)) (mCons (mC (.int 1000)) (mCons (m2 powU (mC (.int 10)) (mC (.int 12))) (mCons (m2 powU (mC (.int 10)) (mC (.int 38))) mNil)))))) mNil))) (env0 (w :: [].map .p) 1) = some (.nx [some w1, some (.p (.int t))]) := by
      simp [-powU, env0, e12, e38, t1]
    rw [sSeq_nx S1]
    simp [-powU, e12, s1, t2, t3, t4, a1, a2, fe]
  · rw [← rr.1]
    omega
  · have : (rD (d - t) (1 + b)).natAbs = (Rat.divInt (d - t) (1 + b)).den := by rw [rr.2]; rfl
    omega
/-! the texts -/
theorem sH : ("/2" : Str) = tx [47, 50] := by decide +kernel
theorem small_90 {r : Rat} (h : Small r) : r.num.natAbs < 10 ^ 90 ∧ r.den < 10 ^ 90 := ⟨Nat.lt_of_lt_of_le h.1 (Nat.pow_le_pow_right (by decide) (by decide)), Nat.lt_of_lt_of_le h.2 (Nat.pow_le_pow_right (by decide) (by decide))⟩
theorem asc_num (n : Nat) : Asc (numL n) := asc_all (numL_digits n)
theorem asc_app {a b : List Nat} (ha : Asc a) (hb : Asc b) : Asc (a ++ b) := fun c hc => by
  rcases List.mem_append.mp hc with h | h
  · exact ha c h
  · exact hb c h
theorem asc_cons {c : Nat} {b : List Nat} (hc : c < 128) (hb : Asc b) : Asc (c :: b) := fun d hd => by
  rcases List.mem_cons.mp hd with rfl | h
  · exact hc
  · exact hb d h
theorem asc_nil : Asc [] := fun c hc => by cases hc
theorem txt_asc (r : Rat) : Asc (txt r) := by
  unfold txt
  refine asc_app (asc_app ?_ (asc_num _)) ?_
  · split
    · exact asc_cons (by decide) asc_nil
    · exact asc_nil
  · split
    · exact asc_nil
    · exact asc_cons (by decide) (asc_num _)
theorem txt_len {r : Rat} (h : Small r) : (txt r).length ≤ 54 := by
  have l1 : (numL r.num.natAbs).length ≤ 39 := numL_len (by decide) h.1
  have l2 : (numL r.den).length ≤ 13 := numL_len (by decide) h.2
  unfold txt
  rw [List.length_append, List.length_append]
  have a1 : (if r.num < 0 then [45] else [] : List Nat).length ≤ 1 := by split <;> decide
  have a2 : (if r.den = 1 then [] else 47 :: numL r.den).length ≤ 14 := by
    split
    · simp
    · rw [List.length_cons]
      omega
  omega
theorem txt_small {r : Rat} (h : (txt r).length ≤ 60) : r.num.natAbs < 10 ^ 90 ∧ r.den < 10 ^ 90 := by
  unfold txt at h
  rw [List.length_append, List.length_append] at h
  have w : (10 : Nat) ^ 60 ≤ 10 ^ 90 := Nat.pow_le_pow_right (by decide) (by decide)
  refine ⟨Nat.lt_of_lt_of_le (TQ.num_lt (k := 60) (by omega)) w, ?_⟩
  by_cases c : r.den = 1
  · rw [c]
    decide +kernel
  · rw [if_neg c, List.length_cons] at h
    exact Nat.lt_of_lt_of_le (TQ.num_lt (k := 60) (by omega)) w
abbrev L14 : List U := [.str "", .str "-", .str "0/1", .str "3/1", .str "2/4", .str "-0", .str "-0/5", .str "01", .str "1/02", .str "+1", .str " 1", .str "1 ", .str "1/", .str "/2"]
abbrev L3 : List U := [.str "1/2/3", .str "1.5", .str "--1"]
abbrev L6 : List U := [.str "a", .str "1/-2", .str "0/5", .str "-3/2", .str "7", .str "0"]
abbrev LW (r : Rat) : List U := [.str (tx (txt r ++ [48])), .str (tx (48 :: txt r)), .str (tx (txt r ++ [47, 50])), .str (tx (45 :: txt r))]
def LAll (r : Rat) : List U := L14 ++ L3 ++ (L6 ++ LW r)
theorem lAll_ne (r : Rat) : LAll r ≠ [] := by
  unfold LAll
  simp
theorem lAll_len (r : Rat) : (LAll r).length ≤ 1000 := by
  unfold LAll
  simp
def gdB (u : U) : Bool := match u with
  | .str s => s.cps.toList.all (fun c => decide (c < 128)) && decide (s.cps.toList.length ≤ 60)
  | _ => false
theorem gdB_ok {u : U} (h : gdB u = true) : ∃ l, u = .str (tx l) ∧ Asc l ∧ l.length ≤ 60 := by
  cases u with
  | str s =>
    have h : (s.cps.toList.all (fun c => decide (c < 128)) && decide (s.cps.toList.length ≤ 60)) = true := h
    rw [Bool.and_eq_true] at h
    refine ⟨s.cps.toList, ?_, fun c hc => ?_, of_decide_eq_true h.2⟩
    · congr 1
    · exact of_decide_eq_true (List.all_eq_true.mp h.1 c hc)
  | _ => cases h
theorem fix_ok : (L14 ++ L3 ++ L6).all gdB = true := by decide +kernel
theorem lAll_ok {r : Rat} (hs : Small r) {u : U} (h : u ∈ LAll r) : ∃ l, u = .str (tx l) ∧ Asc l ∧ l.length ≤ 60 := by
  have tl := txt_len hs
  have ta := txt_asc r
  unfold LAll at h
  rw [← List.append_assoc] at h
  rcases List.mem_append.mp h with h | h
  · exact gdB_ok (List.all_eq_true.mp fix_ok u h)
  · simp only [List.mem_cons, List.not_mem_nil, or_false] at h
    rcases h with rfl | rfl | rfl | rfl
    · exact ⟨_, rfl, asc_app ta (asc_cons (by decide) asc_nil), by rw [List.length_append]; simp; omega⟩
    · exact ⟨_, rfl, asc_cons (by decide) ta, by rw [List.length_cons]; omega⟩
    · exact ⟨_, rfl, asc_app ta (asc_cons (by decide) (asc_cons (by decide) asc_nil)), by rw [List.length_append]; simp; omega⟩
    · exact ⟨_, rfl, asc_cons (by decide) ta, by rw [List.length_cons]; omega⟩
end
end UM
set_option Elab.async false
set_option linter.all false
set_option maxRecDepth 100000
set_option maxHeartbeats 4000000
namespace LW
open PySem PySem.Spec PyProof.Rows L2 LV LM UL
/-! rules that name the written part, told by its own name (in a comprehension the context is a bound one) -/
section
variable {X : Cx} {K : PySem.W.Frag}
theorem pe_fldK {e : Expr} {f : Str} {pos : Pos} {ta : TE} (h : X.K = K) (he : PE X e ta) (hb : attributeBase e f X.env (eval e X.env) = eval e X.env) : PE X (.Attribute e f pos) (tFld K ta f) := by
  subst h
  exact pe_fld he hb
theorem ix_listK (h : X.K = K) : IxR X (rIxL K) := by
  subst h
  exact ix_list
theorem call_isiK1 (h : X.K = K) : CallR X (.builtin "isinstance") (rIsi K) := by
  subst h
  exact call_isi
theorem call_isiTK (h : X.K = K) : CallR X (.builtin "isinstance") (rIsiT K) := by
  subst h
  exact call_isiT
theorem call_lenSK (h : X.K = K) : CallR X (.builtin "len") (Evl.rLenS K) := by
  subst h
  exact call_lenS
theorem pi_listK {tg l : Expr} {tl : TE} (h : X.K = K) (hl : PE X l tl) : PI X tg l (iList K tl) := by
  subst h
  exact pi_list hl
theorem pi_seqK {tg l : Expr} {tl : TE} (h : X.K = K) (hl : PE X l tl) : PI X tg l (iOr (iList K tl) (iTup K tl)) := by
  subst h
  exact pi_seq hl
theorem pi_enumSK {e : Expr} {ta : TA} {p pos tpos : Pos} {elts : List Expr} {kk : Nat} (h : X.K = K) (hg : Gl X "enumerate") (hm : X.mg "enumerate" = none) (ha : PA X [e] ta) (hs : starEach [e] X.env = [(false, eval e X.env)] := by rfl) :
    PI X (.Tuple elts kk tpos) (.Call (.Name "enumerate" p) [e] [] pos) (iOr (iEnum K ta) (iEnumT K ta)) := by
  subst h
  exact pi_enumS hg hm ha hs
theorem pi_zipK {e e2 : Expr} {ta : TA} {p pos tpos : Pos} {elts : List Expr} {kk : Nat} (h : X.K = K) (hg : Gl X "zip") (hm : X.mg "zip" = none) (ha : PA X [e, e2] ta)
    (hs : starEach [e, e2] X.env = (false, eval e X.env) :: starEach [e2] X.env := by rfl) (hpl : (backTo pos (starEach [e2] X.env)).any (·.1) = false := by rfl) :
    PI X (.Tuple elts kk tpos) (.Call (.Name "zip" p) [e, e2] [] pos) (RZ.iZipA K ta) := by
  subst h
  exact RZ.pi_zipA hg hm ha hs hpl
end
end LW
set_option Elab.async false
set_option linter.all false
set_option maxRecDepth 100000
set_option maxHeartbeats 4000000
namespace LW
open PySem PySem.Spec PyProof.Rows L2 LV LM UL
/-! the law's own def: its first statement makes the draw state of the script -/
section
variable {P : Program} {w : World} {K : PySem.W.Frag} {mg : Str → Option Value} {base : Heap} {κ : String → Addr} {γ : Gh} {cs : List String}
def spFr (K : PySem.W.Frag) : Sp := fun vs H Q _ => ∃ (a : Addr) (ns : List Int), vs = [.ref a] ∧ SqL K H a (ns.map V.int) ∧ ns.length ≤ 63 ∧
  ∀ p c H', H c = none → H p = none → p ≠ c → Same H H' → H' c = some (.lst (ns.map V.int)) → H' p = some (.lst [.ref c, .int 0, .int 0, .bl false]) → (∀ b, b ≠ p → b ≠ c → H' b = H b) → Q (.ref p) H'
abbrev s__law_fresh : Stmt := top 27
abbrev N__law_fresh : List Str := ["_law_script"]
theorem sc__law_fresh : FnScope N__law_fresh ["_law_script"] (defScope s__law_fresh) := ⟨rfl, rfl, rfl, by decide +kernel, rfl, by decide +kernel, by decide +kernel⟩
theorem ok__law_fresh {f : Addr} {fd : FuncData} (F : FunD K "_law_fresh" "_law_fresh" (defArgs s__law_fresh) (defBody s__law_fresh) (defScope s__law_fresh) [] [] f fd) : FnOk P w K mg base CX0 1 f fd ["_law_script"] (spFr K) := by
  refine F.ok sc__law_fresh (fun vs H Q E h => ?_) (fun cdv A outer s H vs Q E hr h => ?_)
  · obtain ⟨a, ns, rfl, hS, hl, k⟩ := h
    rfl
  · obtain ⟨a, ns, rfl, hS, hl, k⟩ := h
    refine ⟨_, PSs.nox (pss_one (ps_ret (pe_lst (pa_cons (pe_slice sl_list (pv 0) po_none (po_some pe_int)) (pa_cons pe_int (pa_cons pe_int (pa_cons pe_bl pa_nil))))))), ?_⟩
    refine ⟨_, rfl, _, rfl, a, _, rfl, hS, fun c n1 => ?_⟩
    generalize q1 : upd H c _ = H1
    have h1 := nAt q1
    have e1 := nSm q1 n1
    refine ⟨by show 4 ≤ sizeLine; decide, fun p n2 => ?_⟩
    generalize q2 : upd H1 p _ = H2
    have h2 := nAt q2
    have e2 := nSm q2 n2
    have e : cutV (ns.map V.int) none (some 63) = ns.map V.int := by
      have hz : (ns.map V.int).length ≤ 63 := by rw [List.length_map]; exact hl
      unfold cutV
      rw [HT.sIx_none, show (some (63 : Int)) = some ((63 : Nat) : Int) from rfl, HT.sIx_nat, List.drop_zero, List.take_of_length_le]
      omega
    rw [e] at h1
    refine k p c H2 n1 (none_of_same e1 n2) (fun z => ?_) (e1.trans e2) (e2 _ _ h1) h2 fun b hp hc => ?_
    · subst z
      rw [h1] at n2
      cases n2
    · rw [← q2, upd_ne hp, ← q1, upd_ne hc]
/-- the draw state of a script -/
def st0 (c : Addr) (ns : List Int) : Ow := .l [.p (.atl c (ns.map .int)), .p (.int 0), .p (.int 0), .p (.bl false)]
theorem reps_ints {S : Hp} : ∀ ns : List Int, Reps κ S (ns.map .int) (ns.map V.int)
  | [] => rfl
  | n :: ns => ⟨_, _, rfl, rfl, reps_ints ns⟩
end
/-! what the head looks at -/
/-- where a class stands, or the default () of a class's __init__ -/
def kap (K : PySem.W.Frag) : String → Addr := fun c => if c = "()Net" then He.dflAt ("Net", some "__init__") 0 K else if c = "()Book" then He.dflAt ("Book", some "__init__") 0 K else He.ga K (Str.ofString c)
def exU (K : PySem.W.Frag) (cs : List String) : Bool :=
  (cs.all fun c => (decide (PySem.W.findIn K (.ref (kap K c)) "__class__" = some (some (.builtin "object.__class__"))) && decide (PySem.W.mroIn K (kap K c) (.type "object") = some true)) &&
    (typs.all fun t => decide (PySem.W.kitOne K (.type t) (.ref (kap K c)) = some false) && decide (PySem.W.kitOne K (.ref (kap K c)) (.type t) = some false))) &&
  (cs.all fun c => cs.all fun c' => decide (PySem.W.kitOne K (.ref (kap K c)) (.ref (kap K c')) = some (decide (c = c')))) &&
  (decide (PySem.W.specialIn K (.builtin "object.__class__") "__get__" = some (some (.builtin "getset_descriptor.__get__"))) && decide (PySem.W.takesIn K (.builtin "object.__class__") = some true)) &&
  (cs.all fun c => decide (PySem.W.findIn K (.ref (kap K c)) "__ne__" = some (some (.builtin "object.__ne__")))) &&
  (cs.all fun c => decide (c = "Exact") || decide (kap K c ≠ kap K "Exact")) &&
  (PySem.W.selfFirst K (kap K "Exact") && (typs.all fun t => decide (PySem.W.subIn K (.type t) (.ref (kap K "Exact")) = some false) && decide (PySem.W.subIn K (.ref (kap K "Exact")) (.type t) = some false)))
section
variable {K : PySem.W.Frag} {mg : Str → Option Value} {cs : List String}
theorem exU_cw (h : exU K cs = true) (hc : ∀ c ∈ cs, Cls K (kap K c)) (ex : "Exact" ∈ cs) (nb : ∀ c ∈ cs, c ∉ typs) : CW K (kap K) cs := by
  unfold exU at h
  simp only [Bool.and_eq_true] at h
  obtain ⟨⟨⟨⟨⟨h1, h2⟩, h3⟩, h4⟩, h5⟩, h6⟩ := h
  rw [List.all_eq_true] at h1 h2
  refine ⟨fun c hcs => ?_, fun c hcs c' hcs' => ?_, ex, nb, of_decide_eq_true h3.1, of_decide_eq_true h3.2⟩
  · have q := h1 c hcs
    simp only [Bool.and_eq_true, decide_eq_true_eq] at q
    refine ⟨hc c hcs, q.1.1, q.1.2, fun t ht => ?_⟩
    have z := List.all_eq_true.mp q.2 t ht
    simp only [Bool.and_eq_true, decide_eq_true_eq] at z
    exact z
  · exact of_decide_eq_true (List.all_eq_true.mp (h2 c hcs) c' hcs')
theorem exU_ne (h : exU K cs = true) {c : String} (hc : c ∈ cs) : PySem.W.findIn K (.ref (kap K c)) "__ne__" = some (some (.builtin "object.__ne__")) := by
  unfold exU at h
  simp only [Bool.and_eq_true] at h
  obtain ⟨⟨⟨⟨⟨h1, h2⟩, h3⟩, h4⟩, h5⟩, h6⟩ := h
  exact of_decide_eq_true (List.all_eq_true.mp h4 c hc)
theorem exU_xe (h : exU K cs = true) (ex : "Exact" ∈ cs) (fr : ∀ x ∈ bltN, mg x = none) (cl : Cls K (kap K "Exact")) (nO : NoAttr K (kap K "Exact") "over") (nU : NoAttr K (kap K "Exact") "under") (g : mg "Exact" = some (.ref (kap K "Exact")))
    (r1 : ∃ g, PySem.W.findIn K (.ref (kap K "Exact")) "__radd__" = some (some (.ref g))) (r2 : ∃ g, PySem.W.findIn K (.ref (kap K "Exact")) "__rsub__" = some (some (.ref g))) (r3 : ∃ g, PySem.W.findIn K (.ref (kap K "Exact")) "__rmul__" = some (some (.ref g))) : XE K mg (kap K "Exact") := by
  have ne := exU_ne h ex
  unfold exU at h
  simp only [Bool.and_eq_true] at h
  obtain ⟨⟨⟨⟨⟨h1, h2⟩, h3⟩, h4⟩, h5⟩, h6⟩ := h
  have q := List.all_eq_true.mp h1 "Exact" ex
  simp only [Bool.and_eq_true, decide_eq_true_eq] at q
  have kt : ∀ t ∈ typs, PySem.W.kitOne K (.type t) (.ref (kap K "Exact")) = some false ∧ PySem.W.kitOne K (.ref (kap K "Exact")) (.type t) = some false := fun t ht => by
    have z := List.all_eq_true.mp q.2 t ht
    simp only [Bool.and_eq_true, decide_eq_true_eq] at z
    exact z
  have st : ∀ t ∈ typs, PySem.W.subIn K (.type t) (.ref (kap K "Exact")) = some false ∧ PySem.W.subIn K (.ref (kap K "Exact")) (.type t) = some false := fun t ht => by
    have z := List.all_eq_true.mp h6.2 t ht
    simp only [Bool.and_eq_true, decide_eq_true_eq] at z
    exact z
  have f := fun (x : Str) (hx : x ∈ bltN) => fr x hx
  refine ⟨⟨⟨f _ (by simp [bltN]), f _ (by simp [bltN]), f _ (by simp [bltN]), f _ (by simp [bltN]), f _ (by simp [bltN]), f _ (by simp [bltN]), f _ (by simp [bltN]), f _ (by simp [bltN]), f _ (by simp [bltN]), f _ (by simp [bltN])⟩, cl, nO, nU, ⟨h6.1, (st "int" (by simp [typs])).1, (st "int" (by simp [typs])).2⟩, g, q.1.1, of_decide_eq_true h3.1, of_decide_eq_true h3.2, q.1.2, (kt "int" (by simp [typs])).2, (kt "bool" (by simp [typs])).2, (kt "list" (by simp [typs])).2, (kt "tuple" (by simp [typs])).2, (kt "int" (by simp [typs])).1, (kt "list" (by simp [typs])).1, (kt "tuple" (by simp [typs])).1, r1, r2, r3⟩, fun t ht => ⟨(kt t ht).1, st t ht⟩, ne⟩
end
end LW
set_option Elab.async false
set_option linter.all false
set_option maxRecDepth 100000
set_option maxHeartbeats 4000000
namespace LW
open PySem PySem.Spec PyProof.Rows L2 LV LM UL
section
variable {P : Program} {w : World} {K : PySem.W.Frag} {mg : Str → Option Value} {base : Heap} {κ : String → Addr} {γ : Gh} {ρ : Bool} {E : XK} {fx : Nat → Bool}
theorem op_inSU {X : Cx} : OpR X (compareOp .In) (r2 κ inS) := by
  intro pins s σ H x y v u Q I rx ry h
  obtain ⟨S, a, b, c, e, ra, rb, hf, k⟩ := h
  unfold inS at hf
  split at hf
  · rename_i a b
    split at hf
    · rename_i d hd
      cases hf
      cases ra
      cases rb
      have : a = ⟨#[d]⟩ := by
        obtain ⟨cps⟩ := a
        have : cps = #[d] := by
          apply Array.ext'
          simpa using hd
        rw [this]
      subst this
      exact op_in_sign pins s σ H _ _ v u Q I rx ry ⟨d, b, rfl, rfl, k _ S H (stay e) rfl⟩
    · cases hf
  · cases hf
end
end LW
set_option Elab.async false
set_option linter.all false
set_option maxRecDepth 100000
set_option maxHeartbeats 2000000
/-! xs.remove(x) by the text's own == -/
namespace GB
open PySem PySem.SeqAt
open AutoSeq1 (wpAny_loadPart')
open MeetsSeq MeetsSeq2 MeetsSeq3 SeqRoads2
open GQ (FinOf call_here)
section
variable {prog : Program} {w : World} {A : Around} {R : Result → Shared → Prop}
end
end GB
namespace LV
open PySem PySem.Spec PyProof.Rows L2
section
variable {X : Cx} {n : Nat} {D : EqvB}
end
end LV
set_option Elab.async false
set_option linter.all false
set_option maxRecDepth 100000
set_option maxHeartbeats 4000000
namespace LW
open PySem PySem.Spec PyProof.Rows L2 LV LM UL
section
variable {P : Program} {w : World} {K : PySem.W.Frag} {mg : Str → Option Value} {base : Heap} {κ : String → Addr} {γ : Gh} {ρ : Bool} {E : XK} {fx : Nat → Bool}
end
end LW
set_option Elab.async false
set_option linter.all false
set_option maxRecDepth 100000
set_option maxHeartbeats 2000000
/-! != of lists and tuples by the text's own == -/
namespace GB
open PySem PySem.SeqAt
open AutoSeq1 (wpAny_loadPart')
open MeetsSeq MeetsSeq2 MeetsSeq3 SeqRoads2
open GQ (FinOf call_here)
section
variable {prog : Program} {w : World} {A : Around} {R : Result → Shared → Prop}
theorem ne_loopB (l b : Addr) (N : Nat) (I : Nat → Shared → Prop) (Fs : Shared → Prop) (hl : ListB prog w A (fun e s' => R (.error e) s') l b N I Fs)
    (fin : ∀ s, I N s → R (.ok (.ret (.bool false))) s) (ff : ∀ s, Fs s → R (.ok (.ret (.bool true))) s) (k : Nat) :
    ∀ i : Nat, N - i = k → i ≤ N → ∀ s, I i s →
      wpAny (model prog w) A.in1 (Builtin.«list.__eq__.loop» ⟨[.ref l, .ref b, rawInt i, rawInt 3], []⟩) (FinOf prog w A R) (fun e s' => R (.error e) s') s := by
  induction k with
  | zero =>
    intro i hk hi s h
    obtain ⟨items, items2, n, n2, hl1, hb1, hs1, hs2, _⟩ := hl.1 _ _ h
    have hi' : i = N := by omega
    have hR : R (.ok (.ret (.bool false))) s := fin s (hi' ▸ h)
    obtain ⟨hp, g, d, tk, os⟩ := s
    wp_walk using wpAny_loadPart' hl1, wpAny_loadPart' hb1
    have hi1 : items[((i : Nat) : Int).toNat]? = none := by simp; omega
    have hi2 : items2[((i : Nat) : Int).toNat]? = none := by simp; omega
    rw [hi1, hi2]
    wp_walk using wpAny_loadPart' hl1, wpAny_loadPart' hb1
    show R (.ok (.ret (.bool (items.size != items2.size)))) _
    rw [hs1, hs2]
    simpa using hR
  | succ k ih =>
    intro i hk hi s h
    obtain ⟨items, items2, n, n2, hl1, hb1, hs1, hs2, turn⟩ := hl.1 _ _ h
    have hlt : i < items.size := by omega
    have hlt2 : i < items2.size := by omega
    have ht := turn hlt hlt2
    obtain ⟨hp, g, d, tk, os⟩ := s
    wp_walk using wpAny_loadPart' hl1, wpAny_loadPart' hb1
    have hi1 : items[((i : Nat) : Int).toNat]? = some items[i] := by simp [hlt]
    have hi2 : items2[((i : Nat) : Int).toNat]? = some items2[i] := by simp [hlt2]
    have hc : ((i : Int) + 1) = ((i + 1 : Nat) : Int) := by omega
    rw [hi1, hi2]
    refine wpAny_bind (wpAny_mono ht (fun r s2 h2 => ?_) fun _ _ x => x)
    rcases h2 with ⟨hr, h2⟩ | ⟨hr, h2⟩
    · subst hr
      have hrec := ih (i + 1) (by omega) (by omega) s2 h2
      obtain ⟨hp2, g2, d2, tk2, os2⟩ := s2
      wp_walk
      rw [hc]
      exact ⟨plainId_quiet plain_eq_loop _, codeAny_builtin entry_eq_loop (by
        rw [Around.under_plainId plain_eq_loop _]
        exact hrec)⟩
    · subst hr
      obtain ⟨jt, jt2, m, m2, kl, kb, z1, z2, _⟩ := hl.2 _ h2
      have hR := ff s2 h2
      obtain ⟨hp2, g2, d2, tk2, os2⟩ := s2
      wp_walk using wpAny_loadPart' kl, wpAny_loadPart' kb
      have hj1 : jt[((i : Nat) : Int).toNat]? = some (jt[i]'(by omega)) := by
        have : i < jt.size := by omega
        simp [this]
      have hj2 : jt2[((i : Nat) : Int).toNat]? = some (jt2[i]'(by omega)) := by
        have : i < jt2.size := by omega
        simp [this]
      rw [hj1, hj2]
      wp_walk
      exact hR
theorem list_neB (l b : Addr) (N : Nat) (I : Nat → Shared → Prop) (Fs : Shared → Prop) (hl : ListB prog w A (fun e s' => R (.error e) s') l b N I Fs)
    (fin : ∀ s, I N s → R (.ok (.ret (.bool false))) s) (ff : ∀ s, Fs s → R (.ok (.ret (.bool true))) s) {s : Shared} (h : I 0 s) :
    wpAny (model prog w) A.in1 (Builtin.«list.__ne__» ⟨[.ref l, .ref b], []⟩) (FinOf prog w A R) (fun e s' => R (.error e) s') s := by
  obtain ⟨items, items2, n, n2, hl1, hb1, hs1, hs2, _⟩ := hl.1 _ _ h
  have hrec := ne_loopB (A := A) (R := R) l b N I Fs hl fin ff _ 0 rfl (Nat.zero_le _) s h
  obtain ⟨hp, g, d, tk, os⟩ := s
  have f3 := AutoSeq1.sub_list_list
  have hne : ¬ (items.size != items2.size) = true := by simp [hs1, hs2]
  wp_walk using wpAny_loadPart' hl1, wpAny_loadPart' hb1
  exact ⟨plainId_quiet plain_eq_loop _, codeAny_builtin entry_eq_loop (by
    rw [Around.under_plainId plain_eq_loop _]
    exact hrec)⟩
theorem tuple_neB (l b : Addr) (items items2 : Array Value) (n n2 : Nat) (dd dd2 : Option Addr) (sl sl2 : Array (Option Value)) (hsz : items.size = items2.size) (I : Nat → Shared → Prop) (Fs : Shared → Prop)
    (turn : ∀ i (h1 : i < items.size) (h2 : i < items2.size) s, I i s → wpAny (model prog w) A.in1 (eqBool items[i] items2[i]) (fun r s' => (r = true ∧ I (i + 1) s') ∨ (r = false ∧ Fs s')) (fun e s' => R (.error e) s') s)
    (fin : ∀ s, I items.size s → R (.ok (.ret (.bool false))) s) (ff : ∀ s, Fs s → R (.ok (.ret (.bool true))) s) {s : Shared} (hl1 : s.heap.get? l = some { cls := .type "tuple", dict := dd, data := .seq items n, slots := sl }) (hb1 : s.heap.get? b = some { cls := .type "tuple", dict := dd2, data := .seq items2 n2, slots := sl2 }) (h : I 0 s) :
    wpAny (model prog w) A.in1 (Builtin.«tuple.__ne__» ⟨[.ref l, .ref b], []⟩) (FinOf prog w A R) (fun e s' => R (.error e) s') s := by
  have f2 := AutoSeq1.sub_tuple_tuple
  have hZ : (items.toList.zip items2.toList).length = items.size := by simp [hsz]
  have h0 := h
  obtain ⟨hp, g, d, tk, os⟩ := s
  wp_walk using wpAny_loadPart' hl1, wpAny_loadPart' hb1, wpAny_forIn_list _ (fun rest b s' => (b.1 = none ∧ ∃ i, rest = (items.toList.zip items2.toList).drop i ∧ i ≤ items.size ∧ I i s') ) _
  case turn =>
    rintro ⟨y, x⟩ rest b s' ⟨hb', i, hz, hi, hI⟩
    have hlt : i < (items.toList.zip items2.toList).length := by
      rcases Nat.lt_or_ge i (items.toList.zip items2.toList).length with h' | h'
      · exact h'
      · rw [List.drop_of_length_le h'] at hz; cases hz
    have h1 : i < items.size := hZ ▸ hlt
    have h2 : i < items2.size := hsz ▸ h1
    rw [List.drop_eq_getElem_cons hlt] at hz
    injection hz with hyx hrest
    have hy : y = items[i] := by have := congrArg Prod.fst hyx; simpa using this
    have hx : x = items2[i] := by have := congrArg Prod.snd hyx; simpa using this
    subst hy hx
    refine wpAny_bind (wpAny_mono (turn i h1 h2 s' hI) (fun r s2 q2 => ?_) fun _ _ x => x)
    rcases q2 with ⟨hr, q2⟩ | ⟨hr, q2⟩
    · subst hr
      wp_walk
      exact ⟨rfl, i + 1, hrest, h1, q2⟩
    · subst hr
      wp_walk
      exact ff _ q2
  case fin =>
    rintro ⟨b1, b2⟩ s' ⟨hb', i, hz, hi, hI⟩
    simp only at hb'
    subst hb'
    have hge : items.size ≤ i := by
      rcases Nat.lt_or_ge i (items.toList.zip items2.toList).length with h' | h'
      · rw [List.drop_eq_getElem_cons h'] at hz; cases hz
      · exact hZ ▸ h'
    have hi' : i = items.size := by omega
    have hR : R (.ok (.ret (.bool false))) s' := fin s' (hi' ▸ hI)
    wp_walk
    simpa [Builtin.Tuple.tupleCompareSizes, hsz] using hR
  case h =>
    exact ⟨rfl, 0, rfl, Nat.zero_le _, h0⟩
end
section
variable {prog : Program} {w : World} {A : Around} {E : Value → Shared → Prop} {s : Shared}
theorem rn_listB {l b : Addr} {N : Nat} {Q : Value → Shared → Prop} (hu : A.units < cLine) (I : Nat → Shared → Prop) (Fs : Shared → Prop) (hl : ListB prog w A E l b N I Fs)
    (fin : ∀ s, I N s → Q (.bool false) s) (ff : ∀ s, Fs s → Q (.bool true) s) (h : I 0 s) : wpAny (model prog w) A (richCompare .NotEq (.ref l) (.ref b)) Q E s := by
  obtain ⟨items, items2, n, n2, hl1, hb1, _, _, _⟩ := hl.1 _ _ h
  refine wpAny_richCompare_same_room (op := .NotEq) ⟨_, hl1, rfl⟩ ⟨_, hb1, rfl⟩ F.slot_list_ne (call_here F.slot_list_ne ⟨_, hl1, rfl⟩ F.entry_list_ne (F.args_list_ne_2 _ _) ?_) hu
  exact list_neB (R := wants (fun v s' => v ≠ .notImplemented ∧ Q v s') E) l b N I Fs hl (fun s' q => ⟨(fun x => nomatch x), fin s' q⟩) (fun s' q => ⟨(fun x => nomatch x), ff s' q⟩) h
theorem rn_tupB {l b : Addr} {items items2 : Array Value} {Q : Value → Shared → Prop} (hsz : items.size = items2.size) (hu : A.units < cLine) (I : Nat → Shared → Prop) (Fs : Shared → Prop)
    (hl : s.heap.IsTuple l items) (hb : s.heap.IsTuple b items2)
    (turn : ∀ i (h1 : i < items.size) (h2 : i < items2.size) s, I i s → wpAny (model prog w) A.in1 (eqBool items[i] items2[i]) (fun r s' => (r = true ∧ I (i + 1) s') ∨ (r = false ∧ Fs s')) E s)
    (fin : ∀ s, I items.size s → Q (.bool false) s) (ff : ∀ s, Fs s → Q (.bool true) s) (h : I 0 s) : wpAny (model prog w) A (richCompare .NotEq (.ref l) (.ref b)) Q E s := by
  obtain ⟨⟨cls, dd, data, sl⟩, ho, hc, n, hd⟩ := id hl
  obtain ⟨⟨cls2, dd2, data2, sl2⟩, ho2, hc2, n2, hd2⟩ := id hb
  simp only at hc hd hc2 hd2
  subst hc hd hc2 hd2
  refine wpAny_richCompare_same_room (op := .NotEq) ⟨_, ho, rfl⟩ ⟨_, ho2, rfl⟩ F.slot_tuple_ne (call_here F.slot_tuple_ne ⟨_, ho, rfl⟩ F.entry_tuple_ne (F.args_tuple_ne_2 _ _) ?_) hu
  exact tuple_neB (R := wants (fun v s' => v ≠ .notImplemented ∧ Q v s') E) l b items items2 n n2 dd dd2 sl sl2 hsz I Fs turn (fun s' q => ⟨(fun x => nomatch x), fin s' q⟩) (fun s' q => ⟨(fun x => nomatch x), ff s' q⟩) ho ho2 h
end
end GB
set_option Elab.async false
set_option linter.all false
set_option maxRecDepth 100000
set_option maxHeartbeats 2000000
/-! != with its answer -/
namespace LV
open PySem PySem.Spec PyProof.Rows L2
def RnB (X : Cx) (n : Nat) (D : EqvB) : Prop :=
  ∀ (A : Around) (pins : List (Addr × Obj)) (s : Shared) (σ : L2.St) (H : Hp) (x y : V) (u v : Value) (b : Bool), Sub X n A → Inv X pins σ H s → RelV x u → RelV y v → D x y b H →
    wpAny (model X.prog X.w) A (richCompare .NotEq u v) (fun r s' => r = .bool (!b) ∧ ∃ H', Inv X pins σ H' s' ∧ Ext H H') X.xe s
section
variable {X : Cx} {n m : Nat} {D D' : EqvB}
theorem rnB_lst (hD : MonB D) (h : EqB X n D) : RnB X (n + 1) (DLstB D) := by
  intro A pins s σ H x y u v b sb I rx ry d
  obtain ⟨a, c, xs, ys, rfl, rfl, ha, hb, p⟩ := d
  cases rx
  cases ry
  rcases p with ⟨ne, rfl⟩ | ⟨f, p, rfl⟩
  · obtain ⟨z, its, k, r, e⟩ := I.hok a _ ha
    obtain ⟨z2, its2, k2, r2, e2⟩ := I.hok c _ hb
    have L1 : s.heap.IsList a its.toArray := ⟨_, e, rfl, _, rfl⟩
    have L2 : s.heap.IsList c its2.toArray := ⟨_, e2, rfl, _, rfl⟩
    refine SeqAt.RcNeAt.lists_lengths L1 L2 ?_ sb.room.units0 X.prog X.w X.xe _ ⟨rfl, H, I, Ext.rfl'⟩
    rw [List.size_toArray, List.size_toArray, ← r.length, ← r2.length]
    simpa using ne
  · refine GB.rn_listB (N := xs.length) sb.room.units0 (fun i s' => LoopI X pins σ H s' ∧ ∀ j, j < i → f j = true) (fun s' => LoopI X pins σ H s' ∧ ∃ j, j < xs.length ∧ f j = false) ⟨fun i s' q => ?_, fun s' q => ?_⟩
      (fun s' q => ⟨by rw [all_f q.2]; rfl, q.1⟩) (fun s' ⟨q, j, hj, hf⟩ => ⟨by rw [not_f hj hf]; rfl, q⟩) ⟨⟨H, I, Ext.rfl'⟩, fun j hj => absurd hj (Nat.not_lt_zero j)⟩
    · obtain ⟨q, qf⟩ := q
      obtain ⟨H1, I1, e1⟩ := id q
      obtain ⟨z, its, k, r, e⟩ := I1.hok a _ (e1 _ _ ha)
      obtain ⟨z2, its2, k2, r2, e2⟩ := I1.hok c _ (e1 _ _ hb)
      refine ⟨its.toArray, its2.toArray, k, k2, e, e2, by rw [List.size_toArray, ← r.length], by rw [List.size_toArray, ← r2.length, ← p.1], fun h1 h2 => ?_⟩
      refine wpAny_mono (turnB hD h sb p r r2 i h1 h2 s' q) (fun w s2 z => ?_) fun _ _ x => x
      obtain ⟨hw, z⟩ := z
      cases hf : f i with
      | true =>
        refine .inl ⟨hw.trans hf, z, fun j hj => ?_⟩
        by_cases hji : j = i
        · rw [hji]; exact hf
        · exact qf j (by omega)
      | false =>
        refine .inr ⟨hw.trans hf, z, i, ?_, hf⟩
        rw [r.length]
        simpa using h1
    · obtain ⟨q, _⟩ := q
      obtain ⟨H1, I1, e1⟩ := id q
      obtain ⟨z, its, k, r, e⟩ := I1.hok a _ (e1 _ _ ha)
      obtain ⟨z2, its2, k2, r2, e2⟩ := I1.hok c _ (e1 _ _ hb)
      exact ⟨its.toArray, its2.toArray, k, k2, e, e2, by rw [List.size_toArray, ← r.length], by rw [List.size_toArray, ← r2.length, ← p.1], trivial⟩
theorem rnB_tup (hD : MonB D) (h : EqB X n D) : RnB X (n + 1) (DTupB D) := by
  intro A pins s σ H x y u v b sb I rx ry d
  obtain ⟨a, c, xs, ys, rfl, rfl, ha, hb, f, p, rfl⟩ := d
  cases rx
  cases ry
  obtain ⟨its, r, e, z⟩ := I.tuple (SqT.of ha)
  obtain ⟨its2, r2, e2, z2⟩ := I.tuple (SqT.of hb)
  have hsz : its.toArray.size = its2.toArray.size := by rw [List.size_toArray, List.size_toArray, ← r.length, ← r2.length]; exact p.1
  refine GB.rn_tupB hsz sb.room.units0 (fun i s' => LoopI X pins σ H s' ∧ ∀ j, j < i → f j = true) (fun s' => LoopI X pins σ H s' ∧ ∃ j, j < xs.length ∧ f j = false) e e2 (fun i h1 h2 s' q => ?_)
    (fun s' q => ⟨by rw [all_f fun j hj => q.2 j (by rw [List.size_toArray, ← r.length]; exact hj)]; rfl, q.1⟩) (fun s' ⟨q, j, hj, hf⟩ => ⟨by rw [not_f hj hf]; rfl, q⟩) ⟨⟨H, I, Ext.rfl'⟩, fun j hj => absurd hj (Nat.not_lt_zero j)⟩
  obtain ⟨q, qf⟩ := q
  refine wpAny_mono (turnB hD h sb p r r2 i h1 h2 s' q) (fun w s2 z => ?_) fun _ _ x => x
  obtain ⟨hw, z⟩ := z
  cases hf : f i with
  | true =>
    refine .inl ⟨hw.trans hf, z, fun j hj => ?_⟩
    by_cases hji : j = i
    · rw [hji]; exact hf
    · exact qf j (by omega)
  | false =>
    refine .inr ⟨hw.trans hf, z, i, ?_, hf⟩
    rw [r.length]
    simpa using h1
def rNeB (D : EqvB) : R2 := fun x y H Q => ∃ b, D x y b H ∧ ∀ H', Ext H H' → Q (.bl (!b)) H'
theorem op_neB (h : RnB X n D) (hr : Room n X.A) : OpR X (compareOp .NotEq) (rNeB D) := by
  intro pins s σ H x y v u Q I rx ry hq
  obtain ⟨b, d, q⟩ := hq
  show wpAny (model X.prog X.w) X.A (richCompare .NotEq v u) (EP X pins σ Q) X.xe s
  refine wpAny_mono (h X.A pins s σ H x y v u b ⟨hr, rfl⟩ I rx ry d) (fun r s' z => ?_) fun _ _ x => x
  obtain ⟨hr', H', I', e⟩ := z
  subst hr'
  exact ⟨.bl (!b), H', I', rfl, q H' e⟩
end
end LV
set_option Elab.async false
set_option linter.all false
set_option maxRecDepth 100000
set_option maxHeartbeats 4000000
namespace LW
open PySem PySem.Spec PyProof.Rows L2 LV LM UL
section
variable {P : Program} {w : World} {K : PySem.W.Frag} {mg : Str → Option Value} {base : Heap} {κ : String → Addr} {γ : Gh} {ρ : Bool} {E : XK} {fx : Nat → Bool}
theorem op_neN (B : UX P w K mg base κ) {X : Cx} (hX : Std X P w K mg base) {j : Nat} (hr : Room j X.A) (hu : X.A.units + 64 < cLine) (n : Nat) (hj : n + 6 ≤ j := by decide) : OpR X (compareOp .NotEq) (r2 κ (neN n)) := by
  intro pins s σ H x y v u Q I rx ry h
  obtain ⟨S, a, c, z, e, ra, rc, hf, k⟩ := h
  have k' : ∀ {b : Bool}, z = .bl (!b) → ∀ H', Same H H' → Q (.bl (!b)) H' := fun hz H' e' => by
    subst hz
    exact k _ S H' (stay' e e') rfl
  unfold neN at hf
  split at hf
  · obtain ⟨b, hb, hz⟩ := bindS hf
    cases hz
    cases n with
    | zero => cases hb
    | succ n => exact op_neB (rnB_lst (mon_DN n) (eqB_N B hX n)) (hr.mono (by omega)) pins s σ H x y v u Q I rx ry ⟨b, dl_of e ra rc hb, k' rfl⟩
  · obtain ⟨b, hb, hz⟩ := bindS hf
    cases hz
    cases n with
    | zero => cases hb
    | succ n => exact op_neB (rnB_tup (mon_DN n) (eqB_N B hX n)) (hr.mono (by omega)) pins s σ H x y v u Q I rx ry ⟨b, dt_of e ra rc hb, k' rfl⟩
  · exact op_neU B hX hr hu (by omega) pins s σ H x y v u Q I rx ry ⟨S, a, c, z, e, ra, rc, hf, k⟩
end
end LW
set_option Elab.async false
set_option linter.all false
set_option maxRecDepth 100000
set_option maxHeartbeats 4000000
namespace LW
open PySem PySem.Spec PyProof.Rows L2 LV LM UL
/-! calls without arguments -/
/-! calls of instances -/
structure CalO (P : Program) (w : World) (K : PySem.W.Frag) (mg : Str → Option Value) (base : Heap) (k : Nat) (L : Addr) (sp : Sp) : Prop where
  ex : ∃ g, StX.CallO K L g ∧ FnR P w K mg base CX0 k g sp
section
variable {P : Program} {w : World} {K : PySem.W.Frag} {mg : Str → Option Value} {base : Heap} {κ : String → Addr} {γ : Gh} {ρ : Bool} {E : XK} {fx : Nat → Bool} {cs : List String}
end
end LW
set_option Elab.async false
set_option linter.all false
set_option maxRecDepth 100000
set_option maxHeartbeats 4000000
namespace LW
open PySem PySem.Spec PyProof.Rows L2 LV LM UL
/-- classes that are not Exact -/
def exXs (K : PySem.W.Frag) (xs : List String) : Bool := xs.all fun c => decide (kap K c ≠ kap K "Exact")
end LW
set_option Elab.async false
set_option linter.all false
set_option maxRecDepth 100000
set_option maxHeartbeats 4000000
/-! the head's look over objects that are found by a walk with a set of marks -/
noncomputable section
namespace LW
open PySem PySem.Spec PyProof.Rows L2 LV LM UL
/-- those that are not marked, each once, with the marks behind them -/
def pickB (as : List Addr) : Nat → List Addr → (Nat → List Addr → List Addr) → List Addr :=
  List.rec (motive := fun _ => Nat → List Addr → (Nat → List Addr → List Addr) → List Addr) (fun m acc k => k m acc)
    (fun a _ ih m acc k => Bool.rec (motive := fun _ => List Addr) (ih (Nat.lor m (Nat.shiftLeft 1 a)) (a :: acc) k) (ih m acc k) (Nat.beq (Nat.land (Nat.shiftRight m a) 1) 1)) as
theorem map_three {α β γ δ : Type} {x : Option α} {f : α → β} {g : α → γ} {e : α → δ} {b : β} {c : γ} {d : δ} (h1 : (x.map fun s => (f s, g s)) = some (b, c)) (h2 : x.map e = some d) : (x.map fun s => (f s, g s, e s)) = some (b, c, d) := by
  cases x with
  | none => cases h1
  | some a =>
    cases h1
    cases h2
    rfl
end LW
end
set_option Elab.async false
set_option linter.all false
set_option maxRecDepth 100000
set_option maxHeartbeats 4000000
namespace LW
open PySem PySem.Spec PyProof.Rows L2 LV LM UL
section
variable {P : Program} {w : World} {K : PySem.W.Frag} {mg : Str → Option Value} {base : Heap} {κ : String → Addr}
theorem is_row {a : Addr} {d : Option Addr} {D : Ends} {σ : L2.St} {H : Hp} {t u : TS} (T : ErrT P K mg κ) (h0 : σ[0]? = some (some (.ref a))) (hd : XdOk H d) (k k' : Ek) (h : if k = k' then t D σ H else u D σ H) :
    tIfS (tB (tCB (rIsP K (κ k.c) a d) (tCons (tVar 0) (tCons (tC (.ref (κ k'.c))) tNil)))) t u D σ H := by
  refine ⟨_, h0, .ref (κ k'.c), .ref (κ k'.c), decide (k = k'), rfl, fun z hz => hz, T.isk k k', hd, decide (k = k'), rfl, ?_⟩
  by_cases e : k = k'
  · simpa [e] using h
  · simpa [e] using h
theorem is_if {a : Addr} {d : Option Addr} {σ : L2.St} {H : Hp} {Q : VK} {t u : TE} (T : ErrT P K mg κ) (h0 : σ[0]? = some (some (.ref a))) (hd : XdOk H d) (k k' : Ek) (h : if k = k' then t σ H Q else u σ H Q) :
    tIf (tB (tCB (rIsP K (κ k.c) a d) (tCons (tVar 0) (tCons (tC (.ref (κ k'.c))) tNil)))) t u σ H Q := by
  refine ⟨_, h0, .ref (κ k'.c), .ref (κ k'.c), decide (k = k'), rfl, fun z hz => hz, T.isk k k', hd, decide (k = k'), rfl, ?_⟩
  by_cases e : k = k'
  · simpa [e] using h
  · simpa [e] using h
/-- a new pair of a text and a value -/
theorem pair_new {S H : Hp} {u : U} {v : V} {s : Str} {Q : VK} (e : Same S H) (r : Rep κ S u v) (k : ∀ v S' H', StpP κ S H S' H' → Rep κ S' (.tup [.str s, u]) v → Q v H') : 2 ≤ sizeLine ∧ ∀ p, H p = none → Q (.ref p) (upd H p (.tup [.str s, v])) := by
  refine ⟨by decide, fun p hp => ?_⟩
  have st : StpP κ S H (upd S p (.tup [.str s, v])) (upd H p (.tup [.str s, v])) := StpP.new1 e hp
  exact k _ _ _ st ⟨p, _, rfl, upd_same, _, _, rfl, rfl, _, _, rfl, Rep.mono st.sub _ r, rfl⟩
theorem xdOk_of {S H : Hp} {e : Er} {cls : Value} {d : Option Addr} (q : Same S H) (h : ErOk κ S e cls d) : XdOk H d := by
  have h2 := h.2
  split at h2
  · rw [h2.1]
    trivial
  · obtain ⟨dd, v, rfl, a2, a3⟩ := h2
    exact ⟨_, q _ _ a2⟩
abbrev s__law_bare_error : Stmt := top 34
abbrev N__law_bare_error : List Str := ["_law_e"]
theorem sc__law_bare_error : FnScope N__law_bare_error ["_law_e"] (defScope s__law_bare_error) := ⟨rfl, rfl, rfl, by decide +kernel, rfl, by decide +kernel, by decide +kernel⟩
theorem ok__law_bare_error {f : Addr} {fd : FuncData} (F : FunD K "_law_bare_error" "_law_bare_error" (defArgs s__law_bare_error) (defBody s__law_bare_error) (defScope s__law_bare_error) [] [] f fd) (et : ErrT P K mg κ) (hfree : mg "isinstance" = none) :
    FnC P w K mg base 1 f fd ["_law_e"] (spErr κ fun k => k.f.isNone) := by
  obtain ⟨oc, od, dV, kV, doc, pm, an, cdv, ct, osl, rfl, lk, hcd, _, _⟩ := F.ex
  refine fnC_of lk hcd sc__law_bare_error (fun p vs H Q E ⟨_, _, _, _, _, h, _⟩ => by rw [h]; rfl) fun A outer s H vs Q E p hr h => ?_
  obtain ⟨S, e, cls, d, hk, rfl, hz, hf, hs, hE, k⟩ := h
  obtain ⟨ee, uu⟩ := e
  have hx := xdOk_of hs hE
  obtain ⟨rfl, hE2⟩ := hE
  have hp : (p.1, p.2) ∈ (L2H.cxH CX0 P w K mg base N__law_bare_error "_law_bare_error" (defScope s__law_bare_error) f cdv A outer s H E p).pn := List.mem_cons_self
  refine ⟨_, (pss_cons (ps_if (pt_val (pe_callB (call_isP hp (et.exc _) hz hf) rfl hfree (by decide +kernel) (pa_cons (pv 0) (pa_cons (pe_glob (v := .ref (κ (Ek.c .frame))) rfl (et.gC .frame) rfl) pa_nil)))) (pss_one (ps_ret (pe_tup (pa_cons pe_str (pa_cons pe_non pa_nil))))) pss_nil)
      (pss_cons (ps_if (pt_val (pe_callB (call_isP hp (et.exc _) hz hf) rfl hfree (by decide +kernel) (pa_cons (pv 0) (pa_cons (pe_glob (v := .ref (κ (Ek.c .unfit))) rfl (et.gC .unfit) rfl) pa_nil)))) (pss_one (ps_ret (pe_tup (pa_cons pe_str (pa_cons pe_non pa_nil))))) pss_nil)
      (pss_one (ps_ret (pe_ifExp (pt_val (pe_callB (call_isP hp (et.exc _) hz hf) rfl hfree (by decide +kernel) (pa_cons (pv 0) (pa_cons (pe_glob (v := .ref (κ (Ek.c .history))) rfl (et.gC .history) rfl) pa_nil)))) (pe_tup (pa_cons pe_str (pa_cons pe_non pa_nil))) (pe_tup (pa_cons pe_str (pa_cons pe_non pa_nil)))))))), ?_⟩
  have h0 : (L2.start N__law_bare_error [V.ref p.1])[0]? = some (some (.ref p.1)) := rfl
  refine is_row et h0 hx ee _ ?_
  cases ee <;> try cases hk
  all_goals dsimp only [Ek.f] at hE2
  all_goals obtain ⟨rfl, hu⟩ := hE2
  all_goals have hu : uu = .non := hu
  all_goals subst hu
  all_goals simp only [if_true, if_false, reduceCtorEq]
  · exact pair_new (κ := κ) (u := .non) hs rfl k
  · refine is_row et h0 hx _ _ ?_
    simp only [if_true]
    exact pair_new (κ := κ) (u := .non) hs rfl k
  · refine is_row et h0 hx _ _ ?_
    simp only [if_false, reduceCtorEq]
    refine is_if et h0 hx _ _ ?_
    simp only [if_true]
    exact pair_new (κ := κ) (u := .non) hs rfl k
abbrev s__law_error : Stmt := top 33
abbrev N__law_error : List Str := ["_law_e"]
theorem sc__law_error : FnScope N__law_error ["_law_e"] (defScope s__law_error) := ⟨rfl, rfl, rfl, by decide +kernel, rfl, by decide +kernel, by decide +kernel⟩
theorem ok__law_error {f fB : Addr} {fd fdB : FuncData} (F : FunD K "_law_error" "_law_error" (defArgs s__law_error) (defBody s__law_error) (defScope s__law_error) [] [] f fd) (et : ErrT P K mg κ) (hfree : mg "isinstance" = none)
    (FB : FnC P w K mg base 1 fB fdB ["_law_e"] (spErr κ fun k => k.f.isNone)) (gB : mg "_law_bare_error" = some (.ref fB)) (kB : PySem.W.keepIn K (.ref fB) = true) (bB : L2.Binds K fdB ["_law_e"] []) :
    FnC P w K mg base 2 f fd ["_law_e"] (spErr κ fun _ => true) := by
  obtain ⟨oc, od, dV, kV, doc, pm, an, cdv, ct, osl, rfl, lk, hcd, _, _⟩ := F.ex
  refine fnC_of lk hcd sc__law_error (fun p vs H Q E ⟨_, _, _, _, _, h, _⟩ => by rw [h]; rfl) fun A outer s H vs Q E p hrr h => ?_
  obtain ⟨S, e, cls, d, hk, rfl, hz, hf, hs, hE, k⟩ := h
  have hE0 := hE
  have hx := xdOk_of hs hE
  obtain ⟨ee, uu⟩ := e
  obtain ⟨rfl, hE2⟩ := hE
  have hp : (p.1, p.2) ∈ (L2H.cxH CX0 P w K mg base N__law_error "_law_error" (defScope s__law_error) f cdv A outer s H E p).pn := List.mem_cons_self
  refine ⟨_, (pss_cons (ps_if (pt_val (pe_callB (call_isP hp (et.exc _) hz hf) rfl hfree (by decide +kernel) (pa_cons (pv 0) (pa_cons (pe_glob (v := .ref (κ (Ek.c .part))) rfl (et.gC .part) rfl) pa_nil)))) (pss_one (ps_ret (pe_tup (pa_cons pe_str (pa_cons (pe_xfP hp (et.xf .part) (et.nof .part "part" rfl) hz hf (pv 0)) pa_nil))))) pss_nil)
      (pss_cons (ps_if (pt_val (pe_callB (call_isP hp (et.exc _) hz hf) rfl hfree (by decide +kernel) (pa_cons (pv 0) (pa_cons (pe_glob (v := .ref (κ (Ek.c .text))) rfl (et.gC .text) rfl) pa_nil)))) (pss_one (ps_ret (pe_tup (pa_cons pe_str (pa_cons (pe_xfP hp (et.xf .text) (et.nof .text "line" rfl) hz hf (pv 0)) pa_nil))))) pss_nil)
      (pss_cons (ps_if (pt_val (pe_callB (call_isP hp (et.exc _) hz hf) rfl hfree (by decide +kernel) (pa_cons (pv 0) (pa_cons (pe_glob (v := .ref (κ (Ek.c .level))) rfl (et.gC .level) rfl) pa_nil)))) (pss_one (ps_ret (pe_tup (pa_cons pe_str (pa_cons (pe_xfP hp (et.xf .level) (et.nof .level "index" rfl) hz hf (pv 0)) pa_nil))))) pss_nil)
      (pss_cons (ps_if (pt_val (pe_callB (call_isP hp (et.exc _) hz hf) rfl hfree (by decide +kernel) (pa_cons (pv 0) (pa_cons (pe_glob (v := .ref (κ (Ek.c .fact))) rfl (et.gC .fact) rfl) pa_nil)))) (pss_one (ps_ret (pe_tup (pa_cons pe_str (pa_cons (pe_xfP hp (et.xf .fact) (et.nof .fact "index" rfl) hz hf (pv 0)) pa_nil))))) pss_nil)
      (pss_cons (ps_if (pt_val (pe_callB (call_isP hp (et.exc _) hz hf) rfl hfree (by decide +kernel) (pa_cons (pv 0) (pa_cons (pe_glob (v := .ref (κ (Ek.c .place))) rfl (et.gC .place) rfl) pa_nil)))) (pss_one (ps_ret (pe_tup (pa_cons pe_str (pa_cons (pe_xfP hp (et.xf .place) (et.nof .place "index" rfl) hz hf (pv 0)) pa_nil))))) pss_nil)
      (pss_cons (ps_if (pt_val (pe_callB (call_isP hp (et.exc _) hz hf) rfl hfree (by decide +kernel) (pa_cons (pv 0) (pa_cons (pe_glob (v := .ref (κ (Ek.c .point))) rfl (et.gC .point) rfl) pa_nil)))) (pss_one (ps_ret (pe_tup (pa_cons pe_str (pa_cons (pe_xfP hp (et.xf .point) (et.nof .point "index" rfl) hz hf (pv 0)) pa_nil))))) pss_nil)
      (pss_cons (ps_if (pt_val (pe_callB (call_isP hp (et.exc _) hz hf) rfl hfree (by decide +kernel) (pa_cons (pv 0) (pa_cons (pe_glob (v := .ref (κ (Ek.c .moment))) rfl (et.gC .moment) rfl) pa_nil)))) (pss_one (ps_ret (pe_tup (pa_cons pe_str (pa_cons (pe_xfP hp (et.xf .moment) (et.nof .moment "moment" rfl) hz hf (pv 0)) pa_nil))))) pss_nil)
      (pss_cons (ps_if (pt_val (pe_callB (call_isP hp (et.exc _) hz hf) rfl hfree (by decide +kernel) (pa_cons (pv 0) (pa_cons (pe_glob (v := .ref (κ (Ek.c .line))) rfl (et.gC .line) rfl) pa_nil)))) (pss_one (ps_ret (pe_tup (pa_cons pe_str (pa_cons (pe_xfP hp (et.xf .line) (et.nof .line "line" rfl) hz hf (pv 0)) pa_nil))))) pss_nil)
      (pss_cons (ps_if (pt_val (pe_callB (call_isP hp (et.exc _) hz hf) rfl hfree (by decide +kernel) (pa_cons (pv 0) (pa_cons (pe_glob (v := .ref (κ (Ek.c .unknown))) rfl (et.gC .unknown) rfl) pa_nil)))) (pss_one (ps_ret (pe_tup (pa_cons pe_str (pa_cons (pe_xfP hp (et.xf .unknown) (et.nof .unknown "name" rfl) hz hf (pv 0)) pa_nil))))) pss_nil)
      (pss_cons (ps_if (pt_val (pe_callB (call_isP hp (et.exc _) hz hf) rfl hfree (by decide +kernel) (pa_cons (pv 0) (pa_cons (pe_glob (v := .ref (κ (Ek.c .height))) rfl (et.gC .height) rfl) pa_nil)))) (pss_one (ps_ret (pe_tup (pa_cons pe_str (pa_cons (pe_xfP hp (et.xf .height) (et.nof .height "height" rfl) hz hf (pv 0)) pa_nil))))) pss_nil)
      (pss_one (ps_ret (pe_callC (E := fun _ _ _ => False) FB hrr List.mem_cons_self rfl gB kB bB (pa_cons (pv 0) pa_nil)))))))))))))), ?_⟩
  have h0 : (L2.start N__law_error [V.ref p.1])[0]? = some (some (.ref p.1)) := rfl
  cases ee
  all_goals dsimp only [Ek.f] at hE2
  · obtain ⟨dd, v, rfl, a2, a3⟩ := hE2
    refine is_row et h0 hx _ _ ?_
    simp only [if_true]
    refine ⟨_, h0, rfl, rfl, dd, _, v, rfl, hs _ _ a2, rfl, ?_⟩
    exact pair_new hs a3 k
  · obtain ⟨dd, v, rfl, a2, a3⟩ := hE2
    refine is_row et h0 hx _ _ ?_
    simp only [if_false, reduceCtorEq]
    refine is_row et h0 hx _ _ ?_
    simp only [if_true]
    refine ⟨_, h0, rfl, rfl, dd, _, v, rfl, hs _ _ a2, rfl, ?_⟩
    exact pair_new hs a3 k
  · obtain ⟨dd, v, rfl, a2, a3⟩ := hE2
    refine is_row et h0 hx _ _ ?_
    simp only [if_false, reduceCtorEq]
    refine is_row et h0 hx _ _ ?_
    simp only [if_false, reduceCtorEq]
    refine is_row et h0 hx _ _ ?_
    simp only [if_true]
    refine ⟨_, h0, rfl, rfl, dd, _, v, rfl, hs _ _ a2, rfl, ?_⟩
    exact pair_new hs a3 k
  · obtain ⟨dd, v, rfl, a2, a3⟩ := hE2
    refine is_row et h0 hx _ _ ?_
    simp only [if_false, reduceCtorEq]
    refine is_row et h0 hx _ _ ?_
    simp only [if_false, reduceCtorEq]
    refine is_row et h0 hx _ _ ?_
    simp only [if_false, reduceCtorEq]
    refine is_row et h0 hx _ _ ?_
    simp only [if_true]
    refine ⟨_, h0, rfl, rfl, dd, _, v, rfl, hs _ _ a2, rfl, ?_⟩
    exact pair_new hs a3 k
  · obtain ⟨dd, v, rfl, a2, a3⟩ := hE2
    refine is_row et h0 hx _ _ ?_
    simp only [if_false, reduceCtorEq]
    refine is_row et h0 hx _ _ ?_
    simp only [if_false, reduceCtorEq]
    refine is_row et h0 hx _ _ ?_
    simp only [if_false, reduceCtorEq]
    refine is_row et h0 hx _ _ ?_
    simp only [if_false, reduceCtorEq]
    refine is_row et h0 hx _ _ ?_
    simp only [if_true]
    refine ⟨_, h0, rfl, rfl, dd, _, v, rfl, hs _ _ a2, rfl, ?_⟩
    exact pair_new hs a3 k
  · obtain ⟨dd, v, rfl, a2, a3⟩ := hE2
    refine is_row et h0 hx _ _ ?_
    simp only [if_false, reduceCtorEq]
    refine is_row et h0 hx _ _ ?_
    simp only [if_false, reduceCtorEq]
    refine is_row et h0 hx _ _ ?_
    simp only [if_false, reduceCtorEq]
    refine is_row et h0 hx _ _ ?_
    simp only [if_false, reduceCtorEq]
    refine is_row et h0 hx _ _ ?_
    simp only [if_false, reduceCtorEq]
    refine is_row et h0 hx _ _ ?_
    simp only [if_true]
    refine ⟨_, h0, rfl, rfl, dd, _, v, rfl, hs _ _ a2, rfl, ?_⟩
    exact pair_new hs a3 k
  · obtain ⟨dd, v, rfl, a2, a3⟩ := hE2
    refine is_row et h0 hx _ _ ?_
    simp only [if_false, reduceCtorEq]
    refine is_row et h0 hx _ _ ?_
    simp only [if_false, reduceCtorEq]
    refine is_row et h0 hx _ _ ?_
    simp only [if_false, reduceCtorEq]
    refine is_row et h0 hx _ _ ?_
    simp only [if_false, reduceCtorEq]
    refine is_row et h0 hx _ _ ?_
    simp only [if_false, reduceCtorEq]
    refine is_row et h0 hx _ _ ?_
    simp only [if_false, reduceCtorEq]
    refine is_row et h0 hx _ _ ?_
    simp only [if_true]
    refine ⟨_, h0, rfl, rfl, dd, _, v, rfl, hs _ _ a2, rfl, ?_⟩
    exact pair_new hs a3 k
  · obtain ⟨dd, v, rfl, a2, a3⟩ := hE2
    refine is_row et h0 hx _ _ ?_
    simp only [if_false, reduceCtorEq]
    refine is_row et h0 hx _ _ ?_
    simp only [if_false, reduceCtorEq]
    refine is_row et h0 hx _ _ ?_
    simp only [if_false, reduceCtorEq]
    refine is_row et h0 hx _ _ ?_
    simp only [if_false, reduceCtorEq]
    refine is_row et h0 hx _ _ ?_
    simp only [if_false, reduceCtorEq]
    refine is_row et h0 hx _ _ ?_
    simp only [if_false, reduceCtorEq]
    refine is_row et h0 hx _ _ ?_
    simp only [if_false, reduceCtorEq]
    refine is_row et h0 hx _ _ ?_
    simp only [if_true]
    refine ⟨_, h0, rfl, rfl, dd, _, v, rfl, hs _ _ a2, rfl, ?_⟩
    exact pair_new hs a3 k
  · obtain ⟨dd, v, rfl, a2, a3⟩ := hE2
    refine is_row et h0 hx _ _ ?_
    simp only [if_false, reduceCtorEq]
    refine is_row et h0 hx _ _ ?_
    simp only [if_false, reduceCtorEq]
    refine is_row et h0 hx _ _ ?_
    simp only [if_false, reduceCtorEq]
    refine is_row et h0 hx _ _ ?_
    simp only [if_false, reduceCtorEq]
    refine is_row et h0 hx _ _ ?_
    simp only [if_false, reduceCtorEq]
    refine is_row et h0 hx _ _ ?_
    simp only [if_false, reduceCtorEq]
    refine is_row et h0 hx _ _ ?_
    simp only [if_false, reduceCtorEq]
    refine is_row et h0 hx _ _ ?_
    simp only [if_false, reduceCtorEq]
    refine is_row et h0 hx _ _ ?_
    simp only [if_true]
    refine ⟨_, h0, rfl, rfl, dd, _, v, rfl, hs _ _ a2, rfl, ?_⟩
    exact pair_new hs a3 k
  · obtain ⟨dd, v, rfl, a2, a3⟩ := hE2
    refine is_row et h0 hx _ _ ?_
    simp only [if_false, reduceCtorEq]
    refine is_row et h0 hx _ _ ?_
    simp only [if_false, reduceCtorEq]
    refine is_row et h0 hx _ _ ?_
    simp only [if_false, reduceCtorEq]
    refine is_row et h0 hx _ _ ?_
    simp only [if_false, reduceCtorEq]
    refine is_row et h0 hx _ _ ?_
    simp only [if_false, reduceCtorEq]
    refine is_row et h0 hx _ _ ?_
    simp only [if_false, reduceCtorEq]
    refine is_row et h0 hx _ _ ?_
    simp only [if_false, reduceCtorEq]
    refine is_row et h0 hx _ _ ?_
    simp only [if_false, reduceCtorEq]
    refine is_row et h0 hx _ _ ?_
    simp only [if_false, reduceCtorEq]
    refine is_row et h0 hx _ _ ?_
    simp only [if_true]
    refine ⟨_, h0, rfl, rfl, dd, _, v, rfl, hs _ _ a2, rfl, ?_⟩
    exact pair_new hs a3 k
  · refine is_row et h0 hx _ _ ?_
    simp only [if_false, reduceCtorEq]
    refine is_row et h0 hx _ _ ?_
    simp only [if_false, reduceCtorEq]
    refine is_row et h0 hx _ _ ?_
    simp only [if_false, reduceCtorEq]
    refine is_row et h0 hx _ _ ?_
    simp only [if_false, reduceCtorEq]
    refine is_row et h0 hx _ _ ?_
    simp only [if_false, reduceCtorEq]
    refine is_row et h0 hx _ _ ?_
    simp only [if_false, reduceCtorEq]
    refine is_row et h0 hx _ _ ?_
    simp only [if_false, reduceCtorEq]
    refine is_row et h0 hx _ _ ?_
    simp only [if_false, reduceCtorEq]
    refine is_row et h0 hx _ _ ?_
    simp only [if_false, reduceCtorEq]
    refine is_row et h0 hx _ _ ?_
    simp only [if_false, reduceCtorEq]
    exact ⟨_, h0, S, _, _, _, rfl, rfl, hz, hf, hs, hE0, k⟩
  · refine is_row et h0 hx _ _ ?_
    simp only [if_false, reduceCtorEq]
    refine is_row et h0 hx _ _ ?_
    simp only [if_false, reduceCtorEq]
    refine is_row et h0 hx _ _ ?_
    simp only [if_false, reduceCtorEq]
    refine is_row et h0 hx _ _ ?_
    simp only [if_false, reduceCtorEq]
    refine is_row et h0 hx _ _ ?_
    simp only [if_false, reduceCtorEq]
    refine is_row et h0 hx _ _ ?_
    simp only [if_false, reduceCtorEq]
    refine is_row et h0 hx _ _ ?_
    simp only [if_false, reduceCtorEq]
    refine is_row et h0 hx _ _ ?_
    simp only [if_false, reduceCtorEq]
    refine is_row et h0 hx _ _ ?_
    simp only [if_false, reduceCtorEq]
    refine is_row et h0 hx _ _ ?_
    simp only [if_false, reduceCtorEq]
    exact ⟨_, h0, S, _, _, _, rfl, rfl, hz, hf, hs, hE0, k⟩
  · refine is_row et h0 hx _ _ ?_
    simp only [if_false, reduceCtorEq]
    refine is_row et h0 hx _ _ ?_
    simp only [if_false, reduceCtorEq]
    refine is_row et h0 hx _ _ ?_
    simp only [if_false, reduceCtorEq]
    refine is_row et h0 hx _ _ ?_
    simp only [if_false, reduceCtorEq]
    refine is_row et h0 hx _ _ ?_
    simp only [if_false, reduceCtorEq]
    refine is_row et h0 hx _ _ ?_
    simp only [if_false, reduceCtorEq]
    refine is_row et h0 hx _ _ ?_
    simp only [if_false, reduceCtorEq]
    refine is_row et h0 hx _ _ ?_
    simp only [if_false, reduceCtorEq]
    refine is_row et h0 hx _ _ ?_
    simp only [if_false, reduceCtorEq]
    refine is_row et h0 hx _ _ ?_
    simp only [if_false, reduceCtorEq]
    exact ⟨_, h0, S, _, _, _, rfl, rfl, hz, hf, hs, hE0, k⟩
end
end LW
set_option Elab.async false
set_option linter.all false
set_option maxRecDepth 100000
set_option maxHeartbeats 4000000
/-! _law_tried: what it makes of the lambda that it is handed -/
namespace LW
open PySem PySem.Spec PyProof.Rows L2 LV LM UL
/-- what the caught error must let -/
def ECh (κ : String → Addr) (Q : VK) : XK := fun cls d H => ∃ S e, Same S H ∧ ErOk κ S e cls d ∧ ∀ v S' H', StpP κ S H S' H' → Rep κ S' (erU e) v → Q v H'
def QTold (Q : VK) : VK := fun v H => 2 ≤ sizeLine ∧ ∀ p, H p = none → Q (.ref p) (upd H p (.tup [.str "told", v]))
def TTried (κ : String → Addr) : (XK → Hp → VK → Prop) → Hp → VK → Prop := fun tl H Q => tl (ECh κ Q) H (QTold Q)
section
variable {P : Program} {w : World} {K : PySem.W.Frag} {mg : Str → Option Value} {base : Heap} {κ : String → Addr} {X : Cx}
/-- the suite's reading -/
def tsErr (κ : String → Addr) : Addr → Value → Option Addr → TS := fun a cls d D σ H => σ[1]? = some (some (.ref a)) ∧ ECh κ D.rt cls d H
theorem takes_len {W : WX} (tk : Takes X W) : Takes X (fun c d σ H => σ.length = X.N.length → W c d σ H) := fun u s' ⟨a, B, sI, pins, σ, H, cls, d, e, I, nb, up, sky, na, os, ag, z⟩ =>
  tk u s' ⟨a, B, sI, pins, σ, H, cls, d, e, I, nb, up, sky, na, os, ag, z I.len⟩
abbrev s__law_tried : Stmt := top 32
abbrev N__law_tried : List Str := ["_law_deed", "_law_e"]
theorem sc__law_tried : FnScope N__law_tried ["_law_deed"] (defScope s__law_tried) := ⟨rfl, rfl, rfl, by decide +kernel, rfl, by decide +kernel, by decide +kernel⟩
theorem tried_gives {fE : Addr} {fdE : FuncData} {g : Addr} {cdg : Value} {q : Str} (hr : Room 4 X.A) (et : ErrT X.prog X.K X.mg κ) (FE : FnC X.prog X.w X.K X.mg X.base 2 fE fdE ["_law_e"] (spErr κ fun _ => true)) (gE : X.mg "_law_error" = some (.ref fE)) (kE : PySem.W.keepIn X.K (.ref fE) = true) (bE : L2.Binds X.K fdE ["_law_e"] []) :
    LamX.GivesTo X N__law_tried "_law_tried" (defScope s__law_tried) g cdg (defBody s__law_tried) "_law_deed" q (TTried κ) := by
  intro f c' s H Q tl act hc h
  have hn : L2.Names (cxOf C8.CX0 X.prog X.w X.K X.mg X.base N__law_tried "_law_tried" (defScope s__law_tried) g cdg X.A X.stack s H C8.E0).nox "LevelError" (.ref (κ "LevelError")) := ⟨rfl, by decide, .inl et.gL⟩
  refine ⟨_, pss_one (ps_try_as (i := 1) (ts := tsErr κ)
    (tb := fun W D σ H => ∃ Ech : XK, (∀ cls d σ' H', σ'.length = 2 → Ech cls d H' → W cls d σ' H') ∧ σ[0]? = some (some (.ref f)) ∧ H c' = some (LamX.CodeO c' q) ∧ tl Ech H (QTold D.rt)) rfl rfl sc__law_tried.nd rfl rfl hn LamX.takes0 (fun W pn xe tk _ => ?_) fun a oe cls d pn hz hf => ?_), ?_⟩
  · refine ⟨fun pins s' σ H' D I h' => ?_⟩
    obtain ⟨Ech, hW, h1, h2, h3⟩ := h'
    exact (pss_one (ps_ret (pe_tup (pa_cons pe_str (pa_cons (act (fun cls d σ' H' => σ'.length = 2 → W cls d σ' H') pn xe Ech _ _ (takes_len tk) fun cls d σ' H' hE hl => hW cls d σ' H' hl hE) pa_nil))))).run pins s' σ H' D I ⟨h1, h2, h3⟩
  · refine ⟨fun pins s' σ H' D I h' => ?_⟩
    obtain ⟨h1, S, e, hs, hE, k⟩ := h'
    have hr2 : L2H.RoomH 2 ((cxOf C8.CX0 X.prog X.w X.K X.mg X.base N__law_tried "_law_tried" (defScope s__law_tried) g cdg X.A X.stack s H C8.E0).nox.suite a ((a, oe) :: pn)).A := by
      have q1 := hr.deeper (envOfC "_law_tried" (defScope s__law_tried) s.heap.objs.size g cdg)
      exact ⟨by have := q1.dp; exact Nat.lt_of_le_of_lt (by show _ ≤ _; exact Nat.add_le_add_right (Nat.add_le_add_left (by decide : 3 * 2 ≤ 3 * 3) _) _) this, by have := q1.un; exact Nat.lt_of_le_of_lt (by show _ ≤ _; exact Nat.add_le_add_right (Nat.add_le_add_left (by decide : 16 * 2 ≤ 16 * 3) _) _) this⟩
    exact (pss_one (ps_ret (pe_callC (X := (cxOf C8.CX0 X.prog X.w X.K X.mg X.base N__law_tried "_law_tried" (defScope s__law_tried) g cdg X.A X.stack s H C8.E0).nox.suite a ((a, oe) :: pn)) (x := "_law_error") (E := fun _ _ _ => False) (p := (a, oe)) FE hr2 List.mem_cons_self rfl gE kE bE (pa_cons (pv 1) pa_nil)))).run pins s' σ H' D I ⟨_, h1, S, e, cls, d, rfl, rfl, hz, hf, hs, hE, k⟩
  · refine ⟨ECh κ Q, ?_, rfl, hc, h⟩
    intro cls d σ' H' hl hE
    obtain ⟨S, e, hs, hE, k⟩ := hE
    refine ⟨true, by rw [hE.1]; exact et.exm _, fun _ a ha => ⟨?_, S, e, hs, hE, k⟩, fun z => by cases z⟩
    rw [List.getElem?_set_self (by omega)]
end
end LW
set_option Elab.async false
set_option linter.all false
set_option maxRecDepth 100000
set_option maxHeartbeats 2000000
/-! a lambda handed to a def: what becomes of the table, told outright -/
namespace UL
open PySem PySem.Spec PyProof.Rows L2 LV LamX
/-- the table at P, its code objects tracked -/
def TabAt (H : Hp) (P : Addr) (q : Str) (ps : Array Value) : Prop := H P = some (.tbl ps) ∧ TriplesOk ps.toList ∧ ∀ pos cv, codeAmong pos ps.toList = some cv → ∃ c, cv = .ref c ∧ H c = some (CodeO c q)
/-- what the table may be afterwards -/
def TabNx (ps : Array Value) (c : Addr) (ps' : Array Value) : Prop := TriplesOk ps'.toList ∧ ∀ pos cv, codeAmong pos ps'.toList = some cv → codeAmong pos ps.toList = some cv ∨ cv = .ref c
def tLam3 (P : Addr) (q : Str) (TT : (XK → Hp → VK → Prop) → Hp → VK → Prop) (t : XK → TE) : TE := fun σ H Q => ∃ ps, TabAt H P q ps ∧ TT (fun E H' Q' => t E σ H' Q') H Q ∧
  ∀ ps' c, H c = none → TabNx ps c ps' → TT (fun E H' Q' => t E σ H' Q') (upd (upd H P (.tbl ps')) c (CodeO c q)) Q
section
variable {X : Cx} {pins : List (Addr × Obj)} {σ : L2.St} {H : Hp} {s : Shared}
theorem lam_made {c P : Addr} {q : Str} {ps : Array Value} {params : Arguments} {body : Expr} {scope : Scope} {pos : Pos} {E : Value → Shared → Prop} {Q : Value → Shared → Prop} (I : Inv X pins σ H s) (TB : TabB X.base X.mg c P) (hcode : X.env.code = .ref c) (hq : X.env.qual ++ "<lambda>" = q)
    (hT : TabAt H P q ps) (hdef : defaultsOf params X.env = ([], [])) (hfree : ∀ y ∈ scope.names, y.2 = .free → ∃ c, X.env.cells.lookup y.1 = some c)
    (h : ∀ (f c' : Addr) (pm ctv : Value) (H1 : Hp) (s' : Shared), Inv X pins σ H1 s' → (H1 = H ∨ ∃ ps', H c' = none ∧ TabNx ps c' ps' ∧ H1 = upd (upd H P (.tbl ps')) c' (CodeO c' q)) →
      s'.heap.get? f = some (PySem.W.kla_obj "<lambda>" (X.env.qual ++ "<lambda>") params body scope (cloFrom X.env.cells scope.names []) pm c' ctv) → H1 f = none → f ∉ frs X.stack → H1 c' = some (CodeO c' q) → Q (.ref f) s') :
    wpAny (model X.prog X.w) X.A (eval (.Lambda params body scope pos) X.env) Q E s := by
  subst hq
  obtain ⟨hP, ht, ha⟩ := hT
  refine PySem.W.kla_eval hdef ?_
  have bP : s.heap.BuiltinsAt X.mg P := TB.bm.keeps I.bk
  have tabP : s.heap.get? P = some { cls := .none, data := .fields ps } := I.hok P _ hP
  have apart : ∀ f, s.heap.objs.size ≤ f → f ∉ frs X.stack := by
    intro f hf z
    rcases List.mem_cons.mp (I.stkSub _ z) with e | e
    · have h1 := I.lt
      rw [← e] at h1
      exact absurd (Nat.lt_of_lt_of_le h1 hf) (Nat.lt_irrefl _)
    · exact I.nofs hf e
  have gl := I.mod.glob.keeps I.bk
  have cd := TB.code.keeps I.bk
  rcases hc : codeAmong pos ps.toList with _ | cv
  · refine PySem.W.kla_makeFunction (mg := X.mg) (c := c) (P := P) (ps := ps) (closure_ok hfree) I.ok.glob gl hcode cd tabP ht hc TB.gP bP ?_
    intro c' ctv h' tk hx hge hlt hrec htb
    obtain ⟨c2, oc, vs, t, e2, hoc, hd, hv⟩ := hrec
    cases e2
    have hsz : s.heap.objs.size ≤ h'.objs.size := by omega
    have nC : H c' = none := I.hok.fresh hge
    have I1 := inv_table (t' := tk) (more := #[rawInt pos.line, rawInt pos.col, .ref c']) (h' := h'.push (PySem.W.kla_obj "<lambda>" (X.env.qual ++ "<lambda>") params body scope (cloFrom X.env.cells scope.names []) ((X.mg "__name__").getD .none) c' ctv)) I hP
      (fun b o hb e => Heap.get?_push_of_some _ (hx b o hb e))
      (Heap.get?_push_of_some _ htb) hge ⟨oc, vs, t, Heap.get?_push_of_some _ hoc, hd, hv⟩
    have eL : (ps ++ #[rawInt pos.line, rawInt pos.col, .ref c']).toList = ps.toList ++ [rawInt pos.line, rawInt pos.col, .ref c'] := by simp
    have nx : TabNx ps c' (ps ++ #[rawInt pos.line, rawInt pos.col, .ref c']) := by
      refine ⟨by rw [eL]; exact PySem.TriplesOk_snoc _ _ _ _ ht, fun p' cv hcv => ?_⟩
      rw [eL] at hcv
      exact among_app _ ht hcv
    refine h h'.objs.size c' ((X.mg "__name__").getD .none) ctv _ _ I1 (.inr ⟨_, nC, nx, rfl⟩) (Heap.get?_push_size _ rfl) ?_ (apart _ hsz) upd_same
    have n1 : h'.objs.size ≠ c' := Nat.ne_of_gt hlt
    have n2 : h'.objs.size ≠ P := Nat.ne_of_gt (Nat.lt_of_lt_of_le (Heap.lt_size tabP) hsz)
    rw [upd_ne n1, upd_ne n2]
    exact I.hok.fresh hsz
  · obtain ⟨c', e, hco⟩ := ha pos cv hc
    subst e
    refine PySem.W.kla_makeFunctionHit (mg := X.mg) (c := c) (P := P) (ps := ps) (closure_ok hfree) I.ok.glob gl hcode cd tabP ht hc bP ?_
    intro ctv h' tk hx hsz
    have I1 : Inv X pins σ H { s with heap := h'.push (PySem.W.kla_obj "<lambda>" (X.env.qual ++ "<lambda>") params body scope (cloFrom X.env.cells scope.names []) ((X.mg "__name__").getD .none) c' ctv), toks := tk } :=
      I.kept fun b o e => Heap.get?_push_of_some _ (hx b o e)
    exact h h'.objs.size c' ((X.mg "__name__").getD .none) ctv H _ I1 (.inl rfl) (Heap.get?_push_size _ rfl) (I.hok.fresh hsz) (apart _ hsz) hco
/-- the facts of the def that is handed the lambda -/
structure Taker (X : Cx) (k : Nat) (x a : Str) (TT : (XK → Hp → VK → Prop) → Hp → VK → Prop) : Prop where
  ex : ∃ (g : Addr) (pg : Arguments) (bg : List Stmt) (sg : Scope) (dV kV doc pm cdv ct oc : Value) (an od : Option Addr) (osl : Array (Option Value)) (Ng : List Str),
    X.mg x = some (.ref g) ∧ PySem.W.keepIn X.K (.ref g) = true ∧ X.K.lookup g = some ⟨oc, od, .func (PySem.W.fnOf x x pg bg sg dV kV doc pm an cdv ct), osl⟩ ∧ PySem.W.codeIn X.K cdv x = true ∧
    L2.Binds X.K (PySem.W.fnOf x x pg bg sg dV kV doc pm an cdv ct) [a] [] ∧ FnScope Ng [a] sg ∧ Ng[0]? = some a ∧ Vis sg a ∧ ∀ q, GivesTo X Ng x sg g cdv bg a q TT
theorem pe_lam3 {TT : (XK → Hp → VK → Prop) → Hp → VK → Prop} {x a : Str} {c P : Addr} {k : Nat} {q : Str} {params : Arguments} {body : Expr} {scope : Scope} {t : XK → TE} {p lpos pos : Pos} (hg : Gl X x) (T : Taker X k x a TT)
    (TB : TabB X.base X.mg c P) (hcode : X.env.code = .ref c) (hq : X.env.qual ++ "<lambda>" = q) (hr : Room (k + 2) X.A) (L : LamS X.env.scope scope) (hdef : defaultsOf params X.env = ([], []))
    (hbind : ∀ (q : Str) (cl : List (Str × Addr)) (pm cv ctv : Value), bindArgs (PySem.W.kla_fn "<lambda>" q params body scope cl pm cv ctv) ⟨[], []⟩ = pure [])
    (hbody : ∀ (A : Around) (outer : List PySem.Env) (s : Shared) (H : Hp) (E : XK) (f c' : Addr), Room k (A.deeper (lamEnv X scope s.heap.objs.size f c')) → PE (lamCx X A outer s H E scope f c') body (t E))
    (hdb : (x == ("__debug__" : Str)) = false := by decide) (hd : (a == ("__debug__" : Str)) = false := by decide) (hcd : (a == ("__classdict__" : Str)) = false := by decide) :
    PE X (.Call (.Name x p) [.Lambda params body scope lpos] [] pos) (tLam3 P q TT t) := by
  obtain ⟨g, pg, bg, sg, dV, kV, doc, pm, cdv, ct, oc, an, od, osl, Ng, hm, hk, lk, hcg, hb, Sg, hNg, hva, hG⟩ := T.ex
  constructor
  rintro pins s σ H Q I ⟨ps, hT, hit, new⟩
  refine wpAny_Call_Name_kw (ld_glob I hg hm ?_ hdb)
  refine PySem.W.callWith_K (h₀ := X.base) I.ok.mod.kin hk ?_ (by rfl) (by rfl)
  show wpAny _ _ (spliced ((false, eval (.Lambda params body scope lpos) X.env) :: backTo pos (starEach [] X.env))) _ _ s
  refine Calls.spliced_cons (lam_made I TB hcode hq hT hdef (L.has I.ok) ?_)
  intro f c' pm' ctv H1 s' I1 hH hf hfn hfr hco
  refine Calls.spliced_nil ⟨I1.kIn, ?_⟩
  have h1 : TT (fun E H' Q' => t E σ H' Q') H1 Q := by
    rcases hH with rfl | ⟨ps', nc, nx, rfl⟩
    · exact hit
    · exact new ps' c' nc nx
  have rc : codeAny (model X.prog X.w) X.A (.call (.ref g) ⟨[.ref f], []⟩) (CR C8.CX0 X.stack X.prog X.w H1 s' Q C8.E0) s' := by
    refine run_ofS (N := Ng) (ps := [a]) (us := [.ref f]) (vs := [.ref f]) lk hcg Sg hr I1.env0 (hb s' [.ref f] I1.kIn rfl) (.cons rfl .nil) rfl ?_
    intro hr'
    subst hq
    obtain ⟨t', ht', hq'⟩ := hG (X.env.qual ++ "<lambda>") f c' s' H1 Q (fun E H' Q' => t E σ H' Q')
      (fun W pn xe E p1 p2 tk hW => pe_act (i := 0) I1 L hf hfn hfr (hbind _ _ _ _ _) tk hW hr' (fun A outer s H hr2 => hbody A outer s H E f c' hr2) hNg hva hd hcd) hco h1
    exact ⟨t', ht'.nox, hq'⟩
  refine wpAny_call (codeAny_mono rc ?_)
  intro r s2 hq2
  cases r with
  | error e => exact (show False from hq2).elim
  | ok fl =>
    cases fl with
    | ret u => exact I1.after hq2
    | next => exact hq2.elim
    | brk => exact hq2.elim
    | cont => exact hq2.elim
end
/-! the ghost of a frame -/
theorem EnvOk.ghost {κ : String → Addr} {γ : Gh} {S H : Hp} : ∀ {σ : L2.St} {env : Env} {F : List Addr}, EnvOk κ γ S H σ env F → ∃ F0 Fg, F = F0 ++ Fg ∧ GhO S H γ Fg ∧
    ∀ {S' H' : Hp} {Fg' : List Addr}, Same S S' → (∀ a ∈ F0, H' a = H a) → GhO S' H' γ Fg' → EnvOk κ γ S' H' σ env (F0 ++ Fg')
  | [], [], F, h => ⟨[], F, rfl, h, fun _ _ g => g⟩
  | s :: σ, e :: env, _, h => by
    obtain ⟨F1, F2, rfl, h1, h2⟩ := h
    obtain ⟨A, B, rfl, g1, g2⟩ := EnvOk.ghost h2
    exact ⟨F1 ++ A, B, by simp, g1, fun e k g => ⟨F1, A ++ _, by simp, h1.mono e (fun a ha => k a (by simp [ha])), g2 e (fun a ha => k a (by simp [ha])) g⟩⟩
  | [], _ :: _, _, h => h.elim
  | _ :: _, [], _, h => h.elim
theorem GhO.at {S H : Hp} {P : Addr} {q : Str} (sub : Same S H) : ∀ {γ : Gh} {F : List Addr}, GhO S H γ F → F.Nodup → (P, q) ∈ γ → P ∈ F ∧ (∃ ps, TabAt H P q ps ∧ ∀ {S' H' : Hp} {ps' : Array Value}, Same S S' → (∀ a ∈ F, a ≠ P → H' a = H a) → H' P = some (.tbl ps') → TriplesOk ps'.toList →
    (∀ pos cv, codeAmong pos ps'.toList = some cv → ∃ c, cv = .ref c ∧ S' c = some (CodeO c q)) → GhO S' H' γ F) ∧ ∃ ps, H P = some (.tbl ps)
  | [], _, _, _, hm => by simp at hm
  | (p, r) :: γ, _, h, nd, hm => by
    obtain ⟨ps, F', rfl, h1, h2, h3, h4⟩ := h
    obtain ⟨n1, n2⟩ := List.nodup_cons.mp nd
    rcases List.mem_cons.mp hm with hm | hm
    · cases hm
      refine ⟨by simp, ⟨ps, ⟨h1, h2, fun pos cv hc => ?_⟩, fun e k a b c => ⟨_, F', rfl, a, b, c, h4.mono e fun x hx => k x (by simp [hx]) fun z => n1 (z ▸ hx)⟩⟩, ps, h1⟩
      obtain ⟨c, a1, a2⟩ := h3 pos cv hc
      exact ⟨c, a1, sub _ _ a2⟩
    · obtain ⟨i1, ⟨ps2, t2, up⟩, hP⟩ := GhO.at sub h4 n2 hm
      have np : p ≠ P := fun z => n1 (z ▸ i1)
      refine ⟨by simp [i1], ⟨ps2, t2, fun {S' H' ps'} e k a b c => ⟨ps, F', rfl, (k p (by simp) np).trans h1, h2, fun pos cv hc => ?_, up e (fun x hx nx => k x (by simp [hx]) nx) a b c⟩⟩, hP⟩
      obtain ⟨c', a1, a2⟩ := h3 pos cv hc
      exact ⟨c', a1, e _ _ a2⟩
/-- codes told by the table are of the region -/
theorem GhO.codes {S H : Hp} {P : Addr} {q : Str} {ps : Array Value} : ∀ {γ : Gh} {F : List Addr}, GhO S H γ F → F.Nodup → (P, q) ∈ γ → H P = some (.tbl ps) → (∀ r, (P, r) ∈ γ → r = q) → ∀ pos cv, codeAmong pos ps.toList = some cv → ∃ c, cv = .ref c ∧ S c = some (CodeO c q)
  | [], _, _, _, hm, _, _ => by simp at hm
  | (p, r) :: γ, _, h, nd, hm, hP, hu => by
    obtain ⟨ps', F', rfl, h1, h2, h3, h4⟩ := h
    obtain ⟨n1, n2⟩ := List.nodup_cons.mp nd
    by_cases hp : p = P
    · subst hp
      have : r = q := hu r (by simp)
      subst this
      rw [h1] at hP
      cases hP
      exact h3
    · rcases List.mem_cons.mp hm with hm | hm
      · cases hm
        exact (hp rfl).elim
      · exact GhO.codes h4 n2 hm hP fun r hr => hu r (by simp [hr])
end UL
set_option Elab.async false
set_option linter.all false
set_option maxRecDepth 100000
set_option maxHeartbeats 4000000
namespace LW
open PySem PySem.Spec PyProof.Rows L2 LV LM UL
section
variable {P : Program} {w : World} {K : PySem.W.Frag} {mg : Str → Option Value} {base : Heap} {κ : String → Addr} {γ : Gh}
theorem lam_state {σ : L2.St} {S H : Hp} {F : List Addr} {env : UL.Env} {p : Addr} {q : Str} {ps ps' : Array Value} {c : Addr} (hm : (p, q) ∈ γ) (hu : ∀ r, (p, r) ∈ γ → r = q) (g : Gd κ γ σ S H F env) (hP : H p = some (.tbl ps)) (nc : H c = none) (nx : TabNx ps c ps') :
    Stp κ S H F (upd S c (LamX.CodeO c q)) (upd (upd H p (.tbl ps')) c (LamX.CodeO c q)) F ∧ Gd κ γ σ (upd S c (LamX.CodeO c q)) (upd (upd H p (.tbl ps')) c (LamX.CodeO c q)) F env := by
  obtain ⟨F0, Fg, rfl, gh, up⟩ := g.env.ghost
  have nds := List.nodup_append.mp g.wf.nd
  obtain ⟨iP, ⟨ps0, tab, up2⟩, _⟩ := gh.at g.wf.sub nds.2.1 hm
  have cds := gh.codes nds.2.1 hm hP hu
  have inP : p ∈ F0 ++ Fg := by simp [iP]
  have ncp : p ≠ c := fun z => by
    subst z
    rw [hP] at nc
    cases nc
  have ncF : c ∉ F0 ++ Fg := fun z => by
    obtain ⟨o, ho, _⟩ := g.env.foot c z
    rw [nc] at ho
    cases ho
  have sc : S c = none := none_of_same g.wf.sub nc
  have at_ : ∀ b, b ≠ p → b ≠ c → upd (upd H p (.tbl ps')) c (LamX.CodeO c q) b = H b := fun b h1 h2 => by rw [upd_ne h2, upd_ne h1]
  have atP : upd (upd H p (.tbl ps')) c (LamX.CodeO c q) p = some (.tbl ps') := by rw [upd_ne ncp, upd_same]
  have sm : Same S (upd S c (LamX.CodeO c q)) := Same.new sc
  have sub : Same (upd S c (LamX.CodeO c q)) (upd (upd H p (.tbl ps')) c (LamX.CodeO c q)) := fun b o hb => by
    by_cases z : b = c
    · subst z
      rw [upd_same] at hb ⊢
      exact hb
    · rw [upd_ne z] at hb
      have np : b ≠ p := fun y => by
        subst y
        rw [g.wf.out b inP] at hb
        cases hb
      rw [at_ b np z]
      exact g.wf.sub b o hb
  refine ⟨⟨fun b o hb h => ?_, fun b h => ?_, sm, fun b o h => ?_, fun a ha => .inl ha⟩, ⟨⟨sub, g.wf.nd, fun a ha => ?_⟩, ?_⟩⟩
  · rw [at_ b (fun z => hb (z ▸ inP)) fun z => by rw [z, nc] at h; cases h]
    exact h
  · by_cases z : b = c
    · rw [z]
      exact nc
    · by_cases y : b = p
      · rw [y, atP] at h
        cases h
      · rw [at_ b y z] at h
        exact h
  · by_cases z : b = c
    · exact .inr (.inl (z ▸ nc))
    · rw [upd_ne z] at h
      exact .inl h
  · have na : a ≠ c := fun z => ncF (z ▸ ha)
    rw [upd_ne na]
    exact g.wf.out a ha
  · refine up sm (fun a ha => at_ a (fun z => nds.2.2 a ha p iP z) fun z => ncF (by simp [← z, ha])) (up2 sm (fun a ha na => at_ a na fun z => ncF (by simp [← z, ha])) atP nx.1 fun pos cv hc => ?_)
    rcases nx.2 pos cv hc with h | h
    · obtain ⟨c0, a1, a2⟩ := cds pos cv h
      exact ⟨c0, a1, sm _ _ a2⟩
    · exact ⟨c, h, upd_same⟩
theorem simE_tried {p : Addr} {q : Str} (hm : (p, q) ∈ γ) (hu : ∀ r, (p, r) ∈ γ → r = q) {t : XK → TE} {m : M U} {x : MX} (h : ∀ E, SimE κ γ false (t E) m) (hx : ∀ E, SimEX κ γ E (t E) x) : SimE κ γ false (tLam3 p q (TTried κ) t) (mTried m x) := by
  constructor
  intro σ S H F env g u env' e Q k
  have core : ∀ S1 H1, Stp κ S H F S1 H1 F → Gd κ γ σ S1 H1 F env → TTried κ (fun E H' Q' => t E σ H' Q') H1 Q := fun S1 H1 s1 g1 => by
    show t (ECh κ Q) σ H1 (QTold Q)
    unfold mTried at e
    split at e
    · rename_i r hr
      cases e
      refine (hx (ECh κ Q)).run g1 hr (fun cls d σ' S' H' F' s' g' f' he => ?_) _
      have := Fix.all fx0 σ f'
      subst this
      exact ⟨S', r.1, g'.wf.sub, he, fun v S2 H2 st rv => k v S2 H2 F' ((s1.trans s').trans st.stp).stq (g'.pure_ st) rv⟩
    · obtain ⟨⟨y, e1⟩, h1, e⟩ := bindS e
      cases e
      refine (h (ECh κ Q)).run g1 h1 _ fun v S' H' F' s' g' rv => ⟨by decide, fun pp hp => ?_⟩
      have st : StpP κ S' H' (upd S' pp (.tup [.str "told", v])) (upd H' pp (.tup [.str "told", v])) := StpP.new1 g'.wf.sub hp
      exact k _ _ _ F' ((s1.trans s'.stp).trans st.stp).stq (g'.pure_ st) ⟨pp, _, rfl, upd_same, _, _, rfl, rfl, _, _, rfl, Rep.mono st.sub _ rv, rfl⟩
  obtain ⟨F0, Fg, hF, gh, up⟩ := g.env.ghost
  have nd2 := g.wf.nd
  rw [hF] at nd2
  obtain ⟨iP, ⟨ps, tab, up2⟩, _⟩ := gh.at g.wf.sub (List.nodup_append.mp nd2).2.1 hm
  refine ⟨ps, tab, core S H (Stp.refl S H F) g, fun ps' c nc nx => ?_⟩
  obtain ⟨s1, g1⟩ := lam_state hm hu g tab.1 nc nx
  exact core _ _ s1 g1
end
end LW
/-! calls of defs that may raise -/
namespace C9
open PySem PySem.Spec PyProof.Rows L2 LV UL
structure Cal (P : Program) (w : World) (K : PySem.W.Frag) (mg : Str → Option Value) (base : Heap) (k : Nat) (x : Str) (sp : Sp) (dvs : List V) : Prop where
  ex : ∃ (f : Addr) (fd : FuncData) (ps : List Str) (ds : List Value), FnOk P w K mg base (L2.CX P w) k f fd ps sp ∧ mg x = some (.ref f) ∧ PySem.W.keepIn K (.ref f) = true ∧ L2.Binds K fd ps ds ∧ Vals dvs ds
structure Met (P : Program) (w : World) (K : PySem.W.Frag) (mg : Str → Option Value) (base : Heap) (k : Nat) (C : Addr) (m : Str) (sp : Sp) (dvs : List V) : Prop where
  ex : ∃ (f : Addr) (fd : FuncData) (ps : List Str) (ds : List Value), Cls K C ∧ Meth K C m f ∧ FnOk P w K mg base (L2.CX P w) k f fd ps sp ∧ L2.Binds K fd ps ds ∧ Vals dvs ds
structure Mak (P : Program) (w : World) (K : PySem.W.Frag) (mg : Str → Option Value) (base : Heap) (k : Nat) (x : Str) (C : Addr) (sp : Sp) (dvs : List V) : Prop where
  ex : ∃ (f : Addr) (fd : FuncData) (ps : List Str) (ds : List Value), Mk K C f ∧ FnOk P w K mg base (L2.CX P w) k f fd ps sp ∧ mg x = some (.ref C) ∧ L2.Binds K fd ps ds ∧ Vals dvs ds
/-- what the context says of errors: they may go out -/
structure Out (X : Cx) (E : XK) : Prop where
  tk : Takes X (fun cls d _ H => E cls d H)
  po : PassesOwn (model X.prog X.w) X.A X.env X.xe
  calm : X.calm = true
theorem out_of {P : Program} {w : World} {K : PySem.W.Frag} {mg : Str → Option Value} {base : Heap} {N : List Str} {qual : Str} {scope : Scope} {f : Addr} {cd : Value} {A : Around} {outer : List PySem.Env} {s : Shared} {H : Hp} {E : XK} : Out (cxOf (L2.CX P w) P w K mg base N qual scope f cd A outer s H E) E :=
  ⟨takes_of rfl rfl rfl rfl, passes_of rfl, rfl⟩
theorem out_lam {X : Cx} {A : Around} {outer : List PySem.Env} {s : Shared} {H : Hp} {E : XK} {scope : Scope} {f c' : Addr} : Out (LamX.lamCx X A outer s H E scope f c') E :=
  ⟨takes_of rfl rfl rfl rfl, passes_of rfl, rfl⟩
section
variable {X : Cx} {E : XK} {k j : Nat} {C : Addr} {x m : Str} {sp : Sp} {dvs : List V} {p pos apos : Pos} {e o : Expr} {es : List Expr} {ta : TE} {t : TA}
theorem Out.ps (O : Out X E) : Passes (L2.CX X.prog X.w) X E := passes_call O.tk fun _ _ _ _ h => h
theorem pe_c (O : Out X E) (c : Cal X.prog X.w X.K X.mg X.base k x sp dvs) (hr : Room j X.A) (hk : k ≤ j) (hg : Gl X x) (ha : PA X (e :: es) t)
    (hdb : (x == ("__debug__" : Str)) = false := by decide) (he : starEach (e :: es) X.env = (false, eval e X.env) :: starEach es X.env := by rfl) (hpl : (backTo pos (starEach es X.env)).any (·.1) = false := by rfl) :
    PE X (.Call (.Name x p) (e :: es) [] pos) (tCall sp dvs E t) := by
  obtain ⟨f, fd, ps, ds, F, hm, kp, b, d⟩ := c.ex
  exact L2.pe_call F (hr.mono hk) hg hm kp b d O.ps ha hdb he hpl
theorem pe_mk (O : Out X E) (c : Mak X.prog X.w X.K X.mg X.base k x C sp dvs) (hr : Room j X.A) (hk : k + 1 ≤ j) (hg : Gl X x) (ha : PA X (e :: es) t)
    (hdb : (x == ("__debug__" : Str)) = false := by decide) (he : starEach (e :: es) X.env = (false, eval e X.env) :: starEach es X.env := by rfl) (hpl : (backTo pos (starEach es X.env)).any (·.1) = false := by rfl) :
    PE X (.Call (.Name x p) (e :: es) [] pos) (tMake C sp dvs E t) := by
  obtain ⟨f, fd, ps, ds, M, F, hm, b, d⟩ := c.ex
  exact L2.pe_make M F (hr.mono hk) hg hm b d O.ps ha hdb he hpl
theorem ps_raise {κ : String → Addr} {a : Expr} {pos2 : Pos} (O : Out X E) (et : ErrT X.prog X.K X.mg κ) (kk : Ek) (f : String) (hf : kk.f = some f) (NF : PySem.LevX.FName (Str.ofString f)) (hr : Room j X.A) (hg : Gl X (Str.ofString kk.c)) (ha : PA X [a] t)
    (hdb : (Str.ofString kk.c == ("__debug__" : Str)) = false := by decide) (he : starEach (a :: []) X.env = (false, eval a X.env) :: starEach [] X.env := by rfl) (hpl : (backTo pos (starEach [] X.env)).any (·.1) = false := by rfl) :
    PS X (.Raise (some (.Call (.Name (Str.ofString kk.c) p) [a] [] pos)) none pos2) (tRaiseLev (κ kk.c) (Str.ofString f) (fun cls d _ H => E cls d H) t) := by
  obtain ⟨q, fI, T⟩ := et.lev kk f hf
  exact ps_raiseLev O.calm T NF hr O.tk ha hg hdb he hpl
end
end C9
set_option Elab.async false
set_option linter.all false
set_option maxRecDepth 100000
set_option maxHeartbeats 4000000
/-! == of empty dicts; lists of own instances -/
namespace LW
open PySem PySem.Spec PyProof.Rows L2 LV LM UL
section
variable {P : Program} {w : World} {K : PySem.W.Frag} {mg : Str → Option Value} {base : Heap} {κ : String → Addr} {γ : Gh} {cs : List String}
theorem op_eqUd (B : UX P w K mg base κ) {X : Cx} (hX : Std X P w K mg base) {j : Nat} (hr : Room j X.A) (hu : X.A.units + 64 < cLine) (n : Nat) (hj : n + 5 ≤ j := by decide) : OpR X (compareOp .Eq) (r2 κ (eqUd n)) := by
  intro pins s σ H x y v u Q I rx ry h
  obtain ⟨S, a, c, z, e, ra, rc, hf, k⟩ := h
  unfold eqUd at hf
  split at hf
  · cases hf
    obtain ⟨l, vs, rfl, hl, hn, r1⟩ := ra
    obtain ⟨l', vs', rfl, hl', hn', r2⟩ := rc
    exact op_eqV hu pins s σ H _ _ v u Q I rx ry ⟨0, by decide, .inr ⟨l, l', _, _, rfl, rfl, e _ _ hl, e _ _ hl', rfl, fun p hp => by simp at hp⟩, k _ S H (stay' e fun _ _ h => h) rfl⟩
  · exact op_eqU B hX hr n hj pins s σ H x y v u Q I rx ry ⟨S, a, c, z, e, ra, rc, hf, k⟩
end
end LW
/-! [..] * n; {}; the parts of an Exact -/
namespace LW
open PySem PySem.Spec PyProof.Rows L2 LV LM UL
section
variable {K : PySem.W.Frag} {κ : String → Addr} {γ : Gh} {ρ : Bool}
theorem simE_fldQ {f : Str} (T : Cls K (κ "Exact") ∧ NoAttr K (κ "Exact") f) {t : TE} {m : M U} (h : SimE κ γ ρ t m) : SimE κ γ ρ (tFld K t f) (m1 (fldQ f) m) := by
  constructor
  intro σ S H F env g u env' e Q k
  obtain ⟨⟨x, e1⟩, h1, e⟩ := bindS e
  obtain ⟨z, h2, e⟩ := bindS e
  cases e
  refine h.run g h1 _ fun v S1 H1 F1 s1 g1 r => ?_
  dsimp only at h2
  cases x <;> try cases h2
  obtain ⟨a, dx, rfl, ha⟩ := r
  dsimp only [fldQ] at h2
  split at h2
  · rename_i h3
    cases h2
    subst h3
    exact ⟨a, _, dx, _, _, rfl, g1.wf.sub _ _ ha, T.1, T.2, rfl, k _ S1 H1 F1 s1 g1 rfl⟩
  · split at h2
    · rename_i h3 h4
      cases h2
      subst h4
      exact ⟨a, _, dx, _, _, rfl, g1.wf.sub _ _ ha, T.1, T.2, rfl, k _ S1 H1 F1 s1 g1 rfl⟩
    · cases h2
end
end LW
set_option Elab.async false
set_option linter.all false
set_option maxRecDepth 100000
set_option maxHeartbeats 4000000
namespace C9
open PySem PySem.Spec PyProof.Rows L2 LV UL
structure CalO (P : Program) (w : World) (K : PySem.W.Frag) (mg : Str → Option Value) (base : Heap) (k : Nat) (L : Addr) (sp : Sp) : Prop where
  ex : ∃ g, StX.CallO K L g ∧ FnR P w K mg base (L2.CX P w) k g sp
section
variable {X : Cx} {E : XK} {k j : Nat} {C : Addr} {x m : Str} {sp : Sp} {dvs : List V} {p pos apos : Pos} {e o : Expr} {es : List Expr} {ta : TE} {t : TA}
theorem pe_mt0 {pl : Sem Bool} (O : Out X E) (c : Met X.prog X.w X.K X.mg X.base k C m sp dvs) (hr : Room j X.A) (hk : k ≤ j) (he : PE X o ta)
    (ht : eval (.Call (.Attribute o m apos) [] [] pos) X.env = (do
      let ov ← eval o X.env
      standAt apos.atName
      let (f, first) ← holding [ov] (getMethod ov m pl)
      callWith pos f first (backTo pos (starEach [] X.env)) (backToKw pos (keywordEach [] X.env))) := by rfl) :
    PE X (.Call (.Attribute o m apos) [] [] pos) (tMeth C m sp dvs E ta tNil) := by
  obtain ⟨f, fd, ps, ds, hc, hm, F, b, d⟩ := c.ex
  exact L2.pe_meth0 (pl := pl) he hc hm F (hr.mono hk) b d O.ps ht
end
end C9
namespace L2
open PySem PySem.Spec PyProof.Rows
theorem FunD.okC {P : Program} {w : World} {K : PySem.W.Frag} {mg : Str → Option Value} {base : Heap} {x qual : Str} {params : Arguments} {body : List Stmt} {scope : Scope} {dvs : List V} {kws : List (Str × V)} {f : Addr} {fd : FuncData} {CX : CXT} {N ps : List Str} {k : Nat} {sp : Sp} {cL : Addr}
    (F : FunD K x qual params body scope dvs kws f fd) (hc : fd.code = .ref cL) (S : FnScope N ps scope) (len : ∀ vs H Q E, sp vs H Q E → vs.length = ps.length)
    (hbody : ∀ (A : Around) (outer : List Env) (s : Shared) (H : Hp) (vs : List V) (Q : VK) (E : XK), Room k (A.deeper (envOfC qual scope s.heap.objs.size f (.ref cL))) → sp vs H Q E →
      ∃ t, PSs (cxOf CX P w K mg base N qual scope f (.ref cL) A outer s H E) body t ∧ t { nx := fun _ H' => Q .non H', rt := Q } (start N vs) H) : FnOk P w K mg base CX (k + 1) f fd ps sp := by
  obtain ⟨oc, od, dV, kV, doc, pm, an, cdv, ct, osl, rfl, lk, hcd, _, _⟩ := F.ex
  have e : cdv = .ref cL := hc
  subst e
  exact fn_of lk hcd S len hbody
end L2
namespace LW
open PySem PySem.Spec PyProof.Rows L2 LV LM UL
section
variable {P : Program} {w : World} {K : PySem.W.Frag} {mg : Str → Option Value} {base : Heap} {κ : String → Addr} {γ : Gh} {ρ : Bool} {E : XK} {fx : Nat → Bool} {cs : List String}
/-! the law with tables under its slots -/
abbrev qLam : Str := "law.<locals>.<lambda>"
def spLwT (K : PySem.W.Frag) (γ : Gh) (nl i : Nat) (b : MS) : Sp := fun vs H Q _ => ∃ (a : Addr) (ns : List Int), vs = [.ref a] ∧ SqL K H a (ns.map V.int) ∧ ns.length ≤ 63 ∧ (∀ p ∈ γ, H p.1 = some (.tbl #[])) ∧ (γ.map (·.1)).Nodup ∧ (∀ c, ∃ e, b ((none :: List.replicate nl none).set i (some (st0 c ns))) = some (.rt (.p (.bl true)) e)) ∧ ∀ H', Q (.bl true) H'
theorem ghO_nil {S H : Hp} : ∀ γ : Gh, (∀ p ∈ γ, H p.1 = some (.tbl #[])) → GhO S H γ (γ.map (·.1))
  | [], _ => rfl
  | (p, q) :: γ, h => ⟨#[], _, rfl, h (p, q) (by simp), trivial, (fun pos cv hc => nomatch hc), ghO_nil γ fun x hx => h x (by simp [hx])⟩
theorem envOk_nonesG {S H : Hp} {F : List Addr} (h : GhO S H γ F) : ∀ n : Nat, EnvOk κ γ S H (List.replicate n none) (List.replicate n none) F
  | 0 => h
  | n + 1 => by
    rw [List.replicate_succ]
    exact ⟨[], F, rfl, rfl, envOk_nonesG h n⟩
theorem sim_lawT {t2 : TS} {b : MS} {nl i : Nat} {N : List Str} {vs : List V} {H : Hp} {Q : VK} {E : XK} (h : SimS κ γ fx0 t2 b) (hs : spLwT K γ nl i b vs H Q E) (hN : N.length = nl + 1) :
    tSeq (tAsg (tCall (spFr K) [] C8.E0 (tCons (tVar 0) tNil)) (gName i)) t2 { nx := fun _ H' => Q .non H', rt := Q } (L2.start N vs) H := by
  obtain ⟨a, ns, rfl, hS, hl, hT, ndT, hb, k⟩ := hs
  refine ⟨_, rfl, a, ns, by rw [List.append_nil], hS, hl, fun p c H1 hc hp ne e1 h1 h2 h3 => ?_⟩
  let S : Hp := fun x => if x = c then some (.lst (ns.map V.int)) else none
  have hSc : S c = some (.lst (ns.map V.int)) := if_pos rfl
  have sub : Same S H1 := fun x o hx => by
    by_cases z : x = c
    · subst z
      rw [hSc] at hx
      cases hx
      exact h1
    · have : S x = none := if_neg z
      rw [this] at hx
      cases hx
  have rp : RepO κ S H1 (st0 c ns) (.ref p) [p] := ⟨p, _, [], rfl, h2, rfl, RepOs.pure_ (us := [.atl c (ns.map .int), .int 0, .int 0, .bl false]) ⟨_, _, rfl, ⟨c, _, rfl, hSc, reps_ints ns, rfl⟩, _, _, rfl, rfl, _, _, rfl, rfl, _, _, rfl, rfl, rfl⟩⟩
  have tb : ∀ x ∈ γ.map (·.1), ∃ o, H x = some o := fun x hx => by
    obtain ⟨q, hq, rfl⟩ := List.mem_map.mp hx
    exact ⟨_, hT q hq⟩
  have nS : ∀ x, x ∈ γ.map (·.1) → S x = none := fun x hx => if_neg fun z => by
    obtain ⟨o, ho⟩ := tb x hx
    rw [z, hc] at ho
    cases ho
  have wf0 : WF S H1 (γ.map (·.1)) := ⟨sub, ndT, nS⟩
  have wf : WF S H1 (γ.map (·.1) ++ [p]) := ⟨sub, List.nodup_append.mpr ⟨ndT, by simp, fun x hx y hy z => by
    obtain ⟨o, ho⟩ := tb x hx
    rw [z, List.mem_singleton.mp hy, hp] at ho
    cases ho⟩, fun x hx => by
    rcases List.mem_append.mp hx with hx | hx
    · exact nS x hx
    · have : x = p := by simpa using hx
      subst this
      exact if_neg ne⟩
  have gh : GhO S H1 γ (γ.map (·.1)) := ghO_nil γ fun q hq => e1 _ _ (hT q hq)
  have g0 : Gd κ γ (L2.start N [.ref a]) S H1 (γ.map (·.1)) (none :: List.replicate nl none) := by
    refine ⟨wf0, ?_⟩
    unfold L2.start
    rw [show N.length - [V.ref a].length = nl by simp [hN]]
    exact ⟨[], _, rfl, rfl, envOk_nonesG gh nl⟩
  obtain ⟨F', g1, _⟩ := g0.put2 wf rp i
  obtain ⟨e, hb⟩ := hb c
  exact h.run g1 hb _ fun v σ' S' H' F2 Fw s' g' wf' r _ => by
    have hv : v = .bl true := r.2
    rw [hv]
    exact k H'
end
end LW
set_option Elab.async false
set_option linter.all false
set_option maxRecDepth 100000
set_option maxHeartbeats 2000000
/-! own operators that raise -/
namespace LV
open PySem PySem.Spec PyProof.Rows L2
section
variable {prog : Program} {w : World} {A : Around} {E : Value → Shared → Prop} {s : Shared} {K : PySem.W.Frag} {x C dx f L : Addr} {h0 : Heap} {m : Str → Option Value} {od : Option Obj} {op : Operator} {T : String} {v : Value} {fo ro : Option Value} {Q : Value → Shared → Prop}
end
end LV
set_option Elab.async false
set_option linter.all false
set_option maxRecDepth 100000
set_option maxHeartbeats 2000000
/-! own operators over the layer that raise -/
namespace LV
open PySem PySem.Spec PyProof.Rows L2
abbrev odds : List String := ["NoneType", "bool", "str", "list", "tuple", "dict"]
structure OwnX (X : Cx) (k : Nat) (C : Addr) (nm : Str) (sp : Sp) : Prop where
  ex : ∃ (f : Addr) (fd : FuncData) (ps : List Str), PySem.W.findIn X.K (.ref C) nm = some (some (.ref f)) ∧ PySem.W.isFn X.K (.ref f) = true ∧ FnOk X.prog X.w X.K X.mg X.base (L2.CX X.prog X.w) k f fd ps sp ∧ Binds X.K fd ps []
/-- an object that is no number, beside the class -/
structure OddV (K : PySem.W.Frag) (C : Addr) (H : Hp) (y : V) (T : String) : Prop where
  ty : TyX K H y (.type T)
  mem : T ∈ odds
  bl : T = "bool" → ∃ z, y = .bl z
  sl : PySem.W.subIn K (.type T) (.ref C) = some false
  sr : PySem.W.subIn K (.ref C) (.type T) = some false
section
variable {X : Cx} {k : Nat} {C : Addr} {sp : Sp} {E : XK}
end
end LV
set_option Elab.async false
set_option linter.all false
set_option maxRecDepth 100000
set_option maxHeartbeats 4000000
/-! operators of Exact that raise -/
namespace LW
open PySem PySem.Spec PyProof.Rows L2 LV LM UL
section
variable {P : Program} {w : World} {K : PySem.W.Frag} {mg : Str → Option Value} {base : Heap} {κ : String → Addr} {γ : Gh} {ρ : Bool} {E : XK} {fx : Nat → Bool} {cs : List String} {f : List U → Option U} {g : List U → Option Er}
section
variable {X : Cx} {k j : Nat}
end
/-! mirrors -/
end
end LW
set_option Elab.async false
set_option linter.all false
set_option maxRecDepth 100000
set_option maxHeartbeats 2000000
/-! a staticmethod called by its class -/
namespace LV
open PySem PySem.Spec PyProof.Rows L2
structure Sta (K : PySem.W.Frag) (C : Addr) (mc : Value) (m : Str) (p g : Addr) : Prop where
  rd : ClX.CRead K C mc
  at_ : PySem.W.findCls K (.ref C) mc m = some (.get (.builtin "staticmethod.__get__") (.ref p) .none (.ref C))
  rc : ∃ rest, PySem.W.recIn K p "staticmethod" = some (.ref g :: rest)
section
variable {X : Cx} {pins : List (Addr × Obj)} {σ : L2.St} {H : Hp} {s : Shared} {C p g : Addr} {mc : Value} {m : Str} {A : Around} {E : Value → Shared → Prop}
theorem getsta_ok {b : Bool} {Q : Value → Shared → Prop} (I : Inv X pins σ H s) (k : Sta X.K C mc m p g) (h : ∀ s', Inv X pins σ H s' → Q (.ref g) s') : wpAny (model X.prog X.w) A (getAttr (.ref C) m b) Q E s := by
  obtain ⟨rest, hp⟩ := k.rc
  refine PySem.W.cls_bind I.kIn k.rd.rd k.at_ ?_
  exact wpAny_call (PySem.W.sm_get (s := { s with toks := s.toks + 1 }) I.kIn hp (PySem.W.handed_on rfl (h _ (I.tok _))))
theorem getmethsta_ok {pl : Sem Bool} {Q : Value × List Value → Shared → Prop} (I : Inv X pins σ H s) (k : Sta X.K C mc m p g) (h : ∀ s', Inv X pins σ H s' → Q (.ref g, []) s') : wpAny (model X.prog X.w) A (getMethod (.ref C) m pl) Q E s :=
  PySem.W.method_cls I.kIn k.rd.ga (getsta_ok I k h)
end
/-- C.m(..), m a staticmethod -/
def tStat (C : Addr) (sp : Sp) (E : XK) (ta : TE) (t : TA) : TE := fun σ H Q => ta σ H fun x H1 => x = .ref C ∧ t σ H1 fun vs H2 => sp vs H2 Q E
section
variable {X : Cx} {CX : CXT} {k : Nat} {C p g : Addr} {mc : Value} {sp : Sp} {E : XK} {o e : Expr} {es : List Expr} {m : Str} {pos apos : Pos} {ta : TE} {t : TA} {pl : Sem Bool} {fd : FuncData} {ps : List Str}
theorem pe_static (he : PE X o ta) (c : Sta X.K C mc m p g) (F : FnOk X.prog X.w X.K X.mg X.base CX k g fd ps sp) (kp : PySem.W.keepIn X.K (.ref g) = true) (hb : Binds X.K fd ps []) (hr : Room k X.A) (hx : Passes CX X E) (ha : PA X (e :: es) t)
    (hst : starEach (e :: es) X.env = (false, eval e X.env) :: starEach es X.env := by rfl) (hpl : (backTo pos (starEach es X.env)).any (·.1) = false := by rfl)
    (ht : eval (.Call (.Attribute o m apos) (e :: es) [] pos) X.env = (do
      let ov ← eval o X.env
      standAt apos.atName
      let (f, first) ← holding [ov] (getMethod ov m pl)
      callWith pos f first (backTo pos (starEach (e :: es) X.env)) (backToKw pos (keywordEach [] X.env))) := by rfl) :
    PE X (.Call (.Attribute o m apos) (e :: es) [] pos) (tStat C sp E ta t) := by
  refine ⟨fun pins s σ H Q I h => ?_⟩
  refine PySem.W.methodCall_KW (pl := pl) (thn (he.run pins s σ H _ I h) fun u s1 ⟨x, H1, I1, rx, ex, q⟩ => ?_) ht
  subst ex
  obtain rfl : u = Value.ref C := rx
  refine getmethsta_ok I1 c fun s2 I2 => ?_
  refine PySem.W.callWith_K (h₀ := X.base) I2.ok.mod.kin kp (thn (ha.run pos pins s2 σ H1 _ I2 q) fun us s3 ⟨vs, H2, I3, r, q2⟩ => ⟨I3.kIn, ?_⟩) hst hpl
  exact run_fn (dvs := []) F hr hb .nil hx I3 r (by rw [List.append_nil]; exact q2)
end
end LV
namespace UL
open PySem PySem.Spec PyProof.Rows L2 LV
section
variable {κ : String → Addr} {γ : Gh} {ρ : Bool} {E : XK}
theorem simE_stat {C : String} {f : List U → Option U} {g : List U → Option Er} {n : Nat} {ta : TE} {t : TA} {m : M (List U)} (ho : ∀ σ H (Q : VK), Q (.ref (κ C)) H → ta σ H Q) (h : SimA κ γ ρ n t m) : SimE κ γ ρ (tStat (κ C) (spPX κ f g) E ta t) (mN f m) := by
  constructor
  intro σ S H F env gd u env' e Q k
  obtain ⟨⟨x, e1⟩, h1, e⟩ := bindS e
  obtain ⟨z, h3, e⟩ := bindS e
  cases e
  refine ho _ _ _ ⟨rfl, h.run gd h1 _ fun vs S1 H1 F1 s1 g1 r => ?_⟩
  exact ⟨S1, x, g1.wf.sub, r, .inl ⟨u, h3, fun v' S' H' p r' => k v' S' H' F1 (s1.trans p.stq) (g1.pure_ p) r'⟩⟩
theorem simE_stat0 {C : String} {f : List U → Option U} {n : Nat} {ta : TE} {t : TA} {m : M (List U)} (ho : ∀ σ H (Q : VK), Q (.ref (κ C)) H → ta σ H Q) (h : SimA κ γ ρ n t m) : SimE κ γ ρ (tStat (κ C) (spP κ f) E ta t) (mN f m) := by
  constructor
  intro σ S H F env gd u env' e Q k
  obtain ⟨⟨x, e1⟩, h1, e⟩ := bindS e
  obtain ⟨z, h3, e⟩ := bindS e
  cases e
  refine ho _ _ _ ⟨rfl, h.run gd h1 _ fun vs S1 H1 F1 s1 g1 r => ?_⟩
  exact ⟨S1, x, u, g1.wf.sub, r, h3, fun v' S' H' p r' => k v' S' H' F1 (s1.trans p.stq) (g1.pure_ p) r'⟩
theorem simX_stat {C : String} {f : List U → Option U} {g : List U → Option Er} {n : Nat} {ta : TE} {t : TA} {m : M (List U)} {xa : MX} (ho : ∀ σ H (Q : VK), Q (.ref (κ C)) H → ta σ H Q) (h : SimA κ γ false n t m) (hxa : SimAX κ γ E t xa) : SimEX κ γ E (tStat (κ C) (spPX κ f g) E ta t) (xCall xa m g) := by
  constructor
  intro σ S H F env gd rr e q Q
  refine ho _ _ _ ⟨rfl, ?_⟩
  unfold xCall at e
  split at e
  · rename_i r' hr
    cases e
    exact hxa.run gd hr q _
  · obtain ⟨⟨y, e1⟩, h1, e⟩ := bindS e
    obtain ⟨er, h2, e⟩ := bindS e
    cases e
    exact h.run gd h1 _ fun vs S1 H1 F1 s1 g1 r => ⟨S1, y, g1.wf.sub, r, .inr ⟨er, h2, (q.mono s1.stp (Fix.refl _ σ)).pureE g1⟩⟩
end
end UL
set_option Elab.async false
set_option linter.all false
set_option maxRecDepth 100000
set_option maxHeartbeats 4000000
/-! texts: calls and slices -/
namespace LW
open PySem PySem.Spec PyProof.Rows L2 LV LM UL
section
variable {P : Program} {w : World} {K : PySem.W.Frag} {mg : Str → Option Value} {base : Heap} {κ : String → Addr}
theorem gcd_imp (vs : List V) (H : Hp) (Q : VK) (E : XK) (h : spP κ gcdU vs H Q E) : spGcd vs H Q E := by
  obtain ⟨S, us, u, e, rs, hf, k⟩ := h
  unfold gcdU at hf
  split at hf
  · cases hf
    obtain ⟨v, _, rfl, rfl, v2, _, rfl, rfl, rfl⟩ := rs
    exact ⟨_, _, rfl, k _ S H (stay e) rfl⟩
  · cases hf
theorem call_strU {X : Cx} : CallR X (.type "str") (rP κ strU) := by
  intro pins s σ H xs us Q I rv h
  obtain ⟨S, us', u, e, rs, hf, k⟩ := h
  unfold strU at hf
  split at hf
  · rename_i i
    obtain ⟨v, _, rfl, rfl, rfl⟩ := rs
    by_cases c : i.natAbs.log2 < 1920
    · rw [if_pos c] at hf
      cases hf
      exact call_str_int pins s σ H _ us Q I rv ⟨i, rfl, c, k _ S H (stay e) rfl⟩
    · rw [if_neg c] at hf
      cases hf
  · cases hf
theorem call_intT {X : Cx} : CallR X (.type "int") (rP κ intT) := by
  intro pins s σ H xs us Q I rv h
  obtain ⟨S, us', u, e, rs, hf, k⟩ := h
  unfold intT at hf
  split at hf
  · rename_i a
    obtain ⟨v, _, rfl, rfl, rfl⟩ := rs
    by_cases c : a.length ≤ 640
    · rw [if_pos c] at hf
      obtain ⟨n, h1, hf⟩ := bindS hf
      cases hf
      exact call_int_str pins s σ H _ us Q I rv ⟨a, n, rfl, h1, c, k _ S H (stay e) rfl⟩
    · rw [if_neg c] at hf
      cases hf
  · cases hf
theorem sl_S {X : Cx} : SlR X (rSl κ slS) := by
  intro pins s σ H x v vl vu lo hi sl Q I rx hs pl pu h
  obtain ⟨S, a, u, e, ra, hf, k⟩ := h
  cases a with
  | str z =>
    by_cases c : z.length ≤ sizeLine
    · have e3 : slS (.str z) lo hi = some (.str (cutS z lo hi)) := if_pos c
      rw [e3] at hf
      cases hf
      exact sl_str pins s σ H x v vl vu lo hi sl Q I rx hs pl pu ⟨z, ra, c, k _ S H (stay e) rfl⟩
    · have e3 : slS (.str z) lo hi = none := if_neg c
      rw [e3] at hf
      cases hf
  | _ => cases hf
end
end LW
namespace C9
open PySem PySem.Spec PyProof.Rows L2 LV UL
/-- a staticmethod of a class -/
structure Stat (CX : CXT) (P : Program) (w : World) (K : PySem.W.Frag) (mg : Str → Option Value) (base : Heap) (k : Nat) (C : Addr) (m : Str) (sp : Sp) : Prop where
  ex : ∃ (mc : Value) (p g : Addr) (fd : FuncData) (ps : List Str), Sta K C mc m p g ∧ FnOk P w K mg base CX k g fd ps sp ∧ PySem.W.keepIn K (.ref g) = true ∧ L2.Binds K fd ps []
section
variable {X : Cx} {E : XK} {k j : Nat} {C : Addr} {m : Str} {sp : Sp} {pos apos : Pos} {e o : Expr} {es : List Expr} {ta : TE} {t : TA}
theorem pe_st {pl : Sem Bool} (O : Out X E) (c : Stat (L2.CX X.prog X.w) X.prog X.w X.K X.mg X.base k C m sp) (hr : Room j X.A) (hk : k ≤ j) (he : PE X o ta) (ha : PA X (e :: es) t)
    (hst : starEach (e :: es) X.env = (false, eval e X.env) :: starEach es X.env := by rfl) (hpl : (backTo pos (starEach es X.env)).any (·.1) = false := by rfl)
    (ht : eval (.Call (.Attribute o m apos) (e :: es) [] pos) X.env = (do
      let ov ← eval o X.env
      standAt apos.atName
      let (f, first) ← holding [ov] (getMethod ov m pl)
      callWith pos f first (backTo pos (starEach (e :: es) X.env)) (backToKw pos (keywordEach [] X.env))) := by rfl) :
    PE X (.Call (.Attribute o m apos) (e :: es) [] pos) (tStat C sp E ta t) := by
  obtain ⟨mc, p, g, fd, ps, st, F, kp, b⟩ := c.ex
  exact pe_static (pl := pl) he st F kp b (hr.mono hk) O.ps ha hst hpl ht
theorem pe_st0 {pl : Sem Bool} (c : Stat CX0 X.prog X.w X.K X.mg X.base k C m sp) (hr : Room j X.A) (hk : k ≤ j) (he : PE X o ta) (ha : PA X (e :: es) t)
    (hst : starEach (e :: es) X.env = (false, eval e X.env) :: starEach es X.env := by rfl) (hpl : (backTo pos (starEach es X.env)).any (·.1) = false := by rfl)
    (ht : eval (.Call (.Attribute o m apos) (e :: es) [] pos) X.env = (do
      let ov ← eval o X.env
      standAt apos.atName
      let (f, first) ← holding [ov] (getMethod ov m pl)
      callWith pos f first (backTo pos (starEach (e :: es) X.env)) (backToKw pos (keywordEach [] X.env))) := by rfl) :
    PE X (.Call (.Attribute o m apos) (e :: es) [] pos) (tStat C sp E0 ta t) := by
  obtain ⟨mc, p, g, fd, ps, st, F, kp, b⟩ := c.ex
  exact pe_static (pl := pl) he st F kp b (hr.mono hk) pass0 ha hst hpl ht
end
end C9
set_option Elab.async false
set_option linter.all false
set_option maxRecDepth 100000
set_option maxHeartbeats 4000000
namespace LW
open PySem PySem.Spec PyProof.Rows L2 LV LM UL UM
section
variable {P : Program} {w : World} {K : PySem.W.Frag} {mg : Str → Option Value} {base : Heap} {κ : String → Addr} {cs : List String}
abbrev s_is_digits : Stmt := top 20
abbrev N_is_digits : List Str := ["text", "sign"]
theorem sc_is_digits : FnScope N_is_digits ["text"] (defScope s_is_digits) := ⟨rfl, rfl, rfl, by decide +kernel, rfl, by decide +kernel, by decide +kernel⟩
theorem ok_is_digits {f : Addr} {fd : FuncData} (F : FunD K "is_digits" "is_digits" (defArgs s_is_digits) (defBody s_is_digits) (defScope s_is_digits) [] [] f fd) (T : En P w K mg base κ cs)  : FnOk P w K mg base CX0 8 f fd ["text"] (spP κ (m_is_digits cs)) := by
  refine F.ok sc_is_digits (fun vs H Q E h => len_fnP h) (fun cdv A outer s H vs Q E hr h => ⟨_, PSs.nox (pss_cons (ps_if (pt_cmpR (op_eqU T.B ⟨rfl, rfl, rfl, rfl, rfl⟩ hr 0) (pv 0) pe_str (nomark _)) (pss_one (ps_ret pe_bl)) pss_nil)
      (pss_one (ps_ret (pe_and (pe_cmpR (op_neN T.B ⟨rfl, rfl, rfl, rfl, rfl⟩ hr hr.units 0) (pv 0) pe_str (nomark _)) (pe_and (pe_cmpR (op_neN T.B ⟨rfl, rfl, rfl, rfl, rfl⟩ hr hr.units 0) (pe_ix (ix_U (κ := κ)) (pv 0) pe_int (fun _ _ => rfl)) pe_str (nomark _)) (pe_one (pe_callB (call_allU (κ := κ) rfl) rfl (T.free "all" (by decide +kernel)) (by decide +kernel) (pa_cons (pe_lc (own := [("sign", 1)]) (g := (gName 1)) (tt := tYes) rfl sc_is_digits.nd (pi_str (pv 0)) (blkOk_by (N := N_is_digits) (sc := defScope s_is_digits) (by decide +kernel)) (fun _ _ _ _ _ => by exact (pg_name (i := 1) sc_is_digits.nd rfl (Or.inl rfl))) (fun _ _ _ _ _ => pts_nil) (fun _ _ _ _ _ => by exact (pe_cmpR (op_inSU (κ := κ)) (pv 1) pe_str rfl))) pa_nil)))))))), ?_⟩)
  exact sim_fnP (b := b_is_digits cs) (sim_seq (sim_if (simT_test (simE_op (simE_var 0) simE_str)) (sim_ret (simO_p simE_bl)) sim_next)
      (sim_ret (simO_p (simE_andV (simE_op (simE_var 0) simE_str) (simE_andV (simE_op (simE_op (simE_var 0) simE_int) simE_str) (simE_cb (simA_cons (simE_lc (vs := [1]) (simI_str (simE_var 0)) (simG_name 1) simT_yes (simE_op (simE_var 1) simE_str)) simA_nil))))))) h rfl
abbrev s_number_of : Stmt := top 21
abbrev N_number_of : List Str := ["digits", "number", "sign"]
theorem sc_number_of : FnScope N_number_of ["digits"] (defScope s_number_of) := ⟨rfl, rfl, rfl, by decide +kernel, rfl, by decide +kernel, by decide +kernel⟩
theorem ok_number_of {f : Addr} {fd : FuncData} (F : FunD K "number_of" "number_of" (defArgs s_number_of) (defBody s_number_of) (defScope s_number_of) [] [] f fd) (T : En P w K mg base κ cs)  : FnOk P w K mg base CX0 7 f fd ["digits"] (spP κ (m_number_of cs)) := by
  refine F.ok sc_number_of (fun vs H Q E h => len_fnP h) (fun cdv A outer s H vs Q E hr h => ⟨_, PSs.nox (pss_cons (ps_set (i := 1) sc_number_of.nd rfl (Or.inl rfl) pe_int)
      (pss_cons (ps_for PassesOwn.never rfl (pi_str (pv 0)) (pg_name (i := 2) sc_number_of.nd rfl (Or.inl rfl)) (pss_one (ps_set (i := 1) sc_number_of.nd rfl (Or.inl rfl) (pe_op (op_addU T.B ⟨rfl, rfl, rfl, rfl, rfl⟩ hr) (pe_op (op_mulU T.B ⟨rfl, rfl, rfl, rfl, rfl⟩ hr) pe_int (pv 1)) (pe_m1 PySem.F.slot_str_index PySem.F.type_str_index mt_sindex pe_str (pv 2))))))
      (pss_one (ps_ret (pv 1))))), ?_⟩)
  exact sim_fnP (b := b_number_of cs) (sim_seq (sim_set 1 (simO_p simE_int))
      (sim_seq (sim_for (simI_str (simE_var 0)) (simG_name 2) (sim_set 1 (simO_p (simE_op (simE_op simE_int (simE_var 1)) (simE_sidx simE_str (simE_var 2))))))
      (sim_ret (simO_p (simE_var 1))))) h rfl
abbrev s_digits_of : Stmt := top 22
abbrev N_digits_of : List Str := ["number", "found"]
theorem sc_digits_of : FnScope N_digits_of ["number"] (defScope s_digits_of) := ⟨rfl, rfl, rfl, by decide +kernel, rfl, by decide +kernel, by decide +kernel⟩
theorem ok_digits_of {f : Addr} {fd : FuncData} (F : FunD K "digits_of" "digits_of" (defArgs s_digits_of) (defBody s_digits_of) (defScope s_digits_of) [] [] f fd) (T : En P w K mg base κ cs)  : FnOk P w K mg base CX0 7 f fd ["number"] (spP κ (m_digits_of cs)) := by
  refine F.ok sc_digits_of (fun vs H Q E h => len_fnP h) (fun cdv A outer s H vs Q E hr h => ⟨_, PSs.nox (pss_cons (ps_set (i := 1) sc_digits_of.nd rfl (Or.inl rfl) pe_str)
      (pss_cons (ps_while PassesOwn.never (pt_cmpR (op_geU T.B ⟨rfl, rfl, rfl, rfl, rfl⟩ hr) (pv 0) (pe_op (op_powU (κ := κ)) pe_int pe_int) (nomark _)) (pss_cons (ps_set (i := 1) sc_digits_of.nd rfl (Or.inl rfl) (pe_op (op_addU T.B ⟨rfl, rfl, rfl, rfl, rfl⟩ hr) (pe_joined1 (pe_fmt9 (pe_op (op_modU (κ := κ)) (pv 0) (pe_op (op_powU (κ := κ)) pe_int pe_int)))) (pv 1)))
      (pss_one (ps_set (i := 0) sc_digits_of.nd rfl (Or.inl rfl) (pe_op (op_fdivU (κ := κ)) (pv 0) (pe_op (op_powU (κ := κ)) pe_int pe_int))))))
      (pss_one (ps_ret (pe_joined (.cons (pe_fmt (pv 0)) (.cons (pe_fmt (pv 1)) .nil))))))), ?_⟩)
  exact sim_fnP (b := b_digits_of cs) (sim_seq (sim_set 1 (simO_p simE_str))
      (sim_seq (sim_while fuel (simT_test (simE_op (simE_var 0) (simE_op simE_int simE_int))) (sim_seq (sim_set 1 (simO_p (simE_op (simE_fmt9 (simE_op (simE_var 0) (simE_op simE_int simE_int))) (simE_var 1))))
      (sim_set 0 (simO_p (simE_op (simE_var 0) (simE_op simE_int simE_int))))))
      (sim_ret (simO_p (simE_js (.cons (simE_fmt (simE_var 0)) (.cons (simE_fmt (simE_var 1)) .nil))))))) h rfl
abbrev s_read_number : Stmt := top 25
abbrev N_read_number : List Str := ["text", "parts", "is_below", "over", "under", "part"]
theorem sc_read_number : FnScope N_read_number ["text"] (defScope s_read_number) := ⟨rfl, rfl, rfl, by decide +kernel, rfl, by decide +kernel, by decide +kernel⟩
theorem ok_read_number {f : Addr} {fd : FuncData} (F : FunD K "read_number" "read_number" (defArgs s_read_number) (defBody s_read_number) (defScope s_read_number) [] [] f fd) (T : En P w K mg base κ cs) (c_is_digits : C8.Cal P w K mg base 8 "is_digits" (spP κ (m_is_digits cs)) []) (c_number_of : C8.Cal P w K mg base 7 "number_of" (spP κ (m_number_of cs)) []) (c_common : C8.Cal P w K mg base 1 "common" (spP κ gcdU) []) (k_Exact : C8.Mak P w K mg base 2 "Exact" (κ "Exact") (spInit (κ "Exact")) []) : FnOk P w K mg base CX0 9 f fd ["text"] (spP κ (m_read_number cs)) := by
  refine F.ok sc_read_number (fun vs H Q E h => len_fnP h) (fun cdv A outer s H vs Q E hr h => ⟨_, PSs.nox (pss_cons (ps_set (i := 1) sc_read_number.nd rfl (Or.inl rfl) (pe_split (pv 0) pe_str))
      (pss_cons (ps_set (i := 2) sc_read_number.nd rfl (Or.inl rfl) (pe_cmpR (op_eqU T.B ⟨rfl, rfl, rfl, rfl, rfl⟩ hr 0) (pe_slice (sl_S (κ := κ)) (pe_ix (ix_listK (K := K) rfl) (pv 1) pe_int (fun _ _ => rfl)) po_none (po_some pe_int)) pe_str (nomark _)))
      (pss_cons (ps_asg (pe_ifExp (pt_val (pv 2)) (pe_slice (sl_S (κ := κ)) (pe_ix (ix_listK (K := K) rfl) (pv 1) pe_int (fun _ _ => rfl)) (po_some pe_int) po_none) (pe_ix (ix_listK (K := K) rfl) (pv 1) pe_int (fun _ _ => rfl))) (pg_sub (pv 1) pe_int set_list))
      (pss_cons (ps_if (PW.pt (pw_or (pt_cmpR (op_gtU T.B ⟨rfl, rfl, rfl, rfl, rfl⟩ hr) (pe_callB (call_lenSK (K := K) rfl) rfl (T.free "len" (by decide +kernel)) (by decide +kernel) (pa_cons (pv 1) pa_nil)) pe_int (nomark _)) (pw_or1 (pt_not (pt_val (pe_callB (call_allU (κ := κ) rfl) rfl (T.free "all" (by decide +kernel)) (by decide +kernel) (pa_cons (pe_lc (own := [("part", 5)]) (g := (gName 5)) (tt := tYes) rfl sc_read_number.nd (pi_listK (K := K) rfl (pv 1)) (blkOk_by (N := N_read_number) (sc := defScope s_read_number) (by decide +kernel)) (fun _ _ _ _ _ => by exact (pg_name (i := 5) sc_read_number.nd rfl (Or.inl rfl))) (fun _ _ _ _ _ => pts_nil) (fun _ _ _ _ _ => by exact (C8.pe_c c_is_digits hr (by decide) rfl (pa_cons (pv 5) pa_nil)))) pa_nil))))))) (pss_one (ps_ret pe_non)) pss_nil)
      (pss_cons (ps_par (i := 3) (j := 4) rfl sc_read_number.nd rfl rfl (by decide) rfl rfl (pa_cons (C8.pe_c c_number_of hr (by decide) rfl (pa_cons (pe_ix (ix_listK (K := K) rfl) (pv 1) pe_int (fun _ _ => rfl)) pa_nil)) (pa_cons (pe_ifExp (pt_cmpR (op_eqU T.B ⟨rfl, rfl, rfl, rfl, rfl⟩ hr 0) (pe_callB (call_lenSK (K := K) rfl) rfl (T.free "len" (by decide +kernel)) (by decide +kernel) (pa_cons (pv 1) pa_nil)) pe_int (nomark _)) (C8.pe_c c_number_of hr (by decide) rfl (pa_cons (pe_ix (ix_listK (K := K) rfl) (pv 1) pe_int (fun _ _ => rfl)) pa_nil)) pe_int) pa_nil)) rfl)
      (pss_cons (ps_if (PW.pt (pw_or (PW.pt (pw_and (pt_val (pv 2)) (pw_and1 (pt_cmpR (op_eqU T.B ⟨rfl, rfl, rfl, rfl, rfl⟩ hr 0) (pv 3) pe_int (nomark _))))) (pw_or1 (PW.pt (pw_and (pt_cmpR (op_eqU T.B ⟨rfl, rfl, rfl, rfl, rfl⟩ hr 0) (pe_callB (call_lenSK (K := K) rfl) rfl (T.free "len" (by decide +kernel)) (by decide +kernel) (pa_cons (pv 1) pa_nil)) pe_int (nomark _)) (pw_and1 (PW.pt (pw_or (pt_cmpR (op_ltU T.B ⟨rfl, rfl, rfl, rfl, rfl⟩ hr) (pv 4) pe_int (nomark _)) (pw_or1 (pt_cmpR (op_neN T.B ⟨rfl, rfl, rfl, rfl, rfl⟩ hr hr.units 0) (C8.pe_c c_common hr (by decide) rfl (pa_cons (pv 3) (pa_cons (pv 4) pa_nil))) pe_int (nomark _))))))))))) (pss_one (ps_ret pe_non)) pss_nil)
      (pss_one (ps_ret (C8.pe_mk k_Exact hr (by decide) rfl (pa_cons (pe_ifExp (pt_val (pv 2)) (pe_un (un_negU T.B ⟨rfl, rfl, rfl, rfl, rfl⟩ hr) (pv 3)) (pv 3)) (pa_cons (pv 4) pa_nil))))))))))), ?_⟩)
  exact sim_fnP (b := b_read_number cs) (sim_seq (sim_set 1 (simO_split (simE_var 0) simE_str))
      (sim_seq (sim_set 2 (simO_p (simE_op (simE_sl (simE_ixV simE_int) simPt_none (simPt_some simE_int)) simE_str)))
      (sim_seq (sim_setV simE_int (simE_if (simT_B (simE_var 2)) (simE_sl (simE_ixV simE_int) (simPt_some simE_int) simPt_none) (simE_ixV simE_int)))
      (sim_seq (sim_if (simT_or (simT_test (simE_op simE_lenV simE_int)) (simT_not (simT_B (simE_cb (simA_cons (simE_lcV (vs := [5]) (simG_name 5) simT_yes (simE_call (simA_cons (simE_var 5) simA_nil))) simA_nil))))) (sim_ret (simO_p simE_non)) sim_next)
      (sim_seq (sim_par (simA_cons (simE_call (simA_cons (simE_ixV simE_int) simA_nil)) (simA_cons (simE_if (simT_test (simE_op simE_lenV simE_int)) (simE_call (simA_cons (simE_ixV simE_int) simA_nil)) simE_int) simA_nil)))
      (sim_seq (sim_if (simT_or (simT_and (simT_B (simE_var 2)) (simT_test (simE_op (simE_var 3) simE_int))) (simT_and (simT_test (simE_op simE_lenV simE_int)) (simT_or (simT_test (simE_op (simE_var 4) simE_int)) (simT_test (simE_op (simE_call (simA_cons (simE_var 3) (simA_cons (simE_var 4) simA_nil))) simE_int))))) (sim_ret (simO_p simE_non)) sim_next)
      (sim_ret (simO_p (simE_mkX (simA_cons (simE_if (simT_B (simE_var 2)) (simE_un (simE_var 3)) (simE_var 3)) (simA_cons (simE_var 4) simA_nil)) rfl))))))))) h rfl
abbrev s_Exact_text : Stmt := inClass (top 23) 14
abbrev N_Exact_text : List Str := ["self", "sign", "tail"]
theorem sc_Exact_text : FnScope N_Exact_text ["self"] (defScope s_Exact_text) := ⟨rfl, rfl, rfl, by decide +kernel, rfl, by decide +kernel, by decide +kernel⟩
theorem ok_Exact_text {f : Addr} {fd : FuncData} (F : FunD K "text" "Exact.text" (defArgs s_Exact_text) (defBody s_Exact_text) (defScope s_Exact_text) [] [] f fd) (T : En P w K mg base κ cs) (f_Exact_over : Cls K (κ "Exact") ∧ NoAttr K (κ "Exact") "over") (f_Exact_under : Cls K (κ "Exact") ∧ NoAttr K (κ "Exact") "under") (c_digits_of : C8.Cal P w K mg base 7 "digits_of" (spP κ (m_digits_of cs)) []) : FnOk P w K mg base CX0 8 f fd ["self"] (spP κ (m_Exact_text cs)) := by
  refine F.ok sc_Exact_text (fun vs H Q E h => len_fnP h) (fun cdv A outer s H vs Q E hr h => ⟨_, PSs.nox (pss_cons (ps_set (i := 1) sc_Exact_text.nd rfl (Or.inl rfl) (pe_ifExp (pt_cmpR (op_ltU T.B ⟨rfl, rfl, rfl, rfl, rfl⟩ hr) (pe_fldK (K := K) rfl (pv 0) rfl) pe_int (nomark _)) pe_str pe_str))
      (pss_cons (ps_set (i := 2) sc_Exact_text.nd rfl (Or.inl rfl) (pe_ifExp (pt_cmpR (op_eqU T.B ⟨rfl, rfl, rfl, rfl, rfl⟩ hr 0) (pe_fldK (K := K) rfl (pv 0) rfl) pe_int (nomark _)) pe_str (pe_op (op_addU T.B ⟨rfl, rfl, rfl, rfl, rfl⟩ hr) pe_str (C8.pe_c c_digits_of hr (by decide) rfl (pa_cons (pe_fldK (K := K) rfl (pv 0) rfl) pa_nil)))))
      (pss_one (ps_ret (pe_op (op_addU T.B ⟨rfl, rfl, rfl, rfl, rfl⟩ hr) (pe_op (op_addU T.B ⟨rfl, rfl, rfl, rfl, rfl⟩ hr) (pv 1) (C8.pe_c c_digits_of hr (by decide) rfl (pa_cons (pe_ifExp (pt_cmpR (op_gtU T.B ⟨rfl, rfl, rfl, rfl, rfl⟩ hr) (pe_fldK (K := K) rfl (pv 0) rfl) pe_int (nomark _)) (pe_fldK (K := K) rfl (pv 0) rfl) (pe_un (un_negU T.B ⟨rfl, rfl, rfl, rfl, rfl⟩ hr) (pe_fldK (K := K) rfl (pv 0) rfl))) pa_nil))) (pv 2)))))), ?_⟩)
  exact sim_fnP (b := b_Exact_text cs) (sim_seq (sim_set 1 (simO_p (simE_if (simT_test (simE_op (simE_fldQ f_Exact_over (simE_var 0)) simE_int)) simE_str simE_str)))
      (sim_seq (sim_set 2 (simO_p (simE_if (simT_test (simE_op (simE_fldQ f_Exact_under (simE_var 0)) simE_int)) simE_str (simE_op simE_str (simE_call (simA_cons (simE_fldQ f_Exact_under (simE_var 0)) simA_nil))))))
      (sim_ret (simO_p (simE_op (simE_op (simE_var 1) (simE_call (simA_cons (simE_if (simT_test (simE_op (simE_fldQ f_Exact_over (simE_var 0)) simE_int)) (simE_fldQ f_Exact_over (simE_var 0)) (simE_un (simE_fldQ f_Exact_over (simE_var 0)))) simA_nil))) (simE_var 2)))))) h rfl
abbrev sX_Exact_of_text : Stmt := inClass (top 23) 15
abbrev NX_Exact_of_text : List Str := ["text", "found"]
theorem scX_Exact_of_text : FnScope NX_Exact_of_text ["text"] (defScope sX_Exact_of_text) := ⟨rfl, rfl, rfl, by decide +kernel, rfl, by decide +kernel, by decide +kernel⟩
theorem okx_Exact_of_text {f : Addr} {fd : FuncData} (F : FunD K "of_text" "Exact.of_text" (defArgs sX_Exact_of_text) (defBody sX_Exact_of_text) (defScope sX_Exact_of_text) [] [] f fd) (T : En P w K mg base κ cs) (et : ErrT P K mg κ) (c_read_number : C8.Cal P w K mg base 9 "read_number" (spP κ (m_read_number cs)) []) : FnOk P w K mg base (L2.CX P w) 10 f fd ["text"] (spPX κ (m_Exact_of_text cs) (x_Exact_of_text cs)) := by
  refine F.ok scX_Exact_of_text (fun vs H Q E h => len_fnPX h) (fun cdv A outer s H vs Q E hr h => ?_)
  have O : C9.Out (cxOf (L2.CX P w) P w K mg base NX_Exact_of_text "Exact.of_text" (defScope sX_Exact_of_text) f cdv A outer s H E) E := C9.out_of
  refine ⟨_, (pss_cons (ps_set (i := 1) scX_Exact_of_text.nd rfl (Or.inl rfl) (C8.pe_c c_read_number hr (by decide) rfl (pa_cons (pv 0) pa_nil)))
      (pss_cons (ps_if (pt_cmp (pc_isN (pv 1))) (pss_one (C9.ps_raise O et .text "line" rfl PySem.LevX.fLine hr rfl (pa_cons pe_int pa_nil))) pss_nil)
      (pss_one (ps_ret (pv 1))))), ?_⟩
  exact sim_fnPX (b := b_Exact_of_text cs) (x := xb_Exact_of_text cs) (sim_seq (sim_set 1 (simO_p (simE_call (simA_cons (simE_var 0) simA_nil))))
      (sim_seq (sim_if (simT_B (simE_isN (simE_var 1))) sim_never' sim_next)
      (sim_ret (simO_p (simE_var 1)))))
    (simSX_seq (sim_set 1 (simO_p (simE_call (simA_cons (simE_var 0) simA_nil)))) simSX_none
      (simSX_seq (sim_if (simT_B (simE_isN (simE_var 1))) sim_never' sim_next) (simSX_if (simT_B (simE_isN (simE_var 1))) (simSX_raise (k := .text) rfl (simA_cons simE_int simA_nil) simAX_none) simSX_none)
      simSX_none)) h rfl
end
end LW
set_option Elab.async false
set_option linter.all false
set_option maxRecDepth 100000
set_option maxHeartbeats 4000000
namespace LW
open PySem PySem.Spec PyProof.Rows L2 LV LM UL UM
section
variable {P : Program} {w : World} {K : PySem.W.Frag} {mg : Str → Option Value} {base : Heap} {κ : String → Addr} {cs : List String}
abbrev s__law_fill : Stmt := top 28
abbrev N__law_fill : List Str := ["_law_state", "_law_cells", "_law_nth", "_law_seed", "_law_k", "_law_prime", "_law_far"]
theorem sc__law_fill : FnScope N__law_fill ["_law_state"] (defScope s__law_fill) := ⟨rfl, rfl, rfl, by decide +kernel, rfl, by decide +kernel, by decide +kernel⟩
theorem ok__law_fill {f : Addr} {fd : FuncData} (F : FunD K "_law_fill" "_law_fill" (defArgs s__law_fill) (defBody s__law_fill) (defScope s__law_fill) [] [] f fd) (T : En P w K mg base κ cs)  : FnOk P w K mg base CX0 7 f fd ["_law_state"] (spI κ (m__law_fill cs)) := by
  refine F.ok sc__law_fill (fun vs H Q E h => len_fnI h) (fun cdv A outer s H vs Q E hr h => ⟨_, PSs.nox (pss_cons (ps_par (i := 1) (j := 2) rfl sc__law_fill.nd rfl rfl (by decide) rfl rfl (pa_cons (pe_ix (ix_listK (K := K) rfl) (pv 0) pe_int (fun _ _ => rfl)) (pa_cons (pe_ix (ix_listK (K := K) rfl) (pv 0) pe_int (fun _ _ => rfl)) pa_nil)) rfl)
      (pss_cons (ps_set (i := 3) sc__law_fill.nd rfl (Or.inl rfl) (pe_op (op_addU T.B ⟨rfl, rfl, rfl, rfl, rfl⟩ hr) (pe_op (op_mulU T.B ⟨rfl, rfl, rfl, rfl, rfl⟩ hr) pe_int (pv 2)) pe_int))
      (pss_cons (ps_if (pt_cmpR (op_gtU T.B ⟨rfl, rfl, rfl, rfl, rfl⟩ hr) (pe_callB (call_lenU (κ := κ)) rfl (T.free "len" (by decide +kernel)) (by decide +kernel) (pa_cons (pv 1) pa_nil)) pe_int (nomark _)) (pss_one (ps_set (i := 3) sc__law_fill.nd rfl (Or.inl rfl) (pe_op (op_addU T.B ⟨rfl, rfl, rfl, rfl, rfl⟩ hr) (pe_op (op_mulU T.B ⟨rfl, rfl, rfl, rfl, rfl⟩ hr) pe_int (pe_op (op_fdivU (κ := κ)) (pv 2) (pe_callB (call_lenU (κ := κ)) rfl (T.free "len" (by decide +kernel)) (by decide +kernel) (pa_cons (pv 1) pa_nil)))) (pe_ix (ix_U (κ := κ)) (pv 1) (pe_op (op_modU (κ := κ)) (pe_callTy (call_intU (κ := κ)) rfl (T.free "int" (by decide +kernel)) (by decide +kernel) (pa_cons (pv 2) pa_nil)) (pe_callB (call_lenU (κ := κ)) rfl (T.free "len" (by decide +kernel)) (by decide +kernel) (pa_cons (pv 1) pa_nil))) (fun _ _ => rfl))))) pss_nil)
      (pss_cons (ps_asg (pe_op (op_addU T.B ⟨rfl, rfl, rfl, rfl, rfl⟩ hr) (pv 2) pe_int) (pg_sub (pv 0) pe_int set_list))
      (pss_cons (ps_asg (pe_or (pe_cmpR (op_geU T.B ⟨rfl, rfl, rfl, rfl, rfl⟩ hr) (pv 2) (pe_callB (call_lenU (κ := κ)) rfl (T.free "len" (by decide +kernel)) (by decide +kernel) (pa_cons (pv 1) pa_nil)) (nomark _)) (pe_one (pe_cmpR (op_ltU T.B ⟨rfl, rfl, rfl, rfl, rfl⟩ hr) (pv 3) (pe_op (op_powU (κ := κ)) pe_int pe_int) (nomark _)))) (pg_sub (pv 0) pe_int set_list))
      (pss_cons (ps_asg (pe_op (op_subU T.B ⟨rfl, rfl, rfl, rfl, rfl⟩ hr) (pv 3) (pe_op (op_powU (κ := κ)) pe_int pe_int)) (pg_sub (pv 0) pe_int set_list))
      (pss_one (ps_if (pt_val (pe_ix (ix_listK (K := K) rfl) (pv 0) pe_int (fun _ _ => rfl))) (pss_cons (ps_asg pe_int (pg_sub (pv 0) pe_int set_list))
      (pss_one (ps_for PassesOwn.never rfl (pi_enumSK (K := K) rfl rfl (T.free "enumerate" (by decide +kernel)) (pa_cons (pe_tup (pa_cons pe_int (pa_cons pe_int (pa_cons pe_int (pa_cons pe_int (pa_cons pe_int pa_nil)))))) pa_nil)) (pg_tup rfl (pgs_cons (pg_name (i := 4) sc__law_fill.nd rfl (Or.inl rfl)) (pgs_cons (pg_name (i := 5) sc__law_fill.nd rfl (Or.inl rfl)) pgs_nil))) (pss_cons (ps_set (i := 6) sc__law_fill.nd rfl (Or.inl rfl) (pe_op (op_modU (κ := κ)) (pe_callTy (call_intU (κ := κ)) rfl (T.free "int" (by decide +kernel)) (by decide +kernel) (pa_cons (pe_op (op_mulU T.B ⟨rfl, rfl, rfl, rfl, rfl⟩ hr) (pe_op (op_addU T.B ⟨rfl, rfl, rfl, rfl, rfl⟩ hr) (pe_op (op_addU T.B ⟨rfl, rfl, rfl, rfl, rfl⟩ hr) (pv 3) (pe_op (op_mulU T.B ⟨rfl, rfl, rfl, rfl, rfl⟩ hr) (pe_op (op_mulU T.B ⟨rfl, rfl, rfl, rfl, rfl⟩ hr) pe_int (pv 4)) (pv 4))) (pe_op (op_mulU T.B ⟨rfl, rfl, rfl, rfl, rfl⟩ hr) pe_int (pv 4))) (pe_op (op_addU T.B ⟨rfl, rfl, rfl, rfl, rfl⟩ hr) pe_int (pe_op (op_mulU T.B ⟨rfl, rfl, rfl, rfl, rfl⟩ hr) pe_int (pv 4)))) pa_nil)) (pv 5)))
      (pss_one (ps_asg (pe_op (op_addU T.B ⟨rfl, rfl, rfl, rfl, rfl⟩ hr) (pe_op (op_mulU T.B ⟨rfl, rfl, rfl, rfl, rfl⟩ hr) (pe_ix (ix_listK (K := K) rfl) (pv 0) pe_int (fun _ _ => rfl)) (pv 5)) (pe_op (op_modU (κ := κ)) (pe_callTy (call_intU (κ := κ)) rfl (T.free "int" (by decide +kernel)) (by decide +kernel) (pa_cons (pe_op (op_powU (κ := κ)) (pv 6) pe_int) pa_nil)) (pv 5))) (pg_sub (pv 0) pe_int set_list))))))) pss_nil)))))))), ?_⟩)
  exact sim_fnI (b := b__law_fill cs) (sim_seq (sim_par (simA_cons (simE_ixV simE_int) (simA_cons (simE_ixV simE_int) simA_nil)))
      (sim_seq (sim_set 3 (simO_p (simE_op (simE_op simE_int (simE_var 2)) simE_int)))
      (sim_seq (sim_if (simT_test (simE_op (simE_cb (simA_cons (simE_var 1) simA_nil)) simE_int)) (sim_set 3 (simO_p (simE_op (simE_op simE_int (simE_op (simE_var 2) (simE_cb (simA_cons (simE_var 1) simA_nil)))) (simE_op (simE_var 1) (simE_op (simE_cb (simA_cons (simE_var 2) simA_nil)) (simE_cb (simA_cons (simE_var 1) simA_nil))))))) sim_next)
      (sim_seq (sim_setV simE_int (simE_op (simE_var 2) simE_int))
      (sim_seq (sim_setV simE_int (simE_orV (simE_op (simE_var 2) (simE_cb (simA_cons (simE_var 1) simA_nil))) (simE_op (simE_var 3) (simE_op simE_int simE_int))))
      (sim_seq (sim_setV simE_int (simE_op (simE_var 3) (simE_op simE_int simE_int)))
      (sim_if (simT_B (simE_ixV simE_int)) (sim_seq (sim_setV simE_int simE_int)
      (sim_for (simI_enumS (simA_cons (simE_tup (simA_cons simE_int (simA_cons simE_int (simA_cons simE_int (simA_cons simE_int (simA_cons simE_int simA_nil)))))) simA_nil)) (simG_tup (simGs_cons (simG_name 4) (simGs_cons (simG_name 5) simGs_nil))) (sim_seq (sim_set 6 (simO_p (simE_op (simE_cb (simA_cons (simE_op (simE_op (simE_op (simE_var 3) (simE_op (simE_op simE_int (simE_var 4)) (simE_var 4))) (simE_op simE_int (simE_var 4))) (simE_op simE_int (simE_op simE_int (simE_var 4)))) simA_nil)) (simE_var 5))))
      (sim_setV simE_int (simE_op (simE_op (simE_ixV simE_int) (simE_var 5)) (simE_op (simE_cb (simA_cons (simE_op (simE_var 6) simE_int) simA_nil)) (simE_var 5))))))) sim_next))))))) h rfl
abbrev s__law_take : Stmt := top 29
abbrev N__law_take : List Str := ["_law_state", "_law_many", "_law_laps", "_law_digit"]
theorem sc__law_take : FnScope N__law_take ["_law_state", "_law_many"] (defScope s__law_take) := ⟨rfl, rfl, rfl, by decide +kernel, rfl, by decide +kernel, by decide +kernel⟩
theorem ok__law_take {f : Addr} {fd : FuncData} (F : FunD K "_law_take" "_law_take" (defArgs s__law_take) (defBody s__law_take) (defScope s__law_take) [] [] f fd) (T : En P w K mg base κ cs) (c__law_fill : C8.Cal P w K mg base 7 "_law_fill" (spI κ (m__law_fill cs)) []) : FnOk P w K mg base CX0 8 f fd ["_law_state", "_law_many"] (spI κ (m__law_take cs)) := by
  refine F.ok sc__law_take (fun vs H Q E h => len_fnI h) (fun cdv A outer s H vs Q E hr h => ⟨_, PSs.nox (pss_cons (ps_set (i := 2) sc__law_take.nd rfl (Or.inl rfl) pe_int)
      (pss_cons (ps_while PassesOwn.never (PW.pt (pw_and (pt_cmpR (op_ltU T.B ⟨rfl, rfl, rfl, rfl, rfl⟩ hr) (pv 2) pe_int (nomark _)) (pw_and1 (PW.pt (pw_or (pt_cmpR (op_eqU T.B ⟨rfl, rfl, rfl, rfl, rfl⟩ hr 0) (pe_ix (ix_listK (K := K) rfl) (pv 0) pe_int (fun _ _ => rfl)) pe_int (nomark _)) (pw_or1 (PW.pt (pw_and (pt_val (pe_ix (ix_listK (K := K) rfl) (pv 0) pe_int (fun _ _ => rfl))) (pw_and1 (pt_cmpR (op_ltU T.B ⟨rfl, rfl, rfl, rfl, rfl⟩ hr) (pe_ix (ix_listK (K := K) rfl) (pv 0) pe_int (fun _ _ => rfl)) (pe_op (op_mulU T.B ⟨rfl, rfl, rfl, rfl, rfl⟩ hr) (pv 1) pe_int) (nomark _))))))))))) (pss_cons (ps_expr (C8.pe_c c__law_fill hr (by decide) rfl (pa_cons (pv 0) pa_nil)))
      (pss_cons (ps_aug (i := 2) sc__law_take.nd rfl (Or.inl rfl) pe_int (ip_addU (κ := κ)))
      (pss_one (ps_if (PW.pt (pw_and (pt_val (pe_ix (ix_listK (K := K) rfl) (pv 0) pe_int (fun _ _ => rfl))) (pw_and1 (pt_cmpR (op_ltU T.B ⟨rfl, rfl, rfl, rfl, rfl⟩ hr) (pe_ix (ix_listK (K := K) rfl) (pv 0) pe_int (fun _ _ => rfl)) (pe_op (op_mulU T.B ⟨rfl, rfl, rfl, rfl, rfl⟩ hr) (pv 1) pe_int) (nomark _))))) (pss_one (ps_asg (pe_op (op_addU T.B ⟨rfl, rfl, rfl, rfl, rfl⟩ hr) (pe_ix (ix_listK (K := K) rfl) (pv 0) pe_int (fun _ _ => rfl)) (pe_op (op_mulU T.B ⟨rfl, rfl, rfl, rfl, rfl⟩ hr) (pe_op (op_mulU T.B ⟨rfl, rfl, rfl, rfl, rfl⟩ hr) (pv 1) pe_int) (pe_op (op_addU T.B ⟨rfl, rfl, rfl, rfl, rfl⟩ hr) pe_int (pe_op (op_modU (κ := κ)) (pe_callTy (call_intU (κ := κ)) rfl (T.free "int" (by decide +kernel)) (by decide +kernel) (pa_cons (pe_ix (ix_listK (K := K) rfl) (pv 0) pe_int (fun _ _ => rfl)) pa_nil)) pe_int)))) (pg_sub (pv 0) pe_int set_list))) pss_nil)))))
      (pss_cons (ps_set (i := 3) sc__law_take.nd rfl (Or.inl rfl) (pe_op (op_modU (κ := κ)) (pe_callTy (call_intU (κ := κ)) rfl (T.free "int" (by decide +kernel)) (by decide +kernel) (pa_cons (pe_ix (ix_listK (K := K) rfl) (pv 0) pe_int (fun _ _ => rfl)) pa_nil)) (pv 1)))
      (pss_cons (ps_asg (pe_op (op_fdivU (κ := κ)) (pe_ix (ix_listK (K := K) rfl) (pv 0) pe_int (fun _ _ => rfl)) (pv 1)) (pg_sub (pv 0) pe_int set_list))
      (pss_one (ps_ret (pv 3))))))), ?_⟩)
  exact sim_fnI (b := b__law_take cs) (sim_seq (sim_set 2 (simO_p simE_int))
      (sim_seq (sim_while fuel (simT_and (simT_test (simE_op (simE_var 2) simE_int)) (simT_or (simT_test (simE_op (simE_ixV simE_int) simE_int)) (simT_and (simT_B (simE_ixV simE_int)) (simT_test (simE_op (simE_ixV simE_int) (simE_op (simE_var 1) simE_int)))))) (sim_seq (sim_drop (simE_callI simA_nil))
      (sim_seq (sim_aug simE_int)
      (sim_if (simT_and (simT_B (simE_ixV simE_int)) (simT_test (simE_op (simE_ixV simE_int) (simE_op (simE_var 1) simE_int)))) (sim_setV simE_int (simE_op (simE_ixV simE_int) (simE_op (simE_op (simE_var 1) simE_int) (simE_op simE_int (simE_op (simE_cb (simA_cons (simE_ixV simE_int) simA_nil)) simE_int))))) sim_next))))
      (sim_seq (sim_set 3 (simO_p (simE_op (simE_cb (simA_cons (simE_ixV simE_int) simA_nil)) (simE_var 1))))
      (sim_seq (sim_setV simE_int (simE_op (simE_ixV simE_int) (simE_var 1)))
      (sim_ret (simO_p (simE_var 3))))))) h rfl
abbrev s__law_one : Stmt := top 30
abbrev N__law_one : List Str := ["_law_state", "_law_things"]
theorem sc__law_one : FnScope N__law_one ["_law_state", "_law_things"] (defScope s__law_one) := ⟨rfl, rfl, rfl, by decide +kernel, rfl, by decide +kernel, by decide +kernel⟩
theorem ok__law_one {f : Addr} {fd : FuncData} (F : FunD K "_law_one" "_law_one" (defArgs s__law_one) (defBody s__law_one) (defScope s__law_one) [] [] f fd) (T : En P w K mg base κ cs) (c__law_take : C8.Cal P w K mg base 8 "_law_take" (spI κ (m__law_take cs)) []) : FnOk P w K mg base CX0 9 f fd ["_law_state", "_law_things"] (spI κ (m__law_one cs)) := by
  refine F.ok sc__law_one (fun vs H Q E h => len_fnI h) (fun cdv A outer s H vs Q E hr h => ⟨_, PSs.nox (pss_one (ps_ret (pe_ix (ix_U (κ := κ)) (pv 1) (C8.pe_c c__law_take hr (by decide) rfl (pa_cons (pv 0) (pa_cons (pe_callB (call_lenU (κ := κ)) rfl (T.free "len" (by decide +kernel)) (by decide +kernel) (pa_cons (pv 1) pa_nil)) pa_nil))) (fun _ _ => rfl)))), ?_⟩)
  exact sim_fnI (b := b__law_one cs) (sim_ret (simO_p (simE_op (simE_var 1) (simE_callI (simA_cons (simE_cb (simA_cons (simE_var 1) simA_nil)) simA_nil))))) h rfl
end
end LW
set_option Elab.async false
set_option linter.all false
set_option maxRecDepth 100000
set_option maxHeartbeats 4000000
namespace LW
open PySem PySem.Spec PyProof.Rows L2 LV LM UL UM
section
variable {P : Program} {w : World} {K : PySem.W.Frag} {mg : Str → Option Value} {base : Heap} {κ : String → Addr} {cs : List String}
abbrev s__law_gcd : Stmt := top 35
abbrev N__law_gcd : List Str := ["_law_a", "_law_b"]
theorem sc__law_gcd : FnScope N__law_gcd ["_law_a", "_law_b"] (defScope s__law_gcd) := ⟨rfl, rfl, rfl, by decide +kernel, rfl, by decide +kernel, by decide +kernel⟩
theorem ok__law_gcd {f : Addr} {fd : FuncData} (F : FunD K "_law_gcd" "_law_gcd" (defArgs s__law_gcd) (defBody s__law_gcd) (defScope s__law_gcd) [] [] f fd) (T : En P w K mg base κ cs)  : FnOk P w K mg base CX0 8 f fd ["_law_a", "_law_b"] (spP κ (m__law_gcd cs)) := by
  refine F.ok sc__law_gcd (fun vs H Q E h => len_fnP h) (fun cdv A outer s H vs Q E hr h => ⟨_, PSs.nox (pss_cons (ps_while PassesOwn.never (pt_cmpR (op_neN T.B ⟨rfl, rfl, rfl, rfl, rfl⟩ hr hr.units 0) (pv 1) pe_int (nomark _)) (pss_one (ps_par (i := 0) (j := 1) rfl sc__law_gcd.nd rfl rfl (by decide) rfl rfl (pa_cons (pv 1) (pa_cons (pe_op (op_modU (κ := κ)) (pv 0) (pv 1)) pa_nil)) rfl)))
      (pss_one (ps_ret (pe_ifExp (pt_cmpR (op_gtU T.B ⟨rfl, rfl, rfl, rfl, rfl⟩ hr) (pv 0) pe_int (nomark _)) (pv 0) (pe_un (un_negU T.B ⟨rfl, rfl, rfl, rfl, rfl⟩ hr) (pv 0)))))), ?_⟩)
  exact sim_fnP (b := b__law_gcd cs) (sim_seq (sim_while fuel (simT_test (simE_op (simE_var 1) simE_int)) (sim_par (simA_cons (simE_var 1) (simA_cons (simE_op (simE_var 0) (simE_var 1)) simA_nil))))
      (sim_ret (simO_p (simE_if (simT_test (simE_op (simE_var 0) simE_int)) (simE_var 0) (simE_un (simE_var 0)))))) h rfl
abbrev s__law_frac : Stmt := top 36
abbrev N__law_frac : List Str := ["_law_over", "_law_under", "_law_whole"]
theorem sc__law_frac : FnScope N__law_frac ["_law_over", "_law_under"] (defScope s__law_frac) := ⟨rfl, rfl, rfl, by decide +kernel, rfl, by decide +kernel, by decide +kernel⟩
theorem ok__law_frac {f : Addr} {fd : FuncData} (F : FunD K "_law_frac" "_law_frac" (defArgs s__law_frac) (defBody s__law_frac) (defScope s__law_frac) [] [] f fd) (T : En P w K mg base κ cs) (c__law_gcd : C8.Cal P w K mg base 8 "_law_gcd" (spP κ (m__law_gcd cs)) []) : FnOk P w K mg base CX0 9 f fd ["_law_over", "_law_under"] (spP κ (m__law_frac cs)) := by
  refine F.ok sc__law_frac (fun vs H Q E h => len_fnP h) (fun cdv A outer s H vs Q E hr h => ⟨_, PSs.nox (pss_cons (ps_set (i := 2) sc__law_frac.nd rfl (Or.inl rfl) (C8.pe_c c__law_gcd hr (by decide) rfl (pa_cons (pv 0) (pa_cons (pv 1) pa_nil))))
      (pss_cons (ps_set (i := 2) sc__law_frac.nd rfl (Or.inl rfl) (pe_ifExp (pt_cmpR (op_ltU T.B ⟨rfl, rfl, rfl, rfl, rfl⟩ hr) (pv 1) pe_int (nomark _)) (pe_un (un_negU T.B ⟨rfl, rfl, rfl, rfl, rfl⟩ hr) (pv 2)) (pv 2)))
      (pss_one (ps_ret (pe_tup (pa_cons (pe_op (op_fdivU (κ := κ)) (pv 0) (pv 2)) (pa_cons (pe_op (op_fdivU (κ := κ)) (pv 1) (pv 2)) pa_nil))))))), ?_⟩)
  exact sim_fnP (b := b__law_frac cs) (sim_seq (sim_set 2 (simO_p (simE_call (simA_cons (simE_var 0) (simA_cons (simE_var 1) simA_nil)))))
      (sim_seq (sim_set 2 (simO_p (simE_if (simT_test (simE_op (simE_var 1) simE_int)) (simE_un (simE_var 2)) (simE_var 2))))
      (sim_ret (simO_p (simE_tup (simA_cons (simE_op (simE_var 0) (simE_var 2)) (simA_cons (simE_op (simE_var 1) (simE_var 2)) simA_nil))))))) h rfl
abbrev s__law_some_frac : Stmt := top 37
abbrev N__law_some_frac : List Str := ["_law_state", "_law_top"]
theorem sc__law_some_frac : FnScope N__law_some_frac ["_law_state"] (defScope s__law_some_frac) := ⟨rfl, rfl, rfl, by decide +kernel, rfl, by decide +kernel, by decide +kernel⟩
theorem ok__law_some_frac {f : Addr} {fd : FuncData} (F : FunD K "_law_some_frac" "_law_some_frac" (defArgs s__law_some_frac) (defBody s__law_some_frac) (defScope s__law_some_frac) [] [] f fd) (T : En P w K mg base κ cs) (c__law_one : C8.Cal P w K mg base 9 "_law_one" (spI κ (m__law_one cs)) []) (c__law_frac : C8.Cal P w K mg base 9 "_law_frac" (spP κ (m__law_frac cs)) []) (c__law_take : C8.Cal P w K mg base 8 "_law_take" (spI κ (m__law_take cs)) []) : FnOk P w K mg base CX0 10 f fd ["_law_state"] (spI κ (m__law_some_frac cs)) := by
  refine F.ok sc__law_some_frac (fun vs H Q E h => len_fnI h) (fun cdv A outer s H vs Q E hr h => ⟨_, PSs.nox (pss_cons (ps_set (i := 1) sc__law_some_frac.nd rfl (Or.inl rfl) (C8.pe_c c__law_one hr (by decide) rfl (pa_cons (pv 0) (pa_cons (pe_lst (pa_cons pe_int (pa_cons pe_int (pa_cons pe_int (pa_cons (pe_op (op_powU (κ := κ)) pe_int pe_int) (pa_cons (pe_op (op_powU (κ := κ)) pe_int pe_int) pa_nil)))))) pa_nil))))
      (pss_one (ps_ret (C8.pe_c c__law_frac hr (by decide) rfl (pa_cons (pe_op (op_subU T.B ⟨rfl, rfl, rfl, rfl, rfl⟩ hr) (C8.pe_c c__law_take hr (by decide) rfl (pa_cons (pv 0) (pa_cons (pe_op (op_mulU T.B ⟨rfl, rfl, rfl, rfl, rfl⟩ hr) pe_int (pv 1)) pa_nil))) (pv 1)) (pa_cons (pe_op (op_addU T.B ⟨rfl, rfl, rfl, rfl, rfl⟩ hr) pe_int (C8.pe_c c__law_take hr (by decide) rfl (pa_cons (pv 0) (pa_cons (C8.pe_c c__law_one hr (by decide) rfl (pa_cons (pv 0) (pa_cons (pe_lst (pa_cons pe_int (pa_cons pe_int (pa_cons pe_int (pa_cons pe_int (pa_cons (pe_op (op_powU (κ := κ)) pe_int pe_int) pa_nil)))))) pa_nil))) pa_nil)))) pa_nil)))))), ?_⟩)
  exact sim_fnI (b := b__law_some_frac cs) (sim_seq (sim_set 1 (simO_p (simE_callI (simA_cons (simE_lst (simA_cons simE_int (simA_cons simE_int (simA_cons simE_int (simA_cons (simE_op simE_int simE_int) (simA_cons (simE_op simE_int simE_int) simA_nil)))))) simA_nil))))
      (sim_ret (simO_p (simE_call (simA_cons (simE_op (simE_callI (simA_cons (simE_op simE_int (simE_var 1)) simA_nil)) (simE_var 1)) (simA_cons (simE_op simE_int (simE_callI (simA_cons (simE_callI (simA_cons (simE_lst (simA_cons simE_int (simA_cons simE_int (simA_cons simE_int (simA_cons simE_int (simA_cons (simE_op simE_int simE_int) simA_nil)))))) simA_nil)) simA_nil))) simA_nil)))))) h rfl
abbrev s__law_as_exact : Stmt := top 38
abbrev N__law_as_exact : List Str := ["_law_x"]
theorem sc__law_as_exact : FnScope N__law_as_exact ["_law_x"] (defScope s__law_as_exact) := ⟨rfl, rfl, rfl, by decide +kernel, rfl, by decide +kernel, by decide +kernel⟩
theorem ok__law_as_exact {f : Addr} {fd : FuncData} (F : FunD K "_law_as_exact" "_law_as_exact" (defArgs s__law_as_exact) (defBody s__law_as_exact) (defScope s__law_as_exact) [] [] f fd) (T : En P w K mg base κ cs) (f_Exact_under : Cls K (κ "Exact") ∧ NoAttr K (κ "Exact") "under") (f_Exact_over : Cls K (κ "Exact") ∧ NoAttr K (κ "Exact") "over") (c__law_gcd : C8.Cal P w K mg base 8 "_law_gcd" (spP κ (m__law_gcd cs)) []) : FnOk P w K mg base CX0 9 f fd ["_law_x"] (spP κ (m__law_as_exact cs)) := by
  refine F.ok sc__law_as_exact (fun vs H Q E h => len_fnP h) (fun cdv A outer s H vs Q E hr h => ⟨_, PSs.nox (pss_cons (ps_if (PW.pt (pw_or (pt_not (pt_val (pe_callB (call_isiK1 (K := K) rfl) rfl (T.free "isinstance" (by decide +kernel)) (by decide +kernel) (pa_cons (pv 0) (pa_cons (pe_glob (v := .ref (κ "Exact")) rfl T.gx rfl) pa_nil))))) (pw_or (pt_not (pt_val (pe_callB (call_isiK1 (K := K) rfl) rfl (T.free "isinstance" (by decide +kernel)) (by decide +kernel) (pa_cons (pe_fldK (K := K) rfl (pv 0) rfl) (pa_cons (pe_bltn (v := .ty "int") rfl (T.free "int" (by decide +kernel)) (by decide +kernel) rfl) pa_nil))))) (pw_or1 (pt_not (pt_val (pe_callB (call_isiK1 (K := K) rfl) rfl (T.free "isinstance" (by decide +kernel)) (by decide +kernel) (pa_cons (pe_fldK (K := K) rfl (pv 0) rfl) (pa_cons (pe_bltn (v := .ty "int") rfl (T.free "int" (by decide +kernel)) (by decide +kernel) rfl) pa_nil))))))))) (pss_one (ps_ret pe_non)) pss_nil)
      (pss_one (ps_ret (pe_ifExp (PW.pt (pw_and (pt_cmpR (op_gtU T.B ⟨rfl, rfl, rfl, rfl, rfl⟩ hr) (pe_fldK (K := K) rfl (pv 0) rfl) pe_int (nomark _)) (pw_and1 (pt_cmpR (op_eqU T.B ⟨rfl, rfl, rfl, rfl, rfl⟩ hr 0) (C8.pe_c c__law_gcd hr (by decide) rfl (pa_cons (pe_fldK (K := K) rfl (pv 0) rfl) (pa_cons (pe_fldK (K := K) rfl (pv 0) rfl) pa_nil))) pe_int (nomark _))))) (pe_tup (pa_cons (pe_fldK (K := K) rfl (pv 0) rfl) (pa_cons (pe_fldK (K := K) rfl (pv 0) rfl) pa_nil))) pe_non)))), ?_⟩)
  exact sim_fnP (b := b__law_as_exact cs) (sim_seq (sim_if (simT_or (simT_not (simT_B (simE_isi T.W (.inl T.W.ex) (simE_var 0) (cl_own T.W.ex)))) (simT_or (simT_not (simT_B (simE_isi T.W (.inr (by decide)) (simE_fldQ f_Exact_over (simE_var 0)) (cl_blt T.W (by decide))))) (simT_not (simT_B (simE_isi T.W (.inr (by decide)) (simE_fldQ f_Exact_under (simE_var 0)) (cl_blt T.W (by decide))))))) (sim_ret (simO_p simE_non)) sim_next)
      (sim_ret (simO_p (simE_if (simT_and (simT_test (simE_op (simE_fldQ f_Exact_under (simE_var 0)) simE_int)) (simT_test (simE_op (simE_call (simA_cons (simE_fldQ f_Exact_over (simE_var 0)) (simA_cons (simE_fldQ f_Exact_under (simE_var 0)) simA_nil))) simE_int))) (simE_tup (simA_cons (simE_fldQ f_Exact_over (simE_var 0)) (simA_cons (simE_fldQ f_Exact_under (simE_var 0)) simA_nil))) simE_non)))) h rfl
abbrev s__law_text : Stmt := top 39
abbrev N__law_text : List Str := ["_law_a"]
theorem sc__law_text : FnScope N__law_text ["_law_a"] (defScope s__law_text) := ⟨rfl, rfl, rfl, by decide +kernel, rfl, by decide +kernel, by decide +kernel⟩
theorem ok__law_text {f : Addr} {fd : FuncData} (F : FunD K "_law_text" "_law_text" (defArgs s__law_text) (defBody s__law_text) (defScope s__law_text) [] [] f fd) (T : En P w K mg base κ cs)  : FnOk P w K mg base CX0 7 f fd ["_law_a"] (spP κ (m__law_text cs)) := by
  refine F.ok sc__law_text (fun vs H Q E h => len_fnP h) (fun cdv A outer s H vs Q E hr h => ⟨_, PSs.nox (pss_one (ps_ret (pe_op (op_addU T.B ⟨rfl, rfl, rfl, rfl, rfl⟩ hr) (pe_callTy (call_strU (κ := κ)) rfl (T.free "str" (by decide +kernel)) (by decide +kernel) (pa_cons (pe_ix (ix_U (κ := κ)) (pv 0) pe_int (fun _ _ => rfl)) pa_nil)) (pe_ifExp (pt_cmpR (op_eqU T.B ⟨rfl, rfl, rfl, rfl, rfl⟩ hr 0) (pe_ix (ix_U (κ := κ)) (pv 0) pe_int (fun _ _ => rfl)) pe_int (nomark _)) pe_str (pe_op (op_addU T.B ⟨rfl, rfl, rfl, rfl, rfl⟩ hr) pe_str (pe_callTy (call_strU (κ := κ)) rfl (T.free "str" (by decide +kernel)) (by decide +kernel) (pa_cons (pe_ix (ix_U (κ := κ)) (pv 0) pe_int (fun _ _ => rfl)) pa_nil))))))), ?_⟩)
  exact sim_fnP (b := b__law_text cs) (sim_ret (simO_p (simE_op (simE_cb (simA_cons (simE_op (simE_var 0) simE_int) simA_nil)) (simE_if (simT_test (simE_op (simE_op (simE_var 0) simE_int) simE_int)) simE_str (simE_op simE_str (simE_cb (simA_cons (simE_op (simE_var 0) simE_int) simA_nil))))))) h rfl
abbrev s__law_is_text : Stmt := top 40
abbrev N__law_is_text : List Str := ["_law_text_here", "_law_parts", "_law_head", "_law_x", "_law_sign"]
theorem sc__law_is_text : FnScope N__law_is_text ["_law_text_here"] (defScope s__law_is_text) := ⟨rfl, rfl, rfl, by decide +kernel, rfl, by decide +kernel, by decide +kernel⟩
theorem ok__law_is_text {f : Addr} {fd : FuncData} (F : FunD K "_law_is_text" "_law_is_text" (defArgs s__law_is_text) (defBody s__law_is_text) (defScope s__law_is_text) [] [] f fd) (T : En P w K mg base κ cs) (c__law_gcd : C8.Cal P w K mg base 8 "_law_gcd" (spP κ (m__law_gcd cs)) []) : FnOk P w K mg base CX0 9 f fd ["_law_text_here"] (spP κ (m__law_is_text cs)) := by
  refine F.ok sc__law_is_text (fun vs H Q E h => len_fnP h) (fun cdv A outer s H vs Q E hr h => ⟨_, PSs.nox (pss_cons (ps_set (i := 1) sc__law_is_text.nd rfl (Or.inl rfl) (pe_split (pv 0) pe_str))
      (pss_cons (ps_set (i := 2) sc__law_is_text.nd rfl (Or.inl rfl) (pe_ifExp (pt_cmpR (op_eqU T.B ⟨rfl, rfl, rfl, rfl, rfl⟩ hr 0) (pe_slice (sl_S (κ := κ)) (pe_ix (ix_U (κ := κ)) (pv 1) pe_int (fun _ _ => rfl)) po_none (po_some pe_int)) pe_str (nomark _)) (pe_slice (sl_S (κ := κ)) (pe_ix (ix_U (κ := κ)) (pv 1) pe_int (fun _ _ => rfl)) (po_some pe_int) po_none) (pe_ix (ix_U (κ := κ)) (pv 1) pe_int (fun _ _ => rfl))))
      (pss_cons (ps_for PassesOwn.never rfl (pi_seqK (K := K) rfl (pe_op (op_addU T.B ⟨rfl, rfl, rfl, rfl, rfl⟩ hr) (pe_lst (pa_cons (pv 2) pa_nil)) (pe_slice (sl_U (κ := κ)) (pv 1) (po_some pe_int) po_none))) (pg_name (i := 3) sc__law_is_text.nd rfl (Or.inl rfl)) (pss_one (ps_if (PW.pt (pw_or (pt_cmpR (op_eqU T.B ⟨rfl, rfl, rfl, rfl, rfl⟩ hr 0) (pv 3) pe_str (nomark _)) (pw_or (pt_not (pt_val (pe_callB (call_allU (κ := κ) rfl) rfl (T.free "all" (by decide +kernel)) (by decide +kernel) (pa_cons (pe_lc (own := [("_law_sign", 4)]) (g := (gName 4)) (tt := tYes) rfl sc__law_is_text.nd (pi_str (pv 3)) (blkOk_by (N := N__law_is_text) (sc := defScope s__law_is_text) (by decide +kernel)) (fun _ _ _ _ _ => by exact (pg_name (i := 4) sc__law_is_text.nd rfl (Or.inl rfl))) (fun _ _ _ _ _ => pts_nil) (fun _ _ _ _ _ => by exact (pe_cmpR (op_inSU (κ := κ)) (pv 4) pe_str rfl))) pa_nil)))) (pw_or1 (PW.pt (pw_and (pt_cmpR (op_neN T.B ⟨rfl, rfl, rfl, rfl, rfl⟩ hr hr.units 0) (pv 3) pe_str (nomark _)) (pw_and1 (pt_cmpR (op_eqU T.B ⟨rfl, rfl, rfl, rfl, rfl⟩ hr 0) (pe_ix (ix_U (κ := κ)) (pv 3) pe_int (fun _ _ => rfl)) pe_str (nomark _))))))))) (pss_one (ps_ret pe_bl)) pss_nil)))
      (pss_cons (ps_if (PW.pt (pw_or (pt_cmpR (op_gtU T.B ⟨rfl, rfl, rfl, rfl, rfl⟩ hr) (pe_callB (call_lenU (κ := κ)) rfl (T.free "len" (by decide +kernel)) (by decide +kernel) (pa_cons (pv 1) pa_nil)) pe_int (nomark _)) (pw_or1 (pt_cmpR (op_eqU T.B ⟨rfl, rfl, rfl, rfl, rfl⟩ hr 0) (pe_slice (sl_S (κ := κ)) (pv 0) po_none (po_some pe_int)) pe_str (nomark _))))) (pss_one (ps_ret pe_bl)) pss_nil)
      (pss_one (ps_ret (pe_or (pe_cmpR (op_eqU T.B ⟨rfl, rfl, rfl, rfl, rfl⟩ hr 0) (pe_callB (call_lenU (κ := κ)) rfl (T.free "len" (by decide +kernel)) (by decide +kernel) (pa_cons (pv 1) pa_nil)) pe_int (nomark _)) (pe_one (pe_and (pe_cmpR (op_gtU T.B ⟨rfl, rfl, rfl, rfl, rfl⟩ hr) (pe_callTy (call_intT (κ := κ)) rfl (T.free "int" (by decide +kernel)) (by decide +kernel) (pa_cons (pe_ix (ix_U (κ := κ)) (pv 1) pe_int (fun _ _ => rfl)) pa_nil)) pe_int (nomark _)) (pe_one (pe_cmpR (op_eqU T.B ⟨rfl, rfl, rfl, rfl, rfl⟩ hr 0) (C8.pe_c c__law_gcd hr (by decide) rfl (pa_cons (pe_callTy (call_intT (κ := κ)) rfl (T.free "int" (by decide +kernel)) (by decide +kernel) (pa_cons (pv 2) pa_nil)) (pa_cons (pe_callTy (call_intT (κ := κ)) rfl (T.free "int" (by decide +kernel)) (by decide +kernel) (pa_cons (pe_ix (ix_U (κ := κ)) (pv 1) pe_int (fun _ _ => rfl)) pa_nil)) pa_nil))) pe_int (nomark _)))))))))))), ?_⟩)
  exact sim_fnP (b := b__law_is_text cs) (sim_seq (sim_set 1 (simO_p (simE_f (simO_split (simE_var 0) simE_str))))
      (sim_seq (sim_set 2 (simO_p (simE_if (simT_test (simE_op (simE_sl (simE_op (simE_var 1) simE_int) simPt_none (simPt_some simE_int)) simE_str)) (simE_sl (simE_op (simE_var 1) simE_int) (simPt_some simE_int) simPt_none) (simE_op (simE_var 1) simE_int))))
      (sim_seq (sim_for (simI_seq (simE_op (simE_lst (simA_cons (simE_var 2) simA_nil)) (simE_sl (simE_var 1) (simPt_some simE_int) simPt_none))) (simG_name 3) (sim_if (simT_or (simT_test (simE_op (simE_var 3) simE_str)) (simT_or (simT_not (simT_B (simE_cb (simA_cons (simE_lc (vs := [4]) (simI_str (simE_var 3)) (simG_name 4) simT_yes (simE_op (simE_var 4) simE_str)) simA_nil)))) (simT_and (simT_test (simE_op (simE_var 3) simE_str)) (simT_test (simE_op (simE_op (simE_var 3) simE_int) simE_str))))) (sim_ret (simO_p simE_bl)) sim_next))
      (sim_seq (sim_if (simT_or (simT_test (simE_op (simE_cb (simA_cons (simE_var 1) simA_nil)) simE_int)) (simT_test (simE_op (simE_sl (simE_var 0) simPt_none (simPt_some simE_int)) simE_str))) (sim_ret (simO_p simE_bl)) sim_next)
      (sim_ret (simO_p (simE_orV (simE_op (simE_cb (simA_cons (simE_var 1) simA_nil)) simE_int) (simE_andV (simE_op (simE_cb (simA_cons (simE_op (simE_var 1) simE_int) simA_nil)) simE_int) (simE_op (simE_call (simA_cons (simE_cb (simA_cons (simE_var 2) simA_nil)) (simA_cons (simE_cb (simA_cons (simE_op (simE_var 1) simE_int) simA_nil)) simA_nil))) simE_int))))))))) h rfl
end
end LW
set_option Elab.async false
set_option linter.all false
set_option maxRecDepth 100000
set_option maxHeartbeats 4000000
namespace LW
open PySem PySem.Spec PyProof.Rows L2 LV LM UL UM
section
variable {P : Program} {w : World} {K : PySem.W.Frag} {mg : Str → Option Value} {base : Heap} {κ : String → Addr} {cs : List String}
abbrev s__law_same : Stmt := top 31
abbrev N__law_same : List Str := ["_law_found", "_law_due", "_law_a", "_law_b"]
theorem sc__law_same : FnScope N__law_same ["_law_found", "_law_due"] (defScope s__law_same) := ⟨rfl, rfl, rfl, by decide +kernel, rfl, by decide +kernel, by decide +kernel⟩
theorem okr__law_same {f : Addr} {fd : FuncData} (F : FunD K "_law_same" "_law_same" (defArgs s__law_same) (defBody s__law_same) (defScope s__law_same) [] [] f fd) (T : En P w K mg base κ cs) {rec : List U → Option U} {l : Nat} (hl : 10 ≤ l) (c_rec : C8.Cal P w K mg base l "_law_same" (spP κ rec) [])  : FnOk P w K mg base CX0 (l + 1) f fd ["_law_found", "_law_due"] (spP κ (fnP 2 2 (b__law_same cs rec))) := by
  refine F.ok sc__law_same (fun vs H Q E h => len_fnP h) (fun cdv A outer s H vs Q E hr h => ⟨_, PSs.nox (pss_cons (ps_if (pt_val (pe_callB (call_isiTK (K := K) rfl) rfl (T.free "isinstance" (by decide +kernel)) (by decide +kernel) (pa_cons (pv 1) (pa_cons (pe_tup (pa_cons (pe_bltn (v := .ty "list") rfl (T.free "list" (by decide +kernel)) (by decide +kernel) rfl) (pa_cons (pe_bltn (v := .ty "tuple") rfl (T.free "tuple" (by decide +kernel)) (by decide +kernel) rfl) pa_nil))) pa_nil)))) (pss_cons (ps_if (PW.pt (pw_or (pt_cmpR (op_neN T.B ⟨rfl, rfl, rfl, rfl, rfl⟩ (hr.mono hl) (hr.mono hl).units 3) (pe_callB (call_isiK1 (K := K) rfl) rfl (T.free "isinstance" (by decide +kernel)) (by decide +kernel) (pa_cons (pv 0) (pa_cons (pe_bltn (v := .ty "list") rfl (T.free "list" (by decide +kernel)) (by decide +kernel) rfl) pa_nil))) (pe_callB (call_isiK1 (K := K) rfl) rfl (T.free "isinstance" (by decide +kernel)) (by decide +kernel) (pa_cons (pv 1) (pa_cons (pe_bltn (v := .ty "list") rfl (T.free "list" (by decide +kernel)) (by decide +kernel) rfl) pa_nil))) (nomark _)) (pw_or1 (pt_cmpR (op_neN T.B ⟨rfl, rfl, rfl, rfl, rfl⟩ (hr.mono hl) (hr.mono hl).units 3) (pe_callB (call_isiK1 (K := K) rfl) rfl (T.free "isinstance" (by decide +kernel)) (by decide +kernel) (pa_cons (pv 0) (pa_cons (pe_bltn (v := .ty "tuple") rfl (T.free "tuple" (by decide +kernel)) (by decide +kernel) rfl) pa_nil))) (pe_callB (call_isiK1 (K := K) rfl) rfl (T.free "isinstance" (by decide +kernel)) (by decide +kernel) (pa_cons (pv 1) (pa_cons (pe_bltn (v := .ty "tuple") rfl (T.free "tuple" (by decide +kernel)) (by decide +kernel) rfl) pa_nil))) (nomark _))))) (pss_one (ps_ret pe_bl)) pss_nil)
      (pss_one (ps_ret (pe_and (pe_cmpR (op_eqU T.B ⟨rfl, rfl, rfl, rfl, rfl⟩ (hr.mono hl) 3) (pe_callB (call_lenU (κ := κ)) rfl (T.free "len" (by decide +kernel)) (by decide +kernel) (pa_cons (pv 0) pa_nil)) (pe_callB (call_lenU (κ := κ)) rfl (T.free "len" (by decide +kernel)) (by decide +kernel) (pa_cons (pv 1) pa_nil)) (nomark _)) (pe_one (pe_callB (call_allU (κ := κ) rfl) rfl (T.free "all" (by decide +kernel)) (by decide +kernel) (pa_cons (pe_lc (own := [("_law_a", 2), ("_law_b", 3)]) (g := (gTup K 2 (gCons (gName 2) (gCons (gName 3) gNil)))) (tt := tYes) rfl sc__law_same.nd (pi_zipK (K := K) rfl rfl (T.free "zip" (by decide +kernel)) (pa_cons (pv 0) (pa_cons (pv 1) pa_nil))) (blkOk_by (N := N__law_same) (sc := defScope s__law_same) (by decide +kernel)) (fun _ _ _ _ _ => by exact (pg_tup rfl (pgs_cons (pg_name (i := 2) sc__law_same.nd rfl (Or.inl rfl)) (pgs_cons (pg_name (i := 3) sc__law_same.nd rfl (Or.inl rfl)) pgs_nil)))) (fun _ _ _ _ _ => pts_nil) (fun _ _ _ _ _ => by exact (C8.pe_c c_rec hr (Nat.le_refl _) rfl (pa_cons (pv 2) (pa_cons (pv 3) pa_nil))))) pa_nil))))))) pss_nil)
      (pss_cons (ps_if (pt_val (pe_callB (call_isiK1 (K := K) rfl) rfl (T.free "isinstance" (by decide +kernel)) (by decide +kernel) (pa_cons (pv 1) (pa_cons (pe_bltn (v := .ty "int") rfl (T.free "int" (by decide +kernel)) (by decide +kernel) rfl) pa_nil)))) (pss_one (ps_ret (pe_and (pe_callB (call_isiK1 (K := K) rfl) rfl (T.free "isinstance" (by decide +kernel)) (by decide +kernel) (pa_cons (pv 0) (pa_cons (pe_bltn (v := .ty "int") rfl (T.free "int" (by decide +kernel)) (by decide +kernel) rfl) pa_nil))) (pe_and (pe_cmpR (op_eqU T.B ⟨rfl, rfl, rfl, rfl, rfl⟩ (hr.mono hl) 3) (pe_callB (call_isiK1 (K := K) rfl) rfl (T.free "isinstance" (by decide +kernel)) (by decide +kernel) (pa_cons (pv 0) (pa_cons (pe_bltn (v := .ty "bool") rfl (T.free "bool" (by decide +kernel)) (by decide +kernel) rfl) pa_nil))) (pe_callB (call_isiK1 (K := K) rfl) rfl (T.free "isinstance" (by decide +kernel)) (by decide +kernel) (pa_cons (pv 1) (pa_cons (pe_bltn (v := .ty "bool") rfl (T.free "bool" (by decide +kernel)) (by decide +kernel) rfl) pa_nil))) (nomark _)) (pe_one (pe_cmpR (op_eqUd T.B ⟨rfl, rfl, rfl, rfl, rfl⟩ (hr.mono hl) (hr.mono hl).units 0) (pv 0) (pv 1) (nomark _))))))) pss_nil)
      (pss_one (ps_ret (pe_and (pe_cmpR (op_isBU (κ := κ)) (pe_callB (call_isiTK (K := K) rfl) rfl (T.free "isinstance" (by decide +kernel)) (by decide +kernel) (pa_cons (pv 0) (pa_cons (pe_tup (pa_cons (pe_bltn (v := .ty "bool") rfl (T.free "bool" (by decide +kernel)) (by decide +kernel) rfl) (pa_cons (pe_bltn (v := .ty "int") rfl (T.free "int" (by decide +kernel)) (by decide +kernel) rfl) (pa_cons (pe_bltn (v := .ty "list") rfl (T.free "list" (by decide +kernel)) (by decide +kernel) rfl) (pa_cons (pe_bltn (v := .ty "tuple") rfl (T.free "tuple" (by decide +kernel)) (by decide +kernel) rfl) pa_nil))))) pa_nil))) pe_bl (nomark _)) (pe_one (pe_cmpR (op_eqUd T.B ⟨rfl, rfl, rfl, rfl, rfl⟩ (hr.mono hl) (hr.mono hl).units 0) (pv 0) (pv 1) (nomark _)))))))), ?_⟩)
  exact sim_fnP (b := b__law_same cs rec) (sim_seq (sim_if (simT_B (simE_isi2 T.W (.inr (by decide)) (.inr (by decide)) (simE_var 1) (cl_blt T.W (by decide)) (cl_blt T.W (by decide)))) (sim_seq (sim_if (simT_or (simT_test (simE_op (simE_isi T.W (.inr (by decide)) (simE_var 0) (cl_blt T.W (by decide))) (simE_isi T.W (.inr (by decide)) (simE_var 1) (cl_blt T.W (by decide))))) (simT_test (simE_op (simE_isi T.W (.inr (by decide)) (simE_var 0) (cl_blt T.W (by decide))) (simE_isi T.W (.inr (by decide)) (simE_var 1) (cl_blt T.W (by decide)))))) (sim_ret (simO_p simE_bl)) sim_next)
      (sim_ret (simO_p (simE_andV (simE_op (simE_cb (simA_cons (simE_var 0) simA_nil)) (simE_cb (simA_cons (simE_var 1) simA_nil))) (simE_cb (simA_cons (simE_lc (vs := [2, 3]) (simI_zip (simA_cons (simE_var 0) (simA_cons (simE_var 1) simA_nil))) (simG_tup (simGs_cons (simG_name 2) (simGs_cons (simG_name 3) simGs_nil))) simT_yes (simE_call (simA_cons (simE_var 2) (simA_cons (simE_var 3) simA_nil)))) simA_nil)))))) sim_next)
      (sim_seq (sim_if (simT_B (simE_isi T.W (.inr (by decide)) (simE_var 1) (cl_blt T.W (by decide)))) (sim_ret (simO_p (simE_andV (simE_isi T.W (.inr (by decide)) (simE_var 0) (cl_blt T.W (by decide))) (simE_andV (simE_op (simE_isi T.W (.inr (by decide)) (simE_var 0) (cl_blt T.W (by decide))) (simE_isi T.W (.inr (by decide)) (simE_var 1) (cl_blt T.W (by decide)))) (simE_op (simE_var 0) (simE_var 1)))))) sim_next)
      (sim_ret (simO_p (simE_andV (simE_op (simE_isi4 T.W (.inr (by decide)) (.inr (by decide)) (.inr (by decide)) (.inr (by decide)) (simE_var 0) (cl_blt T.W (by decide)) (cl_blt T.W (by decide)) (cl_blt T.W (by decide)) (cl_blt T.W (by decide))) simE_bl) (simE_op (simE_var 0) (simE_var 1))))))) h rfl
theorem ok__law_same {f : Addr} {fd : FuncData} (F : FunD K "_law_same" "_law_same" (defArgs s__law_same) (defBody s__law_same) (defScope s__law_same) [] [] f fd) (T : En P w K mg base κ cs) (g : mg "_law_same" = some (.ref f)) (kp : PySem.W.keepIn K (.ref f) = true) (bn : Binds K fd ["_law_found", "_law_due"] [])  : ∀ n, C8.Cal P w K mg base (n + 10) "_law_same" (spP κ (m__law_same cs n)) []
  | 0 => ⟨f, fd, ["_law_found", "_law_due"], [], ⟨fun vs H Q E h => (none_spP h).elim, fun A outer s H args us vs Q E hr e0 bt vl h => (none_spP h).elim⟩, g, kp, bn, .nil⟩
  | n + 1 => ⟨f, fd, ["_law_found", "_law_due"], [], (okr__law_same F T (by omega) (ok__law_same F T g kp bn  n) ).mono (by omega), g, kp, bn, .nil⟩
end
end LW
set_option Elab.async false
set_option linter.all false
set_option maxRecDepth 100000
set_option maxHeartbeats 4000000
namespace UM
open PySem L2 UL
def b_law (cs : List String) : MS :=
  (sSeq (sFor (mRng1 (mCons (mC (.int 6)) mNil)) (gN 2) (sSeq (sSet 3 (mP (mCallI 1 (m__law_some_frac cs) mNil)))
    (sSeq (sPar 4 5 (mCons (mN mkF (mCons (m2 ixU (mVar 3) (mC (.int 0))) (mCons (m2 ixU (mVar 3) (mC (.int 1))) mNil))) (mCons (mN (m__law_text cs) (mCons (mVar 3) mNil)) mNil)))
    (sSeq (sIf (mOr (mNot (mTest (mN (m__law_same cs 3) (mCons (mMeth "Exact" "text" (m_Exact_text cs) (mVar 4) mNil) (mCons (mVar 5) mNil))))) (mTest (m2 (neN 3) (mN (m__law_as_exact cs) (mCons (mN (m_Exact_of_text cs) (mCons (mVar 5) mNil)) mNil)) (mVar 3)))) (sRet (mP (mC (.bl false)))) sNext)
    (sSeq (sSet 6 (mP (mLst (mCons (mC (.str "")) (mCons (mC (.str "-")) (mCons (mC (.str "0/1")) (mCons (mC (.str "3/1")) (mCons (mC (.str "2/4")) (mCons (mC (.str "-0")) (mCons (mC (.str "-0/5")) (mCons (mC (.str "01")) (mCons (mC (.str "1/02")) (mCons (mC (.str "+1")) (mCons (mC (.str " 1")) (mCons (mC (.str "1 ")) (mCons (mC (.str "1/")) (mCons (mC (.str "/2")) mNil)))))))))))))))))
    (sSeq (sSet 6 (mP (m2 addU (mVar 6) (mLst (mCons (mC (.str "1/2/3")) (mCons (mC (.str "1.5")) (mCons (mC (.str "--1")) mNil)))))))
    (sSeq (sSet 6 (mP (m2 addU (mVar 6) (mLst (mCons (mC (.str "a")) (mCons (mC (.str "1/-2")) (mCons (mC (.str "0/5")) (mCons (mC (.str "-3/2")) (mCons (mC (.str "7")) (mCons (mC (.str "0")) (mCons (m2 addU (mVar 5) (mC (.str "0"))) (mCons (m2 addU (mC (.str "0")) (mVar 5)) (mCons (m2 addU (mVar 5) (mC (.str "/2"))) (mCons (m2 addU (mC (.str "-")) (mVar 5)) mNil))))))))))))))
    (sSeq (sSet 7 (mP (mCallI 1 (m__law_one cs) (mCons (mVar 6) mNil))))
    (sSeq (sSet 8 (mP (mTried (mN (m_Exact_of_text cs) (mCons (mVar 7) mNil)) (xCall xN (mCons (mVar 7) mNil) (x_Exact_of_text cs)))))
    (sSeq (sIf (mOr (mTest (m2 (neN 3) (m2 ixU (mVar 8) (mC (.int 0))) (mIf (mTest (mN (m__law_is_text cs) (mCons (mVar 7) mNil))) (mC (.str "told")) (mC (.str "text"))))) (mAnd (mTest (m2 (eqU 0) (m2 ixU (mVar 8) (mC (.int 0))) (mC (.str "text")))) (mTest (m2 (neN 0) (m2 ixU (mVar 8) (mC (.int 1))) (mC (.int 1)))))) (sRet (mP (mC (.bl false)))) sNext)
    (sIf (mAnd (mTest (m2 (eqU 0) (m2 ixU (mVar 8) (mC (.int 0))) (mC (.str "told")))) (mTest (m2 (neN 3) (mMeth "Exact" "text" (m_Exact_text cs) (m2 ixU (mVar 8) (mC (.int 1))) mNil) (mVar 7)))) (sRet (mP (mC (.bl false)))) sNext)))))))))))
    (sRet (mP (mC (.bl true)))))
end UM
set_option Elab.async false
set_option linter.all false
set_option maxRecDepth 100000
set_option maxHeartbeats 4000000
namespace LW
open PySem PySem.Spec PyProof.Rows L2 LV LM UL UM
section
variable {P : Program} {w : World} {K : PySem.W.Frag} {mg : Str → Option Value} {base : Heap} {κ : String → Addr} {cs : List String}
abbrev s_law : Stmt := top 41
abbrev N_law : List Str := ["_law_script", "_law_state", "_law_turn", "_law_a", "_law_x", "_law_word", "_law_some", "_law_other", "_law_found"]
theorem sc_law : FnScope N_law ["_law_script"] (defScope s_law) := ⟨rfl, rfl, rfl, by decide +kernel, rfl, by decide +kernel, by decide +kernel⟩
theorem ok_law {f cL pL : Addr} {fd : FuncData} (F : FunD K "law" "law" (defArgs s_law) (defBody s_law) (defScope s_law) [] [] f fd) (hcd : fd.code = .ref cL) (tb : LamX.TabB base mg cL pL) (T : En P w K mg base κ cs) (c__law_some_frac : C8.Cal P w K mg base 10 "_law_some_frac" (spI κ (m__law_some_frac cs)) []) (c__law_text : C8.Cal P w K mg base 7 "_law_text" (spP κ (m__law_text cs)) []) (k_Exact : C8.Mak P w K mg base 2 "Exact" (κ "Exact") (spInit (κ "Exact")) []) (c__law_as_exact : C8.Cal P w K mg base 9 "_law_as_exact" (spP κ (m__law_as_exact cs)) []) (st_Exact_of_text : C9.Stat CX0 P w K mg base 10 (κ "Exact") "of_text" (spP κ (UM.m_Exact_of_text cs))) (c__law_same : C8.Cal P w K mg base 13 "_law_same" (spP κ (m__law_same cs 3)) []) (m_Exact_text : C8.Met P w K mg base 8 (κ "Exact") "text" (spP κ (m_Exact_text cs)) []) (c__law_one : C8.Cal P w K mg base 9 "_law_one" (spI κ (m__law_one cs)) []) (stx_Exact_of_text : C9.Stat (L2.CX P w) P w K mg base 10 (κ "Exact") "of_text" (spPX κ (UM.m_Exact_of_text cs) (x_Exact_of_text cs))) (tk : ∀ X, Std X P w K mg base → Room 4 X.A → ∀ k, Taker X k "_law_tried" "_law_deed" (TTried κ)) (c__law_is_text : C8.Cal P w K mg base 9 "_law_is_text" (spP κ (m__law_is_text cs)) []) (c__law_fresh : C8.Cal P w K mg base 1 "_law_fresh" (spFr K) []) : FnOk P w K mg base CX0 14 f fd ["_law_script"] (spLwT K [(pL, qLam)] 8 1 (b_law cs)) := by
  have hmT : (pL, qLam) ∈ [(pL, qLam)] := by simp
  have huT : ∀ r, (pL, r) ∈ [(pL, qLam)] → r = qLam := fun r hr => by simpa using hr
  refine F.okC hcd sc_law (fun vs H Q E h => by obtain ⟨a, ns, rfl, _⟩ := h; rfl) (fun A outer s H vs Q E hr h => ⟨_, PSs.nox (pss_cons (ps_set (i := 1) sc_law.nd rfl (Or.inl rfl) (C8.pe_c c__law_fresh hr (by decide) rfl (pa_cons (pv 0) pa_nil)))
      (pss_cons (ps_for PassesOwn.never rfl (pi_range1 rfl (T.free "range" (by decide +kernel)) (pa_cons pe_int pa_nil)) (pg_name (i := 2) sc_law.nd rfl (Or.inl rfl)) (pss_cons (ps_set (i := 3) sc_law.nd rfl (Or.inl rfl) (C8.pe_c c__law_some_frac hr (by decide) rfl (pa_cons (pv 1) pa_nil)))
      (pss_cons (ps_par (i := 4) (j := 5) rfl sc_law.nd rfl rfl (by decide) rfl rfl (pa_cons (C8.pe_mk k_Exact hr (by decide) rfl (pa_cons (pe_ix (ix_U (κ := κ)) (pv 3) pe_int (fun _ _ => rfl)) (pa_cons (pe_ix (ix_U (κ := κ)) (pv 3) pe_int (fun _ _ => rfl)) pa_nil))) (pa_cons (C8.pe_c c__law_text hr (by decide) rfl (pa_cons (pv 3) pa_nil)) pa_nil)) rfl)
      (pss_cons (ps_if (PW.pt (pw_or (pt_not (pt_val (C8.pe_c c__law_same hr (by decide) rfl (pa_cons (C8.pe_mt0 m_Exact_text hr (by decide) (pv 4)) (pa_cons (pv 5) pa_nil))))) (pw_or1 (pt_cmpR (op_neN T.B ⟨rfl, rfl, rfl, rfl, rfl⟩ hr hr.units 3) (C8.pe_c c__law_as_exact hr (by decide) rfl (pa_cons (C9.pe_st0 st_Exact_of_text hr (by decide) (pe_glob (v := .ref (κ "Exact")) rfl T.gx rfl) (pa_cons (pv 5) pa_nil)) pa_nil)) (pv 3) (nomark _))))) (pss_one (ps_ret pe_bl)) pss_nil)
      (pss_cons (ps_set (i := 6) sc_law.nd rfl (Or.inl rfl) (pe_lst (pa_cons pe_str (pa_cons pe_str (pa_cons pe_str (pa_cons pe_str (pa_cons pe_str (pa_cons pe_str (pa_cons pe_str (pa_cons pe_str (pa_cons pe_str (pa_cons pe_str (pa_cons pe_str (pa_cons pe_str (pa_cons pe_str (pa_cons pe_str pa_nil))))))))))))))))
      (pss_cons (ps_set (i := 6) sc_law.nd rfl (Or.inl rfl) (pe_op (op_addU T.B ⟨rfl, rfl, rfl, rfl, rfl⟩ hr) (pv 6) (pe_lst (pa_cons pe_str (pa_cons pe_str (pa_cons pe_str pa_nil))))))
      (pss_cons (ps_set (i := 6) sc_law.nd rfl (Or.inl rfl) (pe_op (op_addU T.B ⟨rfl, rfl, rfl, rfl, rfl⟩ hr) (pv 6) (pe_lst (pa_cons pe_str (pa_cons pe_str (pa_cons pe_str (pa_cons pe_str (pa_cons pe_str (pa_cons pe_str (pa_cons (pe_op (op_addU T.B ⟨rfl, rfl, rfl, rfl, rfl⟩ hr) (pv 5) pe_str) (pa_cons (pe_op (op_addU T.B ⟨rfl, rfl, rfl, rfl, rfl⟩ hr) pe_str (pv 5)) (pa_cons (pe_op (op_addU T.B ⟨rfl, rfl, rfl, rfl, rfl⟩ hr) (pv 5) pe_str) (pa_cons (pe_op (op_addU T.B ⟨rfl, rfl, rfl, rfl, rfl⟩ hr) pe_str (pv 5)) pa_nil)))))))))))))
      (pss_cons (ps_set (i := 7) sc_law.nd rfl (Or.inr rfl) (C8.pe_c c__law_one hr (by decide) rfl (pa_cons (pv 1) (pa_cons (pv 6) pa_nil))))
      (pss_cons (ps_set (i := 8) sc_law.nd rfl (Or.inl rfl) (pe_lam3 (k := 10) rfl (tk _ ⟨rfl, rfl, rfl, rfl, rfl⟩ (hr.mono (by decide)) _) tb rfl rfl (hr.mono (by decide)) (LamX.lamS_by (by show LamX.lamSB (defScope s_law) _ = true; decide +kernel)) rfl (fun _ _ _ _ _ => rfl) (fun A outer s H E f c hrL => by exact (C9.pe_st C9.out_lam stx_Exact_of_text hrL (by decide) (pe_glob (v := .ref (κ "Exact")) rfl T.gx rfl) (pa_cons (pv 7) pa_nil)))))
      (pss_cons (ps_if (PW.pt (pw_or (pt_cmpR (op_neN T.B ⟨rfl, rfl, rfl, rfl, rfl⟩ hr hr.units 3) (pe_ix (ix_U (κ := κ)) (pv 8) pe_int (fun _ _ => rfl)) (pe_ifExp (pt_val (C8.pe_c c__law_is_text hr (by decide) rfl (pa_cons (pv 7) pa_nil))) pe_str pe_str) (nomark _)) (pw_or1 (PW.pt (pw_and (pt_cmpR (op_eqU T.B ⟨rfl, rfl, rfl, rfl, rfl⟩ hr 0) (pe_ix (ix_U (κ := κ)) (pv 8) pe_int (fun _ _ => rfl)) pe_str (nomark _)) (pw_and1 (pt_cmpR (op_neN T.B ⟨rfl, rfl, rfl, rfl, rfl⟩ hr hr.units 0) (pe_ix (ix_U (κ := κ)) (pv 8) pe_int (fun _ _ => rfl)) pe_int (nomark _)))))))) (pss_one (ps_ret pe_bl)) pss_nil)
      (pss_one (ps_if (PW.pt (pw_and (pt_cmpR (op_eqU T.B ⟨rfl, rfl, rfl, rfl, rfl⟩ hr 0) (pe_ix (ix_U (κ := κ)) (pv 8) pe_int (fun _ _ => rfl)) pe_str (nomark _)) (pw_and1 (pt_cmpR (op_neN T.B ⟨rfl, rfl, rfl, rfl, rfl⟩ hr hr.units 3) (C8.pe_mt0 m_Exact_text hr (by decide) (pe_ix (ix_U (κ := κ)) (pv 8) pe_int (fun _ _ => rfl))) (pv 7) (nomark _))))) (pss_one (ps_ret pe_bl)) pss_nil))))))))))))
      (pss_one (ps_ret pe_bl)))), ?_⟩)
  exact sim_lawT (b := b_law cs) (sim_seq (sim_for (simI_rng1 (simA_cons simE_int simA_nil)) (simG_name 2) (sim_seq (sim_set 3 (simO_p (simE_callI simA_nil)))
      (sim_seq (sim_par (simA_cons (simE_mkX (simA_cons (simE_op (simE_var 3) simE_int) (simA_cons (simE_op (simE_var 3) simE_int) simA_nil)) rfl) (simA_cons (simE_call (simA_cons (simE_var 3) simA_nil)) simA_nil)))
      (sim_seq (sim_if (simT_or (simT_not (simT_B (simE_call (simA_cons (simE_meth (simE_var 4) simA_nil) (simA_cons (simE_var 5) simA_nil))))) (simT_test (simE_op (simE_call (simA_cons (simE_stat0 (fun _ _ _ q => q) (simA_cons (simE_var 5) simA_nil)) simA_nil)) (simE_var 3)))) (sim_ret (simO_p simE_bl)) sim_next)
      (sim_seq (sim_set 6 (simO_p (simE_lst (simA_cons simE_str (simA_cons simE_str (simA_cons simE_str (simA_cons simE_str (simA_cons simE_str (simA_cons simE_str (simA_cons simE_str (simA_cons simE_str (simA_cons simE_str (simA_cons simE_str (simA_cons simE_str (simA_cons simE_str (simA_cons simE_str (simA_cons simE_str simA_nil)))))))))))))))))
      (sim_seq (sim_set 6 (simO_p (simE_op (simE_var 6) (simE_lst (simA_cons simE_str (simA_cons simE_str (simA_cons simE_str simA_nil)))))))
      (sim_seq (sim_set 6 (simO_p (simE_op (simE_var 6) (simE_lst (simA_cons simE_str (simA_cons simE_str (simA_cons simE_str (simA_cons simE_str (simA_cons simE_str (simA_cons simE_str (simA_cons (simE_op (simE_var 5) simE_str) (simA_cons (simE_op simE_str (simE_var 5)) (simA_cons (simE_op (simE_var 5) simE_str) (simA_cons (simE_op simE_str (simE_var 5)) simA_nil))))))))))))))
      (sim_seq (sim_set 7 (simO_p (simE_callI (simA_cons (simE_var 6) simA_nil))))
      (sim_seq (sim_set 8 (simO_p (simE_tried hmT huT (fun E => (simE_stat (fun _ _ _ q => q) (simA_cons (simE_var 7) simA_nil))) (fun E => (simX_stat (fun _ _ _ q => q) (simA_cons (simE_var 7) simA_nil) simAX_none)))))
      (sim_seq (sim_if (simT_or (simT_test (simE_op (simE_op (simE_var 8) simE_int) (simE_if (simT_B (simE_call (simA_cons (simE_var 7) simA_nil))) simE_str simE_str))) (simT_and (simT_test (simE_op (simE_op (simE_var 8) simE_int) simE_str)) (simT_test (simE_op (simE_op (simE_var 8) simE_int) simE_int)))) (sim_ret (simO_p simE_bl)) sim_next)
      (sim_if (simT_and (simT_test (simE_op (simE_op (simE_var 8) simE_int) simE_str)) (simT_test (simE_op (simE_meth (simE_op (simE_var 8) simE_int) simA_nil) (simE_var 7)))) (sim_ret (simO_p simE_bl)) sim_next)))))))))))
      (sim_ret (simO_p simE_bl))) h rfl
end
end LW
set_option Elab.async false
set_option linter.all false
set_option maxRecDepth 100000
set_option maxHeartbeats 2000000
/-! law k04 over the mirrors -/
namespace UM
open PySem L2 UL LM TL TQ LV
def lw1 (cs : List String) : MS := (sSet 3 (mP (mCallI 1 (m__law_some_frac cs) mNil)))
def lw2 (cs : List String) : MS := (sPar 4 5 (mCons (mN mkF (mCons (m2 ixU (mVar 3) (mC (.int 0))) (mCons (m2 ixU (mVar 3) (mC (.int 1))) mNil))) (mCons (mN (m__law_text cs) (mCons (mVar 3) mNil)) mNil)))
def lw3 (cs : List String) : MS := (sIf (mOr (mNot (mTest (mN (m__law_same cs 3) (mCons (mMeth "Exact" "text" (m_Exact_text cs) (mVar 4) mNil) (mCons (mVar 5) mNil))))) (mTest (m2 (neN 3) (mN (m__law_as_exact cs) (mCons (mN (m_Exact_of_text cs) (mCons (mVar 5) mNil)) mNil)) (mVar 3)))) (sRet (mP (mC (.bl false)))) sNext)
def lw4 (cs : List String) : MS := (sSet 6 (mP (mLst (mCons (mC (.str "")) (mCons (mC (.str "-")) (mCons (mC (.str "0/1")) (mCons (mC (.str "3/1")) (mCons (mC (.str "2/4")) (mCons (mC (.str "-0")) (mCons (mC (.str "-0/5")) (mCons (mC (.str "01")) (mCons (mC (.str "1/02")) (mCons (mC (.str "+1")) (mCons (mC (.str " 1")) (mCons (mC (.str "1 ")) (mCons (mC (.str "1/")) (mCons (mC (.str "/2")) mNil)))))))))))))))))
def lw5 (cs : List String) : MS := (sSet 6 (mP (m2 addU (mVar 6) (mLst (mCons (mC (.str "1/2/3")) (mCons (mC (.str "1.5")) (mCons (mC (.str "--1")) mNil)))))))
def lw6 (cs : List String) : MS := (sSet 6 (mP (m2 addU (mVar 6) (mLst (mCons (mC (.str "a")) (mCons (mC (.str "1/-2")) (mCons (mC (.str "0/5")) (mCons (mC (.str "-3/2")) (mCons (mC (.str "7")) (mCons (mC (.str "0")) (mCons (m2 addU (mVar 5) (mC (.str "0"))) (mCons (m2 addU (mC (.str "0")) (mVar 5)) (mCons (m2 addU (mVar 5) (mC (.str "/2"))) (mCons (m2 addU (mC (.str "-")) (mVar 5)) mNil))))))))))))))
def lw7 (cs : List String) : MS := (sSet 7 (mP (mCallI 1 (m__law_one cs) (mCons (mVar 6) mNil))))
def lw8 (cs : List String) : MS := (sSet 8 (mP (mTried (mN (m_Exact_of_text cs) (mCons (mVar 7) mNil)) (xCall xN (mCons (mVar 7) mNil) (x_Exact_of_text cs)))))
def lw9 (cs : List String) : MS := (sIf (mOr (mTest (m2 (neN 3) (m2 ixU (mVar 8) (mC (.int 0))) (mIf (mTest (mN (m__law_is_text cs) (mCons (mVar 7) mNil))) (mC (.str "told")) (mC (.str "text"))))) (mAnd (mTest (m2 (eqU 0) (m2 ixU (mVar 8) (mC (.int 0))) (mC (.str "text")))) (mTest (m2 (neN 0) (m2 ixU (mVar 8) (mC (.int 1))) (mC (.int 1)))))) (sRet (mP (mC (.bl false)))) sNext)
def lw10 (cs : List String) : MS := (sIf (mAnd (mTest (m2 (eqU 0) (m2 ixU (mVar 8) (mC (.int 0))) (mC (.str "told")))) (mTest (m2 (neN 3) (mMeth "Exact" "text" (m_Exact_text cs) (m2 ixU (mVar 8) (mC (.int 1))) mNil) (mVar 7)))) (sRet (mP (mC (.bl false)))) sNext)
def lwB (cs : List String) : MS := sSeq (lw1 cs) (sSeq (lw2 cs) (sSeq (lw3 cs) (sSeq (lw4 cs) (sSeq (lw5 cs) (sSeq (lw6 cs) (sSeq (lw7 cs) (sSeq (lw8 cs) (sSeq (lw9 cs) (lw10 cs)))))))))
abbrev En (x1 x2 x3 x4 x5 x6 x7 x8 : Option Ow) : UL.Env := [none, x1, x2, x3, x4, x5, x6, x7, x8]
theorem addL {a b : List U} (h : a.length + b.length ≤ 1000) : addU (.lst a) (.lst b) = some (.lst (a ++ b)) := by
  show (if a.length + b.length ≤ sizeLine then some (U.lst (a ++ b)) else none) = _
  rw [if_pos (Nat.le_of_lt (Nat.lt_of_le_of_lt h size1))]
section
variable {cs : List String} {ca : Addr} {w : Ow} {x1 x2 x3 x4 x5 x6 x7 x8 : Option Ow} {r : Rat} {l : List Nat}
theorem mk_fr (h : r.den < 10 ^ 90) : mkF [.int r.num, .int r.den] = some (.q r) := by
  have n0 : (r.den : Int) ≠ 0 := by
    have := r.den_nz
    omega
  have bg : bigI (r.den : Int) = true := by
    refine decide_eq_true ?_
    rw [Int.natAbs_natCast]
    exact Nat.lt_of_lt_of_le (Nat.lt_of_lt_of_le h (show 10 ^ 90 ≤ 2 ^ 300 by decide +kernel)) (Nat.pow_le_pow_right (by decide) (by decide))
  have := mk_of (o := r.num) n0 bg
  rw [this]
  congr 2
  exact Rat.num_divInt_den r
theorem rcv_tx : rcv "Exact" "text" (.q r) = some () := by
  have h : ("text" : Str) ≠ "over" ∧ ("text" : Str) ≠ "under" := by decide +kernel
  show (if "Exact" = "Exact" ∧ ("text" : Str) ≠ "over" ∧ ("text" : Str) ≠ "under" then some () else none) = some ()
  rw [if_pos ⟨rfl, h⟩]
theorem lwS1 {w' : Ow} (t : m__law_some_frac cs w [] = some (fr r, w')) : lw1 cs (En (some w) x2 x3 x4 x5 x6 x7 x8) = some (.nx (En (some w') x2 (some (.p (fr r))) x4 x5 x6 x7 x8)) := by
  simp [lw1, t]
theorem lwS2 (h : Small r) : lw2 cs (En (some w) x2 (some (.p (fr r))) x4 x5 x6 x7 x8) = some (.nx (En (some w) x2 (some (.p (fr r))) (some (.p (.q r))) (some (.p (.str (tx (txt r))))) x6 x7 x8)) := by
  have i0 : ixU (fr r) (.int 0) = some (.int r.num) := rfl
  have i1 : ixU (fr r) (.int 1) = some (.int r.den) := rfl
  have mk := mk_fr (small_90 h).2
  have lt := law_text_eq (cs := cs) (small_90 h).1 (small_90 h).2
  generalize fr r = f at *
  generalize tx (txt r) = z at *
  simp [-mkF, lw2, i0, i1, mk, lt]
theorem lwS3 (h : Small r) : lw3 cs (En (some w) x2 (some (.p (fr r))) (some (.p (.q r))) (some (.p (.str (tx (txt r))))) x6 x7 x8) = some (.nx (En (some w) x2 (some (.p (fr r))) (some (.p (.q r))) (some (.p (.str (tx (txt r))))) x6 x7 x8)) := by
  have te := text_eq (cs := cs) (small_90 h).1 (small_90 h).2
  have rb := rcv_tx (r := r)
  have sl : m__law_same cs 3 [.str (tx (txt r)), .str (tx (txt r))] = some (.bl true) := same_self (cs := cs) 3 (.str (tx (txt r))) (.inl trivial)
  have ot := of_text_ok (cs := cs) (txt_asc r) (Nat.le_trans (txt_len h) (by decide)) (rd_txt r)
  have ae := as_exact_eq (cs := cs) (small_90 h).2
  have ne := fr_ne r 2
  generalize tx (txt r) = z at *
  generalize fr r = f at *
  unfold lw3
  refine (sIf_f5 (e := En (some w) x2 (some (.p f)) (some (.p (.q r))) (some (.p (.str z))) x6 x7 x8) ?_).trans rfl
  simp [mMeth, te, rb, sl, ot, ae, ne]
theorem lwS4 : lw4 cs (En x1 x2 x3 x4 x5 x6 x7 x8) = some (.nx (En x1 x2 x3 x4 x5 (some (.p (.lst L14))) x7 x8)) := rfl
theorem lwS5 : lw5 cs (En x1 x2 x3 x4 x5 (some (.p (.lst L14))) x7 x8) = some (.nx (En x1 x2 x3 x4 x5 (some (.p (.lst (L14 ++ L3)))) x7 x8)) := by
  have a : addU (.lst L14) (.lst L3) = some (.lst (L14 ++ L3)) := addL (by decide)
  have e : lw5 cs = sSet 6 (mP (m2 addU (mVar 6) (fun env => some (.lst L3, env)))) := rfl
  rw [e]
  generalize U.lst L14 = u1 at *
  generalize U.lst L3 = u2 at *
  generalize U.lst (L14 ++ L3) = u3 at *
  simp [-addU, a]
theorem lwS6 (h : Small r) : lw6 cs (En x1 x2 x3 x4 (some (.p (.str (tx (txt r))))) (some (.p (.lst (L14 ++ L3)))) x7 x8) = some (.nx (En x1 x2 x3 x4 (some (.p (.str (tx (txt r))))) (some (.p (.lst (LAll r)))) x7 x8)) := by
  have tl := txt_len h
  have a1 : addU (.str (tx (txt r))) (.str "0") = some (.str (tx (txt r ++ [48]))) := by
    rw [s0]
    exact add_tx (by simp; omega)
  have a2 : addU (.str "0") (.str (tx (txt r))) = some (.str (tx (48 :: txt r))) := by
    rw [s0]
    exact add_tx (a := [48]) (by simp; omega)
  have a3 : addU (.str (tx (txt r))) (.str "/2") = some (.str (tx (txt r ++ [47, 50]))) := by
    rw [sH]
    exact add_tx (by simp; omega)
  have a4 : addU (.str "-") (.str (tx (txt r))) = some (.str (tx (45 :: txt r))) := by
    rw [sM]
    exact add_tx (a := [45]) (by simp; omega)
  have a : addU (.lst (L14 ++ L3)) (.lst (L6 ++ LW r)) = some (.lst (LAll r)) := addL (a := L14 ++ L3) (b := L6 ++ LW r) (by simp)
  have e6 : (L6 ++ LW r) = .str "a" :: .str "1/-2" :: .str "0/5" :: .str "-3/2" :: .str "7" :: .str "0" :: LW r := rfl
  unfold LW at e6
  rw [e6] at a
  generalize tx (txt r) = z at *
  generalize tx (txt r ++ [48]) = z1 at *
  generalize tx (48 :: txt r) = z2 at *
  generalize tx (txt r ++ [47, 50]) = z3 at *
  generalize tx (45 :: txt r) = z4 at *
  generalize U.lst (LAll r) = u3 at *
  generalize U.lst (L14 ++ L3) = u1 at *
  simp [-addU, lw6, a1, a2, a3, a4, a]
theorem lwS7 {w' : Ow} {us : List U} {u : U} (t : m__law_one cs w [.lst us] = some (u, w')) : lw7 cs (En (some w) x2 x3 x4 x5 (some (.p (.lst us))) x7 x8) = some (.nx (En (some w') x2 x3 x4 x5 (some (.p (.lst us))) (some (.p u)) x8)) := by
  simp [lw7, t]
/-- what the law has of the other text -/
def fnd (l : List Nat) : U := match rdN l with
  | none => .tup [.str "text", .int 1]
  | some r => .tup [.str "told", .q r]
theorem lwS8 (ha : Asc l) (hl : l.length ≤ 200) : lw8 cs (En x1 x2 x3 x4 x5 x6 (some (.p (.str (tx l)))) x8) = some (.nx (En x1 x2 x3 x4 x5 x6 (some (.p (.str (tx l)))) (some (.p (fnd l))))) := by
  have ox := of_text_x (cs := cs) ha hl
  unfold fnd
  cases h : rdN l with
  | none =>
    rw [if_pos h] at ox
    generalize tx l = z at *
    have t : mTried (mN (m_Exact_of_text cs) (mCons (mVar 7) mNil)) (xCall xN (mCons (mVar 7) mNil) (x_Exact_of_text cs)) (En x1 x2 x3 x4 x5 x6 (some (.p (.str z))) x8) = some (.tup [.str "text", .int 1], En x1 x2 x3 x4 x5 x6 (some (.p (.str z))) x8) := by
      have x : xCall xN (mCons (mVar 7) mNil) (x_Exact_of_text cs) (En x1 x2 x3 x4 x5 x6 (some (.p (.str z))) x8) = some (⟨.text, .int 1⟩, En x1 x2 x3 x4 x5 x6 (some (.p (.str z))) x8) := by
        simp [xCall, xN, ox]
      unfold mTried
      rw [x]
      rfl
    unfold lw8
    generalize mTried (mN (m_Exact_of_text cs) (mCons (mVar 7) mNil)) (xCall xN (mCons (mVar 7) mNil) (x_Exact_of_text cs)) = mm at *
    simp [t]
  | some r =>
    have ot := of_text_ok (cs := cs) ha hl h
    rw [if_neg (by rw [h]; simp)] at ox
    generalize tx l = z at *
    have t : mTried (mN (m_Exact_of_text cs) (mCons (mVar 7) mNil)) (xCall xN (mCons (mVar 7) mNil) (x_Exact_of_text cs)) (En x1 x2 x3 x4 x5 x6 (some (.p (.str z))) x8) = some (.tup [.str "told", .q r], En x1 x2 x3 x4 x5 x6 (some (.p (.str z))) x8) := by
      have x : xCall xN (mCons (mVar 7) mNil) (x_Exact_of_text cs) (En x1 x2 x3 x4 x5 x6 (some (.p (.str z))) x8) = none := by
        simp [xCall, xN, ox]
      unfold mTried
      rw [x]
      simp [ot]
    unfold lw8
    generalize mTried (mN (m_Exact_of_text cs) (mCons (mVar 7) mNil)) (xCall xN (mCons (mVar 7) mNil) (x_Exact_of_text cs)) = mm at *
    simp [t]
theorem ne_tt {n : Nat} : neN n (.str "told") (.str "told") = some (.bl false) := (neN_ss (by decide +kernel) (by decide +kernel)).trans (by simp)
theorem ne_ee {n : Nat} : neN n (.str "text") (.str "text") = some (.bl false) := (neN_ss (by decide +kernel) (by decide +kernel)).trans (by simp)
theorem eq_ee {n : Nat} : UL.eqU n (.str "text") (.str "text") = some (.bl true) := by rw [eqU_ss, decide_eq_true (by decide +kernel)]
theorem eq_te {n : Nat} : UL.eqU n (.str "told") (.str "text") = some (.bl false) := by rw [eqU_ss, decide_eq_false (by decide +kernel)]
theorem eq_et {n : Nat} : UL.eqU n (.str "text") (.str "told") = some (.bl false) := by rw [eqU_ss, decide_eq_false (by decide +kernel)]
theorem eq_tt {n : Nat} : UL.eqU n (.str "told") (.str "told") = some (.bl true) := by rw [eqU_ss, decide_eq_true (by decide +kernel)]
theorem lwS9 (ha : Asc l) (hl : l.length ≤ 200) : lw9 cs (En x1 x2 x3 x4 x5 x6 (some (.p (.str (tx l)))) (some (.p (fnd l)))) = some (.nx (En x1 x2 x3 x4 x5 x6 (some (.p (.str (tx l)))) (some (.p (fnd l))))) := by
  have it := is_text_eq (cs := cs) ha hl
  unfold fnd lw9
  cases h : rdN l with
  | none =>
    rw [h] at it
    have it : m__law_is_text cs [.str (tx l)] = some (.bl false) := it
    generalize tx l = z at *
    have i0 : ixU (.tup [.str "text", .int 1]) (.int 0) = some (.str "text") := rfl
    have i1 : ixU (.tup [.str "text", .int 1]) (.int 1) = some (.int 1) := rfl
    have n1 := ne_ee (n := 3)
    have e1 := eq_ee (n := 0)
    generalize U.tup [.str "text", .int 1] = f at *
    refine (sIf_f5 (e := En x1 x2 x3 x4 x5 x6 (some (.p (.str z))) (some (.p f))) ?_).trans rfl
    simp [-eqU_ss, i0, i1, it, n1, e1]
  | some r =>
    rw [h] at it
    have it : m__law_is_text cs [.str (tx l)] = some (.bl true) := it
    generalize tx l = z at *
    have i0 : ixU (.tup [.str "told", .q r]) (.int 0) = some (.str "told") := rfl
    have n1 := ne_tt (n := 3)
    have e1 := eq_te (n := 0)
    show (sIf _ _ _) (En x1 x2 x3 x4 x5 x6 (some (.p (.str z))) (some (.p (.tup [.str "told", .q r])))) = some (.nx (En x1 x2 x3 x4 x5 x6 (some (.p (.str z))) (some (.p (.tup [.str "told", .q r])))))
    generalize U.tup [.str "told", .q r] = f at *
    refine (sIf_f5 (e := En x1 x2 x3 x4 x5 x6 (some (.p (.str z))) (some (.p f))) ?_).trans rfl
    simp [-eqU_ss, i0, it, n1, e1]
theorem lwS10 (ha : Asc l) (hl : l.length ≤ 60) : lw10 cs (En x1 x2 x3 x4 x5 x6 (some (.p (.str (tx l)))) (some (.p (fnd l)))) = some (.nx (En x1 x2 x3 x4 x5 x6 (some (.p (.str (tx l)))) (some (.p (fnd l))))) := by
  unfold fnd lw10
  cases h : rdN l with
  | none =>
    generalize tx l = z at *
    have i0 : ixU (.tup [.str "text", .int 1]) (.int 0) = some (.str "text") := rfl
    have e1 := eq_et (n := 0)
    show (sIf _ _ _) (En x1 x2 x3 x4 x5 x6 (some (.p (.str z))) (some (.p (.tup [.str "text", .int 1])))) = some (.nx (En x1 x2 x3 x4 x5 x6 (some (.p (.str z))) (some (.p (.tup [.str "text", .int 1])))))
    generalize U.tup [.str "text", .int 1] = f at *
    refine (sIf_f5 (e := En x1 x2 x3 x4 x5 x6 (some (.p (.str z))) (some (.p f))) ?_).trans rfl
    simp [-eqU_ss, i0, e1]
  | some r =>
    have e : l = txt r := rd_back h
    have b := txt_small (r := r) (by rw [← e]; exact hl)
    have te := text_eq (cs := cs) b.1 b.2
    rw [← e] at te
    have ne := ne_tx (n := 3) ha ha
    rw [decide_eq_true rfl] at ne
    have ne : neN 3 (.str (tx l)) (.str (tx l)) = some (.bl false) := ne
    have rb := rcv_tx (r := r)
    generalize tx l = z at *
    have i0 : ixU (.tup [.str "told", .q r]) (.int 0) = some (.str "told") := rfl
    have i1 : ixU (.tup [.str "told", .q r]) (.int 1) = some (.q r) := rfl
    have e1 := eq_tt (n := 0)
    show (sIf _ _ _) (En x1 x2 x3 x4 x5 x6 (some (.p (.str z))) (some (.p (.tup [.str "told", .q r])))) = some (.nx (En x1 x2 x3 x4 x5 x6 (some (.p (.str z))) (some (.p (.tup [.str "told", .q r])))))
    generalize U.tup [.str "told", .q r] = f at *
    refine (sIf_f5 (e := En x1 x2 x3 x4 x5 x6 (some (.p (.str z))) (some (.p f))) ?_).trans rfl
    simp [mMeth, -eqU_ss, i0, i1, e1, rb, te, ne]
theorem law_turn (h : StA ca w) : ∃ w' y3 y4 y5 y6 y7 y8, lwB cs (En (some w) x2 x3 x4 x5 x6 x7 x8) = some (.nx (En (some w') x2 y3 y4 y5 y6 y7 y8)) ∧ StA ca w' := by
  obtain ⟨r, w1, t1, hs, k1⟩ := some_frac4 (cs := cs) h
  obtain ⟨u, w2, t2, hu, k2⟩ := one_spec (cs := cs) k1 (us := LAll r) (lAll_ne r) (lAll_len r)
  obtain ⟨l, rfl, ha, hl⟩ := lAll_ok hs hu
  exact ⟨w2, _, _, _, _, _, _, (sSeq_nx (lwS1 t1)).trans ((sSeq_nx (lwS2 hs)).trans ((sSeq_nx (lwS3 hs)).trans ((sSeq_nx lwS4).trans ((sSeq_nx lwS5).trans ((sSeq_nx (lwS6 hs)).trans ((sSeq_nx (lwS7 t2)).trans ((sSeq_nx (lwS8 ha (Nat.le_trans hl (by decide)))).trans ((sSeq_nx (lwS9 ha (Nat.le_trans hl (by decide)))).trans (lwS10 ha hl))))))))), k2⟩
end
end UM
namespace LW
open PySem L2 UL LM UM
theorem law_true (c : Addr) (ns : List Int) (hl : ns.length ≤ 63) : ∃ e, b_law ["Exact"] ((none :: List.replicate 8 none).set 1 (some (st0 c ns))) = some (.rt (.p (.bl true)) e) := by
  have h0 : StA c (st0 c ns) := ⟨ns, 0, 0, false, rfl, hl⟩
  obtain ⟨e, h1, w, x2, x3, x4, x5, x6, x7, x8, rfl, _⟩ := for_inv (fun k : Nat => U.int (k : Int)) (fun _ e => ∃ (w : Ow) (x2 x3 x4 x5 x6 x7 x8 : Option Ow), e = UM.En (some w) x2 x3 x4 x5 x6 x7 x8 ∧ StA c w) (g := gN 2) (s := lwB ["Exact"]) (xs := List.range 6) (k := 0) (env := UM.En (some (st0 c ns)) none none none none none none none) ⟨_, none, none, none, none, none, none, none, rfl, h0⟩ (by
    rintro j k e hj ⟨w, x2, x3, x4, x5, x6, x7, x8, rfl, hw⟩
    obtain ⟨w', y3, y4, y5, y6, y7, y8, h1, h2⟩ := law_turn (cs := ["Exact"]) hw (x2 := some (.p (.int k))) (x3 := x3) (x4 := x4) (x5 := x5) (x6 := x6) (x7 := x7) (x8 := x8)
    exact ⟨UM.En (some w) (some (.p (.int k))) x3 x4 x5 x6 x7 x8, by simp, _, h1, w', _, y3, y4, y5, y6, y7, y8, rfl, h2⟩)
  refine ⟨UM.En (some w) x2 x3 x4 x5 x6 x7 x8, ?_⟩
  show sSeq (sFor (mRng1 (mCons (mC (.int 6)) mNil)) (gN 2) (lwB ["Exact"])) (sRet (mP (mC (.bl true)))) (UM.En (some (st0 c ns)) none none none none none none none) = _
  rw [sSeq_nx (e := UM.En (some w) x2 x3 x4 x5 x6 x7 x8)]
  · simp
  · rw [sFor_d, mRng1_i (n := 6) (e := UM.En (some (st0 c ns)) none none none none none none none) (by simp) (by decide), Option.bind_some, rngU_map]
    exact h1
end LW
set_option Elab.async false
set_option linter.all false
set_option maxRecDepth 100000
set_option maxHeartbeats 4000000
/-! what the head looks at: the errors' classes, tables -/
namespace LW
open PySem PySem.Spec PyProof.Rows L2 LV LM UL
open PySem.W (Frag findIn typeIn subIn nsIn keepIn hasDictIn mroIn kitOne exmOne specialIn takesIn excIn codeIn)
def eksL : List Ek := [.part, .text, .level, .fact, .place, .point, .moment, .line, .unknown, .height, .frame, .unfit, .history]
theorem eks_all (k : Ek) : k ∈ eksL := by cases k <;> decide
/-- the class's object -/
def clsE (K : Frag) (C : Addr) : Bool := match K.lookup C with
  | some ⟨.type t, _, .cls cd, sl⟩ => (match cd.mro, sl.toList with
    | .ref C' :: bm, [_, _, _, _, some (.builtin n), _] => ((decide (t = "type") && decide (C' = C)) && (decide (n = "ValueError.__new__") && !cd.hasDel)) && (PySem.HandSPX.refsVE bm && cd.hasDict)
    | _, _ => false)
  | _ => false
theorem clsE_ok {K : Frag} {C : Addr} (h : clsE K C = true) : ∃ nm qn N bs bm sn sub ab col dd k0 k1 k2 k3 k5, K.lookup C = some (excClassObj nm qn C N bs bm true sn sub ab col dd k0 k1 k2 k3 k5 "ValueError.__new__") ∧ PySem.HandSPX.refsVE bm = true := by
  unfold clsE at h
  split at h
  case h_2 => cases h
  rename_i t dd cd sl ho
  split at h
  case h_2 => cases h
  rename_i C' bm k0 k1 k2 k3 n k5 hm hs
  simp only [Bool.and_eq_true, decide_eq_true_eq, Bool.not_eq_true'] at h
  obtain ⟨⟨⟨rfl, rfl⟩, rfl, hdel⟩, hr, hd⟩ := h
  obtain ⟨nm, bs, mro, ns, qn, hdc, sn, sub, ab, col, del⟩ := cd
  dsimp only at hm hdel hd
  subst hm hdel hd
  obtain ⟨l⟩ := sl
  dsimp only at hs
  subst hs
  exact ⟨nm, qn, ns, bs, bm, sn, sub, ab, col, dd, k0, k1, k2, k3, k5, ho, hr⟩
/-- the __init__'s object, but for its text -/
def fnE (K : Frag) (C fI : Addr) (q file : Str) : Bool := match K.lookup fI with
  | some ⟨_, _, .func fd, _⟩ => (match fd.code, fd.closure, fd.defaults, fd.kwdefaults with
    | .ref cda, [(_, cc)], .none, .none => (codeIn K (.ref cda) q && (match K.lookup cda with
        | some ⟨_, _, .fields vs, _⟩ => (match (vs[2]? : Option Value) with
          | some (Value.str fl _) => (file == fl)
          | _ => false)
        | _ => false)) && (match K.lookup cc with
        | some ⟨_, _, .cell (some (.ref C')), _⟩ => decide (C' = C)
        | _ => false)
    | _, _, _, _ => false)
  | _ => false
/-- its text -/
abbrev ObE : Type := Option (Str × Str × Arguments × FuncBody × Scope × Addr × List Str × Addr)
def obsE (K : Frag) (fI : Addr) : ObE := match K.lookup fI with
  | some ⟨_, _, .func fd, _⟩ => some (fd.name, fd.qualname, fd.params, fd.body, fd.scope, fd.globals, fd.closure.map (·.1), fd.builtins)
  | _ => none
theorem fnE_ok {K : Frag} {C fI : Addr} {q file : Str} {pa : Arguments} {bo : List Stmt} {sc : Scope} (h : fnE K C fI q file = true) (ho : obsE K fI = (some (("__init__" : Str), q, pa, FuncBody.stmts bo, sc, mainGlobals, [("__class__" : Str)], builtinsNs) : ObE)) :
    ∃ (oc : Value) (od : Option Addr) (doc pm : Value) (an : Option Addr) (cda cc : Addr) (ct : Value) (osl : Array (Option Value)), K.lookup fI = some ⟨oc, od, .func (PySem.W.ksFn "__init__" q pa bo sc .none .none doc pm an (.ref cda) ct cc), osl⟩ ∧ codeIn K (.ref cda) q = true ∧
      (∃ (vs : Array Value) (fl : Str) (tf : Tok) (ccl : Value) (cdd : Option Addr) (ccs : Array (Option Value)), K.lookup cda = some ⟨ccl, cdd, .fields vs, ccs⟩ ∧ vs[2]? = some (.str fl tf) ∧ (file == fl) = true) ∧ ∃ (cl : Value) (cld : Option Addr) (csl : Array (Option Value)), K.lookup cc = some ⟨cl, cld, .cell (some (.ref C)), csl⟩ := by
  unfold fnE at h
  unfold obsE at ho
  split at h
  case h_2 => cases h
  rename_i oc od fd osl hl
  rw [hl] at ho
  dsimp only at ho
  split at h
  case h_2 => cases h
  rename_i cda nm cc h1 h2 h3 h4
  rw [Bool.and_eq_true, Bool.and_eq_true] at h
  obtain ⟨⟨c1, c2⟩, c3⟩ := h
  obtain ⟨fname, fqual, fpar, fbody, fscope, fglob, fclo, fdef, fkw, fdoc, fpm, fan, fcode, fct, fbl⟩ := fd
  dsimp only at h1 h2 h3 h4 ho
  subst h1 h2 h3 h4
  injection ho with ho
  simp only [Prod.mk.injEq, List.map_cons, List.map_nil, List.cons.injEq, and_true] at ho
  obtain ⟨rfl, rfl, rfl, rfl, rfl, rfl, rfl, rfl⟩ := ho
  refine ⟨oc, od, fdoc, fpm, fan, cda, cc, fct, osl, hl, c1, ?_, ?_⟩
  · split at c2
    case h_2 => cases c2
    rename_i a1 a2 vs a3 hk
    split at c2
    case h_2 => cases c2
    rename_i fl tf hv
    exact ⟨vs, fl, tf, _, _, _, hk, hv, c2⟩
  · split at c3
    case h_2 => cases c3
    rename_i a1 a2 C' a3 hk
    have := of_decide_eq_true c3
    subst this
    exact ⟨_, _, _, hk⟩
abbrev fIE (K : Frag) (k : Ek) : Addr := He.fAd K (Str.ofString k.c, some "__init__")
abbrev CE (K : Frag) (k : Ek) : Addr := He.ga K (Str.ofString k.c)
/-- a class with a field -/
def levB (K : Frag) (k : Ek) (f : String) (file : Str) : Bool :=
  (clsE K (CE K k) && (decide (findIn K (.ref (CE K k)) "__setattr__" = some (some (.builtin "object.__setattr__"))) && decide (findIn K (.ref (CE K k)) "__init__" = some (some (.ref (fIE K k)))))) &&
  ((decide (typeIn K (.ref (fIE K k)) = some (.type "function")) && decide (subIn K (.ref (CE K k)) (.type "ValueError") = some true)) &&
  ((decide (PySem.W.ks_superIn K (CE K k) (CE K k) "__init__" = some (some (.builtin "ValueError.__init__"))) && decide (nsIn K cStatics "thirdparty.any" = some none)) &&
  ((decide (mroIn K (CE K k) (.ref (CE K k)) = some true) && decide (findIn K (.ref (CE K k)) (Str.ofString f) = some none)) && fnE K (CE K k) (fIE K k) (Str.ofString (k.c ++ ".__init__")) file)))
/-- what all of them have -/
def anyB (K : Frag) (k : Ek) : Bool :=
  ((decide (findIn K (.ref (CE K k)) "__getattribute__" = some (some (.builtin "BaseException.__getattribute__"))) && decide (findIn K (.ref (CE K k)) "__getattr__" = some none)) &&
  (decide (subIn K (.ref (CE K k)) (.type "BaseException") = some true) && hasDictIn K (CE K k))) &&
  ((decide (findIn K (.ref (CE K k)) "__class__" = some (some (.builtin "object.__class__"))) && decide (mroIn K (CE K k) (.type "object") = some true)) &&
  ((keepIn K (.ref (CE K k)) && decide (typeIn K (.ref (CE K k)) = some (.type "type"))) && (decide (nsIn K mainGlobals (Str.ofString k.c) = some (some (.ref (CE K k)))) && decide (exmOne K (.ref (CE K k)) (.ref (He.ga K "LevelError")) = some true))))
def errB (K : Frag) (file : Str) : Bool :=
  (eksL.all fun k => anyB K k && (match k.f with
    | some f => levB K k f file
    | none => excIn K (CE K k) [.type "ValueError", .type "Exception", .type "BaseException", .type "object"] "ValueError.__new__")) &&
  ((eksL.all fun k => eksL.all fun k' => decide (kitOne K (.ref (CE K k)) (.ref (CE K k')) = some (decide (k = k')))) &&
  ((decide (specialIn K (.builtin "object.__class__") "__get__" = some (some (.builtin "getset_descriptor.__get__"))) && decide (takesIn K (.builtin "object.__class__") = some true)) && decide (nsIn K mainGlobals "LevelError" = some (some (.ref (He.ga K "LevelError"))))))
/-- the texts of the __init__s -/
def obsEs (K : Frag) : List ObE := [Ek.part, .text, .level, .fact, .place, .point, .moment, .line, .unknown, .height].map fun k => obsE K (fIE K k)
section
variable {P : Program} {K : Frag} {mg : Str → Option Value} {h : Heap}
theorem mg_at (X : K.In h) (G : h.Ns mainGlobals mg) {x : Str} {v : Value} (e : nsIn K mainGlobals x = some (some v)) : mg x = some v := PySem.W.mg_of X G e
theorem errT_of (X : K.In h) (G : h.Ns mainGlobals mg) (hB : errB K P.main.file = true) (hs : mg "super" = none) (ht : (P.main.scope.names.lookup ("super" : Str)).isSome = false)
    (hO : ∀ (k : Ek) (f : String), k.f = some f → ∃ (p1 p2 a1 a2 a3 a4 a5 a6 q1 q2 q3 q4 : Pos), obsE K (fIE K k) = (some (("__init__" : Str), Str.ofString (k.c ++ ".__init__"), PySem.LevX.iA (Str.ofString f) p1 p2, FuncBody.stmts (PySem.LevX.iB (Str.ofString f) a1 a2 a3 a4 a5 a6 q1 q2 q3 q4), PySem.LevX.iS (Str.ofString f), mainGlobals, [("__class__" : Str)], builtinsNs) : ObE) ∧ a3.endLine = a5.line)
    (κ : String → Addr) (hκ : ∀ k : Ek, κ k.c = CE K k) (hκL : κ "LevelError" = He.ga K "LevelError") : ErrT P K mg κ := by
  unfold errB at hB
  rw [Bool.and_eq_true, Bool.and_eq_true, Bool.and_eq_true, Bool.and_eq_true, List.all_eq_true, List.all_eq_true] at hB
  obtain ⟨h1, h2, ⟨h3, h4⟩, h5⟩ := hB
  have h3 := of_decide_eq_true h3
  have h4 := of_decide_eq_true h4
  have h5 := of_decide_eq_true h5
  have any : ∀ k : Ek, anyB K k = true := fun k => (Bool.and_eq_true _ _ ▸ h1 k (eks_all k)).1
  have rest := fun k : Ek => (Bool.and_eq_true _ _ ▸ h1 k (eks_all k)).2
  have A : ∀ k : Ek, findIn K (.ref (CE K k)) "__getattribute__" = some (some (.builtin "BaseException.__getattribute__")) ∧ findIn K (.ref (CE K k)) "__getattr__" = some none ∧ subIn K (.ref (CE K k)) (.type "BaseException") = some true ∧ hasDictIn K (CE K k) = true ∧
      findIn K (.ref (CE K k)) "__class__" = some (some (.builtin "object.__class__")) ∧ mroIn K (CE K k) (.type "object") = some true ∧ keepIn K (.ref (CE K k)) = true ∧ typeIn K (.ref (CE K k)) = some (.type "type") ∧ nsIn K mainGlobals (Str.ofString k.c) = some (some (.ref (CE K k))) ∧ exmOne K (.ref (CE K k)) (.ref (He.ga K "LevelError")) = some true := fun k => by
    have a := any k
    unfold anyB at a
    simp only [Bool.and_eq_true, decide_eq_true_eq] at a
    obtain ⟨⟨⟨b1, b2⟩, b3, b4⟩, ⟨b5, b6⟩, ⟨b7, b8⟩, b9, b10⟩ := a
    exact ⟨b1, b2, b3, b4, b5, b6, b7, b8, b9, b10⟩
  have LV : ∀ (k : Ek) (f : String), k.f = some f → levB K k f P.main.file = true := fun k f hf => by
    have q := rest k
    rw [hf] at q
    exact q
  constructor
  · intro k
    rw [hκ]
    exact mg_at X G (A k).2.2.2.2.2.2.2.2.1
  · intro k f hf
    obtain ⟨b1, b2, b3, b4, b5, b6, b7, b8, b9, b10⟩ := A k
    have l := LV k f hf
    unfold levB at l
    simp only [Bool.and_eq_true, decide_eq_true_eq] at l
    obtain ⟨⟨l1, l2, l3⟩, ⟨l4, l5⟩, ⟨l6, l7⟩, ⟨l8, l9⟩, l10⟩ := l
    obtain ⟨p1, p2, a1, a2, a3, a4, a5, a6, q1, q2, q3, q4, ho, hp⟩ := hO k f hf
    obtain ⟨oc, od, doc, pm, an, cda, cc, ct, osl, e1, e2, e3, e4⟩ := fnE_ok l10 ho
    rw [hκ]
    exact ⟨_, _, mg_at X G b9, clsE_ok l1, l2, b1, b2, l9, l3, l4, b7, b3, l5, b8, b4, l6, l7, l8, hs, ht, oc, od, doc, pm, an, cda, cc, ct, osl, p1, p2, a1, a2, a3, a4, a5, a6, q1, q2, q3, q4, e1, e2, e3, hp, e4⟩
  · intro k hf
    obtain ⟨b1, b2, b3, b4, b5, b6, b7, b8, b9, b10⟩ := A k
    have q := rest k
    rw [hf] at q
    rw [hκ]
    exact ⟨_, _, _, _, PySem.F.excBase_ValueError, q, b7, b3, b8⟩
  · intro k k'
    rw [hκ, hκ]
    exact of_decide_eq_true (List.all_eq_true.mp (h2 k (eks_all k)) k' (eks_all k'))
  · intro k
    obtain ⟨b1, b2, b3, b4, b5, b6, b7, b8, b9, b10⟩ := A k
    rw [hκ]
    exact ⟨b1, b2, b3, b4, b5, h3, h4, b6⟩
  · intro k
    obtain ⟨b1, b2, b3, b4, b5, b6, b7, b8, b9, b10⟩ := A k
    rw [hκ]
    exact ⟨b1, b2, b3, b4⟩
  · intro k f hf
    have l := LV k f hf
    unfold levB at l
    simp only [Bool.and_eq_true, decide_eq_true_eq] at l
    rw [hκ]
    exact l.2.2.2.1.2
  · rw [hκL]
    exact mg_at X G h5
  · intro k
    rw [hκ, hκL]
    exact (A k).2.2.2.2.2.2.2.2.2
end
end LW
set_option Elab.async false
set_option linter.all false
set_option maxRecDepth 100000
set_option maxHeartbeats 4000000
/-! the head's look with tables and the errors' texts -/
noncomputable section
namespace LW
open PySem PySem.Spec PyProof.Rows L2 LV LM UL
/-- what is followed: as before, and closures and cells -/
def refsZ (o : Obj) : List Addr := match o.data with
  | .dict es _ => es.toList.flatMap fun e => He.refV e.val
  | .func fd => (He.refV fd.code ++ He.refV fd.defaults) ++ fd.closure.map (·.2)
  | .cls cd => cd.ns :: cd.mro.flatMap He.refV
  | .seq its _ => its.toList.flatMap He.refV
  | .cell (some v) => He.refV v
  | _ => []
structure SaysZ (fa : List He.Fa) (fn : List He.DefD) (tf : List He.Defn) (ex : PySem.W.Frag → Bool) (oe : List ObE) (w : World) (h : Heap) (K : PySem.W.Frag) : Prop where
  x : He.SaysX fa fn [] tf ex w h K
  o : obsEs K = oe
end LW
end
set_option Elab.async false
set_option linter.all false
set_option maxRecDepth 100000
set_option maxHeartbeats 4000000
/-! the head's look with the defs behind staticmethods -/
noncomputable section
namespace LW
open PySem PySem.Spec PyProof.Rows L2 LV LM UL
/-- what is followed: as before, and a staticmethod's record -/
def refsS (o : Obj) : List Addr := match o.data with
  | .fields vs => (match o.cls with
    | .type n => if n == "staticmethod" then vs.toList.flatMap He.refV else []
    | _ => [])
  | _ => refsZ o
abbrev sFn (K : PySem.W.Frag) (p : Str × Str) : Addr := He5.wf K (He.ga K p.1) "staticmethod" p.2
def obsEsS (sl : List (Str × Str)) (K : PySem.W.Frag) : List ObE := obsEs K ++ sl.map fun p => obsE K (sFn K p)
/-- the record, and its class -/
def staB (K : PySem.W.Frag) (p : Str × Str) (d : He5.DefA) : Bool := He5.wrapB K (He.ga K p.1) "staticmethod" "staticmethod.__get__" p.2 && (PySem.W.readsIn K (He.ga K p.1) (.type "type") && d.ok K)
theorem cread_ofS {K : PySem.W.Frag} {C : Addr} (N : PySem.W.readsIn K C (.type "type") = true) : ClX.CRead K C (.type "type") := by
  refine ⟨N, ?_⟩
  have h := N
  unfold PySem.W.readsIn at h
  obtain ⟨h, _⟩ := He.ba h
  obtain ⟨h, _⟩ := He.ba h
  obtain ⟨h, h3⟩ := He.ba h
  obtain ⟨_, h2⟩ := He.ba h
  unfold PySem.W.specialIn
  rw [beq_iff_eq.mp h2, Option.bind_some]
  exact beq_iff_eq.mp h3
theorem staB_sta {K : PySem.W.Frag} {p : Str × Str} {d : He5.DefA} (h : staB K p d = true) : Sta K (He.ga K p.1) (.type "type") p.2 (He.ma K (He.ga K p.1) p.2) (sFn K p) := by
  obtain ⟨h1, h⟩ := He.ba h
  obtain ⟨h2, _⟩ := He.ba h
  obtain ⟨k1, k2⟩ := He5.wrapB_ok h1
  exact ⟨cread_ofS h2, k1, k2⟩
theorem staB_fun {K : PySem.W.Frag} {p : Str × Str} {d : He5.DefA} (ha : d.at_ K = sFn K p) (h : staB K p d = true) (ho : obsE K (sFn K p) = (some (d.name, d.qual, d.params, FuncBody.stmts d.body, d.scope, mainGlobals, ([] : List Str), builtinsNs) : ObE)) : ∃ fd, L2.FunD K d.name d.qual d.params d.body d.scope (d.dvs K) (d.kws K) (sFn K p) fd := by
  obtain ⟨_, h⟩ := He.ba h
  obtain ⟨_, h2⟩ := He.ba h
  have e : He5.fnA K (d.at_ K) = d.val := by
    rw [ha]
    unfold obsE at ho
    unfold He5.fnA
    split at ho
    case h_2 => cases ho
    rename_i oc od fd osl hl
    rw [hl]
    obtain ⟨n1, n2, n3, n4, n5, n6, n7, n8, n9, n10, n11, n12, n13, n14, n15⟩ := fd
    injection ho with ho
    simp only [Prod.mk.injEq, List.map_eq_nil_iff] at ho
    obtain ⟨rfl, rfl, rfl, rfl, rfl, rfl, rfl, rfl⟩ := ho
    rfl
  rw [← ha]
  exact He5.DefA.funD e h2
def outS (g : Addr → Option Obj) (as : List Addr) : List Addr := as.flatMap fun a => match g a with
  | some o => refsS o
  | none => []
def walkS (g : Addr → Option Obj) (n : Nat) : Nat → List Addr → List Addr → List Addr :=
  Nat.rec (motive := fun _ => Nat → List Addr → List Addr → List Addr) (fun _ _ all => all) (fun _ ih m front all => pickB (outS g front) m [] fun m' new => ih m' new (all ++ new)) n
def asS (n : Nat) (g : Addr → Option Obj) : List Addr := walkS g n (Nat.lor 9 (Nat.shiftLeft 1 cStatics)) [mainGlobals] [mainGlobals, cStatics]
abbrev KS (n : Nat) (g : Addr → Option Obj) : PySem.W.Frag := He.frT g (asS n g)
abbrev AlS : Type := He.AlX × List ObE
def obsS (n : Nat) (fa : List He.Fa) (fn : List He.DefD) (tf : List He.Defn) (sl : List (Str × Str)) (ex : PySem.W.Frag → Bool) (g : Addr → Option Obj) : AlS := ((He.obsT fa fn [] (KS n g), ex (KS n g) && He.tabsB g tf (KS n g)), obsEsS sl (KS n g))
structure SaysS (fa : List He.Fa) (fn : List He.DefD) (tf : List He.Defn) (sl : List (Str × Str)) (ex : PySem.W.Frag → Bool) (oe : List ObE) (w : World) (h : Heap) (K : PySem.W.Frag) : Prop where
  x : He.SaysX fa fn [] tf ex w h K
  o : obsEsS sl K = oe
theorem saysS_of {n : Nat} {fa : List He.Fa} {fn : List He.DefD} {tf : List He.Defn} {sl : List (Str × Str)} {ex : PySem.W.Frag → Bool} {oe : List ObE} {w : World} {h : Heap} (e : obsS n fa fn tf sl ex h.get? = (He.valX fn [] w, oe)) : SaysS fa fn tf sl ex oe w h (KS n h.get?) := by
  have e1 := congrArg (fun z : AlS => z.1.1) e
  have e2 : (ex (KS n h.get?) && He.tabsB h.get? tf (KS n h.get?)) = true := congrArg (fun z : AlS => z.1.2) e
  have e3 := congrArg (fun z : AlS => z.2) e
  rw [Bool.and_eq_true] at e2
  have tab : ∀ p ∈ tf, PySem.W.codeHdIn (KS n h.get?) (He.cT (KS n h.get?) p).1 (He.cT (KS n h.get?) p).2 = true ∧ ∃ o, h.get? (He.cT (KS n h.get?) p).2 = some o ∧ He.emptyTab o = true := by
    intro p hp
    have z := List.all_eq_true.mp e2.2 p hp
    rw [Bool.and_eq_true] at z
    refine ⟨z.1, ?_⟩
    rcases q : h.get? (He.cT (KS n h.get?) p).2 with _ | o
    · rw [q] at z
      cases z.2
    · rw [q] at z
      exact ⟨o, rfl, z.2⟩
  refine ⟨⟨e1, e2.1, fun p hp => (tab p hp).1, fun p hp => ?_, fun p hp => ?_⟩, e3⟩
  · obtain ⟨o, q, z⟩ := (tab p hp).2
    exact He.frT_none q z
  · obtain ⟨o, q, z⟩ := (tab p hp).2
    rw [q, He.emptyTab_eq z]
def hookS (n : Nat) (fa : List He.Fa) (fn : List He.DefD) (tf : List He.Defn) (sl : List (Str × Str)) (ex : PySem.W.Frag → Bool) (oe : List ObE) : PySem.W.Hook where
  α := AlS
  obs := fun s => obsS n fa fn tf sl ex s.heap.get?
  val := fun w => (He.valX fn [] w, oe)
  says := fun w h => ∃ K : PySem.W.Frag, K.In h ∧ SaysS fa fn tf sl ex oe w h K
  of := fun _ s e => ⟨_, He.frT_in, saysS_of e⟩
  keeps := fun _ _ _ q k => q.elim fun K z => ⟨K, PySem.W.Frag.In.keeps z.1 k, ⟨⟨z.2.x.t, z.2.x.more, z.2.x.hd, z.2.x.out, fun p hp => k _ _ (z.2.x.empty p hp)⟩, z.2.o⟩⟩
theorem obsS_eq {n : Nat} {fa : List He.Fa} {fn : List He.DefD} {tf : List He.Defn} {sl : List (Str × Str)} {ex : PySem.W.Frag → Bool} {oe : List ObE} {g : Addr → Option Obj} {s : Shared} (h : ∀ a, g a = s.heap.get? a) : (obsS n fa fn tf sl ex g : (hookS n fa fn tf sl ex oe).α) = (hookS n fa fn tf sl ex oe).obs s := by
  rw [funext h]
  rfl
/-- the head's look in parts -/
theorem obsS_of {n : Nat} {fa : List He.Fa} {fn : List He.DefD} {tf : List He.Defn} {sl : List (Str × Str)} {ex : PySem.W.Frag → Bool} {oe : List ObE} {σ : Type} {g : σ → Addr → Option Obj} {x : Option σ} (w : World)
    (h1 : (x.map fun s => (fa.all fun f => f.ok (KS n (g s))) && (ex (KS n (g s)) && He.tabsB (g s) tf (KS n (g s)))) = some true)
    (h2 : (x.map fun s => ((fn.all fun d => d.ok (KS n (g s))), fn.map fun d => He.fnW (KS n (g s)) d.at_)) = some (true, fn.map He.DefD.val))
    (h3 : (x.map fun s => obsEsS sl (KS n (g s))) = some oe) : (x.map fun s => obsS n fa fn tf sl ex (g s)) = some ((He.valX fn [] w, oe) : AlS) := by
  cases x with
  | none => cases h1
  | some a =>
    have e1 := Option.some.inj h1
    have e2 := Option.some.inj h2
    have e3 : obsEsS sl (KS n (g a)) = oe := Option.some.inj h3
    rw [Bool.and_eq_true] at e1
    injection e2 with e4 e5
    show some (obsS n fa fn tf sl ex (g a)) = _
    unfold obsS He.obsT He.obsD
    rw [e1.1, e1.2, e4, e5, e3]
    rfl
end LW
end
set_option Elab.async false
set_option linter.all false
set_option maxRecDepth 100000
set_option maxHeartbeats 0
namespace LW
open PySem PySem.Spec PyProof.Rows L2 LV LM UL UM
def dd_is_integer : He.DefD := ⟨("is_integer", none), "is_integer", "is_integer", defArgs s_is_integer, defBody s_is_integer, defScope s_is_integer, [], []⟩
def dd_is_number : He.DefD := ⟨("is_number", none), "is_number", "is_number", defArgs s_is_number, defBody s_is_number, defScope s_is_number, [], []⟩
def dd_common : He.DefD := ⟨("common", none), "common", "common", defArgs s_common, defBody s_common, defScope s_common, [], []⟩
def dd_Exact___init__ : He.DefD := ⟨("Exact", some "__init__"), "__init__", "Exact.__init__", defArgs s_Exact___init__, defBody s_Exact___init__, defScope s_Exact___init__, [.int 1], []⟩
def dd_part_of : He.DefD := ⟨("part_of", none), "part_of", "part_of", defArgs s_part_of, defBody s_part_of, defScope s_part_of, [], []⟩
def dd_Exact___add__ : He.DefD := ⟨("Exact", some "__add__"), "__add__", "Exact.__add__", defArgs s_Exact___add__, defBody s_Exact___add__, defScope s_Exact___add__, [], []⟩
def dd_Exact___sub__ : He.DefD := ⟨("Exact", some "__sub__"), "__sub__", "Exact.__sub__", defArgs s_Exact___sub__, defBody s_Exact___sub__, defScope s_Exact___sub__, [], []⟩
def dd_Exact___mul__ : He.DefD := ⟨("Exact", some "__mul__"), "__mul__", "Exact.__mul__", defArgs s_Exact___mul__, defBody s_Exact___mul__, defScope s_Exact___mul__, [], []⟩
def dd_Exact___radd__ : He.DefD := ⟨("Exact", some "__radd__"), "__radd__", "Exact.__radd__", defArgs s_Exact___radd__, defBody s_Exact___radd__, defScope s_Exact___radd__, [], []⟩
def dd_Exact___rsub__ : He.DefD := ⟨("Exact", some "__rsub__"), "__rsub__", "Exact.__rsub__", defArgs s_Exact___rsub__, defBody s_Exact___rsub__, defScope s_Exact___rsub__, [], []⟩
def dd_Exact___rmul__ : He.DefD := ⟨("Exact", some "__rmul__"), "__rmul__", "Exact.__rmul__", defArgs s_Exact___rmul__, defBody s_Exact___rmul__, defScope s_Exact___rmul__, [], []⟩
def dd_Exact___neg__ : He.DefD := ⟨("Exact", some "__neg__"), "__neg__", "Exact.__neg__", defArgs s_Exact___neg__, defBody s_Exact___neg__, defScope s_Exact___neg__, [], []⟩
def dd_Exact___eq__ : He.DefD := ⟨("Exact", some "__eq__"), "__eq__", "Exact.__eq__", defArgs s_Exact___eq__, defBody s_Exact___eq__, defScope s_Exact___eq__, [], []⟩
def dd_Exact___lt__ : He.DefD := ⟨("Exact", some "__lt__"), "__lt__", "Exact.__lt__", defArgs s_Exact___lt__, defBody s_Exact___lt__, defScope s_Exact___lt__, [], []⟩
def dd_Exact___le__ : He.DefD := ⟨("Exact", some "__le__"), "__le__", "Exact.__le__", defArgs s_Exact___le__, defBody s_Exact___le__, defScope s_Exact___le__, [], []⟩
def dd_Exact___gt__ : He.DefD := ⟨("Exact", some "__gt__"), "__gt__", "Exact.__gt__", defArgs s_Exact___gt__, defBody s_Exact___gt__, defScope s_Exact___gt__, [], []⟩
def dd_Exact___ge__ : He.DefD := ⟨("Exact", some "__ge__"), "__ge__", "Exact.__ge__", defArgs s_Exact___ge__, defBody s_Exact___ge__, defScope s_Exact___ge__, [], []⟩
def dd__law_fresh : He.DefD := ⟨("_law_fresh", none), "_law_fresh", "_law_fresh", defArgs s__law_fresh, defBody s__law_fresh, defScope s__law_fresh, [], []⟩
def dd__law_tried : He.DefD := ⟨("_law_tried", none), "_law_tried", "_law_tried", defArgs s__law_tried, defBody s__law_tried, defScope s__law_tried, [], []⟩
def dd__law_error : He.DefD := ⟨("_law_error", none), "_law_error", "_law_error", defArgs s__law_error, defBody s__law_error, defScope s__law_error, [], []⟩
def dd__law_bare_error : He.DefD := ⟨("_law_bare_error", none), "_law_bare_error", "_law_bare_error", defArgs s__law_bare_error, defBody s__law_bare_error, defScope s__law_bare_error, [], []⟩
def dd_is_digits : He.DefD := ⟨("is_digits", none), "is_digits", "is_digits", defArgs s_is_digits, defBody s_is_digits, defScope s_is_digits, [], []⟩
def dd_number_of : He.DefD := ⟨("number_of", none), "number_of", "number_of", defArgs s_number_of, defBody s_number_of, defScope s_number_of, [], []⟩
def dd_digits_of : He.DefD := ⟨("digits_of", none), "digits_of", "digits_of", defArgs s_digits_of, defBody s_digits_of, defScope s_digits_of, [], []⟩
def dd_read_number : He.DefD := ⟨("read_number", none), "read_number", "read_number", defArgs s_read_number, defBody s_read_number, defScope s_read_number, [], []⟩
def dd_Exact_text : He.DefD := ⟨("Exact", some "text"), "text", "Exact.text", defArgs s_Exact_text, defBody s_Exact_text, defScope s_Exact_text, [], []⟩
def dd__law_fill : He.DefD := ⟨("_law_fill", none), "_law_fill", "_law_fill", defArgs s__law_fill, defBody s__law_fill, defScope s__law_fill, [], []⟩
def dd__law_take : He.DefD := ⟨("_law_take", none), "_law_take", "_law_take", defArgs s__law_take, defBody s__law_take, defScope s__law_take, [], []⟩
def dd__law_one : He.DefD := ⟨("_law_one", none), "_law_one", "_law_one", defArgs s__law_one, defBody s__law_one, defScope s__law_one, [], []⟩
def dd__law_gcd : He.DefD := ⟨("_law_gcd", none), "_law_gcd", "_law_gcd", defArgs s__law_gcd, defBody s__law_gcd, defScope s__law_gcd, [], []⟩
def dd__law_frac : He.DefD := ⟨("_law_frac", none), "_law_frac", "_law_frac", defArgs s__law_frac, defBody s__law_frac, defScope s__law_frac, [], []⟩
def dd__law_some_frac : He.DefD := ⟨("_law_some_frac", none), "_law_some_frac", "_law_some_frac", defArgs s__law_some_frac, defBody s__law_some_frac, defScope s__law_some_frac, [], []⟩
def dd__law_as_exact : He.DefD := ⟨("_law_as_exact", none), "_law_as_exact", "_law_as_exact", defArgs s__law_as_exact, defBody s__law_as_exact, defScope s__law_as_exact, [], []⟩
def dd__law_text : He.DefD := ⟨("_law_text", none), "_law_text", "_law_text", defArgs s__law_text, defBody s__law_text, defScope s__law_text, [], []⟩
def dd__law_is_text : He.DefD := ⟨("_law_is_text", none), "_law_is_text", "_law_is_text", defArgs s__law_is_text, defBody s__law_is_text, defScope s__law_is_text, [], []⟩
def dd__law_same : He.DefD := ⟨("_law_same", none), "_law_same", "_law_same", defArgs s__law_same, defBody s__law_same, defScope s__law_same, [], []⟩
def dd_law : He.DefD := ⟨("law", none), "law", "law", defArgs s_law, defBody s_law, defScope s_law, [], []⟩
def fnL : List He.DefD := [dd_is_integer, dd_is_number, dd_common, dd_Exact___init__, dd_part_of, dd_Exact___add__, dd_Exact___sub__, dd_Exact___mul__, dd_Exact___radd__, dd_Exact___rsub__, dd_Exact___rmul__, dd_Exact___neg__, dd_Exact___eq__, dd_Exact___lt__, dd_Exact___le__, dd_Exact___gt__, dd_Exact___ge__, dd__law_fresh, dd__law_tried, dd__law_error, dd__law_bare_error, dd_is_digits, dd_number_of, dd_digits_of, dd_read_number, dd_Exact_text, dd__law_fill, dd__law_take, dd__law_one, dd__law_gcd, dd__law_frac, dd__law_some_frac, dd__law_as_exact, dd__law_text, dd__law_is_text, dd__law_same, dd_law]
def faL : List He.Fa := [.free "len", .free "int", .free "enumerate", .free "isinstance", .free "zip", .free "all", .free "range", .free "list", .free "tuple", .free "bool", .free "any", .free "sorted", .free "dict", .free "str", .free "reversed", .free "repr", .free "iter", .free "super", .glo "Exact", .cls "Exact", .noat "Exact" "over", .noat "Exact" "under", .mkr "Exact", .glo "is_integer", .glo "is_number", .glo "common", .glo "part_of", .meth "Exact" "__add__", .meth "Exact" "__sub__", .meth "Exact" "__mul__", .meth "Exact" "__radd__", .meth "Exact" "__rsub__", .meth "Exact" "__rmul__", .meth "Exact" "__neg__", .meth "Exact" "__eq__", .meth "Exact" "__lt__", .meth "Exact" "__le__", .meth "Exact" "__gt__", .meth "Exact" "__ge__", .glo "_law_fresh", .glo "_law_tried", .glo "_law_error", .glo "_law_bare_error", .glo "is_digits", .glo "number_of", .glo "digits_of", .glo "read_number", .meth "Exact" "text", .glo "_law_fill", .glo "_law_take", .glo "_law_one", .glo "_law_gcd", .glo "_law_frac", .glo "_law_some_frac", .glo "_law_as_exact", .glo "_law_text", .glo "_law_is_text", .glo "_law_same", .glo "law"]
def loose0 : List PySem.Str := ["_wall", "LevelError", "BadPart", "BadText", "BadFrame", "BadLevel", "BadFact", "BadPlace", "BadPoint", "BadMoment", "BadLine", "Unfit", "HasHistory", "UnknownLevel", "BadHeight", "is_integer", "is_number", "common", "is_digits", "number_of", "digits_of", "Exact", "part_of", "read_number", "_law_fresh", "_law_fill", "_law_take", "_law_one", "_law_same", "_law_tried"]
def loose1 : List PySem.Str := ["_law_error", "_law_bare_error", "_law_gcd", "_law_frac", "_law_some_frac", "_law_as_exact", "_law_text", "_law_is_text"]
abbrev looseL : List PySem.Str := loose0 ++ loose1
abbrev lawI : Nat := 41
abbrev csL : List String := ["Exact"]
def dq_Exact_of_text : He5.DefA := ⟨fun K => sFn K ("Exact", "of_text"), "of_text", "Exact.of_text", defArgs sX_Exact_of_text, defBody sX_Exact_of_text, defScope sX_Exact_of_text, [], []⟩
def slL : List (Str × Str) := [("Exact", "of_text")]
def exB (K : PySem.W.Frag) : Bool := (exU K csL && exXs K [] && staB K ("Exact", "of_text") dq_Exact_of_text && errB K (PySem.Challenge.pw_surelevels_k04_number_texts.main.file))
abbrev R : PySem.W.OpenRow := PySem.W.OpenLaw.row PySem.Challenge.rw_surelevels_k04_number_texts
abbrev si_BadPart : Stmt := inClass (top 3) 0
abbrev si_BadText : Stmt := inClass (top 4) 0
abbrev si_BadLevel : Stmt := inClass (top 6) 0
abbrev si_BadFact : Stmt := inClass (top 7) 0
abbrev si_BadPlace : Stmt := inClass (top 8) 0
abbrev si_BadPoint : Stmt := inClass (top 9) 0
abbrev si_BadMoment : Stmt := inClass (top 10) 0
abbrev si_BadLine : Stmt := inClass (top 11) 0
abbrev si_UnknownLevel : Stmt := inClass (top 14) 0
abbrev si_BadHeight : Stmt := inClass (top 15) 0
def oeL : List ObE := [some (("__init__" : Str), ("BadPart.__init__" : Str), defArgs si_BadPart, FuncBody.stmts (defBody si_BadPart), defScope si_BadPart, mainGlobals, [("__class__" : Str)], builtinsNs),
  some (("__init__" : Str), ("BadText.__init__" : Str), defArgs si_BadText, FuncBody.stmts (defBody si_BadText), defScope si_BadText, mainGlobals, [("__class__" : Str)], builtinsNs),
  some (("__init__" : Str), ("BadLevel.__init__" : Str), defArgs si_BadLevel, FuncBody.stmts (defBody si_BadLevel), defScope si_BadLevel, mainGlobals, [("__class__" : Str)], builtinsNs),
  some (("__init__" : Str), ("BadFact.__init__" : Str), defArgs si_BadFact, FuncBody.stmts (defBody si_BadFact), defScope si_BadFact, mainGlobals, [("__class__" : Str)], builtinsNs),
  some (("__init__" : Str), ("BadPlace.__init__" : Str), defArgs si_BadPlace, FuncBody.stmts (defBody si_BadPlace), defScope si_BadPlace, mainGlobals, [("__class__" : Str)], builtinsNs),
  some (("__init__" : Str), ("BadPoint.__init__" : Str), defArgs si_BadPoint, FuncBody.stmts (defBody si_BadPoint), defScope si_BadPoint, mainGlobals, [("__class__" : Str)], builtinsNs),
  some (("__init__" : Str), ("BadMoment.__init__" : Str), defArgs si_BadMoment, FuncBody.stmts (defBody si_BadMoment), defScope si_BadMoment, mainGlobals, [("__class__" : Str)], builtinsNs),
  some (("__init__" : Str), ("BadLine.__init__" : Str), defArgs si_BadLine, FuncBody.stmts (defBody si_BadLine), defScope si_BadLine, mainGlobals, [("__class__" : Str)], builtinsNs),
  some (("__init__" : Str), ("UnknownLevel.__init__" : Str), defArgs si_UnknownLevel, FuncBody.stmts (defBody si_UnknownLevel), defScope si_UnknownLevel, mainGlobals, [("__class__" : Str)], builtinsNs),
  some (("__init__" : Str), ("BadHeight.__init__" : Str), defArgs si_BadHeight, FuncBody.stmts (defBody si_BadHeight), defScope si_BadHeight, mainGlobals, [("__class__" : Str)], builtinsNs),
  some (("of_text" : Str), ("Exact.of_text" : Str), defArgs sX_Exact_of_text, FuncBody.stmts (defBody sX_Exact_of_text), defScope sX_Exact_of_text, mainGlobals, ([] : List Str), builtinsNs)]
def tfL : List He.Defn := [("law", none)]
noncomputable abbrev hk : PySem.W.Hook := hookS 5 faL fnL tfL slL exB oeL
noncomputable def ob (s : PySem.W.SharedT) : AlS := obsS 5 faL fnL tfL slL exB (HandSHeadRun.getT s)
theorem ob_eq (s : PySem.W.SharedT) : ob s = hk.obs s.abs := obsS_eq (HandSHeadRun.getT_eq s)
end LW
set_option Elab.async false
set_option linter.all false
set_option maxRecDepth 100000
set_option maxHeartbeats 0
namespace LW
open PySem PySem.Spec PyProof.Rows L2 LV LM UL UM
theorem facts {P : Program} {w : World} {K : PySem.W.Frag} {h : Heap} {mg : Str → Option Value} {fl : Addr} (hP : P = PySem.Challenge.pw_surelevels_k04_number_texts) (XK : K.In h) (G : h.Ns mainGlobals mg) (hfa : mg ("law" : Str) = some (.ref fl)) (cc : SaysS faL fnL tfL slL exB oeL w h K) :
    ∃ fd : FuncData, (∀ (s : Shared) (v : Value), BindsTo s fd ⟨[v], []⟩ [("_law_script", v)]) ∧ ∀ base : Heap, K.In base → base.Ns mainGlobals mg → (∀ p ∈ tfL.map (He.cT K), LamX.TabB base mg p.1 p.2) → FnOk P w K mg base CX0 14 fl fd ["_law_script"] (spLwT K [((He.cT K ("law", none)).2, qLam)] 8 1 (b_law csL)) := by
  have c := cc.x
  have dS := c.t.d
  have hex0 := c.more
  unfold exB at hex0
  obtain ⟨fd_is_integer, F_is_integer⟩ := dS.def_ 0 (d := dd_is_integer) rfl
  have b_is_integer := FunD.bindsN (ps := ["thing"]) F_is_integer fun _ _ _ _ _ _ us hl => match us, hl with | [_], _ => rfl
  have g_is_integer := He.glo_ok XK G (dS.fact 23 (f := .glo "is_integer") rfl)
  obtain ⟨fd_is_number, F_is_number⟩ := dS.def_ 1 (d := dd_is_number) rfl
  have b_is_number := FunD.bindsN (ps := ["thing"]) F_is_number fun _ _ _ _ _ _ us hl => match us, hl with | [_], _ => rfl
  have g_is_number := He.glo_ok XK G (dS.fact 24 (f := .glo "is_number") rfl)
  obtain ⟨fd_common, F_common⟩ := dS.def_ 2 (d := dd_common) rfl
  have b_common := FunD.bindsN (ps := ["a", "b"]) F_common fun _ _ _ _ _ _ us hl => match us, hl with | [_, _], _ => rfl
  have g_common := He.glo_ok XK G (dS.fact 25 (f := .glo "common") rfl)
  obtain ⟨fd_Exact___init__, F_Exact___init__⟩ := dS.def_ 3 (d := dd_Exact___init__) rfl
  obtain ⟨fd_part_of, F_part_of⟩ := dS.def_ 4 (d := dd_part_of) rfl
  have b_part_of := FunD.bindsN (ps := ["other"]) F_part_of fun _ _ _ _ _ _ us hl => match us, hl with | [_], _ => rfl
  have g_part_of := He.glo_ok XK G (dS.fact 26 (f := .glo "part_of") rfl)
  obtain ⟨fd_Exact___add__, F_Exact___add__⟩ := dS.def_ 5 (d := dd_Exact___add__) rfl
  have b_Exact___add__ := FunD.bindsN (ps := ["self", "other"]) F_Exact___add__ fun _ _ _ _ _ _ us hl => match us, hl with | [_, _], _ => rfl
  have me_Exact___add__ := He.meth_ok (dS.fact 27 (f := .meth "Exact" "__add__") rfl)
  obtain ⟨fd_Exact___sub__, F_Exact___sub__⟩ := dS.def_ 6 (d := dd_Exact___sub__) rfl
  have b_Exact___sub__ := FunD.bindsN (ps := ["self", "other"]) F_Exact___sub__ fun _ _ _ _ _ _ us hl => match us, hl with | [_, _], _ => rfl
  have me_Exact___sub__ := He.meth_ok (dS.fact 28 (f := .meth "Exact" "__sub__") rfl)
  obtain ⟨fd_Exact___mul__, F_Exact___mul__⟩ := dS.def_ 7 (d := dd_Exact___mul__) rfl
  have b_Exact___mul__ := FunD.bindsN (ps := ["self", "other"]) F_Exact___mul__ fun _ _ _ _ _ _ us hl => match us, hl with | [_, _], _ => rfl
  have me_Exact___mul__ := He.meth_ok (dS.fact 29 (f := .meth "Exact" "__mul__") rfl)
  obtain ⟨fd_Exact___radd__, F_Exact___radd__⟩ := dS.def_ 8 (d := dd_Exact___radd__) rfl
  have b_Exact___radd__ := FunD.bindsN (ps := ["self", "other"]) F_Exact___radd__ fun _ _ _ _ _ _ us hl => match us, hl with | [_, _], _ => rfl
  have me_Exact___radd__ := He.meth_ok (dS.fact 30 (f := .meth "Exact" "__radd__") rfl)
  obtain ⟨fd_Exact___rsub__, F_Exact___rsub__⟩ := dS.def_ 9 (d := dd_Exact___rsub__) rfl
  have b_Exact___rsub__ := FunD.bindsN (ps := ["self", "other"]) F_Exact___rsub__ fun _ _ _ _ _ _ us hl => match us, hl with | [_, _], _ => rfl
  have me_Exact___rsub__ := He.meth_ok (dS.fact 31 (f := .meth "Exact" "__rsub__") rfl)
  obtain ⟨fd_Exact___rmul__, F_Exact___rmul__⟩ := dS.def_ 10 (d := dd_Exact___rmul__) rfl
  have b_Exact___rmul__ := FunD.bindsN (ps := ["self", "other"]) F_Exact___rmul__ fun _ _ _ _ _ _ us hl => match us, hl with | [_, _], _ => rfl
  have me_Exact___rmul__ := He.meth_ok (dS.fact 32 (f := .meth "Exact" "__rmul__") rfl)
  obtain ⟨fd_Exact___neg__, F_Exact___neg__⟩ := dS.def_ 11 (d := dd_Exact___neg__) rfl
  have b_Exact___neg__ := FunD.bindsN (ps := ["self"]) F_Exact___neg__ fun _ _ _ _ _ _ us hl => match us, hl with | [_], _ => rfl
  have me_Exact___neg__ := He.meth_ok (dS.fact 33 (f := .meth "Exact" "__neg__") rfl)
  obtain ⟨fd_Exact___eq__, F_Exact___eq__⟩ := dS.def_ 12 (d := dd_Exact___eq__) rfl
  have b_Exact___eq__ := FunD.bindsN (ps := ["self", "other"]) F_Exact___eq__ fun _ _ _ _ _ _ us hl => match us, hl with | [_, _], _ => rfl
  have me_Exact___eq__ := He.meth_ok (dS.fact 34 (f := .meth "Exact" "__eq__") rfl)
  obtain ⟨fd_Exact___lt__, F_Exact___lt__⟩ := dS.def_ 13 (d := dd_Exact___lt__) rfl
  have b_Exact___lt__ := FunD.bindsN (ps := ["self", "other"]) F_Exact___lt__ fun _ _ _ _ _ _ us hl => match us, hl with | [_, _], _ => rfl
  have me_Exact___lt__ := He.meth_ok (dS.fact 35 (f := .meth "Exact" "__lt__") rfl)
  obtain ⟨fd_Exact___le__, F_Exact___le__⟩ := dS.def_ 14 (d := dd_Exact___le__) rfl
  have b_Exact___le__ := FunD.bindsN (ps := ["self", "other"]) F_Exact___le__ fun _ _ _ _ _ _ us hl => match us, hl with | [_, _], _ => rfl
  have me_Exact___le__ := He.meth_ok (dS.fact 36 (f := .meth "Exact" "__le__") rfl)
  obtain ⟨fd_Exact___gt__, F_Exact___gt__⟩ := dS.def_ 15 (d := dd_Exact___gt__) rfl
  have b_Exact___gt__ := FunD.bindsN (ps := ["self", "other"]) F_Exact___gt__ fun _ _ _ _ _ _ us hl => match us, hl with | [_, _], _ => rfl
  have me_Exact___gt__ := He.meth_ok (dS.fact 37 (f := .meth "Exact" "__gt__") rfl)
  obtain ⟨fd_Exact___ge__, F_Exact___ge__⟩ := dS.def_ 16 (d := dd_Exact___ge__) rfl
  have b_Exact___ge__ := FunD.bindsN (ps := ["self", "other"]) F_Exact___ge__ fun _ _ _ _ _ _ us hl => match us, hl with | [_, _], _ => rfl
  have me_Exact___ge__ := He.meth_ok (dS.fact 38 (f := .meth "Exact" "__ge__") rfl)
  obtain ⟨fd__law_fresh, F__law_fresh⟩ := dS.def_ 17 (d := dd__law_fresh) rfl
  have b__law_fresh := FunD.bindsN (ps := ["_law_script"]) F__law_fresh fun _ _ _ _ _ _ us hl => match us, hl with | [_], _ => rfl
  have g__law_fresh := He.glo_ok XK G (dS.fact 39 (f := .glo "_law_fresh") rfl)
  obtain ⟨fd__law_tried, F__law_tried⟩ := dS.def_ 18 (d := dd__law_tried) rfl
  have b__law_tried := FunD.bindsN (ps := ["_law_deed"]) F__law_tried fun _ _ _ _ _ _ us hl => match us, hl with | [_], _ => rfl
  have g__law_tried := He.glo_ok XK G (dS.fact 40 (f := .glo "_law_tried") rfl)
  obtain ⟨fd__law_error, F__law_error⟩ := dS.def_ 19 (d := dd__law_error) rfl
  have b__law_error := FunD.bindsN (ps := ["_law_e"]) F__law_error fun _ _ _ _ _ _ us hl => match us, hl with | [_], _ => rfl
  have g__law_error := He.glo_ok XK G (dS.fact 41 (f := .glo "_law_error") rfl)
  obtain ⟨fd__law_bare_error, F__law_bare_error⟩ := dS.def_ 20 (d := dd__law_bare_error) rfl
  have b__law_bare_error := FunD.bindsN (ps := ["_law_e"]) F__law_bare_error fun _ _ _ _ _ _ us hl => match us, hl with | [_], _ => rfl
  have g__law_bare_error := He.glo_ok XK G (dS.fact 42 (f := .glo "_law_bare_error") rfl)
  obtain ⟨fd_is_digits, F_is_digits⟩ := dS.def_ 21 (d := dd_is_digits) rfl
  have b_is_digits := FunD.bindsN (ps := ["text"]) F_is_digits fun _ _ _ _ _ _ us hl => match us, hl with | [_], _ => rfl
  have g_is_digits := He.glo_ok XK G (dS.fact 43 (f := .glo "is_digits") rfl)
  obtain ⟨fd_number_of, F_number_of⟩ := dS.def_ 22 (d := dd_number_of) rfl
  have b_number_of := FunD.bindsN (ps := ["digits"]) F_number_of fun _ _ _ _ _ _ us hl => match us, hl with | [_], _ => rfl
  have g_number_of := He.glo_ok XK G (dS.fact 44 (f := .glo "number_of") rfl)
  obtain ⟨fd_digits_of, F_digits_of⟩ := dS.def_ 23 (d := dd_digits_of) rfl
  have b_digits_of := FunD.bindsN (ps := ["number"]) F_digits_of fun _ _ _ _ _ _ us hl => match us, hl with | [_], _ => rfl
  have g_digits_of := He.glo_ok XK G (dS.fact 45 (f := .glo "digits_of") rfl)
  obtain ⟨fd_read_number, F_read_number⟩ := dS.def_ 24 (d := dd_read_number) rfl
  have b_read_number := FunD.bindsN (ps := ["text"]) F_read_number fun _ _ _ _ _ _ us hl => match us, hl with | [_], _ => rfl
  have g_read_number := He.glo_ok XK G (dS.fact 46 (f := .glo "read_number") rfl)
  obtain ⟨fd_Exact_text, F_Exact_text⟩ := dS.def_ 25 (d := dd_Exact_text) rfl
  have b_Exact_text := FunD.bindsN (ps := ["self"]) F_Exact_text fun _ _ _ _ _ _ us hl => match us, hl with | [_], _ => rfl
  have me_Exact_text := He.meth_ok (dS.fact 47 (f := .meth "Exact" "text") rfl)
  obtain ⟨fd__law_fill, F__law_fill⟩ := dS.def_ 26 (d := dd__law_fill) rfl
  have b__law_fill := FunD.bindsN (ps := ["_law_state"]) F__law_fill fun _ _ _ _ _ _ us hl => match us, hl with | [_], _ => rfl
  have g__law_fill := He.glo_ok XK G (dS.fact 48 (f := .glo "_law_fill") rfl)
  obtain ⟨fd__law_take, F__law_take⟩ := dS.def_ 27 (d := dd__law_take) rfl
  have b__law_take := FunD.bindsN (ps := ["_law_state", "_law_many"]) F__law_take fun _ _ _ _ _ _ us hl => match us, hl with | [_, _], _ => rfl
  have g__law_take := He.glo_ok XK G (dS.fact 49 (f := .glo "_law_take") rfl)
  obtain ⟨fd__law_one, F__law_one⟩ := dS.def_ 28 (d := dd__law_one) rfl
  have b__law_one := FunD.bindsN (ps := ["_law_state", "_law_things"]) F__law_one fun _ _ _ _ _ _ us hl => match us, hl with | [_, _], _ => rfl
  have g__law_one := He.glo_ok XK G (dS.fact 50 (f := .glo "_law_one") rfl)
  obtain ⟨fd__law_gcd, F__law_gcd⟩ := dS.def_ 29 (d := dd__law_gcd) rfl
  have b__law_gcd := FunD.bindsN (ps := ["_law_a", "_law_b"]) F__law_gcd fun _ _ _ _ _ _ us hl => match us, hl with | [_, _], _ => rfl
  have g__law_gcd := He.glo_ok XK G (dS.fact 51 (f := .glo "_law_gcd") rfl)
  obtain ⟨fd__law_frac, F__law_frac⟩ := dS.def_ 30 (d := dd__law_frac) rfl
  have b__law_frac := FunD.bindsN (ps := ["_law_over", "_law_under"]) F__law_frac fun _ _ _ _ _ _ us hl => match us, hl with | [_, _], _ => rfl
  have g__law_frac := He.glo_ok XK G (dS.fact 52 (f := .glo "_law_frac") rfl)
  obtain ⟨fd__law_some_frac, F__law_some_frac⟩ := dS.def_ 31 (d := dd__law_some_frac) rfl
  have b__law_some_frac := FunD.bindsN (ps := ["_law_state"]) F__law_some_frac fun _ _ _ _ _ _ us hl => match us, hl with | [_], _ => rfl
  have g__law_some_frac := He.glo_ok XK G (dS.fact 53 (f := .glo "_law_some_frac") rfl)
  obtain ⟨fd__law_as_exact, F__law_as_exact⟩ := dS.def_ 32 (d := dd__law_as_exact) rfl
  have b__law_as_exact := FunD.bindsN (ps := ["_law_x"]) F__law_as_exact fun _ _ _ _ _ _ us hl => match us, hl with | [_], _ => rfl
  have g__law_as_exact := He.glo_ok XK G (dS.fact 54 (f := .glo "_law_as_exact") rfl)
  obtain ⟨fd__law_text, F__law_text⟩ := dS.def_ 33 (d := dd__law_text) rfl
  have b__law_text := FunD.bindsN (ps := ["_law_a"]) F__law_text fun _ _ _ _ _ _ us hl => match us, hl with | [_], _ => rfl
  have g__law_text := He.glo_ok XK G (dS.fact 55 (f := .glo "_law_text") rfl)
  obtain ⟨fd__law_is_text, F__law_is_text⟩ := dS.def_ 34 (d := dd__law_is_text) rfl
  have b__law_is_text := FunD.bindsN (ps := ["_law_text_here"]) F__law_is_text fun _ _ _ _ _ _ us hl => match us, hl with | [_], _ => rfl
  have g__law_is_text := He.glo_ok XK G (dS.fact 56 (f := .glo "_law_is_text") rfl)
  obtain ⟨fd__law_same, F__law_same⟩ := dS.def_ 35 (d := dd__law_same) rfl
  have b__law_same := FunD.bindsN (ps := ["_law_found", "_law_due"]) F__law_same fun _ _ _ _ _ _ us hl => match us, hl with | [_, _], _ => rfl
  have g__law_same := He.glo_ok XK G (dS.fact 57 (f := .glo "_law_same") rfl)
  obtain ⟨fd_law, F_law⟩ := dS.def_ 36 (d := dd_law) rfl
  have b_law := FunD.bindsN (ps := ["_law_script"]) F_law fun _ _ _ _ _ _ us hl => match us, hl with | [_], _ => rfl
  have g_law := He.glo_ok XK G (dS.fact 58 (f := .glo "law") rfl)
  have free_len := He.free_ok XK G (dS.fact 0 (f := .free "len") rfl)
  have free_int := He.free_ok XK G (dS.fact 1 (f := .free "int") rfl)
  have free_enumerate := He.free_ok XK G (dS.fact 2 (f := .free "enumerate") rfl)
  have free_isinstance := He.free_ok XK G (dS.fact 3 (f := .free "isinstance") rfl)
  have free_zip := He.free_ok XK G (dS.fact 4 (f := .free "zip") rfl)
  have free_all := He.free_ok XK G (dS.fact 5 (f := .free "all") rfl)
  have free_range := He.free_ok XK G (dS.fact 6 (f := .free "range") rfl)
  have free_list := He.free_ok XK G (dS.fact 7 (f := .free "list") rfl)
  have free_tuple := He.free_ok XK G (dS.fact 8 (f := .free "tuple") rfl)
  have free_bool := He.free_ok XK G (dS.fact 9 (f := .free "bool") rfl)
  have free_any := He.free_ok XK G (dS.fact 10 (f := .free "any") rfl)
  have free_sorted := He.free_ok XK G (dS.fact 11 (f := .free "sorted") rfl)
  have free_dict := He.free_ok XK G (dS.fact 12 (f := .free "dict") rfl)
  have free_str := He.free_ok XK G (dS.fact 13 (f := .free "str") rfl)
  have free_reversed := He.free_ok XK G (dS.fact 14 (f := .free "reversed") rfl)
  have free_repr := He.free_ok XK G (dS.fact 15 (f := .free "repr") rfl)
  have free_iter := He.free_ok XK G (dS.fact 16 (f := .free "iter") rfl)
  have free_super := He.free_ok XK G (dS.fact 17 (f := .free "super") rfl)
  have g_Exact := He.glo_ok XK G (dS.fact 18 (f := .glo "Exact") rfl)
  have cls_Exact := He.cls_ok (dS.fact 19 (f := .cls "Exact") rfl)
  have noat_Exact_over := He.noat_ok (dS.fact 20 (f := .noat "Exact" "over") rfl)
  have noat_Exact_under := He.noat_ok (dS.fact 21 (f := .noat "Exact" "under") rfl)
  have mkr_Exact := He.mkr_ok (dS.fact 22 (f := .mkr "Exact") rfl)
  obtain ⟨hex0, errb⟩ := He.ba hex0
  obtain ⟨hex0, sb_Exact_of_text⟩ := He.ba hex0
  obtain ⟨hex, hxs⟩ := He.ba hex0
  have e := hfa.symm.trans g_law
  cases e
  have bl := FunD.bindsA (ps := ["_law_script"]) F_law fun _ _ _ _ _ _ us hl => match us, hl with | [_], _ => rfl
  refine ⟨fd_law, fun s v => bl s [v] rfl, fun base _ _ tabs => ?_⟩
  have hfr : ∀ x ∈ bltN, mg x = none := by
    intro x hx
    simp only [bltN, List.mem_cons, List.not_mem_nil, or_false] at hx
    rcases hx with rfl | rfl | rfl | rfl | rfl | rfl | rfl | rfl | rfl | rfl | rfl | rfl | rfl | rfl | rfl | rfl | rfl
    · exact free_len
    · exact free_int
    · exact free_enumerate
    · exact free_isinstance
    · exact free_zip
    · exact free_all
    · exact free_range
    · exact free_list
    · exact free_tuple
    · exact free_bool
    · exact free_any
    · exact free_sorted
    · exact free_dict
    · exact free_str
    · exact free_reversed
    · exact free_repr
    · exact free_iter
  have hcl : ∀ c ∈ csL, Cls K (kap K c) := by
    intro c hc
    simp only [csL, List.mem_cons, List.not_mem_nil, or_false] at hc
    rcases hc with rfl
    · exact cls_Exact
  have W : CW K (kap K) csL := exU_cw hex hcl (by decide) (by decide)
  have TE : XE K mg (kap K "Exact") := exU_xe hex (by decide) hfr cls_Exact noat_Exact_over noat_Exact_under g_Exact ⟨_, me_Exact___radd__.at_⟩ ⟨_, me_Exact___rsub__.at_⟩ ⟨_, me_Exact___rmul__.at_⟩
  have TX := TE.toXC
  have TB := TX.toBt
  have c_is_integer0 : C8.Cal P w K mg base 1 "is_integer" (spInt K) [] := ⟨_, _, _, _, ok_is_integer F_is_integer TB, g_is_integer, F_is_integer.kp, b_is_integer, .nil⟩
  have c_common : C8.Cal P w K mg base 1 "common" spGcd [] := ⟨_, _, _, _, ok_common F_common TB, g_common, F_common.kp, b_common, .nil⟩
  have oi := ok_Exact___init__ (P := P) (w := w) (base := base) F_Exact___init__ TX c_is_integer0 c_common
  obtain ⟨ds2, v2, b2⟩ := FunD.binds1 (ps := ["self", "over", "under"]) F_Exact___init__ 3 1 (by simp [dd_Exact___init__, He.DefD.dvs]) rfl (fun _ _ _ _ _ _ _ us its h1 h2 => match us, its, h1, h2 with | [_, _, _], [_], _, _ => ⟨_, rfl, rfl⟩)
  obtain ⟨ds1, v1, b1⟩ := FunD.binds1 (ps := ["self", "over", "under"]) F_Exact___init__ 2 0 (by simp [dd_Exact___init__, He.DefD.dvs]) rfl (fun _ _ _ _ _ _ _ us its h1 h2 => match us, its, h1, h2 with | [_, _], [_], _, _ => ⟨_, rfl, rfl⟩)
  have k_Exact : C8.Mak P w K mg base 2 "Exact" (kap K "Exact") (spInit (kap K "Exact")) [] := ⟨_, _, _, _, mkr_Exact, oi, g_Exact, b2, v2⟩
  have k_Exact1 : C8.Mak P w K mg base 2 "Exact" (kap K "Exact") (spInit (kap K "Exact")) [.int 1] := ⟨_, _, _, _, mkr_Exact, oi, g_Exact, b1, v1⟩
  have c_part_of0 : C8.Cal P w K mg base 4 "part_of" (spPart (kap K "Exact")) [] := ⟨_, _, _, _, ok_part_of F_part_of TX c_is_integer0 k_Exact1, g_part_of, F_part_of.kp, b_part_of, .nil⟩
  have c_is_number0 : C8.Cal P w K mg base 2 "is_number" (spNum K (kap K "Exact")) [] := ⟨_, _, _, _, ok_is_number F_is_number TX c_is_integer0, g_is_number, F_is_number.kp, b_is_number, .nil⟩
  have olt := ok_Exact___lt__ (P := P) (w := w) (base := base) F_Exact___lt__ TX c_part_of0
  have xlt : ∀ X : Cx, X.prog = P → X.w = w → X.K = K → X.mg = mg → X.base = base → OwnM X 5 (kap K "Exact") "__lt__" (spLt (kap K "Exact")) := by
    rintro X rfl rfl rfl rfl rfl
    exact ⟨_, _, _, me_Exact___lt__.at_, me_Exact___lt__.fn, olt, b_Exact___lt__⟩
  have ole := ok_Exact___le__ (P := P) (w := w) (base := base) F_Exact___le__ TX c_part_of0
  have xle : ∀ X : Cx, X.prog = P → X.w = w → X.K = K → X.mg = mg → X.base = base → OwnM X 5 (kap K "Exact") "__le__" (spLe (kap K "Exact")) := by
    rintro X rfl rfl rfl rfl rfl
    exact ⟨_, _, _, me_Exact___le__.at_, me_Exact___le__.fn, ole, b_Exact___le__⟩
  have ogt := ok_Exact___gt__ (P := P) (w := w) (base := base) F_Exact___gt__ TX c_part_of0
  have xgt : ∀ X : Cx, X.prog = P → X.w = w → X.K = K → X.mg = mg → X.base = base → OwnM X 5 (kap K "Exact") "__gt__" (spGt (kap K "Exact")) := by
    rintro X rfl rfl rfl rfl rfl
    exact ⟨_, _, _, me_Exact___gt__.at_, me_Exact___gt__.fn, ogt, b_Exact___gt__⟩
  have oge := ok_Exact___ge__ (P := P) (w := w) (base := base) F_Exact___ge__ TX c_part_of0
  have xge : ∀ X : Cx, X.prog = P → X.w = w → X.K = K → X.mg = mg → X.base = base → OwnM X 5 (kap K "Exact") "__ge__" (spGe (kap K "Exact")) := by
    rintro X rfl rfl rfl rfl rfl
    exact ⟨_, _, _, me_Exact___ge__.at_, me_Exact___ge__.fn, oge, b_Exact___ge__⟩
  have oeq := ok_Exact___eq__ (P := P) (w := w) (base := base) F_Exact___eq__ TX c_part_of0 c_is_number0
  have xeq : ∀ X : Cx, X.prog = P → X.w = w → X.K = K → X.mg = mg → X.base = base → OwnM X 5 (kap K "Exact") "__eq__" (spEqX K (kap K "Exact")) := by
    rintro X rfl rfl rfl rfl rfl
    exact ⟨_, _, _, me_Exact___eq__.at_, me_Exact___eq__.fn, oeq, b_Exact___eq__⟩
  have oadd := ok_Exact___add__ (P := P) (w := w) (base := base) F_Exact___add__ TX c_part_of0 k_Exact
  have xadd : ∀ X : Cx, X.prog = P → X.w = w → X.K = K → X.mg = mg → X.base = base → OwnM X 5 (kap K "Exact") "__add__" (spAdd (kap K "Exact")) := by
    rintro X rfl rfl rfl rfl rfl
    exact ⟨_, _, _, me_Exact___add__.at_, me_Exact___add__.fn, oadd, b_Exact___add__⟩
  have osub := ok_Exact___sub__ (P := P) (w := w) (base := base) F_Exact___sub__ TX c_part_of0 k_Exact
  have xsub : ∀ X : Cx, X.prog = P → X.w = w → X.K = K → X.mg = mg → X.base = base → OwnM X 5 (kap K "Exact") "__sub__" (spSub (kap K "Exact")) := by
    rintro X rfl rfl rfl rfl rfl
    exact ⟨_, _, _, me_Exact___sub__.at_, me_Exact___sub__.fn, osub, b_Exact___sub__⟩
  have omul := ok_Exact___mul__ (P := P) (w := w) (base := base) F_Exact___mul__ TX c_part_of0 k_Exact
  have xmul : ∀ X : Cx, X.prog = P → X.w = w → X.K = K → X.mg = mg → X.base = base → OwnM X 5 (kap K "Exact") "__mul__" (spMul (kap K "Exact")) := by
    rintro X rfl rfl rfl rfl rfl
    exact ⟨_, _, _, me_Exact___mul__.at_, me_Exact___mul__.fn, omul, b_Exact___mul__⟩
  have oneg := ok_Exact___neg__ (P := P) (w := w) (base := base) F_Exact___neg__ TX k_Exact
  have xneg : ∀ X : Cx, X.prog = P → X.w = w → X.K = K → X.mg = mg → X.base = base → OwnM X 5 (kap K "Exact") "__neg__" (spNeg (kap K "Exact")) := by
    rintro X rfl rfl rfl rfl rfl
    exact ⟨_, _, _, me_Exact___neg__.at_, me_Exact___neg__.fn, oneg, b_Exact___neg__⟩
  have oradd := ok_Exact___radd__ (P := P) (w := w) (base := base) F_Exact___radd__ TX c_part_of0 xadd
  have xradd : ∀ X : Cx, X.prog = P → X.w = w → X.K = K → X.mg = mg → X.base = base → OwnM X 6 (kap K "Exact") "__radd__" (spRadd (kap K "Exact")) := by
    rintro X rfl rfl rfl rfl rfl
    exact ⟨_, _, _, me_Exact___radd__.at_, me_Exact___radd__.fn, oradd, b_Exact___radd__⟩
  have orsub := ok_Exact___rsub__ (P := P) (w := w) (base := base) F_Exact___rsub__ TX c_part_of0 xsub
  have xrsub : ∀ X : Cx, X.prog = P → X.w = w → X.K = K → X.mg = mg → X.base = base → OwnM X 6 (kap K "Exact") "__rsub__" (spRsub (kap K "Exact")) := by
    rintro X rfl rfl rfl rfl rfl
    exact ⟨_, _, _, me_Exact___rsub__.at_, me_Exact___rsub__.fn, orsub, b_Exact___rsub__⟩
  have ormul := ok_Exact___rmul__ (P := P) (w := w) (base := base) F_Exact___rmul__ TX c_part_of0 xmul
  have xrmul : ∀ X : Cx, X.prog = P → X.w = w → X.K = K → X.mg = mg → X.base = base → OwnM X 6 (kap K "Exact") "__rmul__" (spRmul (kap K "Exact")) := by
    rintro X rfl rfl rfl rfl rfl
    exact ⟨_, _, _, me_Exact___rmul__.at_, me_Exact___rmul__.fn, ormul, b_Exact___rmul__⟩
  have std : ∀ {j : Nat} {nm : Str} {sp : Sp}, (∀ X : Cx, X.prog = P → X.w = w → X.K = K → X.mg = mg → X.base = base → OwnM X j (kap K "Exact") nm sp) → ∀ X, Std X P w K mg base → OwnM X j (kap K "Exact") nm sp := fun h X hX => h X hX.1 hX.2.1 hX.2.2.1 hX.2.2.2.1 hX.2.2.2.2
  have T : En P w K mg base (kap K) csL := ⟨⟨TE, std xadd, std xsub, std xmul, std xradd, std xrsub, std xrmul, std xneg, std xlt, std xle, std xgt, std xge, std xeq⟩, W, hfr, g_Exact⟩
  have c_is_integer := cal_imp c_is_integer0 (int_imp W)
  have c_is_number := cal_imp c_is_number0 (num_imp W)
  have c_part_of := cal_imp c_part_of0 (part_imp (κ := kap K))
  have c_common0 := c_common
  have c_common := cal_imp c_common0 (gcd_imp (κ := kap K))
  have et : ErrT P K mg (kap K) := errT_of XK G (by rw [hP]; exact errb) free_super (by rw [hP]; decide +kernel) (fun k f hf => by
    have ho := cc.o
    simp only [obsEsS, slL, obsEs, oeL, List.map_cons, List.map_nil, List.cons_append, List.nil_append, List.cons.injEq, and_true] at ho
    obtain ⟨o0, o1, o2, o3, o4, o5, o6, o7, o8, o9, o10⟩ := ho
    cases k <;> cases hf
    · exact ⟨_, _, _, _, _, _, _, _, _, _, _, _, o0, rfl⟩
    · exact ⟨_, _, _, _, _, _, _, _, _, _, _, _, o1, rfl⟩
    · exact ⟨_, _, _, _, _, _, _, _, _, _, _, _, o2, rfl⟩
    · exact ⟨_, _, _, _, _, _, _, _, _, _, _, _, o3, rfl⟩
    · exact ⟨_, _, _, _, _, _, _, _, _, _, _, _, o4, rfl⟩
    · exact ⟨_, _, _, _, _, _, _, _, _, _, _, _, o5, rfl⟩
    · exact ⟨_, _, _, _, _, _, _, _, _, _, _, _, o6, rfl⟩
    · exact ⟨_, _, _, _, _, _, _, _, _, _, _, _, o7, rfl⟩
    · exact ⟨_, _, _, _, _, _, _, _, _, _, _, _, o8, rfl⟩
    · exact ⟨_, _, _, _, _, _, _, _, _, _, _, _, o9, rfl⟩
    ) (kap K) (fun k => by cases k <;> rfl) rfl
  have ceb := ok__law_bare_error (P := P) (w := w) (base := base) (κ := kap K) F__law_bare_error et free_isinstance
  have cee := ok__law_error (P := P) (w := w) (base := base) (κ := kap K) F__law_error et free_isinstance ceb g__law_bare_error F__law_bare_error.kp b__law_bare_error
  have tk : ∀ X, Std X P w K mg base → Room 4 X.A → ∀ k, Taker X k "_law_tried" "_law_deed" (TTried (kap K)) := by
    rintro X ⟨rfl, rfl, rfl, rfl, rfl⟩ hr k
    obtain ⟨oc, od, dV, kV, doc, pm, an, cdv, ct, osl, rfl, lk, hcd, _, _⟩ := F__law_tried.ex
    exact ⟨_, _, _, _, _, _, _, _, _, _, _, _, _, _, _, g__law_tried, F__law_tried.kp, lk, hcd, b__law_tried, sc__law_tried, rfl, .inl rfl, fun q => tried_gives hr et cee g__law_error F__law_error.kp b__law_error⟩
  have so_Exact_of_text : obsE K (sFn K ("Exact", "of_text")) = (some (dq_Exact_of_text.name, dq_Exact_of_text.qual, dq_Exact_of_text.params, FuncBody.stmts dq_Exact_of_text.body, dq_Exact_of_text.scope, mainGlobals, ([] : List Str), builtinsNs) : ObE) := by
    have ho := cc.o
    simp only [obsEsS, slL, obsEs, oeL, List.map_cons, List.map_nil, List.cons_append, List.nil_append, List.cons.injEq, and_true] at ho
    exact ho.2.2.2.2.2.2.2.2.2.2
  obtain ⟨fd_Exact_of_text, F_Exact_of_text⟩ := staB_fun (p := ("Exact", "of_text")) (d := dq_Exact_of_text) rfl sb_Exact_of_text so_Exact_of_text
  have c__law_fresh : C8.Cal P w K mg base 1 "_law_fresh" (spFr K) [] := ⟨_, _, _, _, ok__law_fresh F__law_fresh, g__law_fresh, F__law_fresh.kp, b__law_fresh, .nil⟩
  have f_Exact_over : Cls K (kap K "Exact") ∧ NoAttr K (kap K "Exact") "over" := ⟨cls_Exact, noat_Exact_over⟩
  have f_Exact_under : Cls K (kap K "Exact") ∧ NoAttr K (kap K "Exact") "under" := ⟨cls_Exact, noat_Exact_under⟩
  have c_is_digits : C8.Cal P w K mg base 8 "is_digits" (spP (kap K) (UM.m_is_digits csL)) [] := ⟨_, _, _, _, ok_is_digits F_is_digits T , g_is_digits, F_is_digits.kp, b_is_digits, .nil⟩
  have c_number_of : C8.Cal P w K mg base 7 "number_of" (spP (kap K) (UM.m_number_of csL)) [] := ⟨_, _, _, _, ok_number_of F_number_of T , g_number_of, F_number_of.kp, b_number_of, .nil⟩
  have c_digits_of : C8.Cal P w K mg base 7 "digits_of" (spP (kap K) (UM.m_digits_of csL)) [] := ⟨_, _, _, _, ok_digits_of F_digits_of T , g_digits_of, F_digits_of.kp, b_digits_of, .nil⟩
  have c_read_number : C8.Cal P w K mg base 9 "read_number" (spP (kap K) (UM.m_read_number csL)) [] := ⟨_, _, _, _, ok_read_number F_read_number T c_is_digits c_number_of c_common k_Exact, g_read_number, F_read_number.kp, b_read_number, .nil⟩
  have m_Exact_text : C8.Met P w K mg base 8 (kap K "Exact") "text" (spP (kap K) (UM.m_Exact_text csL)) [] := ⟨_, _, _, _, cls_Exact, me_Exact_text, ok_Exact_text F_Exact_text T f_Exact_over f_Exact_under c_digits_of, b_Exact_text, .nil⟩
  have ox_Exact_of_text := okx_Exact_of_text (P := P) (w := w) (base := base) (κ := kap K) F_Exact_of_text T et c_read_number
  have b_Exact_of_text := FunD.bindsN (ps := ["text"]) F_Exact_of_text fun _ _ _ _ _ _ us hl => match us, hl with | [_], _ => rfl
  have o_Exact_of_text := UL.FnOk.calm ox_Exact_of_text calmP
  have st_Exact_of_text : C9.Stat CX0 P w K mg base 10 (kap K "Exact") "of_text" (spP (kap K) (UM.m_Exact_of_text csL)) := ⟨_, _, _, _, _, staB_sta sb_Exact_of_text, o_Exact_of_text, F_Exact_of_text.kp, b_Exact_of_text⟩
  have stx_Exact_of_text : C9.Stat (L2.CX P w) P w K mg base 10 (kap K "Exact") "of_text" (spPX (kap K) (UM.m_Exact_of_text csL) (UM.x_Exact_of_text csL)) := ⟨_, _, _, _, _, staB_sta sb_Exact_of_text, ox_Exact_of_text, F_Exact_of_text.kp, b_Exact_of_text⟩
  have c__law_fill : C8.Cal P w K mg base 7 "_law_fill" (spI (kap K) (UM.m__law_fill csL)) [] := ⟨_, _, _, _, ok__law_fill F__law_fill T , g__law_fill, F__law_fill.kp, b__law_fill, .nil⟩
  have c__law_take : C8.Cal P w K mg base 8 "_law_take" (spI (kap K) (UM.m__law_take csL)) [] := ⟨_, _, _, _, ok__law_take F__law_take T c__law_fill, g__law_take, F__law_take.kp, b__law_take, .nil⟩
  have c__law_one : C8.Cal P w K mg base 9 "_law_one" (spI (kap K) (UM.m__law_one csL)) [] := ⟨_, _, _, _, ok__law_one F__law_one T c__law_take, g__law_one, F__law_one.kp, b__law_one, .nil⟩
  have c__law_gcd : C8.Cal P w K mg base 8 "_law_gcd" (spP (kap K) (UM.m__law_gcd csL)) [] := ⟨_, _, _, _, ok__law_gcd F__law_gcd T , g__law_gcd, F__law_gcd.kp, b__law_gcd, .nil⟩
  have c__law_frac : C8.Cal P w K mg base 9 "_law_frac" (spP (kap K) (UM.m__law_frac csL)) [] := ⟨_, _, _, _, ok__law_frac F__law_frac T c__law_gcd, g__law_frac, F__law_frac.kp, b__law_frac, .nil⟩
  have c__law_some_frac : C8.Cal P w K mg base 10 "_law_some_frac" (spI (kap K) (UM.m__law_some_frac csL)) [] := ⟨_, _, _, _, ok__law_some_frac F__law_some_frac T c__law_one c__law_frac c__law_take, g__law_some_frac, F__law_some_frac.kp, b__law_some_frac, .nil⟩
  have c__law_as_exact : C8.Cal P w K mg base 9 "_law_as_exact" (spP (kap K) (UM.m__law_as_exact csL)) [] := ⟨_, _, _, _, ok__law_as_exact F__law_as_exact T f_Exact_under f_Exact_over c__law_gcd, g__law_as_exact, F__law_as_exact.kp, b__law_as_exact, .nil⟩
  have c__law_text : C8.Cal P w K mg base 7 "_law_text" (spP (kap K) (UM.m__law_text csL)) [] := ⟨_, _, _, _, ok__law_text F__law_text T , g__law_text, F__law_text.kp, b__law_text, .nil⟩
  have c__law_is_text : C8.Cal P w K mg base 9 "_law_is_text" (spP (kap K) (UM.m__law_is_text csL)) [] := ⟨_, _, _, _, ok__law_is_text F__law_is_text T c__law_gcd, g__law_is_text, F__law_is_text.kp, b__law_is_text, .nil⟩
  have c__law_same := ok__law_same F__law_same T g__law_same F__law_same.kp b__law_same  3
  obtain ⟨ocL, odL, dVL, kVL, docL, pmL, anL, cdL, ctL, oslL, e1L, lkL, hcdL, _, _⟩ := F_law.ex
  have hcodeL : fd_law.code = .ref (He.cT K ("law", none)).1 := by
    rw [e1L] at lkL ⊢
    cases cdL with
    | ref cL => rw [show (He.cT K ("law", none)).1 = cL from He.codeOf_eq lkL rfl]
    | _ => cases hcdL
  exact ok_law F_law hcodeL (tabs _ (List.mem_map.mpr ⟨("law", none), by decide, rfl⟩)) T c__law_some_frac c__law_text k_Exact c__law_as_exact st_Exact_of_text c__law_same m_Exact_text c__law_one stx_Exact_of_text tk c__law_is_text c__law_fresh
end LW
set_option Elab.async false
set_option linter.all false
set_option maxRecDepth 100000
set_option maxHeartbeats 0
namespace LW
open PySem PySem.Spec PyProof.Rows L2 LV LM UL UM
open HandSHeadRun PySem.W in
theorem run1 (w : World) (os : OsState) : ((endF (stepQ (denQ tabQ) R.prog w) 20000 R.prog w os).map fun s => (looksF R.prog (boot_heap w.params) s.abs, seenQ (PySem.W.view R.prog [lawI]) looseL (importedModules R.prog.main.body) (fun s => xlAt (PySem.W.view R.prog [lawI]) [] s && recOk R.toRowW.records s) s.abs)) = some (true, openGood (PySem.W.view R.prog [lawI]) looseL) := by kernel_rfl
open HandSHeadRun PySem.W in
theorem run2 (w : World) (os : OsState) : (((endF (stepQ (denQ tabQ) R.prog w) 20000 R.prog w os).map fun s => (faL.all fun f => f.ok (KS 5 (getT s))) && (exB (KS 5 (getT s)) && He.tabsB (getT s) tfL (KS 5 (getT s))))) = some true := by kernel_rfl
open HandSHeadRun PySem.W in
theorem run3 (w : World) (os : OsState) : (((endF (stepQ (denQ tabQ) R.prog w) 20000 R.prog w os).map fun s => ((fnL.all fun d => d.ok (KS 5 (getT s))), fnL.map fun d => He.fnW (KS 5 (getT s)) d.at_))) = some (true, fnL.map He.DefD.val) := by kernel_rfl
open HandSHeadRun PySem.W in
theorem run4 (w : World) (os : OsState) : (((endF (stepQ (denQ tabQ) R.prog w) 20000 R.prog w os).map fun s => obsEsS slL (KS 5 (getT s)))) = some oeL := by kernel_rfl
theorem run (w : World) : HandSHeadRun.RunEq R (PySem.W.view R.prog [lawI]) hk ob 20000 looseL w := by
  intro os
  exact map_three (run1 w os) (obsS_of w (run2 w os) (run3 w os) (run4 w os))
end LW
open PySem PySem.W PySem.Calls PyProof.Rows
theorem PySem.Challenge.cw_surelevels_k04_number_texts_holds : PySem.Challenge.rw_surelevels_k04_number_texts.Holds := by
  w_on; o_law
  refine HandSHeadRun.head_any (r := OpenLaw.row PySem.Challenge.rw_surelevels_k04_number_texts) (q := view (OpenLaw.row PySem.Challenge.rw_surelevels_k04_number_texts).prog [LW.lawI]) (H := LW.hk) (ob := LW.ob) (M := 20000) (loose := LW.looseL) (d := HandSHeadRun.topDef (OpenLaw.row PySem.Challenge.rw_surelevels_k04_number_texts).prog LW.lawI) (kwd := []) LW.ob_eq
    (by kernel_rfl) (fun s => by kernel_rfl) LW.run (by kernel_rfl) (by kernel_rfl) (by kernel_rfl) (by rfl) (by first | assumption | decide +kernel) (by decide +kernel) ⟨rfl, rfl, rfl, rfl, rfl, by decide +kernel⟩ ?hw ?hc
  case hw => w_witness2
  case hc =>
    refine LamX.walk_ofTsE (l := PySem.Challenge.rw_surelevels_k04_number_texts) (n := 63) (k := 14) (x := "_law_script") (CX := fun _ => L2.CX0) rfl (by decide) (by kernel_rfl) ⟨rfl, by decide, by decide⟩ ?F (fun _ _ _ _ _ z => z)
    intro w mg fa h Y G hmg0
    obtain ⟨K, KX, c⟩ := Y
    have hmg : mg ("law" : PySem.Str) = some (.ref fa) := by
      have e : (HandSHeadRun.topDef (OpenLaw.row PySem.Challenge.rw_surelevels_k04_number_texts).prog LW.lawI).name = ("law" : PySem.Str) := by kernel_rfl
      rw [← e]
      exact hmg0
    obtain ⟨fd, hb, hF⟩ := LW.facts (P := (PySem.Challenge.rw_surelevels_k04_number_texts).prog) (w := w) rfl KX G hmg c
    have mm : ∀ {p}, p ∈ LW.tfL.map (He.cT K) → ∃ d ∈ LW.tfL, He.cT K d = p := fun hp => List.mem_map.mp hp
    refine ⟨K, KX, fd, LW.tfL.map (He.cT K), LW.spLwT K _ _ _ _, fun p hp => ?_, fun p hp => ?_, fun p hp => ?_, hb, fun H a ns hl _ hT hS => ?_, hF⟩
    · obtain ⟨d, hd, rfl⟩ := mm hp
      exact c.x.empty d hd
    · obtain ⟨d, hd, rfl⟩ := mm hp
      exact c.x.out d hd
    · obtain ⟨d, hd, rfl⟩ := mm hp
      exact PySem.W.codeHd_of_K KX (c.x.hd d hd)
    · refine ⟨a, ns, rfl, hS, hl, fun p hp => ?_, by simp, fun c => LW.law_true c ns hl, fun _ => rfl⟩
      have e1 := List.mem_singleton.mp hp
      subst e1
      exact hT (He.cT K ("law", none)) (List.mem_map.mpr ⟨("law", none), by decide, rfl⟩)
#print axioms PySem.Challenge.cw_surelevels_k04_number_texts_holds

