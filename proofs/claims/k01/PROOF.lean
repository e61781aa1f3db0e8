import PyProof.Rows.All
import Wide.All
import OpenK.AllK
import Wide.FinOn
import HandS.ForMost
import HandS.Wide
import HandS.IsInst
import HandS.OwnEq
import HandS.Zip
import HandS.Defaults
import KE.GoesMore
import KE.GoesEnum
import KE.KOpsOwn
import HandS.Walk
import HandS.Evl
import HandS.Codes
import HandS.Style
import HandS.Steps
import HandS.Star
import PyProof.NeKinds
import HandS.Lambda
import HandS.Exc
import HandS.TryOnly
import PySem.Challenge.RW_surelevels_k01_errors_made
import HandS.TupAny
import PyProof.MeetsSeq
import HandS.HeadHook4
import HandS.Iter
import HandS.Text
import HandS.DeepEq
import HandS.Dict
import HandS.Small
import HandS.SortInts
import KE.KSuper
import KE.KExcSuper
import HandS.ExcValue
import HandS.ExcOwn
import HandS.ExcIs
import HandS.ExcField
import HandS.HotCalls
import PyProof.Rows.StrIntSpec
import HandS.FStr
import HandS.Replace
import HandS.ClsMeth
import HandS.MakeKwOnly
import HandS.CallRecv
import PyProof.StrOps2
import HandS.EndTab
import HandS.HeadWalk
import Lean
import KE.KStateDown
import HandS.More
import HandS.Head0
import HandS.Head1
import HandS.Head2
import HandS.HeadEnd
import HandS.HeadHook1
import HandS.HeadHook2
import HandS.HeadHook3
set_option Elab.async false
set_option linter.all false
set_option maxRecDepth 100000
set_option maxHeartbeats 2000000
namespace LV
open PySem PySem.Spec PyProof.Rows L2
/-! enumerate over a tuple -/
theorem newE1 {v : Value} {o : Obj} {H : Heap → Prop} (B : Begins v o H) :
    Meets (Builtin.«enumerate.__new__» ⟨[.type "enumerate", v], []⟩) (fun _ R s => H s.heap ∧
      R (.ok (.ret (.ref (s.heap.push o).objs.size))) { s with heap := (s.heap.push o).push { cls := .type "enumerate", data := .fields #[.none, .bool false, .ref s.heap.objs.size, rawInt 0, .none, .none] } }) :=
  .of_wp fun prog w A R sh hh => by
    obtain ⟨hp, ge, dr, tk, os⟩ := sh
    obtain ⟨hb, hh⟩ := hh
    have subE := sub_enumerate
    have qi : ∀ {A' : Around} {E : Value → Shared → Prop} {Q : Value → Shared → Prop}, Q (.ref hp.objs.size) ⟨hp.push o, ge, dr, tk, os⟩ → wpAny (model prog w) A' (pyIter v) Q E ⟨hp, ge, dr, tk, os⟩ :=
      fun q => B.iter prog w _ _ ⟨hp, ge, dr, tk, os⟩ _ hb q
    wp_walk using qi
    refine wpAny_stack_any fun st => wpAny_pure ?_
    split
    · rename_i c _ _ _ _ _
      cases (c == Value.type "enumerate") <;>
      · wp_walk using qi
        exact ⟨_, rfl, hh⟩
    · wp_walk using qi
      exact ⟨_, rfl, hh⟩
theorem callE1 {prog : Program} {w : World} {A : Around} {E : Value → Shared → Prop} {s : Shared} {v : Value} {o : Obj} {H : Heap → Prop} {Q : Value → Shared → Prop} (B : Begins v o H) (hH : H s.heap)
    (h : ∀ h', IsEnum h' (s.heap.objs.size + 1) s.heap.objs.size 0 .none → h'.get? s.heap.objs.size = some o →
      (∀ b o, s.heap.get? b = some o → h'.get? b = some o) → Q (.ref (s.heap.objs.size + 1)) { s with heap := h' }) :
    wpAny (model prog w) A (call (.type "enumerate") [v]) Q E s := by
  refine callType_new F.called_enumerate (by decide) (F.typeCall_enumerate_1 _) (F.newCall_enumerate_1 _) (fun ob => F.args_object_init_2 ob _) F.entry_enumerate_new
    (newE1 B) ⟨hH, ?_⟩
  have hz : (s.heap.push o).objs.size = s.heap.objs.size + 1 := Heap.size_push ..
  show _ ∧ _
  rw [hz]
  have he : IsEnum ((s.heap.push o).push { cls := .type "enumerate", data := .fields #[.none, .bool false, .ref s.heap.objs.size, rawInt 0, .none, .none] }) (s.heap.objs.size + 1) s.heap.objs.size 0 .none := by
    have q := Heap.get?_push_size (s.heap.push o) (o := { cls := .type "enumerate", data := .fields #[.none, .bool false, .ref s.heap.objs.size, rawInt 0, .none, .none] }) rfl
    rw [hz] at q
    exact q
  exact ⟨⟨_, he, rfl⟩, h _ he (Heap.get?_push_of_some _ (Heap.get?_push_size _ B.free)) fun b o x => Heap.get?_push_of_some _ (Heap.get?_push_of_some _ x)⟩
/-- the tuple at a, each item in a new pair -/
def IteT (K : PySem.W.Frag) (a : Addr) : It :=
  ⟨fun i H => ∃ (xs : List V) (x : V), SqT K H a xs ∧ xs[i]? = some x, fun i H v H' => ∃ T x, v = .ref T ∧ H T = none ∧ H' = upd H T (.tup [.int (i : Nat), x]) ∧ ∀ xs, SqT K H a xs → xs[i]? = some x,
    fun i H => ∃ xs : List V, SqT K H a xs ∧ xs.length = i⟩
theorem turnET {P : Program} {w : World} {K : PySem.W.Frag} {elts : List Expr} {kk : Nat} {tpos : Pos} (a e it : Addr) :
    Turn P w K (.Tuple elts kk tpos) (IteT K a) [e, it] e (fun i h => (∃ old, IsEnum h e it ((i : Nat) : Int) old) ∧ h.IsTupleIter it a i ∧ e ≠ it) where
  mem := by simp
  obj := fun i h st b hb => by
    obtain ⟨⟨old, he⟩, ⟨o, ho, hc, hd⟩, _⟩ := st
    have eb : b = e ∨ b = it := by simpa using hb
    rcases eb with z | z
    · rw [z]
      exact ⟨_, he, fun v q => nomatch q⟩
    · rw [z]
      exact ⟨o, ho, fun v q => by rw [hd] at q; cases q⟩
  keep := fun i h h' st k => let ⟨⟨old, he⟩, hi, hne⟩ := st; ⟨⟨old, k e (by simp) _ he⟩, hi.at fun o q => k it (by simp) o q, hne⟩
  item := by
    intro X hP hw hK hc i pins s σ H E I hf st hg
    subst hP hw hK
    obtain ⟨⟨old, he⟩, hit, hne⟩ := st
    obtain ⟨xs, x, hq, hx⟩ := hg
    obtain ⟨its, rv, p, hz⟩ := I.tuple hq
    obtain ⟨u, hu, ru⟩ := rv.get hx
    obtain ⟨oa, hoa, hca, na, hda⟩ := id p
    have hel : e < s.heap.objs.size := Heap.lt_size he
    have hil : it < s.heap.objs.size := by
      obtain ⟨_, q, _⟩ := hit
      exact Heap.lt_size q
    have hae : a ≠ e := fun z => by
      rw [z, he] at hoa
      cases hoa
      injection hca with q
      exact absurd q (by decide)
    have hai : a ≠ it := fun z => by
      obtain ⟨oi, q, hci, _⟩ := hit
      rw [z, q] at hoa
      cases hoa
      rw [hci] at hca
      injection hca with q2
      exact absurd q2 (by decide)
    have hlt : i < its.toArray.size := by
      have q := (List.getElem?_eq_some_iff.mp hu).1
      simpa using q
    have D : Draws X.prog X.w X.A.in1 it [it, a] its.toArray.size (fun i v => its.toArray[i]? = some v) (fun i h => h.IsTupleIter it a i ∧ h.IsTuple a its.toArray) := Draws.tuple (A := X.A.in1) (show X.A.in1.handled = none from I.ok.hd hc) it a hai its.toArray
    refine wpAny_pyNext_enum_itemD D he ⟨hit, p⟩ hlt hne (by simp [hne, Ne.symm hae]) fun x' h' tk hx' ho hst hT hsz hk => ?_
    have exu : x' = u := by
      have q : its[i]? = some x' := by simpa using hx'
      rw [hu] at q
      exact (Option.some.inj q).symm
    subst exu
    refine ⟨_, rfl, wpAny_letOwnedTupleGo_enum (s := { s with heap := h', toks := tk + 1 }) ho fun h'' he' sb => ?_⟩
    have hT2 : h''.get? s.heap.objs.size = some { cls := .type "tuple", data := .seq #[.int i tk, x'] } := (sb.2 _ (Nat.ne_of_gt hel)).trans hT
    have new : ObjOk X.prog X.w (upd H s.heap.objs.size (.tup [.int (i : Nat), x])) h'' s.heap.objs.size (.tup [.int (i : Nat), x]) :=
      ⟨by show 2 ≤ sizeLine; decide, [.int i tk, x'], .cons ⟨_, rfl⟩ (.cons ru .nil), ⟨_, hT2, rfl, _, rfl⟩⟩
    have I1 : Inv X pins σ (upd H s.heap.objs.size (.tup [.int (i : Nat), x])) { s with heap := h'', toks := tk + 1 } :=
      I.turnedNew (ch := [e, it]) (fun b ob hb q => (sb.2 b (fun z => hb (by simp [z]))).trans (hk b ob (fun z => hb (by simp [z])) (fun z => hb (by simp [z])) q)) hf (Nat.le_refl _) new
    refine ⟨.ref s.heap.objs.size, _, I1, rfl, ⟨_, x, rfl, I.hok.fresh (Nat.le_refl _), rfl, fun ys hy => by rw [I.tuple_inj hy hq]; exact hx⟩, ⟨⟨x', ?_⟩, hst.1.at fun o q => (sb.2 it (Ne.symm hne)).trans q, hne⟩, fun b hb => ?_⟩
    · have e1 : ((i + 1 : Nat) : Int) = (i : Int) + 1 := by omega
      rw [e1]
      exact he'
    · have hb' : b < s.heap.objs.size := by
        have eb : b = e ∨ b = it := by simpa using hb
        rcases eb with z | z
        · rw [z]
          exact hel
        · rw [z]
          exact hil
      rw [upd_ne (Nat.ne_of_lt hb')]
      exact (hf b hb).1
  done := by
    intro X hP hw hK hc i pins s σ H E I hf st hg
    subst hP hw hK
    obtain ⟨⟨old, he⟩, hit, hne⟩ := st
    obtain ⟨xs, hq, hx⟩ := hg
    obtain ⟨its, rv, p, hz⟩ := I.tuple hq
    obtain ⟨oa, hoa, hca, na, hda⟩ := id p
    have hai : a ≠ it := fun z => by
      obtain ⟨oi, q, hci, _⟩ := hit
      rw [z, q] at hoa
      cases hoa
      rw [hci] at hca
      injection hca with q2
      exact absurd q2 (by decide)
    obtain ⟨f0, f1, f2, f3, f4, f5⟩ := hf it (by simp)
    have hl := rv.length
    have D : Draws X.prog X.w X.A.in1 it [it, a] its.toArray.size (fun i v => its.toArray[i]? = some v) (fun i h => h.IsTupleIter it a i ∧ h.IsTuple a its.toArray) := Draws.tuple (A := X.A.in1) (show X.A.in1.handled = none from I.ok.hd hc) it a hai its.toArray
    have hsz : its.toArray.size = i := by
      rw [List.size_toArray]
      omega
    have st : s.heap.IsTupleIter it a its.toArray.size ∧ s.heap.IsTuple a its.toArray := by
      rw [hsz]
      exact ⟨hit, p⟩
    exact wpAny_pyNext_enum_endD D he st fun h' eb => ⟨rfl, I.turned (t' := s.toks) (fun b o hb q => eb b o hb q) f0 f1 f3 f4 f5⟩
  self := fun A i s Q E st h => let ⟨⟨_, he⟩, _⟩ := st; wpAny_pyIter_enum he h
def iEnumT (K : PySem.W.Frag) (ta : TA) : TI := fun σ H R => ta σ H fun vs H1 => ∃ a xs, vs = [.ref a] ∧ SqT K H1 a xs ∧ R (IteT K a) H1
theorem pi_enumT {X : Cx} {e : Expr} {ta : TA} {p pos tpos : Pos} {elts : List Expr} {kk : Nat} (hg : Gl X "enumerate") (hm : X.mg "enumerate" = none) (ha : PA X [e] ta) (hs : starEach [e] X.env = [(false, eval e X.env)] := by rfl) :
    PI X (.Tuple elts kk tpos) (.Call (.Name "enumerate" p) [e] [] pos) (iEnumT X.K ta) := by
  refine ⟨fun pins s σ H R I h => ?_⟩
  refine Call_ (ld_blt I hg hm boot_enumerate (PyProof.Rows.callWith_type1 (thn (ha.run pos pins s σ H _ I h) fun us s1 ⟨vs, H1, I1, r1, q1⟩ => ?_) hs rfl))
  obtain ⟨a, xs, ex, hq, q⟩ := q1
  subst ex
  cases r1 with
  | cons r rr =>
    cases rr
    cases r
    obtain ⟨its, rv, p', hz⟩ := I1.tuple hq
    refine callE1 (begins_tuple a its.toArray) p' fun h' he hit hk => wpAny_pyIter_enum he ?_
    have I2 : Inv X pins σ H1 { s1 with heap := h' } := I1.kept (t' := s1.toks) hk
    refine ⟨s1.heap.objs.size + 1, [s1.heap.objs.size + 1, s1.heap.objs.size], _, _, H1, rfl, I2, turnET a (s1.heap.objs.size + 1) s1.heap.objs.size, ⟨⟨.none, he⟩, ⟨_, hit, rfl, rfl⟩, Nat.succ_ne_self _⟩, fun b hb => ?_, q⟩
    have eb : b = s1.heap.objs.size + 1 ∨ b = s1.heap.objs.size := by simpa using hb
    have hle : s1.heap.objs.size ≤ b := by
      rcases eb with z | z
      · rw [z]
        exact Nat.le_add_right _ _
      · rw [z]
        exact Nat.le_refl _
    exact I1.fpOk hle (I1.hok.fresh hle)
end LV
set_option Elab.async false
set_option linter.all false
set_option maxRecDepth 100000
set_option maxHeartbeats 2000000
namespace LV
open PySem PySem.Spec PyProof.Rows L2
/-! an int's own method is asked with an instance: NotImplemented -/
section
variable {prog : Program} {w : World} {A : Around} {E : Value → Shared → Prop} {s : Shared}
end
end LV
set_option Elab.async false
set_option linter.all false
set_option maxRecDepth 100000
set_option maxHeartbeats 2000000
namespace LV
open PySem PySem.Spec PyProof.Rows L2
/-! own operators over the layer -/
/-- a def that is an instance's method, with its promise -/
structure OwnM (X : Cx) (k : Nat) (C : Addr) (nm : Str) (sp : Sp) : Prop where
  ex : ∃ (f : Addr) (fd : FuncData) (ps : List Str), PySem.W.findIn X.K (.ref C) nm = some (some (.ref f)) ∧ PySem.W.isFn X.K (.ref f) = true ∧ FnOk X.prog X.w X.K X.mg X.base CX0 k f fd ps sp ∧ Binds X.K fd ps []
/-- its class beside ints -/
structure OwnC (K : PySem.W.Frag) (C : Addr) : Prop where
  first : PySem.W.selfFirst K C = true
  subI : PySem.W.subIn K (.type "int") (.ref C) = some false
  subC : PySem.W.subIn K (.ref C) (.type "int") = some false
/-- the other operand: an int, or an instance of the class -/
def NumV (C : Addr) (H : Hp) (y : V) : Prop := (∃ i, y = .int i) ∨ ∃ b dy gs, y = .ref b ∧ H b = some (.ins C dy gs)
section
variable {X : Cx} {k : Nat} {C : Addr} {sp : Sp} {op : Operator}
/-! division by any number but nought -/
theorem op_fdivG : OpR X (binaryOp .FloorDiv) (rI (fun _ j => j ≠ 0 ∧ j.natAbs.log2 < 9000) fun i j => .int (i.fdiv j)) := opI fun _ _ _ _ _ _ _ hc q => floordiv_int hc.1 q (.inl (PyProof.noPylong_of_log2 hc.2))
theorem op_mulG : OpR X (binaryOp .Mult) (rI IntMulOk fun i j => .int (i * j)) := opI fun _ _ _ _ _ _ _ hc q => mul_int q hc
end
end LV
set_option Elab.async false
set_option linter.all false
set_option maxRecDepth 100000
set_option maxHeartbeats 2000000
namespace LV
open PySem PySem.Spec PyProof.Rows L2
theorem walk_enumT {K : PySem.W.Frag} {a : Addr} {xs : List V} : Walk (IteT K a) xs.length (fun H => SqT K H a xs) (YPair (fun i => some (.int (i : Nat))) (fun i => xs[i]?)) := by
  refine ⟨fun i _ hi q => ⟨xs, xs[i], q, by simp [hi]⟩, fun _ q => ⟨xs, q, rfl⟩, fun i H v H' _ q y => ?_⟩
  obtain ⟨T, x, h1, h2, h3, h4⟩ := y
  exact ⟨T, .int (i : Nat), x, h1, h2, h3, rfl, h4 xs q⟩
/-- built-in names that the module does not bind -/
structure Bt (mg : Str → Option Value) : Prop where
  len : mg "len" = none
  int : mg "int" = none
  enumerate : mg "enumerate" = none
  isinstance : mg "isinstance" = none
  zip : mg "zip" = none
  all : mg "all" = none
  range : mg "range" = none
  list : mg "list" = none
  tuple : mg "tuple" = none
  bool : mg "bool" = none
/-! heaps -/
def But (a : Addr) (H H' : Hp) : Prop := ∀ b o, b ≠ a → H b = some o → H' b = some o
theorem But.refl (a : Addr) (H : Hp) : But a H H := fun _ _ _ h => h
theorem But.trans {a : Addr} {H H1 H2 : Hp} (x : But a H H1) (y : But a H1 H2) : But a H H2 := fun b o n h => y b o n (x b o n h)
theorem Same.but {a : Addr} {H H1 : Hp} (x : Same H H1) : But a H H1 := fun b o _ h => x b o h
theorem But.upd {a : Addr} {H H1 : Hp} {o : HO} (x : But a H H1) : But a H (upd H1 a o) := fun b u n h => by
  rw [upd_ne n]
  exact x b u n h
theorem Same.new {H : Hp} {p : Addr} {o : HO} (h : H p = none) : Same H (upd H p o) := fun b u e => by
  rw [upd_ne (ne_of_none e h)]
  exact e
/-- a new object: the heap behind it is some heap -/
theorem nAt {H H1 : Hp} {p : Addr} {o : HO} (q : upd H p o = H1) : H1 p = some o := by
  rw [← q]
  exact upd_same
theorem nSm {H H1 : Hp} {p : Addr} {o : HO} (q : upd H p o = H1) (n : H p = none) : Same H H1 := by
  rw [← q]
  exact Same.new n
/-- the law's state for draws -/
abbrev stL (c : Addr) (n l : Int) (m : Bool) : HO := .lst [.ref c, .int n, .int l, .bl m]
def Stt (K : PySem.W.Frag) (H : Hp) (a : Addr) : Prop := ∃ (c : Addr) (ns : List Int) (n l : Int) (m : Bool), H a = some (stL c n l m) ∧ c ≠ a ∧ H c = some (.lst (ns.map V.int)) ∧ ns.length ≤ 63
theorem Stt.same {K : PySem.W.Frag} {H H1 : Hp} {a : Addr} (e : Same H H1) (s : Stt K H a) : Stt K H1 a := by
  obtain ⟨c, ns, n, l, m, h, hn, hs, hl⟩ := s
  exact ⟨c, ns, n, l, m, e _ _ h, hn, e _ _ hs, hl⟩
def notSt : HO → Bool
  | .lst (.ref _ :: .int _ :: .int _ :: .bl _ :: []) => false
  | _ => true
theorem But.get {K : PySem.W.Frag} {a x : Addr} {H H1 : Hp} {o : HO} (e : But a H H1) (s : Stt K H a) (h : H x = some o) (n : notSt o = true) : H1 x = some o := by
  refine e x o (fun q => ?_) h
  obtain ⟨c, ns, n', l, m, h2, _⟩ := s
  rw [q, h2] at h
  cases h
  cases n
/-- all but the state stays, and its cells are the same list -/
def Bus (a : Addr) (H H' : Hp) : Prop := But a H H' ∧ ∀ c n l m, H a = some (stL c n l m) → ∃ n' l' m', H' a = some (stL c n' l' m')
theorem Bus.refl (a : Addr) (H : Hp) : Bus a H H := ⟨But.refl a H, fun _ n l m h => ⟨n, l, m, h⟩⟩
theorem Bus.trans {a : Addr} {H H1 H2 : Hp} (x : Bus a H H1) (y : Bus a H1 H2) : Bus a H H2 := ⟨x.1.trans y.1, fun c n l m h => by
  obtain ⟨n', l', m', h'⟩ := x.2 c n l m h
  exact y.2 c n' l' m' h'⟩
theorem Same.bus {a : Addr} {H H1 : Hp} (x : Same H H1) : Bus a H H1 := ⟨Same.but x, fun _ n l m h => ⟨n, l, m, x _ _ h⟩⟩
theorem Bus.get {K : PySem.W.Frag} {a x : Addr} {H H1 : Hp} {o : HO} (e : Bus a H H1) (s : Stt K H a) (h : H x = some o) (n : notSt o = true) : H1 x = some o := e.1.get s h n
/-- a list apart from the state and its cells -/
def Apt (H : Hp) (a b : Addr) : Prop := b ≠ a ∧ ∀ c n l m, H a = some (stL c n l m) → c ≠ b
theorem Apt.bus {K : PySem.W.Frag} {a b : Addr} {H H' : Hp} (s : Stt K H a) (e : Bus a H H') (h : Apt H a b) : Apt H' a b := by
  obtain ⟨c, ns, n, l, m, h1, _⟩ := s
  obtain ⟨n', l', m', h2⟩ := e.2 c n l m h1
  refine ⟨h.1, fun c2 n2 l2 m2 h3 => ?_⟩
  rw [h2] at h3
  cases h3
  exact h.2 c n l m h1
theorem Apt.same {K : PySem.W.Frag} {a b : Addr} {H H' : Hp} (s : Stt K H a) (e : Same H H') (h : Apt H a b) : Apt H' a b := h.bus s (Same.bus e)
theorem Apt.new {K : PySem.W.Frag} {a b : Addr} {H : Hp} (s : Stt K H a) (h : H b = none) : Apt H a b := by
  obtain ⟨c, ns, n, l, m, h1, h2, h3, _⟩ := s
  refine ⟨fun z => ?_, fun c2 n2 l2 m2 h4 z => ?_⟩
  · subst z
    rw [h1] at h
    cases h
  · rw [h1] at h4
    cases h4
    subst z
    rw [h3] at h
    cases h
/-- the state stays where another list is changed -/
theorem Stt.but {K : PySem.W.Frag} {a b : Addr} {H H' : Hp} (s : Stt K H a) (h : Apt H a b) (e : But b H H') : Stt K H' a := by
  obtain ⟨c, ns, n, l, m, h1, h2, h3, h4⟩ := s
  exact ⟨c, ns, n, l, m, e _ _ h.1.symm h1, h2, e _ _ (h.2 _ _ _ _ h1) h3, h4⟩
/-! tests as a whole -/
end LV
set_option Elab.async false
set_option linter.all false
set_option maxRecDepth 100000
set_option maxHeartbeats 2000000
namespace LV
open PySem PySem.Spec PyProof.Rows L2
open AutoSeq1 (wpAny_loadPart')
/-! comparisons: a built-in value beside an instance -/
section
variable {prog : Program} {w : World} {A : Around} {E : Value → Shared → Prop} {s : Shared}
/-! x != y by the object's own way over __eq__ -/
end
end LV
set_option Elab.async false
set_option linter.all false
set_option maxRecDepth 100000
set_option maxHeartbeats 2000000
namespace LV
open PySem PySem.Spec PyProof.Rows L2
open AutoSeq1 (wpAny_loadPart')
/-! a built-in value's own == with an instance: NotImplemented -/
section
variable {prog : Program} {w : World} {A : Around} {E : Value → Shared → Prop} {s : Shared} {M : Model} {x C dx : Addr} {Q : Value → Shared → Prop}
end
/-! comparisons over the layer -/
section
variable {X : Cx} {k : Nat} {C : Addr} {sp : Sp} {op : CmpOp}
/-- what stands to the right of an instance: its type is none below the class -/
def NotF (K : PySem.W.Frag) (C : Addr) (H : Hp) (y : V) : Prop := ∃ t, TyX K H y t ∧ PySem.W.notFirst K C t = true
/-- a built-in value to the left of an instance -/
inductive Lft (K : PySem.W.Frag) (H : Hp) : V → String → Prop where
  | non : Lft K H .non "NoneType"
  | bl (b : Bool) : Lft K H (.bl b) "bool"
  | int (i : Int) : Lft K H (.int i) "int"
  | str (z : Str) : Lft K H (.str z) "str"
  | lst {a : Addr} {xs : List V} (h : H a = some (.lst xs)) : Lft K H (.ref a) "list"
  | tup {a : Addr} {xs : List V} (h : H a = some (.tup xs)) : Lft K H (.ref a) "tuple"
  | dK {a : Addr} {kvs : List (Key × V)} (h : H a = some (.dK kvs)) : Lft K H (.ref a) "dict"
end
end LV
set_option Elab.async false
set_option linter.all false
set_option maxRecDepth 100000
set_option maxHeartbeats 2000000
/-! == of lists and tuples of own instances, with its answer -/
namespace GB
open PySem PySem.SeqAt
open AutoSeq1 (wpAny_loadPart')
open MeetsSeq MeetsSeq2 MeetsSeq3 SeqRoads2
open GQ (FinOf call_here)
section
variable {prog : Program} {w : World} {A : Around} {R : Result → Shared → Prop}
end
section
variable {prog : Program} {w : World} {A : Around} {E : Value → Shared → Prop} {s : Shared}
end
end GB
namespace LV
open PySem PySem.Spec PyProof.Rows L2
abbrev EqvB := V → V → Bool → Hp → Prop
section
variable {X : Cx} {n m : Nat} {D D' : EqvB}
/-! xs != [] -/
/-! walks over a list or a tuple -/
def iOr (w1 w2 : TI) : TI := fun σ H R => w1 σ H R ∨ w2 σ H R
theorem pi_or {tg e : Expr} {w1 w2 : TI} (h1 : PI X tg e w1) (h2 : PI X tg e w2) : PI X tg e (iOr w1 w2) := ⟨fun pins s σ H R I h => h.elim (h1.run pins s σ H R I) (h2.run pins s σ H R I)⟩
theorem pi_seq {tg l : Expr} {tl : TE} (hl : PE X l tl) : PI X tg l (iOr (iList X.K tl) (iTup X.K tl)) := pi_or (pi_list hl) (pi_tup hl)
end
end LV
set_option Elab.async false
set_option linter.all false
set_option maxRecDepth 100000
set_option maxHeartbeats 2000000
/-! pure values, the pure region of a heap, owned trees -/
namespace UL
open PySem PySem.Spec PyProof.Rows L2 LV
/-- what lies under the slots: tables of code objects -/
abbrev Gh := List (Addr × Str)
inductive U where
  | non | bl (b : Bool) | int (i : Int) | str (x : Str) | q (r : Rat)
  | lst (xs : List U) | tup (xs : List U) | obj (c : String) (ns : List Str) (xs : List U) | dic (ks : List Str) (xs : List U)
  | kt (c : String)
  | atl (a : Addr) (xs : List U)
  | pd (kvs : List ((Int × Int) × Int))
  | er (c : String) (ns : List Str) (us : List U)
/-- owned trees: p a pure value, l a list, o an object, d a dict -/
inductive Ow where
  | p (u : U) | l (ws : List Ow) | o (c : String) (ns : List Str) (ws : List Ow) | d (ks : List Str) (ws : List Ow) | t (ws : List Ow) | g (kvs : List ((Int × Int) × Int))
/-- a dict with pairs of ints as keys -/
def encP (kvs : List ((Int × Int) × Int)) : List (List Key × V) := kvs.map fun e => ([Sum.inl e.1.1, Sum.inl e.1.2], .int e.2)
/-- an error as a thing: its class, its dict if it has one -/
def ErO (C : Addr) (d : Option Addr) (a : Addr) : HO := .ext fun h => ∃ (oe : Obj) (vs : Array Value), h.get? a = some oe ∧ Zc (.ref C) d oe ∧ oe.data = .fields vs
/-- the dict that is told by these fields -/
def ErD (S : Hp) (ns : List Str) (vs : List V) : Option Addr → Prop
  | none => ns = []
  | some dd => S dd = some (.xd (ns.zip vs))
def exF (o u : Int) : List (Str × V) := [("over", .int o), ("under", .int u)]
section
variable (κ : String → Addr) (γ : Gh)
mutual
def Rep (S : Hp) : U → V → Prop
  | .non, v => v = .non
  | .bl b, v => v = .bl b
  | .int i, v => v = .int i
  | .str x, v => v = .str x
  | .q r, v => ∃ x dx, v = .ref x ∧ S x = some (.ins (κ "Exact") dx (exF r.num r.den))
  | .lst us, v => ∃ a vs, v = .ref a ∧ S a = some (.lst vs) ∧ Reps S us vs
  | .tup us, v => ∃ a vs, v = .ref a ∧ S a = some (.tup vs) ∧ Reps S us vs
  | .obj c ns us, v => ∃ a dx vs, v = .ref a ∧ S a = some (.ins (κ c) dx (ns.zip vs)) ∧ ns.length = vs.length ∧ Reps S us vs
  | .dic ks us, v => ∃ a vs, v = .ref a ∧ S a = some (.dK ((ks.map Sum.inr).zip vs)) ∧ ks.length = vs.length ∧ Reps S us vs
  | .kt c, v => v = .ref (κ c)
  | .atl a us, v => ∃ b vs, v = .ref b ∧ S b = some (.lst vs) ∧ Reps S us vs ∧ b = a
  | .pd kvs, v => ∃ a, v = .ref a ∧ S a = some (.dT (encP kvs))
  | .er c ns us, v => ∃ a d vs, v = .ref a ∧ S a = some (ErO (κ c) d a) ∧ ErD S ns vs d ∧ ns.length = vs.length ∧ Reps S us vs
def Reps (S : Hp) : List U → List V → Prop
  | [], vs => vs = []
  | u :: us, vs => ∃ v vs', vs = v :: vs' ∧ Rep S u v ∧ Reps S us vs'
end
/-- an instance of Exact -/
def XObj (o : HO) : Prop := (∃ dx fs, o = .ins (κ "Exact") dx fs) ∨ ∃ c q, o = LamX.CodeO c q
mutual
def RepO (S H : Hp) : Ow → V → List Addr → Prop
  | .p u, v, F => F = [] ∧ Rep κ S u v
  | .l ws, v, F => ∃ a vs F', v = .ref a ∧ H a = some (.lst vs) ∧ F = a :: F' ∧ RepOs S H ws vs F'
  | .o c ns ws, v, F => ∃ a dx vs F', v = .ref a ∧ H a = some (.ins (κ c) dx (ns.zip vs)) ∧ κ c ≠ κ "Exact" ∧ ns.length = vs.length ∧ F = a :: F' ∧ RepOs S H ws vs F'
  | .d ks ws, v, F => ∃ a vs F', v = .ref a ∧ H a = some (.dK ((ks.map Sum.inr).zip vs)) ∧ ks.length = vs.length ∧ F = a :: F' ∧ RepOs S H ws vs F'
  | .t ws, v, F => ∃ a vs, v = .ref a ∧ S a = some (.tup vs) ∧ RepOs S H ws vs F
  | .g kvs, v, F => ∃ a, v = .ref a ∧ H a = some (.dT (encP kvs)) ∧ F = [a]
def RepOs (S H : Hp) : List Ow → List V → List Addr → Prop
  | [], vs, F => vs = [] ∧ F = []
  | w :: ws, vs, F => ∃ v vs' F1 F2, vs = v :: vs' ∧ F = F1 ++ F2 ∧ RepO S H w v F1 ∧ RepOs S H ws vs' F2
end
end
mutual
def frz : Ow → U
  | .p u => u
  | .l ws => .lst (frzs ws)
  | .o c ns ws => .obj c ns (frzs ws)
  | .d ks ws => .dic ks (frzs ws)
  | .t ws => .tup (frzs ws)
  | .g kvs => .pd kvs
def frzs : List Ow → List U
  | [] => []
  | w :: ws => frz w :: frzs ws
end
theorem frzs_map (us : List U) : frzs (us.map .p) = us := by
  induction us with
  | nil => rfl
  | cons u us ih => simp [frzs, frz, ih]
abbrev Env := List (Option Ow)
section
variable {κ : String → Addr} {γ : Gh}
theorem Reps.len : ∀ {us : List U} {vs : List V} {S : Hp}, Reps κ S us vs → us.length = vs.length
  | [], _, _, h => by
    cases (show _ = _ from h)
    rfl
  | _ :: _, _, _, h => by
    obtain ⟨v, vs', rfl, _, h⟩ := h
    simp [Reps.len h]
mutual
theorem Rep.mono {S S' : Hp} (e : Same S S') : ∀ (u : U) {v : V}, Rep κ S u v → Rep κ S' u v
  | .non, _, h => h
  | .bl _, _, h => h
  | .int _, _, h => h
  | .str _, _, h => h
  | .q _, _, ⟨x, dx, h1, h2⟩ => ⟨x, dx, h1, e _ _ h2⟩
  | .lst us, _, ⟨a, vs, h1, h2, h3⟩ => ⟨a, vs, h1, e _ _ h2, Reps.mono e us h3⟩
  | .tup us, _, ⟨a, vs, h1, h2, h3⟩ => ⟨a, vs, h1, e _ _ h2, Reps.mono e us h3⟩
  | .obj _ _ us, _, ⟨a, dx, vs, h1, h2, h3, h4⟩ => ⟨a, dx, vs, h1, e _ _ h2, h3, Reps.mono e us h4⟩
  | .dic _ us, _, ⟨a, vs, h1, h2, h3, h4⟩ => ⟨a, vs, h1, e _ _ h2, h3, Reps.mono e us h4⟩
  | .kt _, _, h => h
  | .atl _ us, _, ⟨b, vs, h1, h2, h3, h4⟩ => ⟨b, vs, h1, e _ _ h2, Reps.mono e us h3, h4⟩
  | .pd _, _, ⟨a, h1, h2⟩ => ⟨a, h1, e _ _ h2⟩
  | .er _ ns us, _, ⟨a, d, vs, h1, h2, h3, h4, h5⟩ => ⟨a, d, vs, h1, e _ _ h2, (match d, h3 with
    | none, h3 => h3
    | some dd, h3 => e _ _ h3), h4, Reps.mono e us h5⟩
theorem Reps.mono {S S' : Hp} (e : Same S S') : ∀ (us : List U) {vs : List V}, Reps κ S us vs → Reps κ S' us vs
  | [], _, h => h
  | u :: us, _, ⟨v, vs', h1, h2, h3⟩ => ⟨v, vs', h1, Rep.mono e u h2, Reps.mono e us h3⟩
end
theorem Reps.get : ∀ {us : List U} {vs : List V} {S : Hp} {i : Nat} {u : U}, Reps κ S us vs → us[i]? = some u → ∃ v, vs[i]? = some v ∧ Rep κ S u v
  | [], _, _, _, _, _, e => by simp at e
  | a :: us, _, _, 0, u, ⟨v, vs', rfl, h1, h2⟩, e => by
    simp at e
    subst e
    exact ⟨v, rfl, h1⟩
  | a :: us, _, _, i + 1, u, ⟨v, vs', rfl, h1, h2⟩, e => by
    obtain ⟨x, hx, hr⟩ := Reps.get (i := i) h2 (by simpa using e)
    exact ⟨x, by simpa using hx, hr⟩
/-- the other way round: what stands at a place of the values -/
theorem Reps.at_ {us : List U} {vs : List V} {S : Hp} {i : Nat} {v : V} (h : Reps κ S us vs) (e : vs[i]? = some v) : ∃ u, us[i]? = some u ∧ Rep κ S u v := by
  have hi : i < us.length := by
    rw [h.len]
    exact (List.getElem?_eq_some_iff.mp e).1
  have q : us[i]? = some us[i] := by simp [hi]
  obtain ⟨x, hx, hr⟩ := h.get q
  rw [e] at hx
  cases hx
  exact ⟨_, q, hr⟩
theorem Reps.snoc {S : Hp} {u : U} {v : V} (hr : Rep κ S u v) : ∀ {us : List U} {vs : List V}, Reps κ S us vs → Reps κ S (us ++ [u]) (vs ++ [v])
  | [], _, h => by
    cases (show _ = _ from h)
    exact ⟨v, [], rfl, hr, rfl⟩
  | a :: us, _, h => by
    obtain ⟨x, vs', rfl, h1, h2⟩ := h
    exact ⟨x, vs' ++ [v], rfl, h1, Reps.snoc hr h2⟩
theorem Reps.app {S : Hp} : ∀ {us us2 : List U} {vs vs2 : List V}, Reps κ S us vs → Reps κ S us2 vs2 → Reps κ S (us ++ us2) (vs ++ vs2)
  | [], _, _, _, h, h2 => by
    cases (show _ = _ from h)
    exact h2
  | a :: us, _, _, _, ⟨x, vs', rfl, h1, h2⟩, h => ⟨x, _, rfl, h1, Reps.app h2 h⟩
theorem Reps.drop {S : Hp} : ∀ {us : List U} {vs : List V} (n : Nat), Reps κ S us vs → Reps κ S (us.drop n) (vs.drop n)
  | _, _, 0, h => h
  | [], _, n + 1, h => by
    cases (show _ = _ from h)
    rfl
  | a :: us, _, n + 1, h => by
    obtain ⟨x, vs', rfl, h1, h2⟩ := h
    exact Reps.drop n h2
theorem Reps.take {S : Hp} : ∀ {us : List U} {vs : List V} (n : Nat), Reps κ S us vs → Reps κ S (us.take n) (vs.take n)
  | _, _, 0, h => rfl
  | [], _, n + 1, h => by
    cases (show _ = _ from h)
    rfl
  | a :: us, _, n + 1, h => by
    obtain ⟨x, vs', rfl, h1, h2⟩ := h
    exact ⟨x, _, rfl, h1, Reps.take n h2⟩
/-! owned trees stay where their places stay -/
mutual
theorem RepO.mono {S S' H H' : Hp} (e : Same S S') : ∀ (w : Ow) {v : V} {F : List Addr}, (∀ a ∈ F, H' a = H a) → RepO κ S H w v F → RepO κ S' H' w v F
  | .p u, _, _, _, ⟨h1, h2⟩ => ⟨h1, Rep.mono e u h2⟩
  | .l ws, _, _, k, h => by
    obtain ⟨a, vs, F', h1, h2, rfl, h4⟩ := h
    exact ⟨a, vs, F', h1, (k a (by simp)).trans h2, rfl, RepOs.mono e ws (fun b hb => k b (by simp [hb])) h4⟩
  | .o _ _ ws, _, _, k, h => by
    obtain ⟨a, dx, vs, F', h1, h2, h3, h5, rfl, h4⟩ := h
    exact ⟨a, dx, vs, F', h1, (k a (by simp)).trans h2, h3, h5, rfl, RepOs.mono e ws (fun b hb => k b (by simp [hb])) h4⟩
  | .d _ ws, _, _, k, h => by
    obtain ⟨a, vs, F', h1, h2, h3, rfl, h4⟩ := h
    exact ⟨a, vs, F', h1, (k a (by simp)).trans h2, h3, rfl, RepOs.mono e ws (fun b hb => k b (by simp [hb])) h4⟩
  | .t ws, _, _, k, ⟨a, vs, h1, h2, h3⟩ => ⟨a, vs, h1, e _ _ h2, RepOs.mono e ws k h3⟩
  | .g _, _, _, k, h => by
    obtain ⟨a, h1, h2, rfl⟩ := h
    exact ⟨a, h1, (k a (by simp)).trans h2, rfl⟩
theorem RepOs.mono {S S' H H' : Hp} (e : Same S S') : ∀ (ws : List Ow) {vs : List V} {F : List Addr}, (∀ a ∈ F, H' a = H a) → RepOs κ S H ws vs F → RepOs κ S' H' ws vs F
  | [], _, _, _, h => h
  | w :: ws, _, _, k, h => by
    obtain ⟨v, vs', F1, F2, h1, rfl, h3, h4⟩ := h
    exact ⟨v, vs', F1, F2, h1, rfl, RepO.mono e w (fun b hb => k b (by simp [hb])) h3, RepOs.mono e ws (fun b hb => k b (by simp [hb])) h4⟩
end
/-! owned places hold things that are no Exacts -/
mutual
theorem RepO.foot {S H : Hp} : ∀ (w : Ow) {v : V} {F : List Addr}, RepO κ S H w v F → ∀ a ∈ F, ∃ o, H a = some o ∧ ¬ XObj κ o
  | .p u, _, _, h => by
    obtain ⟨rfl, _⟩ := h
    exact fun a ha => by simp at ha
  | .l ws, _, _, h => by
    obtain ⟨a, vs, F', h1, h2, rfl, h4⟩ := h
    intro b hb
    rcases List.mem_cons.mp hb with rfl | hb
    · exact ⟨_, h2, fun z => by rcases z with ⟨_, _, z⟩ | ⟨_, _, z⟩ <;> cases z⟩
    · exact RepOs.foot ws h4 b hb
  | .o _ _ ws, _, _, h => by
    obtain ⟨a, dx, vs, F', h1, h2, h3, _, rfl, h4⟩ := h
    intro b hb
    rcases List.mem_cons.mp hb with rfl | hb
    · exact ⟨_, h2, fun z => by
      rcases z with ⟨_, _, z⟩ | ⟨_, _, z⟩
      · injection z with z; exact h3 z
      · cases z⟩
    · exact RepOs.foot ws h4 b hb
  | .d _ ws, _, _, h => by
    obtain ⟨a, vs, F', h1, h2, _, rfl, h4⟩ := h
    intro b hb
    rcases List.mem_cons.mp hb with rfl | hb
    · exact ⟨_, h2, fun z => by rcases z with ⟨_, _, z⟩ | ⟨_, _, z⟩ <;> cases z⟩
    · exact RepOs.foot ws h4 b hb
  | .t ws, _, _, ⟨_, _, _, _, h⟩ => RepOs.foot ws h
  | .g _, _, _, h => by
    obtain ⟨a, h1, h2, rfl⟩ := h
    intro b hb
    rcases List.mem_cons.mp hb with rfl | hb
    · exact ⟨_, h2, fun z => by rcases z with ⟨_, _, z⟩ | ⟨_, _, z⟩ <;> cases z⟩
    · cases hb
theorem RepOs.foot {S H : Hp} : ∀ (ws : List Ow) {vs : List V} {F : List Addr}, RepOs κ S H ws vs F → ∀ a ∈ F, ∃ o, H a = some o ∧ ¬ XObj κ o
  | [], _, _, h => by
    obtain ⟨_, rfl⟩ := h
    exact fun a ha => by simp at ha
  | w :: ws, _, _, h => by
    obtain ⟨v, vs', F1, F2, h1, rfl, h3, h4⟩ := h
    intro b hb
    rcases List.mem_append.mp hb with hb | hb
    · exact RepO.foot w h3 b hb
    · exact RepOs.foot ws h4 b hb
end
/-! what is owned, told as pure in a region that holds its places -/
mutual
theorem RepO.frz {S H S' : Hp} (e : Same S S') : ∀ (w : Ow) {v : V} {F : List Addr}, (∀ a ∈ F, S' a = H a) → RepO κ S H w v F → Rep κ S' (frz w) v
  | .p u, _, _, _, ⟨_, h⟩ => Rep.mono e u h
  | .l ws, _, _, k, h => by
    obtain ⟨a, vs, F', h1, h2, rfl, h4⟩ := h
    exact ⟨a, vs, h1, (k a (by simp)).trans h2, RepOs.frz e ws (fun b hb => k b (by simp [hb])) h4⟩
  | .o _ _ ws, _, _, k, h => by
    obtain ⟨a, dx, vs, F', h1, h2, _, h5, rfl, h4⟩ := h
    exact ⟨a, dx, vs, h1, (k a (by simp)).trans h2, h5, RepOs.frz e ws (fun b hb => k b (by simp [hb])) h4⟩
  | .d _ ws, _, _, k, h => by
    obtain ⟨a, vs, F', h1, h2, h3, rfl, h4⟩ := h
    exact ⟨a, vs, h1, (k a (by simp)).trans h2, h3, RepOs.frz e ws (fun b hb => k b (by simp [hb])) h4⟩
  | .t ws, _, _, k, ⟨a, vs, h1, h2, h3⟩ => ⟨a, vs, h1, e _ _ h2, RepOs.frz e ws k h3⟩
  | .g _, _, _, k, h => by
    obtain ⟨a, h1, h2, rfl⟩ := h
    exact ⟨a, h1, (k a (by simp)).trans h2⟩
theorem RepOs.frz {S H S' : Hp} (e : Same S S') : ∀ (ws : List Ow) {vs : List V} {F : List Addr}, (∀ a ∈ F, S' a = H a) → RepOs κ S H ws vs F → Reps κ S' (frzs ws) vs
  | [], _, _, _, h => h.1
  | w :: ws, _, _, k, h => by
    obtain ⟨v, vs', F1, F2, h1, rfl, h3, h4⟩ := h
    exact ⟨v, vs', h1, RepO.frz e w (fun b hb => k b (by simp [hb])) h3, RepOs.frz e ws (fun b hb => k b (by simp [hb])) h4⟩
end
theorem RepOs.pure_ {S H : Hp} : ∀ {us : List U} {vs : List V}, Reps κ S us vs → RepOs κ S H (us.map .p) vs []
  | [], _, h => ⟨h, rfl⟩
  | u :: us, _, ⟨v, vs', h1, h2, h3⟩ => ⟨v, vs', [], [], h1, rfl, ⟨rfl, h2⟩, RepOs.pure_ h3⟩
theorem RepOs.flat {S H : Hp} : ∀ {us : List U} {vs : List V} {F : List Addr}, RepOs κ S H (us.map .p) vs F → F = [] ∧ Reps κ S us vs
  | [], _, _, h => ⟨h.2, h.1⟩
  | u :: us, _, _, h => by
    obtain ⟨v, vs', F1, F2, h1, rfl, ⟨rfl, h2⟩, h3⟩ := h
    obtain ⟨rfl, h4⟩ := RepOs.flat h3
    exact ⟨rfl, v, vs', h1, h2, h4⟩
/-! the slots -/
def SlotOk (κ : String → Addr) (S H : Hp) (s : Option V) : Option Ow → List Addr → Prop
  | none, F => F = []
  | some w, F => ∃ v, s = some v ∧ RepO κ S H w v F
def GhO (S H : Hp) : Gh → List Addr → Prop
  | [], F => F = []
  | (p, q) :: γ, F => ∃ ps F', F = p :: F' ∧ H p = some (.tbl ps) ∧ TriplesOk ps.toList ∧ (∀ pos cv, codeAmong pos ps.toList = some cv → ∃ c, cv = .ref c ∧ S c = some (LamX.CodeO c q)) ∧ GhO S H γ F'
theorem GhO.mono {S S' H H' : Hp} (e : Same S S') : ∀ {γ : Gh} {F : List Addr}, (∀ a ∈ F, H' a = H a) → GhO S H γ F → GhO S' H' γ F
  | [], _, _, h => h
  | (p, q) :: γ, _, k, h => by
    obtain ⟨ps, F', rfl, h1, h2, h3, h4⟩ := h
    refine ⟨ps, F', rfl, (k p (by simp)).trans h1, h2, fun pos cv hc => ?_, GhO.mono e (fun b hb => k b (by simp [hb])) h4⟩
    obtain ⟨c, a1, a2⟩ := h3 pos cv hc
    exact ⟨c, a1, e _ _ a2⟩
theorem GhO.foot {κ : String → Addr} {S H : Hp} : ∀ {γ : Gh} {F : List Addr}, GhO S H γ F → ∀ a ∈ F, ∃ o, H a = some o ∧ ¬ XObj κ o
  | [], _, h, a, ha => by
    have : _ = [] := h
    subst this
    simp at ha
  | (p, q) :: γ, _, h, a, ha => by
    obtain ⟨ps, F', rfl, h1, h2, h3, h4⟩ := h
    rcases List.mem_cons.mp ha with rfl | ha
    · exact ⟨_, h1, fun z => by rcases z with ⟨_, _, z⟩ | ⟨_, _, z⟩ <;> cases z⟩
    · exact GhO.foot h4 a ha
def EnvOk (κ : String → Addr) (γ : Gh) (S H : Hp) : L2.St → Env → List Addr → Prop
  | [], [], F => GhO S H γ F
  | s :: σ, e :: env, F => ∃ F1 F2, F = F1 ++ F2 ∧ SlotOk κ S H s e F1 ∧ EnvOk κ γ S H σ env F2
  | _, _, _ => False
theorem SlotOk.mono {S S' H H' : Hp} (e : Same S S') {s : Option V} : ∀ {w : Option Ow} {F : List Addr}, (∀ a ∈ F, H' a = H a) → SlotOk κ S H s w F → SlotOk κ S' H' s w F
  | none, _, _, h => h
  | some w, _, k, ⟨v, h1, h2⟩ => ⟨v, h1, RepO.mono e w k h2⟩
theorem EnvOk.mono {S S' H H' : Hp} (e : Same S S') : ∀ {σ : L2.St} {env : Env} {F : List Addr}, (∀ a ∈ F, H' a = H a) → EnvOk κ γ S H σ env F → EnvOk κ γ S' H' σ env F
  | [], [], _, k, h => GhO.mono e k h
  | s :: σ, w :: env, _, k, h => by
    obtain ⟨F1, F2, rfl, h1, h2⟩ := h
    exact ⟨F1, F2, rfl, SlotOk.mono e (fun b hb => k b (by simp [hb])) h1, EnvOk.mono e (fun b hb => k b (by simp [hb])) h2⟩
  | [], _ :: _, _, _, h => h
  | _ :: _, [], _, _, h => h
theorem EnvOk.len {S H : Hp} : ∀ {σ : L2.St} {env : Env} {F : List Addr}, EnvOk κ γ S H σ env F → σ.length = env.length
  | [], [], _, _ => rfl
  | s :: σ, w :: env, _, h => by
    obtain ⟨F1, F2, rfl, h1, h2⟩ := h
    exact by simp [EnvOk.len h2]
  | [], _ :: _, _, h => h.elim
  | _ :: _, [], _, h => h.elim
theorem EnvOk.foot {S H : Hp} : ∀ {σ : L2.St} {env : Env} {F : List Addr}, EnvOk κ γ S H σ env F → ∀ a ∈ F, ∃ o, H a = some o ∧ ¬ XObj κ o
  | [], [], _, h => GhO.foot h
  | s :: σ, w :: env, _, h => by
    obtain ⟨F1, F2, rfl, h1, h2⟩ := h
    intro a ha
    rcases List.mem_append.mp ha with ha | ha
    · cases w with
      | none =>
        have : _ = [] := h1
        subst this
        simp at ha
      | some w =>
        obtain ⟨v, _, h⟩ := h1
        exact RepO.foot w h a ha
    · exact EnvOk.foot h2 a ha
  | [], _ :: _, _, h => h.elim
  | _ :: _, [], _, h => h.elim
/-- a slot, and the slots with another thing in its place -/
theorem EnvOk.get {S H : Hp} : ∀ {σ : L2.St} {env : Env} {F : List Addr} {i : Nat} {w : Option Ow}, EnvOk κ γ S H σ env F → env[i]? = some w →
    ∃ s F1 F2 F3, σ[i]? = some s ∧ F = F1 ++ F2 ++ F3 ∧ SlotOk κ S H s w F2 ∧
      ∀ {S' H' : Hp} {s' : Option V} {w' : Option Ow} {F2' : List Addr}, Same S S' → (∀ a, a ∈ F1 ∨ a ∈ F3 → H' a = H a) → SlotOk κ S' H' s' w' F2' → EnvOk κ γ S' H' (σ.set i s') (env.set i w') (F1 ++ F2' ++ F3)
  | [], [], _, _, _, _, e => by simp at e
  | s :: σ, x :: env, _, 0, w, ⟨F1, F2, rfl, h1, h2⟩, e => by
    simp at e
    subst e
    exact ⟨s, [], F1, F2, rfl, by simp, h1, fun e k h => ⟨_, F2, by simp, h, h2.mono e (fun a ha => k a (.inr ha))⟩⟩
  | s :: σ, x :: env, _, i + 1, w, ⟨F1, F2, rfl, h1, h2⟩, e => by
    obtain ⟨s', A, B, C, g1, rfl, g3, g4⟩ := EnvOk.get (i := i) h2 (by simpa using e)
    refine ⟨s', F1 ++ A, B, C, by simpa using g1, by simp, g3, fun e k h => ?_⟩
    refine ⟨F1, A ++ _ ++ C, by simp, h1.mono e fun a ha => k a (.inl (by simp [ha])), g4 e (fun a ha => k a ?_) h⟩
    rcases ha with ha | ha
    · exact .inl (by simp [ha])
    · exact .inr ha
  | [], _ :: _, _, _, _, h, _ => h.elim
  | _ :: _, [], _, _, _, h, _ => h.elim
end
/-! states and steps -/
section
variable (κ : String → Addr) (γ : Gh)
structure WF (S H : Hp) (F : List Addr) : Prop where
  sub : Same S H
  nd : F.Nodup
  out : ∀ a ∈ F, S a = none
structure Stp (S H : Hp) (F : List Addr) (S' H' : Hp) (F' : List Addr) : Prop where
  keep : ∀ b o, b ∉ F → H b = some o → H' b = some o
  trk : ∀ b, H' b = none → H b = none
  sub : Same S S'
  new : ∀ b o, S' b = some o → S b = some o ∨ H b = none ∨ XObj κ o ∨ b ∈ F
  foot : ∀ a ∈ F', a ∈ F ∨ H a = none
structure Gd (σ : L2.St) (S H : Hp) (F : List Addr) (env : Env) : Prop where
  wf : WF S H F
  env : EnvOk κ γ S H σ env F
/-- a pure step -/
structure StpP (S H S' H' : Hp) : Prop where
  keep : Same H H'
  sub : Same S S'
  in_ : Same S' H'
  new : ∀ b o, S' b = some o → S b = some o ∨ H b = none ∨ XObj κ o
end
section
variable {κ : String → Addr} {γ : Gh} {S H S1 H1 S2 H2 : Hp} {F F1 F2 : List Addr} {σ : L2.St} {env : Env}
theorem Stp.refl (S H : Hp) (F : List Addr) : Stp κ S H F S H F := ⟨fun _ _ _ h => h, fun _ h => h, fun _ _ h => h, fun _ _ h => .inl h, fun _ h => .inl h⟩
theorem Stp.trans (a : Stp κ S H F S1 H1 F1) (b : Stp κ S1 H1 F1 S2 H2 F2) : Stp κ S H F S2 H2 F2 where
  keep := fun x o hx h => b.keep x o (fun z => by
    rcases a.foot x z with z | z
    · exact hx z
    · rw [h] at z; cases z) (a.keep x o hx h)
  trk := fun x h => a.trk x (b.trk x h)
  sub := fun x o h => b.sub x o (a.sub x o h)
  new := fun x o h => by
    rcases b.new x o h with h | h | h | h
    · exact a.new x o h
    · exact .inr (.inl (a.trk x h))
    · exact .inr (.inr (.inl h))
    · rcases a.foot x h with h | h
      · exact .inr (.inr (.inr h))
      · exact .inr (.inl h)
  foot := fun x h => by
    rcases b.foot x h with h | h
    · exact a.foot x h
    · exact .inr (a.trk x h)
theorem StpP.refl (h : Same S H) : StpP κ S H S H := ⟨fun _ _ h => h, fun _ _ h => h, h, fun _ _ h => .inl h⟩
theorem none_of_same (e : Same H H1) {b : Addr} (h : H1 b = none) : H b = none := by
  cases q : H b with
  | none => rfl
  | some o =>
    rw [e b o q] at h
    cases h
theorem StpP.trans (a : StpP κ S H S1 H1) (b : StpP κ S1 H1 S2 H2) : StpP κ S H S2 H2 where
  keep := a.keep.trans b.keep
  sub := a.sub.trans b.sub
  in_ := b.in_
  new := fun x o h => by
    rcases b.new x o h with h | h | h
    · exact a.new x o h
    · exact .inr (.inl (none_of_same a.keep h))
    · exact .inr (.inr h)
theorem StpP.stp (a : StpP κ S H S1 H1) : Stp κ S H F S1 H1 F :=
  ⟨fun b o _ h => a.keep b o h, fun b h => none_of_same a.keep h, a.sub, fun b o h => by
    rcases a.new b o h with h | h | h
    · exact .inl h
    · exact .inr (.inl h)
    · exact .inr (.inr (.inl h)), fun _ h => .inl h⟩
theorem Gd.pure_ (g : Gd κ γ σ S H F env) (a : StpP κ S H S1 H1) : Gd κ γ σ S1 H1 F env := by
  have kf : ∀ x ∈ F, H1 x = H x := fun x hx => by
    obtain ⟨o, ho, _⟩ := g.env.foot x hx
    rw [a.keep x o ho, ho]
  refine ⟨⟨a.in_, g.wf.nd, fun x hx => ?_⟩, g.env.mono a.sub kf⟩
  cases q : S1 x with
  | none => rfl
  | some o =>
    obtain ⟨o', ho, nx⟩ := g.env.foot x hx
    rcases a.new x o q with h | h | h
    · rw [g.wf.out x hx] at h
      cases h
    · rw [ho] at h
      cases h
    · have h2 := a.in_ x o q
      rw [kf x hx, ho] at h2
      cases h2
      exact (nx h).elim
/-- a new pure object -/
theorem StpP.new1 {p : Addr} {o : HO} (h : Same S H) (hp : H p = none) : StpP κ S H (upd S p o) (upd H p o) := by
  have sp : S p = none := none_of_same h hp
  refine ⟨Same.new hp, Same.new sp, fun b u e => ?_, fun b u e => ?_⟩
  · by_cases hb : b = p
    · subst hb
      rw [upd_same] at e ⊢
      exact e
    · rw [upd_ne hb] at e ⊢
      exact h b u e
  · by_cases hb : b = p
    · subst hb
      exact .inr (.inl hp)
    · rw [upd_ne hb] at e
      exact .inl e
/-- a step that may be told to be quiet: nothing that is owned is touched -/
structure StpQ (κ : String → Addr) (ρ : Bool) (S H : Hp) (F : List Addr) (env : Env) (S' H' : Hp) (F' : List Addr) (env' : Env) : Prop where
  stp : Stp κ S H F S' H' F'
  qt : ρ = true → Same H H' ∧ F' = F ∧ env' = env
theorem StpQ.refl {ρ : Bool} (S H : Hp) (F : List Addr) (env : Env) : StpQ κ ρ S H F env S H F env := ⟨Stp.refl S H F, fun _ => ⟨fun _ _ h => h, rfl, rfl⟩⟩
theorem StpQ.trans {ρ : Bool} {env1 env2 : Env} (a : StpQ κ ρ S H F env S1 H1 F1 env1) (b : StpQ κ ρ S1 H1 F1 env1 S2 H2 F2 env2) : StpQ κ ρ S H F env S2 H2 F2 env2 :=
  ⟨a.stp.trans b.stp, fun h => by
    obtain ⟨a1, a2, a3⟩ := a.qt h
    obtain ⟨b1, b2, b3⟩ := b.qt h
    exact ⟨a1.trans b1, b2.trans a2, b3.trans a3⟩⟩
theorem StpQ.sub {ρ : Bool} {env1 : Env} (a : StpQ κ ρ S H F env S1 H1 F1 env1) : Same S S1 := a.stp.sub
theorem StpP.stq {ρ : Bool} (a : StpP κ S H S1 H1) : StpQ κ ρ S H F env S1 H1 F env := ⟨a.stp, fun _ => ⟨a.keep, rfl, rfl⟩⟩
theorem Stp.stq {env1 : Env} (a : Stp κ S H F S1 H1 F1) : StpQ κ false S H F env S1 H1 F1 env1 := ⟨a, fun h => nomatch h⟩
end
end UL
set_option Elab.async false
set_option linter.all false
set_option maxRecDepth 100000
set_option maxHeartbeats 2000000
/-! mirrors and what it is that a reading does as its mirror says -/
namespace UL
open PySem PySem.Spec PyProof.Rows L2 LV
abbrev M (α : Type) := Env → Option (α × Env)
inductive Fl where
  | nx (env : Env) | rt (u : Ow) (env : Env) | bk (env : Env)
abbrev MS := Env → Option Fl
/-! mirrors: expressions -/
def mVar (i : Nat) : M U := fun env => match env[i]? with
  | some (some (.p u)) => some (u, env)
  | _ => none
/-- an owned thing is handed on and is pure from then on -/
def mFrz (i : Nat) : M U := fun env => match env[i]? with
  | some (some w) => some (frz w, env.set i (some (.p (frz w))))
  | _ => none
def mC (u : U) : M U := fun env => some (u, env)
def m1 (f : U → Option U) (a : M U) : M U := fun env => (a env).bind fun x => (f x.1).bind fun z => some (z, x.2)
def m2 (f : U → U → Option U) (a b : M U) : M U := fun env => (a env).bind fun x => (b x.2).bind fun y => (f x.1 y.1).bind fun z => some (z, y.2)
def mNil : M (List U) := fun env => some ([], env)
def mCons (a : M U) (r : M (List U)) : M (List U) := fun env => (a env).bind fun x => (r x.2).bind fun y => some (x.1 :: y.1, y.2)
def mN (f : List U → Option U) (a : M (List U)) : M U := fun env => (a env).bind fun x => (f x.1).bind fun z => some (z, x.2)
def mLst (a : M (List U)) : M U := fun env => (a env).bind fun x => some (.lst x.1, x.2)
def mTup (a : M (List U)) : M U := fun env => (a env).bind fun x => some (.tup x.1, x.2)
def mLstO (a : M (List U)) : M Ow := fun env => (a env).bind fun x => some (.l (x.1.map .p), x.2)
def mP (a : M U) : M Ow := fun env => (a env).bind fun x => some (.p x.1, x.2)
def mF (a : M Ow) : M U := fun env => (a env).bind fun x => some (frz x.1, x.2)
def isB : U → Option Bool
  | .bl b => some b
  | _ => none
def mTest (a : M U) : M Bool := fun env => (a env).bind fun x => (isB x.1).bind fun b => some (b, x.2)
def mAnd (a b : M Bool) : M Bool := fun env => (a env).bind fun x => if x.1 = true then b x.2 else some (false, x.2)
def mOr (a b : M Bool) : M Bool := fun env => (a env).bind fun x => if x.1 = true then some (true, x.2) else b x.2
def mNot (a : M Bool) : M Bool := fun env => (a env).bind fun x => some (!x.1, x.2)
def mIf (c : M Bool) (a b : M U) : M U := fun env => (c env).bind fun x => if x.1 = true then a x.2 else b x.2
def mAndV (a b : M U) : M U := fun env => (a env).bind fun x => (isB x.1).bind fun k => if k = true then b x.2 else some (.bl false, x.2)
def mOrV (a b : M U) : M U := fun env => (a env).bind fun x => (isB x.1).bind fun k => if k = true then some (.bl true, x.2) else b x.2
def mNotV (a : M U) : M U := fun env => (a env).bind fun x => (isB x.1).bind fun k => some (.bl (!k), x.2)
def isN : U → Bool
  | .non => true
  | _ => false
def mIsN (a : M U) : M U := fun env => (a env).bind fun x => some (.bl (isN x.1), x.2)
def mNotN (a : M U) : M U := fun env => (a env).bind fun x => some (.bl (!isN x.1), x.2)
section
variable (κ : String → Addr) (γ : Gh)
structure SimE (ρ : Bool) (t : TE) (m : M U) : Prop where
  run : ∀ {σ : L2.St} {S H : Hp} {F : List Addr} {env : Env}, Gd κ γ σ S H F env → ∀ {u : U} {env' : Env}, m env = some (u, env') → ∀ Q : VK,
  (∀ v S' H' F', StpQ κ ρ S H F env S' H' F' env' → Gd κ γ σ S' H' F' env' → Rep κ S' u v → Q v H') → t σ H Q
structure SimO (t : TE) (m : M Ow) : Prop where
  run : ∀ {σ : L2.St} {S H : Hp} {F : List Addr} {env : Env}, Gd κ γ σ S H F env → ∀ {w : Ow} {env' : Env}, m env = some (w, env') → ∀ Q : VK,
  (∀ v S' H' F' Fw, Stp κ S H F S' H' (F' ++ Fw) → Gd κ γ σ S' H' F' env' → WF S' H' (F' ++ Fw) → RepO κ S' H' w v Fw → Q v H') → t σ H Q
structure SimT (ρ : Bool) (t : TT) (m : M Bool) : Prop where
  run : ∀ {σ : L2.St} {S H : Hp} {F : List Addr} {env : Env}, Gd κ γ σ S H F env → ∀ {b : Bool} {env' : Env}, m env = some (b, env') → ∀ Q : Bool → Hp → Prop,
  (∀ S' H' F', StpQ κ ρ S H F env S' H' F' env' → Gd κ γ σ S' H' F' env' → Q b H') → t σ H Q
structure SimA (ρ : Bool) (n : Nat) (t : TA) (m : M (List U)) : Prop where
  len : ∀ {env us env'}, m env = some (us, env') → us.length = n
  run : ∀ {σ : L2.St} {S H : Hp} {F : List Addr} {env : Env}, Gd κ γ σ S H F env → ∀ {us : List U} {env' : Env}, m env = some (us, env') → ∀ Q : List V → Hp → Prop,
    (∀ vs S' H' F', StpQ κ ρ S H F env S' H' F' env' → Gd κ γ σ S' H' F' env' → Reps κ S' us vs → Q vs H') → t σ H Q
/-- a pure operation on values -/
def rP (f : List U → Option U) : List V → Hp → VK → Prop := fun vs H Q => ∃ S us u, Same S H ∧ Reps κ S us vs ∧ f us = some u ∧ ∀ v S' H', StpP κ S H S' H' → Rep κ S' u v → Q v H'
def r1 (f : U → Option U) : V → Hp → VK → Prop := fun x H Q => ∃ S a u, Same S H ∧ Rep κ S a x ∧ f a = some u ∧ ∀ v S' H', StpP κ S H S' H' → Rep κ S' u v → Q v H'
def r2 (f : U → U → Option U) : R2 := fun x y H Q => ∃ S a b u, Same S H ∧ Rep κ S a x ∧ Rep κ S b y ∧ f a b = some u ∧ ∀ v S' H', StpP κ S H S' H' → Rep κ S' u v → Q v H'
end
section
variable {κ : String → Addr} {γ : Gh} {ρ : Bool}
theorem bindS {α β : Type} {x : Option α} {f : α → Option β} {z : β} (h : x.bind f = some z) : ∃ a, x = some a ∧ f a = some z := by
  cases x with
  | none => cases h
  | some a => exact ⟨a, rfl, h⟩
theorem WF.left {S H : Hp} {F G : List Addr} (h : WF S H (F ++ G)) : WF S H F := ⟨h.sub, (List.nodup_append.mp h.nd).1, fun a ha => h.out a (by simp [ha])⟩
/-- a slot that is read -/
theorem Gd.slot {σ : L2.St} {S H : Hp} {F : List Addr} {env : Env} (g : Gd κ γ σ S H F env) {i : Nat} {u : U} (e : env[i]? = some (some (.p u))) : ∃ v, σ[i]? = some (some v) ∧ Rep κ S u v := by
  obtain ⟨s, F1, F2, F3, h1, _, ⟨v, rfl, _, h3⟩, _⟩ := g.env.get e
  exact ⟨v, h1, h3⟩
theorem simE_var (i : Nat) : SimE κ γ ρ (tVar i) (mVar i) := by
  constructor
  intro σ S H F env g u env' h Q k
  unfold mVar at h
  split at h
  · rename_i u' e
    cases h
    obtain ⟨v, h1, h2⟩ := g.slot e
    exact ⟨v, h1, k v S H F (StpQ.refl S H F env) g h2⟩
  · cases h
theorem simE_c {v : V} {u : U} (h : ∀ S, Rep κ S u v) : SimE κ γ ρ (tC v) (mC u) := by
  constructor
  intro σ S H F env g u' env' e Q k
  cases e
  exact k v S H F (StpQ.refl S H F env) g (h S)
theorem simE_int {i : Int} : SimE κ γ ρ (tC (.int i)) (mC (.int i)) := simE_c (v := .int i) (u := .int i) fun _ => rfl
theorem simE_str {x : Str} : SimE κ γ ρ (tC (.str x)) (mC (.str x)) := simE_c (v := .str x) (u := .str x) fun _ => rfl
theorem simE_bl {b : Bool} : SimE κ γ ρ (tC (.bl b)) (mC (.bl b)) := simE_c (v := .bl b) (u := .bl b) fun _ => rfl
theorem simE_non : SimE κ γ ρ (tC .non) (mC .non) := simE_c (v := .non) (u := .non) fun _ => rfl
theorem simE_op {f : U → U → Option U} {ta tb : TE} {ma mb : M U} (ha : SimE κ γ ρ ta ma) (hb : SimE κ γ ρ tb mb) : SimE κ γ ρ (tOp (r2 κ f) ta tb) (m2 f ma mb) := by
  constructor
  intro σ S H F env g u env' e Q k
  obtain ⟨⟨x, e1⟩, h1, e⟩ := bindS e
  obtain ⟨⟨y, e2⟩, h2, e⟩ := bindS e
  obtain ⟨z, h3, e⟩ := bindS e
  cases e
  refine ha.run g h1 _ fun v S1 H1 F1 s1 g1 r => hb.run g1 h2 _ fun v2 S2 H2 F2 s2 g2 r2 => ?_
  exact ⟨S2, x, y, u, g2.wf.sub, Rep.mono s2.sub x r, r2, h3, fun v' S' H' p r' => k v' S' H' F2 ((s1.trans s2).trans p.stq) (g2.pure_ p) r'⟩
theorem simA_nil : SimA κ γ ρ 0 tNil mNil := ⟨fun e => by cases e; rfl, fun {σ S H F env} g {us env'} e Q k => by
  cases e
  exact k [] S H F (StpQ.refl S H F env) g rfl⟩
theorem simA_cons {n : Nat} {ta : TE} {ma : M U} {tr : TA} {mr : M (List U)} (ha : SimE κ γ ρ ta ma) (hr : SimA κ γ ρ n tr mr) : SimA κ γ ρ (n + 1) (tCons ta tr) (mCons ma mr) := by
  constructor
  · intro env us env' e
    obtain ⟨⟨x, e1⟩, h1, e⟩ := bindS e
    obtain ⟨⟨y, e2⟩, h2, e⟩ := bindS e
    cases e
    simp [hr.len h2]
  · intro σ S H F env g us env' e Q k
    obtain ⟨⟨x, e1⟩, h1, e⟩ := bindS e
    obtain ⟨⟨y, e2⟩, h2, e⟩ := bindS e
    cases e
    exact ha.run g h1 _ fun v S1 H1 F1 s1 g1 r => hr.run g1 h2 _ fun vs S2 H2 F2 s2 g2 rs => k _ S2 H2 F2 (s1.trans s2) g2 ⟨v, vs, rfl, Rep.mono s2.sub x r, rs⟩
theorem simE_cb {f : List U → Option U} {n : Nat} {t : TA} {m : M (List U)} (h : SimA κ γ ρ n t m) : SimE κ γ ρ (tCB (rP κ f) t) (mN f m) := by
  constructor
  intro σ S H F env g u env' e Q k
  obtain ⟨⟨x, e1⟩, h1, e⟩ := bindS e
  obtain ⟨z, h3, e⟩ := bindS e
  cases e
  refine h.run g h1 _ fun vs S1 H1 F1 s1 g1 r => ?_
  exact ⟨S1, x, u, g1.wf.sub, r, h3, fun v' S' H' p r' => k v' S' H' F1 (s1.trans p.stq) (g1.pure_ p) r'⟩
theorem simE_lst {n : Nat} {t : TA} {m : M (List U)} (h : SimA κ γ ρ n t m) (hn : n ≤ 1000 := by decide) : SimE κ γ ρ (tLst t) (mLst m) := by
  constructor
  intro σ S H F env g u env' e Q k
  obtain ⟨⟨x, e1⟩, h1, e⟩ := bindS e
  cases e
  have hl := h.len h1
  refine h.run g h1 _ fun vs S1 H1 F1 s1 g1 r => ⟨?_, fun p hp => ?_⟩
  · rw [← r.len, hl]
    exact Nat.le_trans hn (by decide)
  · have st : StpP κ S1 H1 (upd S1 p (.lst vs)) (upd H1 p (.lst vs)) := StpP.new1 g1.wf.sub hp
    exact k _ _ _ F1 (s1.trans st.stq) (g1.pure_ st) ⟨p, vs, rfl, upd_same, Reps.mono st.sub _ r⟩
theorem simE_tup {n : Nat} {t : TA} {m : M (List U)} (h : SimA κ γ ρ n t m) (hn : n ≤ 1000 := by decide) : SimE κ γ ρ (tTup t) (mTup m) := by
  constructor
  intro σ S H F env g u env' e Q k
  obtain ⟨⟨x, e1⟩, h1, e⟩ := bindS e
  cases e
  have hl := h.len h1
  refine h.run g h1 _ fun vs S1 H1 F1 s1 g1 r => ⟨?_, fun p hp => ?_⟩
  · rw [← r.len, hl]
    exact Nat.le_trans hn (by decide)
  · have st : StpP κ S1 H1 (upd S1 p (.tup vs)) (upd H1 p (.tup vs)) := StpP.new1 g1.wf.sub hp
    exact k _ _ _ F1 (s1.trans st.stq) (g1.pure_ st) ⟨p, vs, rfl, upd_same, Reps.mono st.sub _ r⟩
/-! owned results -/
theorem simO_p {t : TE} {m : M U} (h : SimE κ γ false t m) : SimO κ γ t (mP m) := by
  constructor
  intro σ S H F env g w env' e Q k
  obtain ⟨⟨x, e1⟩, h1, e⟩ := bindS e
  cases e
  refine h.run g h1 _ fun v S1 H1 F1 s1 g1 r => k v S1 H1 F1 [] (by rw [List.append_nil]; exact s1.stp) g1 (by rw [List.append_nil]; exact g1.wf) ⟨rfl, r⟩
/-- a new owned object with pure parts -/
theorem new_owned {σ : L2.St} {S H : Hp} {F : List Addr} {env : Env} (g : Gd κ γ σ S H F env) {p : Addr} {o : HO} (hp : H p = none) :
    Stp κ S H F S (upd H p o) (F ++ [p]) ∧ Gd κ γ σ S (upd H p o) F env ∧ WF S (upd H p o) (F ++ [p]) := by
  have np : p ∉ F := fun z => by
    obtain ⟨o, ho, _⟩ := g.env.foot p z
    rw [hp] at ho
    cases ho
  have sp : S p = none := none_of_same g.wf.sub hp
  have sub : Same S (upd H p o) := g.wf.sub.trans (Same.new hp)
  refine ⟨⟨fun b u _ h => Same.new hp b u h, fun b h => none_of_same (Same.new hp) h, fun _ _ h => h, fun _ _ h => .inl h, fun a ha => ?_⟩, ⟨⟨sub, g.wf.nd, g.wf.out⟩, g.env.mono (fun _ _ h => h) fun a ha => upd_ne fun z => np (z ▸ ha)⟩, ⟨sub, ?_, ?_⟩⟩
  · rcases List.mem_append.mp ha with ha | ha
    · exact .inl ha
    · rw [List.mem_singleton.mp ha]
      exact .inr hp
  · refine List.nodup_append.mpr ⟨g.wf.nd, by simp, fun a ha b hb => ?_⟩
    rw [List.mem_singleton.mp hb]
    exact fun z => np (z ▸ ha)
  · intro a ha
    rcases List.mem_append.mp ha with ha | ha
    · exact g.wf.out a ha
    · rw [List.mem_singleton.mp ha]
      exact sp
/-- what was owned is handed on as pure -/
theorem frz_state {σ : L2.St} {S H S1 H1 : Hp} {F F1 Fw : List Addr} {env : Env} {w : Ow} {v : V} (s : Stp κ S H F S1 H1 (F1 ++ Fw)) (g : Gd κ γ σ S1 H1 F1 env) (wf : WF S1 H1 (F1 ++ Fw)) (r : RepO κ S1 H1 w v Fw) :
    ∃ S2, Same S1 S2 ∧ Stp κ S H F S2 H1 F1 ∧ Gd κ γ σ S2 H1 F1 env ∧ Rep κ S2 (frz w) v := by
  have hS : Same S1 fun b => if b ∈ Fw then H1 b else S1 b := fun b o h => by
    by_cases hb : b ∈ Fw
    · have := wf.out b (by simp [hb])
      rw [this] at h
      cases h
    · show (if b ∈ Fw then H1 b else S1 b) = _
      rw [if_neg hb]
      exact h
  refine ⟨fun b => if b ∈ Fw then H1 b else S1 b, hS, ?_, ⟨⟨fun b o h => ?_, g.wf.nd, fun a ha => ?_⟩, g.env.mono hS fun _ _ => rfl⟩, RepO.frz hS w (fun a ha => if_pos ha) r⟩
  · refine ⟨s.keep, s.trk, s.sub.trans hS, fun b o h => ?_, fun a ha => s.foot a (by simp [ha])⟩
    by_cases hb : b ∈ Fw
    · rcases s.foot b (by simp [hb]) with z | z
      · exact .inr (.inr (.inr z))
      · exact .inr (.inl z)
    · rw [if_neg hb] at h
      exact s.new b o h
  · by_cases hb : b ∈ Fw
    · rw [if_pos hb] at h
      exact h
    · rw [if_neg hb] at h
      exact wf.sub b o h
  · have : a ∉ Fw := fun z => (List.nodup_append.mp wf.nd).2.2 a ha a z rfl
    show (if a ∈ Fw then H1 a else S1 a) = none
    rw [if_neg this]
    exact g.wf.out a ha
theorem simE_f {t : TE} {m : M Ow} (h : SimO κ γ t m) : SimE κ γ false t (mF m) := by
  constructor
  intro σ S H F env g u env' e Q k
  obtain ⟨⟨x, e1⟩, h1, e⟩ := bindS e
  cases e
  refine h.run g h1 _ fun v S1 H1 F1 Fw s1 g1 wf r => ?_
  obtain ⟨S2, _, b1, b2, b3⟩ := frz_state s1 g1 wf r
  exact k v S2 H1 F1 b1.stq b2 b3
theorem nodup_mid {A B C : List Addr} (h : (A ++ B ++ C).Nodup) : (A ++ C).Nodup ∧ (∀ a ∈ B, a ∉ A ∧ a ∉ C) := by
  rw [List.append_assoc] at h
  obtain ⟨h1, h2, h3⟩ := List.nodup_append.mp h
  obtain ⟨h4, h5, h6⟩ := List.nodup_append.mp h2
  refine ⟨List.nodup_append.mpr ⟨h1, h5, fun a ha b hb => h3 a ha b (by simp [hb])⟩, fun a ha => ⟨fun z => h3 a z a (by simp [ha]) rfl, fun z => h6 a ha a z rfl⟩⟩
theorem simE_frz (i : Nat) : SimE κ γ false (tVar i) (mFrz i) := by
  constructor
  intro σ S H F env g u env' h Q k
  unfold mFrz at h
  split at h
  · rename_i w e
    cases h
    obtain ⟨s, F1, F2, F3, h1, rfl, ⟨v, rfl, h3⟩, h4⟩ := g.env.get e
    obtain ⟨nd1, nd2⟩ := nodup_mid g.wf.nd
    -- the rest of the slots, the thing apart
    have g0 : Gd κ γ σ S H (F1 ++ F3) (env.set i none) := by
      refine ⟨⟨g.wf.sub, nd1, fun a ha => g.wf.out a ?_⟩, ?_⟩
      · rcases List.mem_append.mp ha with ha | ha <;> simp [ha]
      · have q := h4 (S' := S) (H' := H) (s' := some v) (w' := none) (F2' := []) (fun _ _ h => h) (fun _ _ => rfl) rfl
        rw [List.append_nil] at q
        rw [show σ.set i (some v) = σ by
          apply List.ext_getElem?
          intro j
          by_cases hj : j = i
          · subst hj
            rw [h1, List.getElem?_set_self (List.getElem?_eq_some_iff.mp h1).1]
          · rw [List.getElem?_set_ne (Ne.symm hj)]] at q
        exact q
    have st : Stp κ S H (F1 ++ F2 ++ F3) S H ((F1 ++ F3) ++ F2) := ⟨fun _ _ _ h => h, fun _ h => h, fun _ _ h => h, fun _ _ h => .inl h, fun a ha => .inl (by
      simp only [List.mem_append] at ha ⊢
      rcases ha with (ha | ha) | ha <;> simp [ha])⟩
    have wf : WF S H ((F1 ++ F3) ++ F2) := ⟨g.wf.sub, List.nodup_append.mpr ⟨nd1, (List.nodup_append.mp (List.nodup_append.mp g.wf.nd).1).2.1, fun a ha b hb z => by
      subst z
      obtain ⟨q1, q2⟩ := nd2 a hb
      rcases List.mem_append.mp ha with ha | ha
      · exact q1 ha
      · exact q2 ha⟩, fun a ha => g.wf.out a (by
      simp only [List.mem_append] at ha ⊢
      rcases ha with (ha | ha) | ha <;> simp [ha])⟩
    obtain ⟨S2, e2, b1, b2, b3⟩ := frz_state st g0 wf h3
    refine ⟨v, h1, k v S2 H (F1 ++ F3) b1.stq ⟨b2.wf, ?_⟩ b3⟩
    have q := h4 (S' := S2) (H' := H) (s' := some v) (w' := some (.p (frz w))) (F2' := []) e2 (fun _ _ => rfl) ⟨v, rfl, rfl, b3⟩
    rw [List.append_nil] at q
    rw [show σ.set i (some v) = σ by
      apply List.ext_getElem?
      intro j
      by_cases hj : j = i
      · subst hj
        rw [h1, List.getElem?_set_self (List.getElem?_eq_some_iff.mp h1).1]
      · rw [List.getElem?_set_ne (Ne.symm hj)]] at q
    exact q
  · cases h
/-! tests -/
theorem isB_rep {S : Hp} {u : U} {b : Bool} {v : V} (h : isB u = some b) (r : Rep κ S u v) : v = .bl b := by
  cases u <;> first
    | (cases h; exact r)
    | cases h
theorem simT_test {t : TE} {m : M U} (h : SimE κ γ ρ t m) : SimT κ γ ρ (tTest t) (mTest m) := by
  constructor
  intro σ S H F env g b env' e Q k
  obtain ⟨⟨x, e1⟩, h1, e⟩ := bindS e
  obtain ⟨z, h2, e⟩ := bindS e
  cases e
  exact h.run g h1 _ fun v S1 H1 F1 s1 g1 r => ⟨_, isB_rep h2 r, k S1 H1 F1 s1 g1⟩
theorem simT_B {t : TE} {m : M U} (h : SimE κ γ ρ t m) : SimT κ γ ρ (tB t) (mTest m) := by
  constructor
  intro σ S H F env g b env' e Q k
  obtain ⟨⟨x, e1⟩, h1, e⟩ := bindS e
  obtain ⟨z, h2, e⟩ := bindS e
  cases e
  exact h.run g h1 _ fun v S1 H1 F1 s1 g1 r => ⟨_, isB_rep h2 r, k S1 H1 F1 s1 g1⟩
theorem simT_not {t : TT} {m : M Bool} (h : SimT κ γ ρ t m) : SimT κ γ ρ (tNot t) (mNot m) := by
  constructor
  intro σ S H F env g b env' e Q k
  obtain ⟨⟨x, e1⟩, h1, e⟩ := bindS e
  cases e
  exact h.run g h1 _ fun S1 H1 F1 s1 g1 => k S1 H1 F1 s1 g1
theorem simT_and {t u : TT} {m n : M Bool} (h : SimT κ γ ρ t m) (h' : SimT κ γ ρ u n) : SimT κ γ ρ (tAnd t u) (mAnd m n) := by
  constructor
  intro σ S H F env g b env' e Q k
  obtain ⟨⟨x, e1⟩, h1, e⟩ := bindS e
  refine h.run g h1 _ fun S1 H1 F1 s1 g1 => ?_
  cases x with
  | true => exact h'.run g1 e _ fun S2 H2 F2 s2 g2 => k S2 H2 F2 (s1.trans s2) g2
  | false =>
    cases e
    exact k S1 H1 F1 s1 g1
theorem simT_or {t u : TT} {m n : M Bool} (h : SimT κ γ ρ t m) (h' : SimT κ γ ρ u n) : SimT κ γ ρ (tOr t u) (mOr m n) := by
  constructor
  intro σ S H F env g b env' e Q k
  obtain ⟨⟨x, e1⟩, h1, e⟩ := bindS e
  refine h.run g h1 _ fun S1 H1 F1 s1 g1 => ?_
  cases x with
  | true =>
    cases e
    exact k S1 H1 F1 s1 g1
  | false => exact h'.run g1 e _ fun S2 H2 F2 s2 g2 => k S2 H2 F2 (s1.trans s2) g2
theorem simE_andV {ta tb : TE} {ma mb : M U} (ha : SimE κ γ ρ ta ma) (hb : SimE κ γ ρ tb mb) : SimE κ γ ρ (tAndV ta tb) (mAndV ma mb) := by
  constructor
  intro σ S H F env g u env' e Q k
  obtain ⟨⟨x, e1⟩, h1, e⟩ := bindS e
  obtain ⟨z, h2, e⟩ := bindS e
  refine ha.run g h1 _ fun v S1 H1 F1 s1 g1 r => ⟨z, isB_rep h2 r, ?_⟩
  cases z with
  | true => exact hb.run g1 e _ fun v S2 H2 F2 s2 g2 r => k v S2 H2 F2 (s1.trans s2) g2 r
  | false =>
    cases e
    exact k _ S1 H1 F1 s1 g1 rfl
theorem simE_orV {ta tb : TE} {ma mb : M U} (ha : SimE κ γ ρ ta ma) (hb : SimE κ γ ρ tb mb) : SimE κ γ ρ (tOrV ta tb) (mOrV ma mb) := by
  constructor
  intro σ S H F env g u env' e Q k
  obtain ⟨⟨x, e1⟩, h1, e⟩ := bindS e
  obtain ⟨z, h2, e⟩ := bindS e
  refine ha.run g h1 _ fun v S1 H1 F1 s1 g1 r => ⟨z, isB_rep h2 r, ?_⟩
  cases z with
  | true =>
    cases e
    exact k _ S1 H1 F1 s1 g1 rfl
  | false => exact hb.run g1 e _ fun v S2 H2 F2 s2 g2 r => k v S2 H2 F2 (s1.trans s2) g2 r
end
end UL
set_option Elab.async false
set_option linter.all false
set_option maxRecDepth 100000
set_option maxHeartbeats 2000000
/-! statements, loops -/
namespace UL
open PySem PySem.Spec PyProof.Rows L2 LV
/-! mirrors -/
def sNext : MS := fun env => some (.nx env)
def sNever : MS := fun _ => none
def sSeq (a b : MS) : MS := fun env => (a env).bind fun f => match f with
  | .nx e => b e
  | f => some f
def sIf (c : M Bool) (a b : MS) : MS := fun env => (c env).bind fun x => if x.1 = true then a x.2 else b x.2
def sDrop (a : M U) : MS := fun env => (a env).bind fun x => some (.nx x.2)
def sRet (a : M Ow) : MS := fun env => (a env).bind fun x => some (.rt x.1 x.2)
def sSet (i : Nat) (a : M Ow) : MS := fun env => (a env).bind fun x => some (.nx (x.2.set i (some x.1)))
/-- an owned thing leaves its name -/
def mMov (i : Nat) : M Ow := fun env => match env[i]? with
  | some (some w) => some (w, env.set i none)
  | _ => none
def whileO (c : M Bool) (b : MS) : Nat → MS
  | 0, _ => none
  | n + 1, env => (c env).bind fun x => if x.1 = true then (b x.2).bind fun f => match f with
      | .nx e => whileO c b n e
      | .bk e => some (.nx e)
      | .rt w e => some (.rt w e)
    else some (.nx x.2)
abbrev MG := U → Env → Option Env
def gN (i : Nat) : MG := fun u env => some (env.set i (some (.p u)))
abbrev MGs := List U → Env → Option Env
def gsNil : MGs := fun us env => match us with
  | [] => some env
  | _ => none
def gsCons (g : MG) (r : MGs) : MGs := fun us env => match us with
  | u :: us => (g u env).bind fun e => r us e
  | [] => none
def gT (n : Nat) (r : MGs) : MG := fun u env => match u with
  | .tup us => if us.length = n then r us env else none
  | _ => none
def gL (n : Nat) (r : MGs) : MG := fun u env => match u with
  | .lst us => if us.length = n then r us env else none
  | _ => none
def sAsg (a : M U) (g : MG) : MS := fun env => (a env).bind fun x => (g x.1 x.2).bind fun e => some (.nx e)
def sPar (i j : Nat) (a : M (List U)) : MS := fun env => (a env).bind fun x => match x.1 with
  | [u, v] => some (.nx ((x.2.set i (some (.p u))).set j (some (.p v))))
  | _ => none
def sPar3 (i j l : Nat) (a : M (List U)) : MS := fun env => (a env).bind fun x => match x.1 with
  | [u, v, w] => some (.nx (((x.2.set i (some (.p u))).set j (some (.p v))).set l (some (.p w))))
  | _ => none
def sAug (i : Nat) (f : U → U → Option U) (a : M U) : MS := fun env => (mVar i env).bind fun y => (a y.2).bind fun x => (f y.1 x.1).bind fun z => some (.nx (x.2.set i (some (.p z))))
def forO (g : MG) (b : MS) : List U → MS
  | [], env => some (.nx env)
  | u :: us, env => (g u env).bind fun e1 => (b e1).bind fun f => match f with
    | .nx e2 => forO g b us e2
    | .bk e2 => some (.nx e2)
    | .rt w e2 => some (.rt w e2)
def sFor (it : M (List U)) (g : MG) (b : MS) : MS := fun env => (it env).bind fun x => forO g b x.1 x.2
/-! what they are mirrors of -/
def Fix (fx : Nat → Bool) (σ σ' : L2.St) : Prop := σ'.length = σ.length ∧ ∀ i, fx i = true → σ'[i]? = σ[i]?
theorem Fix.refl (fx : Nat → Bool) (σ : L2.St) : Fix fx σ σ := ⟨rfl, fun _ _ => rfl⟩
theorem Fix.trans {fx : Nat → Bool} {σ σ1 σ2 : L2.St} (a : Fix fx σ σ1) (b : Fix fx σ1 σ2) : Fix fx σ σ2 := ⟨b.1.trans a.1, fun i h => (b.2 i h).trans (a.2 i h)⟩
theorem Fix.set {fx : Nat → Bool} {σ : L2.St} {i : Nat} {v : Option V} (h : fx i = false) : Fix fx σ (σ.set i v) := ⟨by simp, fun j hj => by
  rw [List.getElem?_set_ne]
  intro z
  subst z
  rw [h] at hj
  cases hj⟩
section
variable (κ : String → Addr) (γ : Gh) (fx : Nat → Bool)
/-- what a flow of the mirror asks of the ends -/
def Rch (σ : L2.St) (S H : Hp) (F : List Addr) (D : Ends) : Fl → Prop
  | .nx env' => ∀ σ' S' H' F', Stp κ S H F S' H' F' → Gd κ γ σ' S' H' F' env' → Fix fx σ σ' → D.nx σ' H'
  | .bk env' => ∀ σ' S' H' F', Stp κ S H F S' H' F' → Gd κ γ σ' S' H' F' env' → Fix fx σ σ' → D.bk σ' H'
  | .rt w env' => ∀ v σ' S' H' F' Fw, Stp κ S H F S' H' (F' ++ Fw) → Gd κ γ σ' S' H' F' env' → WF S' H' (F' ++ Fw) → RepO κ S' H' w v Fw → Fix fx σ σ' → D.rt v H'
structure SimS (t : TS) (m : MS) : Prop where
  run : ∀ {σ : L2.St} {S H : Hp} {F : List Addr} {env : Env}, Gd κ γ σ S H F env → ∀ {fl : Fl}, m env = some fl → ∀ D : Ends, Rch κ γ fx σ S H F D fl → t D σ H
structure SimG (g : TG) (m : MG) : Prop where
  run : ∀ {σ : L2.St} {S H : Hp} {F : List Addr} {env : Env}, Gd κ γ σ S H F env → ∀ {u : U} {v : V} {env' : Env}, Rep κ S u v → m u env = some env' → ∀ Q : L2.St → Hp → Prop,
  (∀ σ' S' H' F', Stp κ S H F S' H' F' → Gd κ γ σ' S' H' F' env' → Fix fx σ σ' → Q σ' H') → g v σ H Q
structure SimGs (g : TGs) (m : MGs) : Prop where
  run : ∀ {σ : L2.St} {S H : Hp} {F : List Addr} {env : Env}, Gd κ γ σ S H F env → ∀ {us : List U} {vs : List V} {env' : Env}, Reps κ S us vs → m us env = some env' → ∀ Q : L2.St → Hp → Prop,
  (∀ σ' S' H' F', Stp κ S H F S' H' F' → Gd κ γ σ' S' H' F' env' → Fix fx σ σ' → Q σ' H') → g vs σ H Q
/-- an iterator gives these, while a region stands -/
structure ItOk (J : It) (S A : Hp) (items : List U) : Prop where
  go : ∀ i H, i < items.length → Same A H → J.go i H
  stop : ∀ H, Same A H → J.stop items.length H
  yld : ∀ i H x H' S1 u, items[i]? = some u → Same A H → Same S S1 → Same S1 H → J.yld i H x H' → ∃ S1', StpP κ S1 H S1' H' ∧ Rep κ S1' u x
structure SimI (ρ : Bool) (wi : TI) (m : M (List U)) : Prop where
  run : ∀ {σ : L2.St} {S H : Hp} {F : List Addr} {env : Env}, Gd κ γ σ S H F env → ∀ {items : List U} {env' : Env}, m env = some (items, env') → ∀ R : It → Hp → Prop,
  (∀ J S' H' F', StpQ κ ρ S H F env S' H' F' env' → Gd κ γ σ S' H' F' env' → ItOk κ J S' S' items → R J H') → wi σ H R
end
section
variable {κ : String → Addr} {γ : Gh} {fx : Nat → Bool} {ρ : Bool}
theorem Rch.mono {σ σ1 : L2.St} {S H S1 H1 : Hp} {F F1 : List Addr} {D : Ends} {fl : Fl} (s : Stp κ S H F S1 H1 F1) (hf : Fix fx σ σ1) (h : Rch κ γ fx σ S H F D fl) : Rch κ γ fx σ1 S1 H1 F1 D fl := by
  cases fl with
  | nx e => exact fun σ' S' H' F' s' g f => h σ' S' H' F' (s.trans s') g (hf.trans f)
  | bk e => exact fun σ' S' H' F' s' g f => h σ' S' H' F' (s.trans s') g (hf.trans f)
  | rt w e => exact fun v σ' S' H' F' Fw s' g wf r f => h v σ' S' H' F' Fw (s.trans s') g wf r (hf.trans f)
theorem sim_next : SimS κ γ fx tNext sNext := by
  constructor
  intro σ S H F env g fl e D k
  cases e
  exact k σ S H F (Stp.refl S H F) g (Fix.refl fx σ)
theorem sim_seq {t u : TS} {m n : MS} (h : SimS κ γ fx t m) (h' : SimS κ γ fx u n) : SimS κ γ fx (tSeq t u) (sSeq m n) := by
  constructor
  intro σ S H F env g fl e D k
  obtain ⟨f, h1, e⟩ := bindS e
  refine h.run g h1 _ ?_
  cases f with
  | nx e1 => exact fun σ1 S1 H1 F1 s1 g1 f1 => h'.run g1 e D (k.mono s1 f1)
  | bk e1 =>
    cases e
    exact k
  | rt w e1 =>
    cases e
    exact k
theorem sim_if {c : TT} {t u : TS} {mc : M Bool} {m n : MS} (hc : SimT κ γ false c mc) (h : SimS κ γ fx t m) (h' : SimS κ γ fx u n) : SimS κ γ fx (tIfS c t u) (sIf mc m n) := by
  constructor
  intro σ S H F env g fl e D k
  obtain ⟨⟨x, e1⟩, h1, e⟩ := bindS e
  refine hc.run g h1 _ fun S1 H1 F1 s1 g1 => ?_
  cases x with
  | true => exact h.run g1 e D (k.mono s1.stp (Fix.refl fx σ))
  | false => exact h'.run g1 e D (k.mono s1.stp (Fix.refl fx σ))
theorem sim_drop {t : TE} {m : M U} (h : SimE κ γ false t m) : SimS κ γ fx (tDrop t) (sDrop m) := by
  constructor
  intro σ S H F env g fl e D k
  obtain ⟨⟨x, e1⟩, h1, e⟩ := bindS e
  cases e
  exact h.run g h1 _ fun v S1 H1 F1 s1 g1 _ => k σ S1 H1 F1 s1.stp g1 (Fix.refl fx σ)
theorem sim_ret {t : TE} {m : M Ow} (h : SimO κ γ t m) : SimS κ γ fx (tRet t) (sRet m) := by
  constructor
  intro σ S H F env g fl e D k
  obtain ⟨⟨x, e1⟩, h1, e⟩ := bindS e
  cases e
  exact h.run g h1 _ fun v S1 H1 F1 Fw s1 g1 wf r => k v σ S1 H1 F1 Fw s1 g1 wf r (Fix.refl fx σ)
/-- a slot gets a thing -/
theorem Gd.put {σ : L2.St} {S H : Hp} {F Fw : List Addr} {env : Env} (g : Gd κ γ σ S H F env) (wf : WF S H (F ++ Fw)) {w : Ow} {v : V} (r : RepO κ S H w v Fw) (i : Nat) (hi : i < env.length) :
    ∃ F', Gd κ γ (σ.set i (some v)) S H F' (env.set i (some w)) ∧ ∀ a ∈ F', a ∈ F ++ Fw := by
  have e : env[i]? = some env[i] := by simp [hi]
  obtain ⟨s, F1, F2, F3, h1, rfl, h3, h4⟩ := g.env.get e
  have q := h4 (S' := S) (H' := H) (s' := some v) (w' := some w) (F2' := Fw) (fun _ _ h => h) (fun _ _ => rfl) ⟨v, rfl, r⟩
  have sub : ∀ a ∈ F1 ++ Fw ++ F3, a ∈ (F1 ++ F2 ++ F3) ++ Fw := fun a ha => by
    simp only [List.mem_append] at ha ⊢
    rcases ha with (ha | ha) | ha <;> simp [ha]
  refine ⟨F1 ++ Fw ++ F3, ⟨⟨g.wf.sub, ?_, fun a ha => wf.out a (sub a ha)⟩, q⟩, sub⟩
  obtain ⟨n1, n2, n3⟩ := List.nodup_append.mp wf.nd
  have n4 := (nodup_mid n1).1
  obtain ⟨n5, n6, n7⟩ := List.nodup_append.mp n4
  rw [List.append_assoc]
  refine List.nodup_append.mpr ⟨n5, List.nodup_append.mpr ⟨n2, n6, fun a ha b hb z => n3 b (by simp [hb]) a ha z.symm⟩, fun a ha b hb => ?_⟩
  rcases List.mem_append.mp hb with hb | hb
  · exact n3 a (by simp [ha]) b hb
  · exact n7 a ha b hb
theorem set_ge {α : Type} {l : List α} {i : Nat} {x : α} (h : ¬ i < l.length) : l.set i x = l := List.set_eq_of_length_le (Nat.le_of_not_lt h)
theorem Gd.put2 {σ : L2.St} {S H : Hp} {F Fw : List Addr} {env : Env} (g : Gd κ γ σ S H F env) (wf : WF S H (F ++ Fw)) {w : Ow} {v : V} (r : RepO κ S H w v Fw) (i : Nat) :
    ∃ F', Gd κ γ (σ.set i (some v)) S H F' (env.set i (some w)) ∧ ∀ a ∈ F', a ∈ F ++ Fw := by
  by_cases hi : i < env.length
  · exact g.put wf r i hi
  · have hl := g.env.len
    rw [set_ge hi, set_ge (by omega)]
    exact ⟨F, g, fun a ha => by simp [ha]⟩
theorem Gd.putP {σ : L2.St} {S H : Hp} {F : List Addr} {env : Env} (g : Gd κ γ σ S H F env) {u : U} {v : V} (r : Rep κ S u v) (i : Nat) :
    ∃ F', Gd κ γ (σ.set i (some v)) S H F' (env.set i (some (.p u))) ∧ ∀ a ∈ F', a ∈ F := by
  obtain ⟨F', h1, h2⟩ := g.put2 (Fw := []) (by rw [List.append_nil]; exact g.wf) (w := .p u) ⟨rfl, r⟩ i
  exact ⟨F', h1, fun a ha => by simpa using h2 a ha⟩
theorem Stp.less {S H S1 H1 : Hp} {F F1 F2 : List Addr} (s : Stp κ S H F S1 H1 F1) (h : ∀ a ∈ F2, a ∈ F1) : Stp κ S H F S1 H1 F2 := ⟨s.keep, s.trk, s.sub, s.new, fun a ha => s.foot a (h a ha)⟩
theorem sim_set {t : TE} {m : M Ow} (i : Nat) (h : SimO κ γ t m) (hf : fx i = false := by rfl) : SimS κ γ fx (tAsg t (gName i)) (sSet i m) := by
  constructor
  intro σ S H F env g fl e D k
  obtain ⟨⟨x, e1⟩, h1, e⟩ := bindS e
  cases e
  refine h.run g h1 _ fun v S1 H1 F1 Fw s1 g1 wf r => ?_
  obtain ⟨F', g2, hs⟩ := g1.put2 wf r i
  exact k _ S1 H1 F' (s1.less hs) g2 (Fix.set hf)
theorem simG_name (i : Nat) (hf : fx i = false := by rfl) : SimG κ γ fx (gName i) (gN i) := by
  constructor
  intro σ S H F env g u v env' r e Q k
  cases e
  obtain ⟨F', g2, hs⟩ := g.putP r i
  exact k _ S H F' ((Stp.refl S H F).less hs) g2 (Fix.set hf)
theorem simGs_nil : SimGs κ γ fx gNil gsNil := by
  constructor
  intro σ S H F env g us vs env' r e Q k
  cases us with
  | nil =>
    cases e
    exact ⟨r, k σ S H F (Stp.refl S H F) g (Fix.refl fx σ)⟩
  | cons u us => cases e
theorem simGs_cons {g : TG} {m : MG} {gs : TGs} {ms : MGs} (h : SimG κ γ fx g m) (h' : SimGs κ γ fx gs ms) : SimGs κ γ fx (gCons g gs) (gsCons m ms) := by
  constructor
  intro σ S H F env gd us vs env' r e Q k
  cases us with
  | nil => cases e
  | cons u us =>
    obtain ⟨e1, h1, e⟩ := bindS e
    obtain ⟨v, vs', rfl, r1, r2⟩ := r
    refine ⟨v, vs', rfl, h.run gd r1 h1 _ fun σ1 S1 H1 F1 s1 g1 f1 => h'.run g1 (Reps.mono s1.sub us r2) e _ fun σ2 S2 H2 F2 s2 g2 f2 => k σ2 S2 H2 F2 (s1.trans s2) g2 (f1.trans f2)⟩
theorem simG_tup {K : PySem.W.Frag} {n : Nat} {gs : TGs} {ms : MGs} (h : SimGs κ γ fx gs ms) : SimG κ γ fx (gTup K n gs) (gT n ms) := by
  constructor
  intro σ S H F env gd u v env' r e Q k
  cases u <;> try cases e
  rename_i us
  obtain ⟨a, vs, rfl, h2, h3⟩ := r
  unfold gT at e
  dsimp only at e
  split at e
  · rename_i hl
    exact ⟨a, vs, rfl, SqT.of (gd.wf.sub _ _ h2), by rw [← h3.len, hl], h.run gd h3 e Q k⟩
  · cases e
theorem sim_par {i j : Nat} {t : TA} {m : M (List U)} (h : SimA κ γ false 2 t m) (hi : fx i = false := by rfl) (hj : fx j = false := by rfl) : SimS κ γ fx (tPar i j t) (sPar i j m) := by
  constructor
  intro σ S H F env gd fl e D k
  obtain ⟨⟨x, e1⟩, h1, e⟩ := bindS e
  have hn := h.len h1
  obtain ⟨u, v, rfl⟩ : ∃ u v, x = [u, v] := by
    match x, hn with
    | [u, v], _ => exact ⟨u, v, rfl⟩
  refine h.run gd h1 _ fun vs S1 H1 F1 s1 g1 r => ?_
  · obtain ⟨a, _, rfl, ra, b, _, rfl, rb, rfl⟩ := r
    cases (Option.some.inj e)
    obtain ⟨F2, g2, h2⟩ := g1.putP ra i
    obtain ⟨F3, g3, h3⟩ := g2.putP rb j
    exact ⟨a, b, rfl, k _ S1 H1 F3 (s1.stp.less fun z hz => h2 z (h3 z hz)) g3 ((Fix.set hi).trans (Fix.set hj))⟩
theorem sim_aug {i : Nat} {f : U → U → Option U} {t : TE} {m : M U} (h : SimE κ γ false t m) (hi : fx i = false := by rfl) : SimS κ γ fx (tAug i t (r2 κ f)) (sAug i f m) := by
  constructor
  intro σ S H F env gd fl e D k
  obtain ⟨⟨y, e0⟩, h0, e⟩ := bindS e
  obtain ⟨⟨x, e1⟩, h1, e⟩ := bindS e
  obtain ⟨z, h2, e⟩ := bindS e
  cases e
  unfold mVar at h0
  split at h0
  · rename_i u' e'
    cases h0
    obtain ⟨v, hv, rv⟩ := gd.slot e'
    refine ⟨v, hv, h.run gd h1 _ fun v1 S1 H1 F1 s1 g1 r1 => ?_⟩
    refine ⟨S1, y, x, z, g1.wf.sub, Rep.mono s1.sub y rv, r1, h2, fun v' S' H' p r' => ?_⟩
    obtain ⟨F2, g2, hs⟩ := (g1.pure_ p).putP r' i
    exact k _ S' H' F2 ((s1.stp.trans p.stp).less hs) g2 (Fix.set hi)
  · cases h0
/-! while -/
theorem sim_while {c : TT} {t : TS} {mc : M Bool} {m : MS} (n : Nat) (hc : SimT κ γ false c mc) (h : SimS κ γ fx t m) : SimS κ γ fx (tWhile c t) (whileO mc m n) := by
  constructor
  intro σ S H F env gd fl e D k
  refine ⟨fun n' σ' H' => ∃ S' F' env', Stp κ S H F S' H' F' ∧ Gd κ γ σ' S' H' F' env' ∧ Fix fx σ σ' ∧ whileO mc m n' env' = some fl, ⟨n, S, F, env, Stp.refl S H F, gd, Fix.refl fx σ, e⟩, ?_⟩
  rintro n' σ' H' ⟨S', F', env', s, g, hf, e⟩
  cases n' with
  | zero => cases e
  | succ n' =>
    obtain ⟨⟨x, e1⟩, h1, e⟩ := bindS e
    refine hc.run g h1 _ fun S1 H1 F1 s1 g1 => ?_
    cases x with
    | false =>
      rw [if_neg Bool.false_ne_true] at e ⊢
      cases e
      exact k σ' S1 H1 F1 (s.trans s1.stp) g1 hf
    | true =>
      rw [if_pos rfl] at e ⊢
      obtain ⟨f, h2, e⟩ := bindS e
      refine ⟨fun σ2 H2 => ∃ S2 F2 env2, Stp κ S H F S2 H2 F2 ∧ Gd κ γ σ2 S2 H2 F2 env2 ∧ Fix fx σ σ2 ∧ whileO mc m n' env2 = some fl, fun σ2 H2 w => ⟨n', Nat.lt_succ_self _, w⟩, ?_⟩
      refine h.run g1 h2 _ ?_
      cases f with
      | nx e2 => exact fun σ2 S2 H2 F2 s2 g2 f2 => ⟨S2, F2, e2, (s.trans s1.stp).trans s2, g2, hf.trans f2, e⟩
      | bk e2 =>
        cases e
        exact fun σ2 S2 H2 F2 s2 g2 f2 => k σ2 S2 H2 F2 ((s.trans s1.stp).trans s2) g2 (hf.trans f2)
      | rt w e2 =>
        cases e
        exact fun v σ2 S2 H2 F2 Fw s2 g2 wf r f2 => k v σ2 S2 H2 F2 Fw ((s.trans s1.stp).trans s2) g2 wf r (hf.trans f2)
/-! for -/
theorem drop_some {α : Type} {l : List α} {i : Nat} (h : i < l.length) : ∃ u, l[i]? = some u ∧ l.drop i = u :: l.drop (i + 1) := by
  refine ⟨l[i], by simp [h], ?_⟩
  rw [List.drop_eq_getElem_cons h]
/-- what an iterator leans on stays: it is of the region, or apart from what is owned -/
def KeepA (A S H : Hp) (F : List Addr) : Prop := ∀ b o, A b = some o → S b = some o ∨ (H b = some o ∧ b ∉ F)
theorem KeepA.self {S H : Hp} {F : List Addr} : KeepA S S H F := fun _ _ h => .inl h
theorem KeepA.go {A S H S' H' : Hp} {F F' : List Addr} (k : KeepA A S H F) (s : Stp κ S H F S' H' F') (w : Same S' H') : Same A H' := fun b o h => by
  rcases k b o h with h | ⟨h, n⟩
  · exact w b o (s.sub b o h)
  · exact s.keep b o n h
theorem for_core {J : It} {g : TG} {mg : MG} {t : TS} {m : MS} {σ : L2.St} {S H A : Hp} {F : List Addr} {env : Env} {items : List U} {fl : Fl} (gd : Gd κ γ σ S H F env) (ok : ItOk κ J S A items) (ka : KeepA A S H F) (hg : SimG κ γ fx g mg) (h : SimS κ γ fx t m)
    (e : forO mg m items env = some fl) (D : Ends) (k : Rch κ γ fx σ S H F D fl) : ∃ W : Nat → Nat → L2.St → Hp → Prop, (∃ m, W 0 m σ H) ∧ ∀ i m σ H, W i m σ H →
      (J.stop i H ∧ D.nx σ H) ∨ (J.go i H ∧ ∃ N : L2.St → Hp → Prop, (∀ σ' H', N σ' H' → ∃ m', m' < m ∧ W (i + 1) m' σ' H') ∧ ∀ x H', J.yld i H x H' → g x σ H' fun σ2 H2 => t { D with nx := N, ct := N, bk := D.nx } σ2 H2) := by
  have wk : Walk J items.length (fun H => Same A H) (fun i H x H' => J.yld i H x H') := ⟨fun i H hi q => ok.go i H hi q, fun H q => ok.stop H q, fun _ _ _ _ _ _ y => y⟩
  refine for_it wk (fun i σ' H' => ∃ S' F' env', Stp κ S H F S' H' F' ∧ Gd κ γ σ' S' H' F' env' ∧ Fix fx σ σ' ∧ forO mg m (items.drop i) env' = some fl) ?_ ?_ ?_ ?_
  · exact ⟨S, F, env, Stp.refl S H F, gd, Fix.refl fx σ, e⟩
  · rintro i σ' H' _ ⟨S', F', env', s', g', _, _⟩
    exact ka.go s' g'.wf.sub
  · rintro i x σ' H' H2 hlt ⟨S', F', env', s', g', hf, e⟩ y
    obtain ⟨u, hu, hd⟩ := drop_some hlt
    rw [hd] at e
    obtain ⟨e1, h1, e⟩ := bindS e
    obtain ⟨f, h2, e⟩ := bindS e
    obtain ⟨S2, p2, r2⟩ := ok.yld i H' x H2 S' u hu (ka.go s' g'.wf.sub) s'.sub g'.wf.sub y
    have g2 := g'.pure_ p2
    refine hg.run g2 r2 h1 _ fun σ3 S3 H3 F3 s3 g3 f3 => h.run g3 h2 _ ?_
    have st := (s'.trans p2.stp).trans s3
    cases f with
    | nx e2 => exact fun σ4 S4 H4 F4 s4 g4 f4 => ⟨S4, F4, e2, st.trans s4, g4, (hf.trans f3).trans f4, e⟩
    | bk e2 =>
      cases e
      exact fun σ4 S4 H4 F4 s4 g4 f4 => k σ4 S4 H4 F4 (st.trans s4) g4 ((hf.trans f3).trans f4)
    | rt w e2 =>
      cases e
      exact fun v σ4 S4 H4 F4 Fw s4 g4 wf r f4 => k v σ4 S4 H4 F4 Fw (st.trans s4) g4 wf r ((hf.trans f3).trans f4)
  · rintro σ' H' ⟨S', F', env', s', g', hf, e⟩
    rw [List.drop_length] at e
    cases e
    exact k σ' S' H' F' s' g' hf
theorem sim_for {wi : TI} {mi : M (List U)} {g : TG} {mg : MG} {t : TS} {m : MS} (hi : SimI κ γ false wi mi) (hg : SimG κ γ fx g mg) (h : SimS κ γ fx t m) : SimS κ γ fx (tFor wi g t) (sFor mi mg m) := by
  constructor
  intro σ S H F env gd fl e D k
  obtain ⟨⟨items, e0⟩, h0, e⟩ := bindS e
  exact hi.run gd h0 _ fun J S1 H1 F1 s1 g1 ok => for_core g1 ok KeepA.self hg h e D (k.mono s1.stp (Fix.refl fx σ))
/-! what is walked -/
def seqU : U → Option (List U)
  | .lst us => some us
  | .tup us => some us
  | _ => none
def mSeq (a : M U) : M (List U) := fun env => (a env).bind fun x => (seqU x.1).bind fun us => some (us, x.2)
theorem itOk_list {K : PySem.W.Frag} {a : Addr} {S A : Hp} {us : List U} {vs : List V} (h : A a = some (.lst vs)) (r : Reps κ S us vs) : ItOk κ (Itl K a) S A us := by
  have wk := walk_list (K := K) (a := a) (xs := vs)
  refine ⟨fun i H hi q => wk.goes i H (by rw [← r.len]; exact hi) (SqL.of (q _ _ h)), fun H q => by rw [r.len]; exact wk.stops H (SqL.of (q _ _ h)), fun i H x H' S1 u hu e0 e1 e2 y => ?_⟩
  have hi : i < vs.length := by
    rw [← r.len]
    exact (List.getElem?_eq_some_iff.mp hu).1
  obtain ⟨rfl, hx⟩ := wk.yields i H x H' hi (SqL.of (e0 _ _ h)) y
  obtain ⟨v, hv, rv⟩ := r.get hu
  rw [hx] at hv
  cases hv
  exact ⟨S1, StpP.refl e2, Rep.mono e1 u rv⟩
theorem itOk_tup {K : PySem.W.Frag} {a : Addr} {S A : Hp} {us : List U} {vs : List V} (h : A a = some (.tup vs)) (r : Reps κ S us vs) : ItOk κ (Itt K a) S A us := by
  have wk := walk_tup (K := K) (a := a) (xs := vs)
  refine ⟨fun i H hi q => wk.goes i H (by rw [← r.len]; exact hi) (SqT.of (q _ _ h)), fun H q => by rw [r.len]; exact wk.stops H (SqT.of (q _ _ h)), fun i H x H' S1 u hu e0 e1 e2 y => ?_⟩
  have hi : i < vs.length := by
    rw [← r.len]
    exact (List.getElem?_eq_some_iff.mp hu).1
  obtain ⟨rfl, hx⟩ := wk.yields i H x H' hi (SqT.of (e0 _ _ h)) y
  obtain ⟨v, hv, rv⟩ := r.get hu
  rw [hx] at hv
  cases hv
  exact ⟨S1, StpP.refl e2, Rep.mono e1 u rv⟩
theorem simI_seq {K : PySem.W.Frag} {t : TE} {m : M U} (h : SimE κ γ ρ t m) : SimI κ γ ρ (iOr (iList K t) (iTup K t)) (mSeq m) := by
  constructor
  intro σ S H F env gd items env' e R k
  obtain ⟨⟨x, e1⟩, h1, e⟩ := bindS e
  obtain ⟨us, h2, e⟩ := bindS e
  cases e
  cases x <;> try cases h2
  · refine .inl (h.run gd h1 _ fun v S1 H1 F1 s1 g1 r => ?_)
    obtain ⟨a, vs, rfl, ha, rs⟩ := r
    exact ⟨a, rfl, ⟨vs, SqL.of (g1.wf.sub _ _ ha)⟩, k _ S1 H1 F1 s1 g1 (itOk_list ha rs)⟩
  · refine .inr (h.run gd h1 _ fun v S1 H1 F1 s1 g1 r => ?_)
    obtain ⟨a, vs, rfl, ha, rs⟩ := r
    exact ⟨a, rfl, ⟨vs, SqT.of (g1.wf.sub _ _ ha)⟩, k _ S1 H1 F1 s1 g1 (itOk_tup ha rs)⟩
def rngU (lo : Int) (n : Nat) : List U := (List.range n).map fun (k : Nat) => .int (lo + (k : Nat))
theorem itOk_rng {lo : Int} {n : Nat} {S A : Hp} : ItOk κ (Itr lo n) S A (rngU lo n) := by
  have wk := walk_range (lo := lo) (n := n)
  have hl : (rngU lo n).length = n := by simp [rngU]
  refine ⟨fun i H hi q => wk.goes i H (by rw [hl] at hi; exact hi) trivial, fun H q => by rw [hl]; exact wk.stops H trivial, fun i H x H' S1 u hu e0 e1 e2 y => ?_⟩
  have hi : i < n := by
    rw [← hl]
    exact (List.getElem?_eq_some_iff.mp hu).1
  obtain ⟨rfl, rfl⟩ := wk.yields i H x H' hi trivial y
  refine ⟨S1, StpP.refl e2, ?_⟩
  have q : u = .int (lo + (i : Nat)) := by
    simp [rngU, hi] at hu
    exact hu.symm
  subst q
  rfl
def mRng1 (a : M (List U)) : M (List U) := fun env => (a env).bind fun x => match x.1 with
  | [.int j] => if -(2 ^ 62) ≤ j ∧ j < 2 ^ 62 then some (rngU 0 j.toNat, x.2) else none
  | _ => none
theorem simI_rng1 {n : Nat} {t : TA} {m : M (List U)} (h : SimA κ γ ρ n t m) : SimI κ γ ρ (iRng1 t) (mRng1 m) := by
  constructor
  intro σ S H F env gd items env' e R k
  obtain ⟨⟨x, e1⟩, h1, e⟩ := bindS e
  dsimp only at e
  split at e
  · rename_i j
    split at e
    · rename_i hj
      cases e
      refine h.run gd h1 _ fun vs S1 H1 F1 s1 g1 r => ?_
      obtain ⟨v, _, rfl, hv, rfl⟩ := r
      have hv : v = .int j := hv
      subst hv
      exact ⟨j, rfl, hj.1, hj.2, k _ S1 H1 F1 s1 g1 itOk_rng⟩
    · cases e
  · cases e
/-- enumerate of a list -/
def enumU (us : List U) : List U := us.zipIdx.map fun p => .tup [.int (p.2 : Nat), p.1]
theorem enumU_len (us : List U) : (enumU us).length = us.length := by simp [enumU]
theorem enumU_get {us : List U} {i : Nat} {u : U} (h : (enumU us)[i]? = some u) : ∃ x, us[i]? = some x ∧ u = .tup [.int (i : Nat), x] := by
  have hi : i < us.length := by
    have := (List.getElem?_eq_some_iff.mp h).1
    rw [enumU_len] at this
    exact this
  refine ⟨us[i], by simp [hi], ?_⟩
  simp [enumU, hi] at h
  exact h.symm
/-- a new pair -/
theorem pair_rep {S1 H : Hp} {T : Addr} {x y : V} {a b : U} (e : Same S1 H) (hT : H T = none) (ra : Rep κ S1 a x) (rb : Rep κ S1 b y) :
    ∃ S1', StpP κ S1 H S1' (upd H T (.tup [x, y])) ∧ Rep κ S1' (.tup [a, b]) (.ref T) := by
  have st : StpP κ S1 H (upd S1 T (.tup [x, y])) (upd H T (.tup [x, y])) := StpP.new1 e hT
  exact ⟨_, st, T, [x, y], rfl, upd_same, x, [y], rfl, Rep.mono st.sub a ra, y, [], rfl, Rep.mono st.sub b rb, rfl⟩
theorem itOk_enum {K : PySem.W.Frag} {a : Addr} {S A : Hp} {us : List U} {vs : List V} (h : A a = some (.lst vs)) (r : Reps κ S us vs) : ItOk κ (Ite K a) S A (enumU us) := by
  have wk := walk_enum (K := K) (a := a) (xs := vs)
  have hl := enumU_len us
  refine ⟨fun i H hi q => wk.goes i H (by rw [← r.len, ← hl]; exact hi) (SqL.of (q _ _ h)), fun H q => by rw [hl, r.len]; exact wk.stops H (SqL.of (q _ _ h)), fun i H x H' S1 u hu e0 e1 e2 y => ?_⟩
  have hi : i < vs.length := by
    rw [← r.len, ← hl]
    exact (List.getElem?_eq_some_iff.mp hu).1
  obtain ⟨T, p, z, rfl, hT, rfl, h1, h2⟩ := wk.yields i H x H' hi (SqL.of (e0 _ _ h)) y
  obtain ⟨w, hw, rfl⟩ := enumU_get hu
  obtain ⟨v, hv, rv⟩ := r.get hw
  have h2 : vs[i]? = some z := h2
  rw [h2] at hv
  cases hv
  cases h1
  exact pair_rep e2 hT rfl (Rep.mono e1 w rv)
/-- zip of two lists -/
def zipU (us ws : List U) : List U := (us.zip ws).map fun p => .tup [p.1, p.2]
def mZip (a : M (List U)) : M (List U) := fun env => (a env).bind fun x => match x.1 with
  | [.lst us, .lst ws] => some (zipU us ws, x.2)
  | [.tup us, .tup ws] => some (zipU us ws, x.2)
  | _ => none
theorem zipU_len (us ws : List U) : (zipU us ws).length = min us.length ws.length := by simp [zipU]
theorem zipU_get {us ws : List U} {i : Nat} {u : U} (h : (zipU us ws)[i]? = some u) : ∃ x y, us[i]? = some x ∧ ws[i]? = some y ∧ u = .tup [x, y] := by
  simp [zipU, List.getElem?_map, List.getElem?_zip_eq_some] at h
  obtain ⟨a, b, ⟨h1, h2⟩, h3⟩ := h
  exact ⟨a, b, h1, h2, h3.symm⟩
theorem itOk_zip {K : PySem.W.Frag} {a b : Addr} {S A : Hp} {us ws : List U} {vs xs : List V} (h : A a = some (.lst vs)) (r : Reps κ S us vs) (h' : A b = some (.lst xs)) (r' : Reps κ S ws xs) : ItOk κ (Itz K a b) S A (zipU us ws) := by
  have wk := walk_zip (K := K) (a := a) (b := b) (xs := vs) (ys := xs) rfl
  have hl : (zipU us ws).length = min vs.length xs.length := by rw [zipU_len, r.len, r'.len]
  refine ⟨fun i H hi q => wk.goes i H (by rw [← hl]; exact hi) ⟨SqL.of (q _ _ h), SqL.of (q _ _ h')⟩, fun H q => by rw [hl]; exact wk.stops H ⟨SqL.of (q _ _ h), SqL.of (q _ _ h')⟩, fun i H x H' S1 u hu e0 e1 e2 y => ?_⟩
  have hi : i < min vs.length xs.length := by
    rw [← hl]
    exact (List.getElem?_eq_some_iff.mp hu).1
  obtain ⟨T, p, z, rfl, hT, rfl, h1, h2⟩ := wk.yields i H x H' hi ⟨SqL.of (e0 _ _ h), SqL.of (e0 _ _ h')⟩ y
  obtain ⟨w, w', hw, hw', rfl⟩ := zipU_get hu
  obtain ⟨v, hv, rv⟩ := r.get hw
  obtain ⟨v', hv', rv'⟩ := r'.get hw'
  have h1 : vs[i]? = some p := h1
  have h2 : xs[i]? = some z := h2
  rw [h1] at hv
  rw [h2] at hv'
  cases hv
  cases hv'
  exact pair_rep e2 hT (Rep.mono e1 w rv) (Rep.mono e1 w' rv')
theorem itOk_zipT {K : PySem.W.Frag} {a b : Addr} {S A : Hp} {us ws : List U} {vs xs : List V} (h : A a = some (.tup vs)) (r : Reps κ S us vs) (h' : A b = some (.tup xs)) (r' : Reps κ S ws xs) : ItOk κ (RZ.ItzT K a b) S A (zipU us ws) := by
  have hl : (zipU us ws).length = min vs.length xs.length := by rw [zipU_len, r.len, r'.len]
  refine ⟨fun i H hi q => ?_, fun H q => ⟨vs, xs, SqT.of (q _ _ h), SqT.of (q _ _ h'), by rw [hl]; omega⟩, fun i H x H' S1 u hu e0 e1 e2 y => ?_⟩
  · rw [hl] at hi
    have i1 : i < vs.length := by omega
    have i2 : i < xs.length := by omega
    exact ⟨vs, xs, vs[i], xs[i], SqT.of (q _ _ h), SqT.of (q _ _ h'), by simp [i1], by simp [i2]⟩
  · obtain ⟨T, p, z, rfl, hT, rfl, h1, h2⟩ := y
    have h1 := h1 vs (SqT.of (e0 _ _ h))
    have h2 := h2 xs (SqT.of (e0 _ _ h'))
    obtain ⟨w, w', hw, hw', rfl⟩ := zipU_get hu
    obtain ⟨v, hv, rv⟩ := r.get hw
    obtain ⟨v', hv', rv'⟩ := r'.get hw'
    rw [h1] at hv
    rw [h2] at hv'
    cases hv
    cases hv'
    exact pair_rep e2 hT (Rep.mono e1 w rv) (Rep.mono e1 w' rv')
theorem simI_zip {K : PySem.W.Frag} {n : Nat} {t : TA} {m : M (List U)} (h : SimA κ γ ρ n t m) : SimI κ γ ρ (RZ.iZipA K t) (mZip m) := by
  constructor
  intro σ S H F env gd items env' e R k
  obtain ⟨⟨x, e1⟩, h1, e⟩ := bindS e
  dsimp only at e
  split at e
  · rename_i us ws
    cases e
    refine h.run gd h1 _ fun vs S1 H1 F1 s1 g1 r => ?_
    obtain ⟨v, _, rfl, ⟨a, vs, rfl, ha, rs⟩, w, _, rfl, ⟨b, xs, rfl, hb, rs'⟩, rfl⟩ := r
    exact ⟨a, b, vs, xs, rfl, .inl ⟨SqL.of (g1.wf.sub _ _ ha), SqL.of (g1.wf.sub _ _ hb), k _ S1 H1 F1 s1 g1 (itOk_zip ha rs hb rs')⟩⟩
  · rename_i us ws
    cases e
    refine h.run gd h1 _ fun vs S1 H1 F1 s1 g1 r => ?_
    obtain ⟨v, _, rfl, ⟨a, vs, rfl, ha, rs⟩, w, _, rfl, ⟨b, xs, rfl, hb, rs'⟩, rfl⟩ := r
    exact ⟨a, b, vs, xs, rfl, .inr ⟨SqT.of (g1.wf.sub _ _ ha), SqT.of (g1.wf.sub _ _ hb), k _ S1 H1 F1 s1 g1 (itOk_zipT ha rs hb rs')⟩⟩
  · cases e
end
end UL
set_option Elab.async false
set_option linter.all false
set_option maxRecDepth 100000
set_option maxHeartbeats 2000000
/-! places, lists that change, comprehensions -/
namespace UL
open PySem PySem.Spec PyProof.Rows L2 LV
inductive Sg where
  | f (n : Str) | i (k : Nat) | k (n : Str) | t (j : Nat)
def ixF (n : Str) : List Str → Option Nat
  | [] => none
  | m :: r => if m = n then some 0 else (ixF n r).map (· + 1)
def get1 : Ow → Sg → Option Ow
  | .o _ ns ws, .f n => (ixF n ns).bind fun j => ws[j]?
  | .l ws, .i k => ws[k]?
  | .d ks ws, .k n => (ixF n ks).bind fun j => ws[j]?
  | .t ws, .t k => ws[k]?
  | _, _ => none
def put1 : Ow → Sg → Ow → Ow
  | .o c ns ws, .f n, w => match ixF n ns with
    | some j => .o c ns (ws.set j w)
    | none => .o c ns ws
  | .l ws, .i k, w => .l (ws.set k w)
  | .d ks ws, .k n, w => match ixF n ks with
    | some j => .d ks (ws.set j w)
    | none => .d ks ws
  | .t ws, .t k, w => .t (ws.set k w)
  | x, _, _ => x
def getO : Ow → List Sg → Option Ow
  | w, [] => some w
  | w, s :: p => (get1 w s).bind fun x => getO x p
def putO : Ow → List Sg → Ow → Ow
  | _, [], w => w
  | x, s :: p, w => match get1 x s with
    | some y => put1 x s (putO y p w)
    | none => x
def getE (env : Env) (i : Nat) (p : List Sg) : Option Ow := match env[i]? with
  | some (some w) => getO w p
  | _ => none
def putE (env : Env) (i : Nat) (p : List Sg) (w : Ow) : Env := match env[i]? with
  | some (some x) => env.set i (some (putO x p w))
  | _ => env
section
variable {κ : String → Addr} {γ : Gh} {ρ : Bool} {fx : Nat → Bool} {σ : L2.St} {S H : Hp} {F : List Addr} {env : Env}
theorem set_id {α : Type} {l : List α} {i : Nat} {x : α} (h : l[i]? = some x) : l.set i x = l := by
  apply List.ext_getElem?
  intro j
  by_cases hj : j = i
  · subst hj
    rw [h, List.getElem?_set_self (List.getElem?_eq_some_iff.mp h).1]
  · rw [List.getElem?_set_ne (Ne.symm hj)]
/-- one of several owned things -/
theorem RepOs.get : ∀ {ws : List Ow} {vs : List V} {F : List Addr} {j : Nat} {w : Ow}, RepOs κ S H ws vs F → ws[j]? = some w →
    ∃ v F1 F2 F3, vs[j]? = some v ∧ F = F1 ++ F2 ++ F3 ∧ RepO κ S H w v F2 ∧
      ∀ {S' H' : Hp} {w' : Ow} {F2' : List Addr} {v' : V}, Same S S' → (∀ a, a ∈ F1 ∨ a ∈ F3 → H' a = H a) → RepO κ S' H' w' v' F2' → RepOs κ S' H' (ws.set j w') (vs.set j v') (F1 ++ F2' ++ F3)
  | [], _, _, _, _, _, e => by simp at e
  | x :: ws, _, _, 0, w, h, e => by
    obtain ⟨v, vs', F1, F2, rfl, rfl, h1, h2⟩ := h
    simp at e
    subst e
    exact ⟨v, [], F1, F2, rfl, by simp, h1, fun {S' H' w' F2' v'} e k h => ⟨v', vs', F2', F2, rfl, by simp, h, RepOs.mono e ws (fun a ha => k a (.inr ha)) h2⟩⟩
  | x :: ws, _, _, j + 1, w, h, e => by
    obtain ⟨v, vs', F1, F2, rfl, rfl, h1, h2⟩ := h
    obtain ⟨v', A, B, C, g1, rfl, g3, g4⟩ := RepOs.get (j := j) h2 (by simpa using e)
    refine ⟨v', F1 ++ A, B, C, by simpa using g1, by simp, g3, fun {S' H' w' F2' v2} e k h => ⟨v, vs'.set j v2, F1, A ++ F2' ++ C, rfl, by simp, RepO.mono e x (fun a ha => k a (.inl (by simp [ha]))) h1, g4 e (fun a ha => k a ?_) h⟩⟩
    rcases ha with ha | ha
    · exact .inl (by simp [ha])
    · exact .inr ha
theorem RepOs.len : ∀ {ws : List Ow} {vs : List V} {F : List Addr}, RepOs κ S H ws vs F → ws.length = vs.length
  | [], _, _, h => by
    rw [h.1]
    rfl
  | _ :: _, _, _, h => by
    obtain ⟨v, vs', F1, F2, rfl, rfl, h1, h2⟩ := h
    simp [RepOs.len h2]
theorem RepOs.app : ∀ {ws ws2 : List Ow} {vs vs2 : List V} {F F2 : List Addr}, RepOs κ S H ws vs F → RepOs κ S H ws2 vs2 F2 → RepOs κ S H (ws ++ ws2) (vs ++ vs2) (F ++ F2)
  | [], _, _, _, _, _, h, h2 => by
    obtain ⟨rfl, rfl⟩ := h
    exact h2
  | w :: ws, _, _, _, _, _, h, h2 => by
    obtain ⟨v, vs', A, B, rfl, rfl, h1, h3⟩ := h
    exact ⟨v, _, A, B ++ _, rfl, by simp, h1, RepOs.app h3 h2⟩
theorem RepOs.split : ∀ {ws : List Ow} {vs : List V} {F : List Addr} (n : Nat), RepOs κ S H ws vs F → ∃ F1 F2, F = F1 ++ F2 ∧ RepOs κ S H (ws.take n) (vs.take n) F1 ∧ RepOs κ S H (ws.drop n) (vs.drop n) F2
  | ws, vs, F, 0, h => ⟨[], F, rfl, ⟨rfl, rfl⟩, h⟩
  | [], _, _, n + 1, h => by
    obtain ⟨rfl, rfl⟩ := h
    exact ⟨[], [], rfl, ⟨rfl, rfl⟩, ⟨rfl, rfl⟩⟩
  | w :: ws, _, _, n + 1, h => by
    obtain ⟨v, vs', A, B, rfl, rfl, h1, h2⟩ := h
    obtain ⟨C, D, rfl, h3, h4⟩ := RepOs.split n h2
    exact ⟨A ++ C, D, by simp, ⟨v, _, A, C, rfl, rfl, h1, h3⟩, h4⟩
/-! places -/
def Loc (κ : String → Addr) (γ : Gh) (σ : L2.St) (S H : Hp) (F : List Addr) (env : Env) (i : Nat) (p : List Sg) (w : Ow) (v : V) : Prop :=
  ∃ F1 F2 F3, F = F1 ++ F2 ++ F3 ∧ RepO κ S H w v F2 ∧ ∀ {S' H' : Hp} {w' : Ow} {F2' : List Addr}, Same S S' → (∀ a, a ∈ F1 ∨ a ∈ F3 → H' a = H a) → RepO κ S' H' w' v F2' → EnvOk κ γ S' H' σ (putE env i p w') (F1 ++ F2' ++ F3)
theorem Loc.pure_ {S1 H1 : Hp} {i : Nat} {p : List Sg} {w : Ow} {v : V} (g : Gd κ γ σ S H F env) (s : Same S S1) (k : Same H H1) (h : Loc κ γ σ S H F env i p w v) : Loc κ γ σ S1 H1 F env i p w v := by
  have kf : ∀ x ∈ F, H1 x = H x := fun x hx => by
    obtain ⟨o, ho, _⟩ := g.env.foot x hx
    rw [k x o ho, ho]
  obtain ⟨F1, F2, F3, rfl, h2, h3⟩ := h
  refine ⟨F1, F2, F3, rfl, RepO.mono s w (fun a ha => kf a (by simp [ha])) h2, fun e k h => h3 (s.trans e) (fun a ha => (k a ha).trans (kf a ?_)) h⟩
  rcases ha with ha | ha <;> simp [ha]
theorem loc_root (g : Gd κ γ σ S H F env) {i : Nat} {w : Ow} (e : env[i]? = some (some w)) : ∃ v, σ[i]? = some (some v) ∧ Loc κ γ σ S H F env i [] w v := by
  obtain ⟨s, F1, F2, F3, h1, rfl, ⟨v, rfl, h3⟩, h4⟩ := g.env.get e
  refine ⟨v, h1, F1, F2, F3, rfl, h3, fun {S' H' w' F2'} e' k h => ?_⟩
  have q := h4 (s' := some v) (w' := some w') (F2' := F2') e' k ⟨v, rfl, h⟩
  rw [set_id h1] at q
  show EnvOk κ γ S' H' σ (putE env i [] w') _
  unfold putE
  rw [e]
  exact q
/-- what stands at a place is exchanged for what has the same foot -/
theorem Loc.upd (g : Gd κ γ σ S H F env) {i : Nat} {p : List Sg} {ws : List Ow} {v : V} (h : Loc κ γ σ S H F env i p (.l ws) v) : ∃ a vs F', v = .ref a ∧ H a = some (.lst vs) ∧ RepOs κ S H ws vs F' ∧ (∀ x ∈ F', x ∈ F) ∧
    ∀ {ws' : List Ow} {vs' : List V} {F2 : List Addr}, RepOs κ S H ws' vs' F2 → List.Sublist F2 F' → ∃ F3, Gd κ γ σ S (L2.upd H a (.lst vs')) F3 (putE env i p (.l ws')) ∧ Stp κ S H F S (L2.upd H a (.lst vs')) F3 := by
  obtain ⟨F1, F2, F3, rfl, ⟨a, vs, F', rfl, ha, rfl, hs⟩, h3⟩ := h
  have nd := g.wf.nd
  refine ⟨a, vs, F', rfl, ha, hs, fun x hx => by simp [hx], fun {ws' vs' G} r sb => ?_⟩
  obtain ⟨_, nd2⟩ := nodup_mid nd
  obtain ⟨na1, na3⟩ := nd2 a (by simp)
  have naF : a ∉ F' := by
    have := (List.nodup_append.mp (List.nodup_append.mp nd).1).2.1
    exact (List.nodup_cons.mp this).1
  have naG : a ∉ G := fun z => naF (sb.subset z)
  have q := h3 (S' := S) (H' := L2.upd H a (.lst vs')) (w' := .l ws') (F2' := a :: G) (fun _ _ h => h) (fun x hx => upd_ne (fun z => by
    subst z
    rcases hx with hx | hx
    · exact na1 hx
    · exact na3 hx)) ⟨a, vs', G, rfl, upd_same, rfl, RepOs.mono (fun _ _ h => h) ws' (fun x hx => upd_ne (fun z => naG (z ▸ hx))) r⟩
  have mem : ∀ x ∈ F1 ++ (a :: G) ++ F3, x ∈ F1 ++ (a :: F') ++ F3 := fun x hx => by
    simp only [List.mem_append, List.mem_cons] at hx ⊢
    rcases hx with (hx | hx | hx) | hx
    · simp [hx]
    · simp [hx]
    · simp [sb.subset hx]
    · simp [hx]
  refine ⟨F1 ++ (a :: G) ++ F3, ⟨⟨fun b o hb => ?_, ?_, fun x hx => g.wf.out x (mem x hx)⟩, q⟩, ⟨fun b o hb hh => ?_, fun b hb => ?_, fun _ _ h => h, fun _ _ h => .inl h, fun x hx => .inl (mem x hx)⟩⟩
  · rw [upd_ne (fun z => by
      subst z
      rw [g.wf.out b (by simp)] at hb
      cases hb)]
    exact g.wf.sub b o hb
  · exact List.Nodup.sublist (((List.Sublist.refl F1).append ((sb.cons_cons a))).append (List.Sublist.refl F3)) nd
  · rw [upd_ne (fun z => hb (by subst z; simp))]
    exact hh
  · by_cases z : b = a
    · subst z
      rw [upd_same] at hb
      cases hb
    · rw [upd_ne z] at hb
      exact hb
end
/-! mirrors of what changes a list: the root of a name -/
def isL (env : Env) (i : Nat) : Option Unit := match env[i]? with
  | some (some (.l _)) => some ()
  | _ => none
def isI : U → Option Int
  | .int i => some i
  | _ => none
def mAppV (i : Nat) (a : M U) : M U := fun env => (isL env i).bind fun _ => (a env).bind fun x => match x.2[i]? with
  | some (some (.l ws)) => if ws.length < sizeLine then some (.non, x.2.set i (some (.l (ws ++ [.p x.1])))) else none
  | _ => none
def mExtV (i : Nat) (a : M U) : M U := fun env => (isL env i).bind fun _ => (a env).bind fun x => match x.2[i]? with
  | some (some (.l ws)) => match x.1 with
    | .lst us => if ws.length + us.length ≤ sizeLine then some (.non, x.2.set i (some (.l (ws ++ us.map .p)))) else none
    | _ => none
  | _ => none
def mInsV (i : Nat) (k a : M U) : M U := fun env => (isL env i).bind fun _ => (k env).bind fun y => (a y.2).bind fun x => match x.2[i]? with
  | some (some (.l ws)) => (isI y.1).bind fun j => if ws.length < sizeLine ∧ 0 ≤ j ∧ j < 2 ^ 63 then some (.non, x.2.set i (some (.l (ws.take j.toNat ++ [.p x.1] ++ ws.drop j.toNat)))) else none
  | _ => none
def isP : Ow → Option U
  | .p u => some u
  | _ => none
def mPopV (i : Nat) : M U := fun env => match env[i]? with
  | some (some (.l ws)) => (ws[ws.length - 1]?).bind fun w => (isP w).bind fun u => some (u, env.set i (some (.l ws.dropLast)))
  | _ => none
def mIxV (i : Nat) (k : M U) : M U := fun env => (isL env i).bind fun _ => (k env).bind fun y => match y.2[i]? with
  | some (some (.l ws)) => (isI y.1).bind fun j => (atI ws j).bind fun w => (isP w).bind fun u => some (u, y.2)
  | _ => none
def mLenV (i : Nat) : M U := fun env => match env[i]? with
  | some (some (.l ws)) => some (.int ws.length, env)
  | _ => none
/-- x[k] = e -/
def sSetV (i : Nat) (k a : M U) : MS := fun env => (a env).bind fun x => (isL x.2 i).bind fun _ => (k x.2).bind fun y => match y.2[i]? with
  | some (some (.l ws)) => (isI y.1).bind fun j => (ixN ws.length j).bind fun n => (ws[n]?).bind fun w => (isP w).bind fun _ => some (.nx (y.2.set i (some (.l (ws.set n (.p x.1))))))
  | _ => none
section
variable {κ : String → Addr} {γ : Gh} {ρ : Bool} {fx : Nat → Bool} {K : PySem.W.Frag}
theorem putE_root {env : Env} {i : Nat} {w w' : Ow} (e : env[i]? = some (some w)) : putE env i [] w' = env.set i (some w') := by
  unfold putE
  rw [e]
  rfl
theorem tyLst {H : Hp} {a : Addr} {vs : List V} (h : H a = some (.lst vs)) : tyV K "list" (.ref a) H := .inl ⟨rfl, vs, SqL.of h⟩
theorem isL_ty {σ : L2.St} {S H : Hp} {F : List Addr} {env : Env} (g : Gd κ γ σ S H F env) {i : Nat} {u : Unit} (h : isL env i = some u) : ∃ v, σ[i]? = some (some v) ∧ tyV K "list" v H := by
  unfold isL at h
  split at h
  · rename_i ws hw
    obtain ⟨v, hv, loc⟩ := loc_root g hw
    obtain ⟨a, vs, F', rfl, ha, _⟩ := loc.upd g
    exact ⟨_, hv, tyLst ha⟩
  · cases h
theorem isP_eq {w : Ow} {u : U} (h : isP w = some u) : w = .p u := by
  cases w <;> first
    | (cases h; rfl)
    | cases h
theorem isI_eq {x : U} {i : Int} (h : isI x = some i) : x = .int i := by
  cases x <;> first
    | (cases h; rfl)
    | cases h
theorem RepOs.last {S H : Hp} {ws : List Ow} {vs : List V} {F : List Addr} {u : U} (h : RepOs κ S H ws vs F) (e : ws[ws.length - 1]? = some (.p u)) : ∃ v, vs[vs.length - 1]? = some v ∧ Rep κ S u v ∧ RepOs κ S H ws.dropLast vs.dropLast F := by
  have hl := h.len
  obtain ⟨v, F1, F2, F3, h1, rfl, ⟨rfl, h3⟩, _⟩ := h.get e
  have hlt : ws.length - 1 < ws.length := (List.getElem?_eq_some_iff.mp e).1
  obtain ⟨A, B, hAB, ra, rb⟩ := h.split (ws.length - 1)
  have ed : ws.drop (ws.length - 1) = [.p u] := by
    rw [List.drop_eq_getElem_cons hlt]
    have : ws[ws.length - 1] = .p u := by
      have := (List.getElem?_eq_some_iff.mp e).2
      exact this
    rw [this, List.drop_of_length_le (by omega)]
  rw [ed] at rb
  obtain ⟨v', vs', G1, G2, _, rfl, ⟨rfl, _⟩, _, rfl⟩ := rb
  refine ⟨v, by rw [← hl]; exact h1, h3, ?_⟩
  rw [hAB, List.dropLast_eq_take, List.dropLast_eq_take, ← hl]
  simpa using ra
theorem atI_map {ws : List Ow} {vs : List V} {j : Int} {w : Ow} (hl : ws.length = vs.length) (h : atI ws j = some w) : ∃ n : Nat, ws[n]? = some w ∧ atI vs j = vs[n]? := by
  obtain ⟨n, h1, h2⟩ := bindS (show (ixN ws.length j).bind (fun n => ws[n]?) = some w from h)
  refine ⟨n, h2, ?_⟩
  show (ixN vs.length j).bind _ = _
  rw [← hl, h1]
  rfl
theorem simE_ixV {i : Nat} {tk : TE} {mk : M U} (hk : SimE κ γ ρ tk mk) : SimE κ γ ρ (tOp (rIxL K) (tVar i) tk) (mIxV i mk) := by
  constructor
  intro σ S H F env g u env' e Q k
  obtain ⟨_, h0, e⟩ := bindS e
  obtain ⟨⟨y, e0⟩, h2, e⟩ := bindS e
  obtain ⟨v, hv, _⟩ := isL_ty (K := K) g h0
  dsimp only at e
  split at e
  · rename_i ws hw
    obtain ⟨j, h3, e⟩ := bindS e
    obtain ⟨w, h4, e⟩ := bindS e
    obtain ⟨u', h5, e⟩ := bindS e
    cases e
    have := isP_eq h5
    subst this
    have := isI_eq h3
    subst this
    refine ⟨v, hv, hk.run g h2 _ fun v0 S0 H0 F0 s0 g0 r0 => ?_⟩
    have r0 : v0 = .int j := r0
    subst r0
    obtain ⟨v', hv', loc⟩ := loc_root g0 hw
    rw [hv] at hv'
    cases hv'
    obtain ⟨a, vs, F', rfl, ha, rs, _, up⟩ := loc.upd g0
    obtain ⟨n, hn, hv2⟩ := atI_map rs.len h4
    obtain ⟨y, A, B, C, hy, _, ⟨_, ry⟩, _⟩ := rs.get hn
    exact ⟨a, vs, j, y, rfl, rfl, SqL.of ha, by rw [hv2]; exact hy, k _ _ _ _ s0 g0 ry⟩
  · cases e
theorem sim_setV {i : Nat} {tk te : TE} {mk me : M U} (hk : SimE κ γ false tk mk) (h : SimE κ γ false te me) : SimS κ γ fx (tAsg te (gSub (tVar i) tk rSetL)) (sSetV i mk me) := by
  constructor
  intro σ S H F env g fl e D k
  obtain ⟨⟨x, e1⟩, h1, e⟩ := bindS e
  obtain ⟨_, h0, e⟩ := bindS e
  obtain ⟨⟨y, e0⟩, h2, e⟩ := bindS e
  dsimp only at e
  split at e
  · rename_i ws hw
    obtain ⟨j, h3, e⟩ := bindS e
    obtain ⟨n, h4, e⟩ := bindS e
    obtain ⟨w, h5, e⟩ := bindS e
    obtain ⟨u', h6, e⟩ := bindS e
    cases e
    have := isP_eq h6
    subst this
    have := isI_eq h3
    subst this
    refine h.run g h1 _ fun v1 S1 H1 F1 s1 g1 r1 => ?_
    obtain ⟨v, hv, _⟩ := isL_ty (K := []) g1 h0
    refine ⟨v, hv, hk.run g1 h2 _ fun v0 S0 H0 F0 s0 g0 r0 => ?_⟩
    have r0 : v0 = .int j := r0
    subst r0
    obtain ⟨v', hv', loc⟩ := loc_root g0 hw
    rw [hv] at hv'
    cases hv'
    obtain ⟨a, vs, F', rfl, ha, rs, _, up⟩ := loc.upd g0
    obtain ⟨y, A, B, C, hy, hF, ⟨rfl, ry⟩, rb⟩ := rs.get h5
    obtain ⟨F3, g3, s3⟩ := up (rb (w' := .p x) (v' := v1) (F2' := []) (fun _ _ h => h) (fun _ _ => rfl) ⟨rfl, Rep.mono s0.sub x r1⟩) (by rw [hF]; exact List.Sublist.refl _)
    rw [putE_root hw] at g3
    exact ⟨a, vs, j, n, rfl, rfl, ha, by rw [← rs.len]; exact h4, k _ _ _ _ ((s1.trans s0).stp.trans s3) g3 (Fix.refl fx σ)⟩
  · cases e
end
end UL
set_option Elab.async false
set_option linter.all false
set_option maxRecDepth 100000
set_option maxHeartbeats 2000000
/-! comprehensions; loops over what is owned -/
namespace UL
open PySem PySem.Spec PyProof.Rows L2 LV
def wipeE (env : Env) : List Nat → Env
  | [] => env
  | v :: vs => (wipeE env vs).set v none
def keepP (env : Env) (v : Nat) : Option Ow := match env[v]? with
  | some (some (.p u)) => some (.p u)
  | _ => none
def restE (env e : Env) : List Nat → Env
  | [] => e
  | v :: vs => (restE env e vs).set v (keepP env v)
def lcO (vs : List Nat) (g : MG) (tt : M Bool) (te : M U) : List U → List U → Env → Option (List U × Env)
  | [], acc, env => some (acc, env)
  | u :: us, acc, env => (g u (wipeE env vs)).bind fun e1 => (tt e1).bind fun b => if b.1 = true then (te b.2).bind fun y => if acc.length < sizeLine then lcO vs g tt te us (acc ++ [y.1]) (restE env y.2 vs) else none
    else lcO vs g tt te us acc (restE env b.2 vs)
def mLcL (vs : List Nat) (mi : M (List U)) (g : MG) (tt : M Bool) (te : M U) : M (List U) := fun env => (mi env).bind fun x => lcO vs g tt te x.1 [] x.2
def mLcO (vs : List Nat) (mi : M (List U)) (g : MG) (tt : M Bool) (te : M U) : M Ow := fun env => (mLcL vs mi g tt te env).bind fun x => some (.l (x.1.map .p), x.2)
def mLc (vs : List Nat) (mi : M (List U)) (g : MG) (tt : M Bool) (te : M U) : M U := fun env => (mLcL vs mi g tt te env).bind fun x => some (.lst x.1, x.2)
def mYes : M Bool := fun env => some (true, env)
section
variable {κ : String → Addr} {γ : Gh} {ρ : Bool} {fx : Nat → Bool} {K : PySem.W.Frag}
theorem simT_yes : SimT κ γ ρ tYes mYes := by
  constructor
  intro σ S H F env g b env' e Q k
  cases e
  exact k S H F (StpQ.refl S H F env) g
/-- a slot gets what owns nothing -/
theorem Gd.putN {σ : L2.St} {S H : Hp} {F : List Addr} {env : Env} (g : Gd κ γ σ S H F env) (i : Nat) {s : Option V} {w : Option Ow} (r : SlotOk κ S H s w []) :
    ∃ F', Gd κ γ (σ.set i s) S H F' (env.set i w) ∧ List.Sublist F' F := by
  have hl := g.env.len
  by_cases hi : i < env.length
  · have e : env[i]? = some env[i] := by simp [hi]
    obtain ⟨s0, F1, F2, F3, h1, rfl, h3, h4⟩ := g.env.get e
    have q := h4 (S' := S) (H' := H) (s' := s) (w' := w) (F2' := []) (fun _ _ h => h) (fun _ _ => rfl) r
    rw [List.append_nil] at q
    have sb : List.Sublist (F1 ++ F3) (F1 ++ F2 ++ F3) := by
      rw [List.append_assoc]
      exact (List.Sublist.refl F1).append (List.sublist_append_right F2 F3)
    exact ⟨F1 ++ F3, ⟨⟨g.wf.sub, List.Nodup.sublist sb g.wf.nd, fun a ha => g.wf.out a (sb.subset ha)⟩, q⟩, sb⟩
  · rw [set_ge hi, set_ge (by omega)]
    exact ⟨F, g, List.Sublist.refl F⟩
theorem Gd.wipe {σ : L2.St} {S H : Hp} {F : List Addr} {env : Env} (g : Gd κ γ σ S H F env) : ∀ vs : List Nat, ∃ F', Gd κ γ (L2.wipe σ vs) S H F' (wipeE env vs) ∧ List.Sublist F' F
  | [] => ⟨F, g, List.Sublist.refl F⟩
  | v :: vs => by
    obtain ⟨F1, g1, s1⟩ := Gd.wipe g vs
    obtain ⟨F2, g2, s2⟩ := g1.putN v (s := none) (w := none) rfl
    exact ⟨F2, g2, s2.trans s1⟩
def restS (σ τ : L2.St) : List Nat → L2.St
  | [] => τ
  | v :: vs => (restS σ τ vs).set v (σ[v]?.getD none)
theorem restS_len (σ τ : L2.St) : ∀ vs : List Nat, (restS σ τ vs).length = τ.length
  | [] => rfl
  | v :: vs => by
    unfold restS
    rw [List.length_set, restS_len σ τ vs]
theorem restS_get (σ τ : L2.St) (hl : τ.length = σ.length) (j : Nat) : ∀ vs : List Nat, (restS σ τ vs)[j]? = if j ∈ vs then σ[j]? else τ[j]?
  | [] => by simp [restS]
  | v :: vs => by
    unfold restS
    by_cases hj : v = j
    · subst hj
      by_cases hi : v < τ.length
      · have q : v < (restS σ τ vs).length := by
          rw [restS_len]
          exact hi
        have z : v < σ.length := by omega
        rw [List.getElem?_set_self q]
        simp [z]
      · have q : (restS σ τ vs).length ≤ v := by
          rw [restS_len]
          omega
        rw [List.set_eq_of_length_le q, restS_get σ τ hl v vs]
        have z : σ[v]? = none := List.getElem?_eq_none_iff.mpr (by omega)
        have z' : τ[v]? = none := List.getElem?_eq_none_iff.mpr (by omega)
        simp [z, z']
    · rw [List.getElem?_set_ne hj, restS_get σ τ hl j vs]
      have : j ≠ v := fun z => hj z.symm
      simp [this]
theorem restS_eq {σ τ : L2.St} {vs : List Nat} (hl : τ.length = σ.length) (h : ∀ j, j ∉ vs → τ[j]? = σ[j]?) : restS σ τ vs = σ := by
  apply List.ext_getElem?
  intro j
  rw [restS_get σ τ hl j vs]
  by_cases hj : j ∈ vs
  · rw [if_pos hj]
  · rw [if_neg hj]
    exact h j hj
theorem Gd.rest {σ τ : L2.St} {S H S0 H0 : Hp} {F F0 : List Addr} {env e : Env} (g : Gd κ γ τ S H F e) (g0 : Gd κ γ σ S0 H0 F0 env) (sb : Same S0 S) : ∀ vs : List Nat, ∃ F', Gd κ γ (restS σ τ vs) S H F' (restE env e vs) ∧ List.Sublist F' F
  | [] => ⟨F, g, List.Sublist.refl F⟩
  | v :: vs => by
    obtain ⟨F1, g1, s1⟩ := Gd.rest g g0 sb vs
    have r : SlotOk κ S H (σ[v]?.getD none) (keepP env v) [] := by
      unfold keepP
      split
      · rename_i u hu
        obtain ⟨x, hx, rx⟩ := g0.slot hu
        rw [hx]
        exact ⟨x, rfl, rfl, Rep.mono sb u rx⟩
      · rfl
    obtain ⟨F2, g2, s2⟩ := g1.putN v r
    exact ⟨F2, g2, s2.trans s1⟩
theorem wipe_same {σ τ : L2.St} {vs : List Nat} (h : Fix (fun j => !vs.contains j) (L2.wipe σ vs) τ) : L2.wipe τ vs = L2.wipe σ vs ∧ τ.length = σ.length ∧ ∀ j, j ∉ vs → τ[j]? = σ[j]? := by
  have hl : τ.length = σ.length := by rw [h.1, wipe_length]
  have ho : ∀ j, j ∉ vs → τ[j]? = σ[j]? := fun j hj => by
    rw [h.2 j (by simpa using hj), wipe_out hj]
  refine ⟨?_, hl, ho⟩
  apply List.ext_getElem?
  intro j
  by_cases hj : j ∈ vs
  · cases q : (L2.wipe τ vs)[j]? with
    | none =>
      have : τ.length ≤ j := by
        have := List.getElem?_eq_none_iff.mp q
        rwa [wipe_length] at this
      exact (List.getElem?_eq_none_iff.mpr (by rw [wipe_length]; omega)).symm
    | some x =>
      have hx : x = none := by
        cases x with
        | none => rfl
        | some v => exact absurd hj (wipe_some q).2
      subst hx
      have hlt : j < σ.length := by
        have := (List.getElem?_eq_some_iff.mp q).1
        rwa [wipe_length, hl] at this
      cases q2 : (L2.wipe σ vs)[j]? with
      | none =>
        have := List.getElem?_eq_none_iff.mp q2
        rw [wipe_length] at this
        omega
      | some y =>
        cases y with
        | none => rfl
        | some v => exact absurd hj (wipe_some q2).2
  · rw [wipe_out hj, wipe_out hj, ho j hj]
/-- an owned place apart stays -/
theorem Stp.apart {S H S' H' : Hp} {F F' : List Addr} {D : Addr} {o : HO} (s : Stp κ S H F S' H' F') (w : Same S' H') (h1 : H D = some o) (h2 : D ∉ F) (h3 : S D = none) (nx : ¬ XObj κ o) : H' D = some o ∧ D ∉ F' ∧ S' D = none := by
  have h4 := s.keep D o h2 h1
  refine ⟨h4, fun z => ?_, ?_⟩
  · rcases s.foot D z with z | z
    · exact h2 z
    · rw [h1] at z
      cases z
  · cases q : S' D with
    | none => rfl
    | some u =>
      have := w D u q
      rw [h4] at this
      cases this
      rcases s.new D _ q with z | z | z | z
      · rw [h3] at z
        cases z
      · rw [h1] at z
        cases z
      · exact (nx z).elim
      · exact (h2 z).elim
theorem lc_core {J : It} {g : TG} {mg : MG} {tt : TT} {mt : M Bool} {te : TE} {me : M U} {vs : List Nat} {σ : L2.St} {S H A : Hp} {F : List Addr} {env env' : Env} {items res : List U} (gd : Gd κ γ σ S H F env) (ok : ItOk κ J S A items) (ka : KeepA A S H F)
    (hg : SimG κ γ (fun j => !vs.contains j) g mg) (ht : SimT κ γ false tt mt) (he : SimE κ γ false te me) (e : lcO vs mg mt me items [] env = some (res, env')) {D : Addr} (hD : H D = none) (Q : Hp → Prop)
    (k : ∀ S' H' F' vs, Stp κ S H F S' H' (F' ++ [D]) → Gd κ γ σ S' H' F' env' → WF S' H' (F' ++ [D]) → H' D = some (.lst vs) → Reps κ S' res vs → Q H') :
    ∃ W : Nat → Nat → Hp → Prop, (∃ m, W 0 m (upd H D (.lst []))) ∧ ∀ i m H, W i m H →
      (J.stop i H ∧ Q H) ∨ (J.go i H ∧ ∃ Nx : Hp → Prop, (∀ H', Nx H' → ∃ m', m' < m ∧ W (i + 1) m' H') ∧ ∀ x H', J.yld i H x H' → g x (L2.wipe σ vs) H' fun σ2 H2 => L2.wipe σ2 vs = L2.wipe σ vs ∧ tt σ2 H2 fun b H3 =>
        if b = true then te σ2 H3 fun y H4 => ∃ acc, H4 D = some (.lst acc) ∧ acc.length < sizeLine ∧ Nx (upd H4 D (.lst (acc ++ [y]))) else Nx H3) := by
  obtain ⟨n1, n2, n3⟩ := new_owned (o := .lst []) gd hD
  have kA : ∀ {S' H' : Hp} {F' : List Addr}, Stp κ S H F S' H' F' → Same S' H' → Same A H' := fun s w => ka.go s w
  have wk : Walk J items.length (fun H => Same A H) (fun i H x H' => J.yld i H x H') := ⟨fun i H hi q => ok.go i H hi q, fun H q => ok.stop H q, fun _ _ _ _ _ _ y => y⟩
  refine lc_it wk (fun i Hc => ∃ S' F' env1 acc av, Stp κ S H F S' Hc (F' ++ [D]) ∧ Gd κ γ σ S' Hc F' env1 ∧ D ∉ F' ∧ S' D = none ∧ Hc D = some (.lst av) ∧ Reps κ S' acc av ∧ lcO vs mg mt me (items.drop i) acc env1 = some (res, env')) ?_ ?_ ?_ ?_
  · refine ⟨S, F, env, [], [], n1, n2, fun z => ?_, n3.out D (by simp), upd_same, rfl, e⟩
    exact (List.nodup_append.mp n3.nd).2.2 D z D (by simp) rfl
  · rintro i Hc _ ⟨S', F', env1, acc, av, s', g', _⟩
    exact kA s' g'.wf.sub
  · rintro i x Hc H2 hlt ⟨S', F', env1, acc, av, s', g', dF, dS, hd, ra, e⟩ y
    obtain ⟨u, hu, hdr⟩ := drop_some hlt
    rw [hdr] at e
    obtain ⟨e1, h1, e⟩ := bindS e
    obtain ⟨⟨b, e2⟩, h2, e⟩ := bindS e
    obtain ⟨S2, p2, r2⟩ := ok.yld i Hc x H2 S' u hu (kA s' g'.wf.sub) s'.sub g'.wf.sub y
    have g2 := g'.pure_ p2
    obtain ⟨F2, g3, sb⟩ := g2.wipe vs
    have nX : ∀ l : List V, ¬ XObj κ (.lst l) := fun l z => by rcases z with ⟨_, _, z⟩ | ⟨_, _, z⟩ <;> cases z
    -- the new list stands apart
    obtain ⟨d1, d2, d3⟩ := (p2.stp (F := F')).apart p2.in_ hd dF dS (nX av)
    have d4 : D ∉ F2 := fun z => d2 (sb.subset z)
    have st2 : Stp κ S H F S2 H2 (F2 ++ [D]) := (s'.trans (p2.stp (F := F' ++ [D]))).less fun a ha => by
      simp only [List.mem_append] at ha ⊢
      exact ha.imp_left (fun z => sb.subset z)
    refine hg.run g3 r2 h1 _ fun σ3 S3 H3 F3 s3 g4 f3 => ?_
    obtain ⟨w1, w2, w3⟩ := wipe_same f3
    refine ⟨w1, ?_⟩
    refine ht.run g4 h2 _ fun S4 H4 F4 s4 g5 => ?_
    -- what is wanted behind a turn, from the state behind its last expression
    have fin : ∀ {S5 H5 : Hp} {F5 : List Addr} {e5 : Env} {acc' : List U} {av' : List V} {H6 : Hp}, Stp κ S2 H2 F2 S5 H5 F5 → Gd κ γ σ3 S5 H5 F5 e5 → Reps κ S5 acc' av' → H6 = upd H5 D (.lst av') → lcO vs mg mt me (items.drop (i + 1)) acc' (restE env1 e5 vs) = some (res, env') →
        ∃ S' F' env1 acc av, Stp κ S H F S' H6 (F' ++ [D]) ∧ Gd κ γ σ S' H6 F' env1 ∧ D ∉ F' ∧ S' D = none ∧ H6 D = some (.lst av) ∧ Reps κ S' acc av ∧ lcO vs mg mt me (items.drop (i + 1)) acc env1 = some (res, env') := by
      intro S5 H5 F5 e5 acc' av' H6 s5 g5 r5 hH e5'
      obtain ⟨q1, q2, q3⟩ := s5.apart g5.wf.sub d1 d4 d3 (nX av)
      obtain ⟨F6, g6, sb6⟩ := g5.rest g' (p2.sub.trans s5.sub) vs
      rw [restS_eq w2 w3] at g6
      have q4 : D ∉ F6 := fun z => q2 (sb6.subset z)
      subst hH
      refine ⟨S5, F6, _, acc', av', ?_, ⟨⟨fun b o hb => ?_, g6.wf.nd, g6.wf.out⟩, g6.env.mono (fun _ _ h => h) fun a ha => upd_ne fun z => q4 (z ▸ ha)⟩, q4, q3, upd_same, r5, e5'⟩
      · -- the steps joined, the list at D written
        have s56 : Stp κ S2 H2 (F2 ++ [D]) S5 (upd H5 D (.lst av')) (F6 ++ [D]) := by
          refine ⟨fun b o hb hh => ?_, fun b hb => ?_, s5.sub, fun b o hb => ?_, fun a ha => ?_⟩
          · rw [upd_ne fun z => hb (by subst z; simp)]
            exact s5.keep b o (fun z => hb (by simp [z])) hh
          · by_cases z : b = D
            · subst z
              rw [upd_same] at hb
              cases hb
            · rw [upd_ne z] at hb
              exact s5.trk b hb
          · rcases s5.new b o hb with z | z | z | z
            · exact .inl z
            · exact .inr (.inl z)
            · exact .inr (.inr (.inl z))
            · exact .inr (.inr (.inr (by simp [z])))
          · rcases List.mem_append.mp ha with ha | ha
            · rcases s5.foot a (sb6.subset ha) with z | z
              · exact .inl (by simp [z])
              · exact .inr z
            · exact .inl (by simp [List.mem_singleton.mp ha])
        exact st2.trans s56
      · rw [upd_ne fun z => by
          subst z
          rw [q3] at hb
          cases hb]
        exact g6.wf.sub b o hb
    cases b with
    | false =>
      rw [if_neg Bool.false_ne_true] at e ⊢
      obtain ⟨q1, q2, q3⟩ := (s3.trans s4.stp).apart g5.wf.sub d1 d4 d3 (nX av)
      refine fin (s3.trans s4.stp) g5 (Reps.mono ((p2.sub.trans s3.sub).trans s4.sub) acc ra) ?_ e
      funext b
      by_cases z : b = D
      · subst z
        rw [upd_same, q1]
      · rw [upd_ne z]
    | true =>
      rw [if_pos rfl] at e ⊢
      obtain ⟨⟨yv, e3⟩, h3, e⟩ := bindS e
      dsimp only at e
      split at e
      · rename_i hz
        refine he.run g5 h3 _ fun v S5 H5 F5 s5 g6 r5 => ?_
        have s35 := (s3.trans s4.stp).trans s5.stp
        obtain ⟨q1, q2, q3⟩ := s35.apart g6.wf.sub d1 d4 d3 (nX av)
        refine ⟨av, q1, by rw [← ra.len]; exact hz, fin s35 g6 (Reps.snoc r5 (Reps.mono (p2.sub.trans s35.sub) acc ra)) rfl e⟩
      · cases e
  · rintro Hc ⟨S', F', env1, acc, av, s', g', dF, dS, hd, ra, e⟩
    rw [List.drop_length] at e
    cases e
    refine k S' Hc F' av s' g' ⟨g'.wf.sub, List.nodup_append.mpr ⟨g'.wf.nd, by simp, fun a ha b hb => ?_⟩, fun a ha => ?_⟩ hd ra
    · rw [List.mem_singleton.mp hb]
      exact fun z => dF (z ▸ ha)
    · rcases List.mem_append.mp ha with ha | ha
      · exact g'.wf.out a ha
      · rw [List.mem_singleton.mp ha]
        exact dS
theorem simO_lc {wi : TI} {mi : M (List U)} {g : TG} {mg : MG} {tt : TT} {mt : M Bool} {te : TE} {me : M U} {vs : List Nat} (hi : SimI κ γ false wi mi) (hg : SimG κ γ (fun j => !vs.contains j) g mg) (ht : SimT κ γ false tt mt) (he : SimE κ γ false te me) :
    SimO κ γ (tLc wi g tt te vs) (mLcO vs mi mg mt me) := by
  constructor
  intro σ S H F env gd w env' e Q k
  obtain ⟨⟨res, e2⟩, e', e⟩ := bindS e
  cases e
  obtain ⟨⟨items, e0⟩, h0, e1⟩ := bindS e'
  refine hi.run gd h0 _ fun J S1 H1 F1 s1 g1 ok D hD => lc_core g1 ok KeepA.self hg ht he e1 hD _ fun S' H' F' vs' s' g' wf hd rs => ?_
  exact k _ S' H' F' [D] (s1.stp.trans s') g' wf ⟨D, vs', [], rfl, hd, rfl, RepOs.pure_ rs⟩
theorem simE_lc {wi : TI} {mi : M (List U)} {g : TG} {mg : MG} {tt : TT} {mt : M Bool} {te : TE} {me : M U} {vs : List Nat} (hi : SimI κ γ false wi mi) (hg : SimG κ γ (fun j => !vs.contains j) g mg) (ht : SimT κ γ false tt mt) (he : SimE κ γ false te me) :
    SimE κ γ false (tLc wi g tt te vs) (mLc vs mi mg mt me) := by
  constructor
  intro σ S H F env gd u env' e Q k
  obtain ⟨⟨res, e2⟩, e', e⟩ := bindS e
  cases e
  have q : mF (mLcO vs mi mg mt me) env = some (.lst res, e2) := by
    show ((mLcL vs mi mg mt me env).bind _).bind _ = _
    rw [e']
    show some (U.lst (frzs (res.map .p)), e2) = _
    rw [frzs_map]
  exact (simE_f (simO_lc hi hg ht he)).run gd q Q k
end
end UL
set_option Elab.async false
set_option linter.all false
set_option maxRecDepth 100000
set_option maxHeartbeats 2000000
/-! what is owned walked; calls; fields; new objects -/
namespace UL
open PySem PySem.Spec PyProof.Rows L2 LV
def allP : List Ow → Option (List U)
  | [] => some []
  | w :: ws => (isP w).bind fun u => (allP ws).bind fun us => some (u :: us)
def mLcLV (i : Nat) (vs : List Nat) (g : MG) (tt : M Bool) (te : M U) : M (List U) := fun env => match env[i]? with
  | some (some (.l ws)) => (allP ws).bind fun us => (lcO vs g tt te us [] (env.set i none)).bind fun x => some (x.1, x.2.set i (some (.l ws)))
  | _ => none
def mLcV (i : Nat) (vs : List Nat) (g : MG) (tt : M Bool) (te : M U) : M U := fun env => (mLcLV i vs g tt te env).bind fun x => some (.lst x.1, x.2)
section
variable {κ : String → Addr} {γ : Gh} {ρ : Bool} {fx : Nat → Bool} {K : PySem.W.Frag}
/-- an owned thing put aside -/
theorem Gd.hide {σ : L2.St} {S H : Hp} {F : List Addr} {env : Env} (g : Gd κ γ σ S H F env) {i : Nat} {w : Ow} (e : env[i]? = some (some w)) :
    ∃ v F0 F2, σ[i]? = some (some v) ∧ Gd κ γ σ S H F0 (env.set i none) ∧ RepO κ S H w v F2 ∧ (F0 ++ F2).Nodup ∧ (∀ a, a ∈ F0 ++ F2 ↔ a ∈ F) := by
  obtain ⟨s, F1, F2, F3, h1, rfl, ⟨v, rfl, h3⟩, h4⟩ := g.env.get e
  obtain ⟨nd1, nd2⟩ := nodup_mid g.wf.nd
  have mem : ∀ a, a ∈ (F1 ++ F3) ++ F2 ↔ a ∈ F1 ++ F2 ++ F3 := fun a => by
    simp only [List.mem_append]
    constructor
    · rintro ((ha | ha) | ha) <;> simp [ha]
    · rintro ((ha | ha) | ha) <;> simp [ha]
  refine ⟨v, F1 ++ F3, F2, h1, ⟨⟨g.wf.sub, nd1, fun a ha => g.wf.out a ((mem a).mp (by simp only [List.mem_append] at ha ⊢; exact .inl ha))⟩, ?_⟩, h3, ?_, mem⟩
  · have q := h4 (S' := S) (H' := H) (s' := some v) (w' := none) (F2' := []) (fun _ _ h => h) (fun _ _ => rfl) rfl
    rw [List.append_nil, set_id h1] at q
    exact q
  · refine List.nodup_append.mpr ⟨nd1, (List.nodup_append.mp (List.nodup_append.mp g.wf.nd).1).2.1, fun a ha b hb z => ?_⟩
    subst z
    obtain ⟨q1, q2⟩ := nd2 a hb
    rcases List.mem_append.mp ha with ha | ha
    · exact q1 ha
    · exact q2 ha
/-- .. and put back behind steps that did not see it -/
theorem Gd.back {σ σ' : L2.St} {S H S' H' : Hp} {F F0 F2 F' : List Addr} {env env' : Env} (g : Gd κ γ σ S H F env) {i : Nat} {w : Ow} {v : V} (r : RepO κ S H w v F2) (nd : (F0 ++ F2).Nodup) (mem : ∀ a, a ∈ F0 ++ F2 ↔ a ∈ F)
    (s : Stp κ S H F0 S' H' F') (g' : Gd κ γ σ' S' H' F' env') (hv : σ'[i]? = some (some v)) : ∃ F3, Gd κ γ σ' S' H' F3 (env'.set i (some w)) ∧ Stp κ S H F S' H' (F3) ∧ ∀ a ∈ F3, a ∈ F' ∨ a ∈ F2 := by
  have ap : ∀ a ∈ F2, H' a = H a ∧ a ∉ F' ∧ S' a = none := fun a ha => by
    obtain ⟨o, ho, nx⟩ := RepO.foot w r a ha
    have na : a ∉ F0 := fun z => (List.nodup_append.mp nd).2.2 a z a ha rfl
    obtain ⟨q1, q2, q3⟩ := s.apart g'.wf.sub ho na (g.wf.out a ((mem a).mp (by simp [ha]))) nx
    exact ⟨q1.trans ho.symm, q2, q3⟩
  have wf : WF S' H' (F' ++ F2) := ⟨g'.wf.sub, List.nodup_append.mpr ⟨g'.wf.nd, (List.nodup_append.mp nd).2.1, fun a ha b hb z => by
    subst z
    exact (ap a hb).2.1 ha⟩, fun a ha => by
    rcases List.mem_append.mp ha with ha | ha
    · exact g'.wf.out a ha
    · exact (ap a ha).2.2⟩
  obtain ⟨F3, g3, hs⟩ := g'.put2 wf (RepO.mono s.sub w (fun a ha => (ap a ha).1) r) i
  rw [set_id hv] at g3
  refine ⟨F3, g3, ⟨fun b o hb hh => s.keep b o (fun z => hb ((mem b).mp (by simp [z]))) hh, s.trk, s.sub, fun b o hb => ?_, fun a ha => ?_⟩, fun a ha => List.mem_append.mp (hs a ha)⟩
  · rcases s.new b o hb with z | z | z | z
    · exact .inl z
    · exact .inr (.inl z)
    · exact .inr (.inr (.inl z))
    · exact .inr (.inr (.inr ((mem b).mp (by simp [z]))))
  · rcases List.mem_append.mp (hs a ha) with z | z
    · rcases s.foot a z with z | z
      · exact .inl ((mem a).mp (by simp [z]))
      · exact .inr z
    · exact .inl ((mem a).mp (by simp [z]))
end
end UL
set_option Elab.async false
set_option linter.all false
set_option maxRecDepth 100000
set_option maxHeartbeats 2000000
/-! calls; fields; new objects; places -/
namespace UL
open PySem PySem.Spec PyProof.Rows L2 LV
/-! promises -/
section
variable (κ : String → Addr) (γ : Gh)
def spP (f : List U → Option U) : Sp := fun vs H Q _ => rP κ f vs H Q
/-- the first argument is owned and may be changed -/
def spI (f : Ow → List U → Option (U × Ow)) : Sp := fun vs H Q _ => ∃ S F w us v0 vs' u w', vs = v0 :: vs' ∧ WF S H F ∧ RepO κ S H w v0 F ∧ Reps κ S us vs' ∧ f w us = some (u, w') ∧
  ∀ v S' H' F', Stp κ S H F S' H' F' → WF S' H' F' → RepO κ S' H' w' v0 F' → Rep κ S' u v → Q v H'
end
def hasS (env : Env) (i : Nat) : Option Unit := match env[i]? with
  | some (some _) => some ()
  | _ => none
def atS (env : Env) (i : Nat) : Option Ow := match env[i]? with
  | some (some w) => some w
  | _ => none
def mCallI (i : Nat) (f : Ow → List U → Option (U × Ow)) (a : M (List U)) : M U := fun env => (hasS env i).bind fun _ => (a env).bind fun x => (atS x.2 i).bind fun w => (f w x.1).bind fun z => some (z.1, x.2.set i (some z.2))
section
variable {κ : String → Addr} {γ : Gh} {ρ : Bool} {fx : Nat → Bool} {K : PySem.W.Frag} {E : XK}
theorem simE_call {f : List U → Option U} {n : Nat} {t : TA} {m : M (List U)} (h : SimA κ γ ρ n t m) : SimE κ γ ρ (tCall (spP κ f) [] E t) (mN f m) := by
  constructor
  intro σ S H F env g u env' e Q k
  obtain ⟨⟨x, e1⟩, h1, e⟩ := bindS e
  obtain ⟨z, h3, e⟩ := bindS e
  cases e
  refine h.run g h1 _ fun vs S1 H1 F1 s1 g1 r => ?_
  exact ⟨S1, x, u, g1.wf.sub, by rw [List.append_nil]; exact r, h3, fun v' S' H' p r' => k v' S' H' F1 (s1.trans p.stq) (g1.pure_ p) r'⟩
theorem atS_eq {env : Env} {i : Nat} {w : Ow} (h : atS env i = some w) : env[i]? = some (some w) := by
  unfold atS at h
  split at h
  · rename_i w' hw
    cases h
    exact hw
  · cases h
theorem hasS_val {σ : L2.St} {S H : Hp} {F : List Addr} {env : Env} (g : Gd κ γ σ S H F env) {i : Nat} {u : Unit} (h : hasS env i = some u) : ∃ v, σ[i]? = some (some v) := by
  unfold hasS at h
  split at h
  · rename_i w hw
    obtain ⟨v, hv, _⟩ := loc_root g hw
    exact ⟨v, hv⟩
  · cases h
/-- a step within one slot's foot -/
theorem Gd.inner {σ : L2.St} {S H S1 H1 : Hp} {F F0 F2 F2' : List Addr} {env : Env} (g : Gd κ γ σ S H F env) {i : Nat} {w w' : Ow} {v : V} (g0 : Gd κ γ σ S H F0 (env.set i none)) (hv : σ[i]? = some (some v)) (nd : (F0 ++ F2).Nodup) (mem : ∀ a, a ∈ F0 ++ F2 ↔ a ∈ F)
    (s : Stp κ S H F2 S1 H1 F2') (wf : WF S1 H1 F2') (r : RepO κ S1 H1 w' v F2') : ∃ F3, Gd κ γ σ S1 H1 F3 (env.set i (some w')) ∧ Stp κ S H F S1 H1 F3 ∧ (∀ a ∈ F3, a ∈ F0 ++ F2') ∧ (F0 ++ F2').Nodup ∧ ∀ a ∈ F0, H1 a = H a ∧ S1 a = none := by
  have ap : ∀ a ∈ F0, H1 a = H a ∧ a ∉ F2' ∧ S1 a = none := fun a ha => by
    obtain ⟨o, ho, nx⟩ := g0.env.foot a ha
    have na : a ∉ F2 := fun z => (List.nodup_append.mp nd).2.2 a ha a z rfl
    obtain ⟨q1, q2, q3⟩ := s.apart wf.sub ho na (g0.wf.out a ha) nx
    exact ⟨q1.trans ho.symm, q2, q3⟩
  have nd2 : (F0 ++ F2').Nodup := List.nodup_append.mpr ⟨g0.wf.nd, wf.nd, fun a ha b hb z => by
    subst z
    exact (ap a ha).2.1 hb⟩
  have wf2 : WF S1 H1 (F0 ++ F2') := ⟨wf.sub, nd2, fun a ha => by
    rcases List.mem_append.mp ha with ha | ha
    · exact (ap a ha).2.2
    · exact wf.out a ha⟩
  have g1 : Gd κ γ σ S1 H1 F0 (env.set i none) := ⟨wf2.left, g0.env.mono s.sub fun a ha => (ap a ha).1⟩
  obtain ⟨F3, g3, hs⟩ := g1.put2 wf2 r i
  rw [set_id hv, List.set_set] at g3
  refine ⟨F3, g3, ⟨fun b o hb h => s.keep b o (fun z => hb ((mem b).mp (by simp [z]))) h, s.trk, s.sub, fun b o h => ?_, fun a ha => ?_⟩, hs, nd2, fun a ha => ⟨(ap a ha).1, (ap a ha).2.2⟩⟩
  · rcases s.new b o h with z | z | z | z
    · exact .inl z
    · exact .inr (.inl z)
    · exact .inr (.inr (.inl z))
    · exact .inr (.inr (.inr ((mem b).mp (by simp [z]))))
  · rcases List.mem_append.mp (hs a ha) with z | z
    · exact .inl ((mem a).mp (by simp [z]))
    · rcases s.foot a z with z | z
      · exact .inl ((mem a).mp (by simp [z]))
      · exact .inr z
theorem callI_core {i : Nat} {f : Ow → List U → Option (U × Ow)} {σ : L2.St} {S H : Hp} {F : List Addr} {env : Env} {us : List U} {vs : List V} {w w' : Ow} {v0 : V} {u : U} (g : Gd κ γ σ S H F env) (hv : σ[i]? = some (some v0)) (r : Reps κ S us vs) (hw : env[i]? = some (some w)) (hf : f w us = some (u, w')) (Q : VK)
    (k : ∀ v S' H' F', Stp κ S H F S' H' F' → Gd κ γ σ S' H' F' (env.set i (some w')) → Rep κ S' u v → Q v H') : spI κ f (v0 :: vs) H Q E := by
  obtain ⟨v, F0, F2, hv', g0, rw', nd, mem⟩ := g.hide hw
  rw [hv] at hv'
  cases hv'
  have wf2 : WF S H F2 := ⟨g.wf.sub, (List.nodup_append.mp nd).2.1, fun a ha => g.wf.out a ((mem a).mp (by simp [ha]))⟩
  refine ⟨S, F2, w, us, v0, vs, u, w', rfl, wf2, rw', r, hf, fun v' S' H' F' s' wf' r' ru => ?_⟩
  obtain ⟨F3, g3, s3, _⟩ := g.inner (w := w) g0 hv nd mem s' wf' r'
  exact k v' S' H' F3 s3 g3 ru
theorem simE_callI {i n : Nat} {f : Ow → List U → Option (U × Ow)} {t : TA} {m : M (List U)} (h : SimA κ γ false n t m) : SimE κ γ false (tCall (spI κ f) [] E (tCons (tVar i) t)) (mCallI i f m) := by
  constructor
  intro σ S H F env g u env' e Q k
  obtain ⟨_, h0, e⟩ := bindS e
  obtain ⟨⟨x, e1⟩, h1, e⟩ := bindS e
  obtain ⟨w, h2, e⟩ := bindS e
  obtain ⟨⟨u', w'⟩, h3, e⟩ := bindS e
  cases e
  obtain ⟨v, hv⟩ := hasS_val g h0
  refine ⟨v, hv, h.run g h1 _ fun vs S1 H1 F1 s1 g1 r => ?_⟩
  show spI κ f ((v :: vs) ++ []) H1 Q E
  rw [List.append_nil]
  exact callI_core g1 hv r (atS_eq h2) h3 _ fun v' S' H' F' s' g' ru => k v' S' H' F' (s1.stp.trans s').stq g' ru
/-! fields -/
/-- which attributes of which classes are read off the instance -/
structure Tb (K : PySem.W.Frag) (κ : String → Addr) (fd : String → Str → Bool) : Prop where
  ok : ∀ c f, fd c f = true → Cls K (κ c) ∧ NoAttr K (κ c) f
end
end UL
set_option Elab.async false
set_option linter.all false
set_option maxRecDepth 100000
set_option maxHeartbeats 4000000
namespace LW
open PySem PySem.Spec PyProof.Rows L2 LV
def top (i : Nat) : Stmt := PySem.Challenge.pw_surelevels_k01_errors_made.main.body.getD i (.Pass ⟨0, 0, 0, 0⟩)
end LW
namespace LM
/-! fractions as pairs -/
def rwh (o u : Int) : Int := if u < 0 then -(o.gcd u : Int) else (o.gcd u : Int)
def rO (o u : Int) : Int := o.fdiv (rwh o u)
def rD (o u : Int) : Int := u.fdiv (rwh o u)
def Red (o u : Int) : Prop := 0 < u ∧ o.gcd u = 1
theorem gcd_pos {o u : Int} (h : u ≠ 0) : 0 < o.gcd u := Int.gcd_pos_of_ne_zero_right o h
theorem rwh_ne {o u : Int} (h : u ≠ 0) : rwh o u ≠ 0 := by
  have := gcd_pos (o := o) h
  unfold rwh
  split <;> omega
theorem rwh_dvd_o (o u : Int) : rwh o u ∣ o := by
  unfold rwh
  split
  · exact Int.neg_dvd.mpr (Int.gcd_dvd_left o u)
  · exact Int.gcd_dvd_left o u
theorem rwh_dvd_u (o u : Int) : rwh o u ∣ u := by
  unfold rwh
  split
  · exact Int.neg_dvd.mpr (Int.gcd_dvd_right o u)
  · exact Int.gcd_dvd_right o u
theorem fdiv_dvd {a b : Int} (h : b ∣ a) : a.fdiv b = a / b := by
  rw [Int.fdiv_eq_ediv_of_dvd h]
theorem rO_mul (o u : Int) : rO o u * rwh o u = o := by
  unfold rO
  rw [fdiv_dvd (rwh_dvd_o o u)]
  exact Int.ediv_mul_cancel (rwh_dvd_o o u)
theorem rD_mul (o u : Int) : rD o u * rwh o u = u := by
  unfold rD
  rw [fdiv_dvd (rwh_dvd_u o u)]
  exact Int.ediv_mul_cancel (rwh_dvd_u o u)
/-- what such a pair is, it is by these -/
theorem red_unique {o u x y w : Int} (hu : u ≠ 0) (hr : Red x y) (h1 : x * w = o) (h2 : y * w = u) : rO o u = x ∧ rD o u = y := by
  have hw : w ≠ 0 := fun z => by
    rw [z, Int.mul_zero] at h2
    omega
  have hg : o.gcd u = w.natAbs := by
    rw [← h1, ← h2, Int.gcd_mul_right, hr.2, Nat.one_mul]
  have hs : rwh o u = w := by
    unfold rwh
    rw [hg]
    have hy := hr.1
    by_cases hneg : w < 0
    · have : u < 0 := by
        rw [← h2]
        exact Int.mul_neg_of_pos_of_neg hy hneg
      rw [if_pos this]
      omega
    · have : ¬ u < 0 := by
        have : 0 < y * w := Int.mul_pos hy (by omega)
        omega
      rw [if_neg this]
      omega
  unfold rO rD
  rw [hs]
  constructor
  · rw [← h1]
    exact Int.mul_fdiv_cancel x hw
  · rw [← h2]
    exact Int.mul_fdiv_cancel y hw
theorem red_of {o u : Int} (hu : u ≠ 0) : Red (rO o u) (rD o u) := by
  have hg := gcd_pos (o := o) hu
  have e := Int.gcd_ediv_gcd_ediv_gcd (i := o) (j := u) hg
  have hgd := Int.gcd_dvd_right o u
  unfold rO rD
  rw [fdiv_dvd (rwh_dvd_o o u), fdiv_dvd (rwh_dvd_u o u)]
  by_cases hneg : u < 0
  · have hw : rwh o u = -(o.gcd u : Int) := by
      unfold rwh
      rw [if_pos hneg]
    rw [hw, Int.ediv_neg, Int.ediv_neg]
    refine ⟨?_, ?_⟩
    · have : u / (o.gcd u : Int) < 0 := Int.ediv_neg_of_neg_of_pos hneg (by omega)
      omega
    · rw [Int.gcd_neg, Int.neg_gcd]
      exact e
  · have hw : rwh o u = (o.gcd u : Int) := by
      unfold rwh
      rw [if_neg hneg]
    rw [hw]
    refine ⟨?_, e⟩
    exact Int.ediv_pos_of_pos_of_dvd (by omega) (by omega) hgd
theorem red_scale {o u s : Int} (h : Red o u) (hs : s ≠ 0) : rO (o * s) (u * s) = o ∧ rD (o * s) (u * s) = u :=
  red_unique (w := s) (by
    have := h.1
    exact Int.mul_ne_zero (by omega) hs) h rfl rfl
/-! bounds -/
theorem abs_rO {o u : Int} (hu : u ≠ 0) : (rO o u).natAbs ≤ o.natAbs := by
  have e := rO_mul o u
  have hw := rwh_ne (o := o) hu
  have : (rO o u).natAbs * (rwh o u).natAbs = o.natAbs := by rw [← Int.natAbs_mul, e]
  have hp : 0 < (rwh o u).natAbs := by omega
  rw [← this]
  exact Nat.le_mul_of_pos_right _ hp
theorem abs_rD {o u : Int} (hu : u ≠ 0) : (rD o u).natAbs ≤ u.natAbs := by
  have e := rD_mul o u
  have hw := rwh_ne (o := o) hu
  have : (rD o u).natAbs * (rwh o u).natAbs = u.natAbs := by rw [← Int.natAbs_mul, e]
  have hp : 0 < (rwh o u).natAbs := by omega
  rw [← this]
  exact Nat.le_mul_of_pos_right _ hp
end LM
set_option Elab.async false
set_option linter.all false
set_option maxRecDepth 100000
set_option maxHeartbeats 4000000
namespace LW
open PySem PySem.Spec PyProof.Rows L2 LV LM
/-! the class Exact -/
structure XC (K : PySem.W.Frag) (mg : Str → Option Value) (C : Addr) : Prop extends Bt mg where
  cl : Cls K C
  nO : NoAttr K C "over"
  nU : NoAttr K C "under"
  own : OwnC K C
  mgC : mg "Exact" = some (.ref C)
  ha : PySem.W.findIn K (.ref C) "__class__" = some (some (.builtin "object.__class__"))
  hn : PySem.W.specialIn K (.builtin "object.__class__") "__get__" = some (some (.builtin "getset_descriptor.__get__"))
  htk : PySem.W.takesIn K (.builtin "object.__class__") = some true
  hm : PySem.W.mroIn K C (.type "object") = some true
  kXI : PySem.W.kitOne K (.ref C) (.type "int") = some false
  kXB : PySem.W.kitOne K (.ref C) (.type "bool") = some false
  kXL : PySem.W.kitOne K (.ref C) (.type "list") = some false
  kXT : PySem.W.kitOne K (.ref C) (.type "tuple") = some false
  kIX : PySem.W.kitOne K (.type "int") (.ref C) = some false
  kLX : PySem.W.kitOne K (.type "list") (.ref C) = some false
  kTX : PySem.W.kitOne K (.type "tuple") (.ref C) = some false
  f_radd : ∃ g, PySem.W.findIn K (.ref C) "__radd__" = some (some (.ref g))
  f_rsub : ∃ g, PySem.W.findIn K (.ref C) "__rsub__" = some (some (.ref g))
  f_rmul : ∃ g, PySem.W.findIn K (.ref C) "__rmul__" = some (some (.ref g))
def exF (o u : Int) : List (Str × V) := [("over", .int o), ("under", .int u)]
/-- v is an Exact over o under u -/
def IsX (C : Addr) (H : Hp) (v : V) (o u : Int) : Prop := ∃ x dx, v = .ref x ∧ H x = some (.ins C dx (exF o u))
theorem IsX.same {C : Addr} {H H1 : Hp} {v : V} {o u : Int} (e : Same H H1) (h : IsX C H v o u) : IsX C H1 v o u := by
  obtain ⟨x, dx, rfl, h⟩ := h
  exact ⟨x, dx, rfl, e _ _ h⟩
theorem IsX.but {K : PySem.W.Frag} {a C : Addr} {H H1 : Hp} {v : V} {o u : Int} (e : Bus a H H1) (s : Stt K H a) (h : IsX C H v o u) : IsX C H1 v o u := by
  obtain ⟨x, dx, rfl, h⟩ := h
  exact ⟨x, dx, rfl, e.get s h rfl⟩
/-- v is a number: an int or an Exact -/
def IsN (C : Addr) (H : Hp) (v : V) (o u : Int) : Prop := (v = .int o ∧ u = 1) ∨ IsX C H v o u
theorem IsN.same {C : Addr} {H H1 : Hp} {v : V} {o u : Int} (e : Same H H1) (h : IsN C H v o u) : IsN C H1 v o u := h.imp id (IsX.same e)
theorem IsN.num {C : Addr} {H : Hp} {v : V} {o u : Int} (h : IsN C H v o u) : NumV C H v := by
  rcases h with ⟨rfl, _⟩ | ⟨x, dx, rfl, h⟩
  · exact .inl ⟨_, rfl⟩
  · exact .inr ⟨x, dx, _, rfl, h⟩
abbrev Big (i : Int) : Prop := i.natAbs < 2 ^ 8500
theorem mulB {i j : Int} (h : Big i) (h' : Big j) : IntMulOk i j := (wide_mul h h' (by decide) (by decide) (by decide)).ok
abbrev Sm (i : Int) : Prop := i.natAbs < 2 ^ 4000
section
variable {P : Program} {w : World} {K : PySem.W.Frag} {mg : Str → Option Value} {base : Heap} {C : Addr}
/-! is_integer -/
/-! common -/
/-! Exact(over, under) -/
/-! part_of -/
end
end LW
set_option Elab.async false
set_option linter.all false
set_option maxRecDepth 100000
set_option maxHeartbeats 4000000
namespace LW
open PySem PySem.Spec PyProof.Rows L2 LV LM
def spBin (C : Addr) (f g : Int → Int → Int → Int → Int) : Sp := fun vs H Q _ => ∃ (x y : V) (o u p q : Int), vs = [x, y] ∧ IsX C H x o u ∧ IsN C H y p q ∧ Sm o ∧ Sm u ∧ Sm p ∧ Sm q ∧ u ≠ 0 ∧ q ≠ 0 ∧
  ∀ v H', Same H H' → IsX C H' v (rO (f o u p q) (g o u p q)) (rD (f o u p q) (g o u p q)) → Q v H'
abbrev spAdd (C : Addr) : Sp := spBin C (fun o u p q => o * q + p * u) (fun _ u _ q => u * q)
abbrev spSub (C : Addr) : Sp := spBin C (fun o u p q => o * q - p * u) (fun _ u _ q => u * q)
abbrev spMul (C : Addr) : Sp := spBin C (fun o _ p _ => o * p) (fun _ u _ q => u * q)
abbrev spRadd (C : Addr) : Sp := spBin C (fun o u p q => p * u + o * q) (fun _ u _ q => q * u)
abbrev spRsub (C : Addr) : Sp := spBin C (fun o u p q => p * u - o * q) (fun _ u _ q => q * u)
abbrev spRmul (C : Addr) : Sp := spBin C (fun o _ p _ => p * o) (fun _ u _ q => q * u)
section
variable {P : Program} {w : World} {K : PySem.W.Frag} {mg : Str → Option Value} {base : Heap} {C : Addr}
def spNeg (C : Addr) : Sp := fun vs H Q _ => ∃ (x : V) (o u : Int), vs = [x] ∧ IsX C H x o u ∧ Sm u ∧ u ≠ 0 ∧ ∀ v H', Same H H' → IsX C H' v (rO (-o) u) (rD (-o) u) → Q v H'
/-- a number as results are told -/
def TN (C : Addr) (H : Hp) (v : V) (o u : Int) : Prop := (u = 1 ∧ v = .int o) ∨ (u ≠ 1 ∧ IsX C H v o u)
theorem TN.same {H H1 : Hp} {v : V} {o u : Int} (e : Same H H1) (h : TN C H v o u) : TN C H1 v o u := h.imp id fun ⟨n, x⟩ => ⟨n, x.same e⟩
end
end LW
set_option Elab.async false
set_option linter.all false
set_option maxRecDepth 100000
set_option maxHeartbeats 4000000
namespace LW
open PySem PySem.Spec PyProof.Rows L2 LV LM
abbrev typs : List String := ["NoneType", "bool", "int", "str", "list", "dict", "tuple"]
/-- the class Exact beside all kinds of objects -/
structure XE (K : PySem.W.Frag) (mg : Str → Option Value) (C : Addr) : Prop extends XC K mg C where
  kT : ∀ t ∈ typs, PySem.W.kitOne K (.type t) (.ref C) = some false ∧ PySem.W.subIn K (.type t) (.ref C) = some false ∧ PySem.W.subIn K (.ref C) (.type t) = some false
  ne : PySem.W.findIn K (.ref C) "__ne__" = some (some (.builtin "object.__ne__"))
section
variable {P : Program} {w : World} {K : PySem.W.Frag} {mg : Str → Option Value} {base : Heap} {C : Addr}
/-! is_number -/
def spNum (K : PySem.W.Frag) (C : Addr) : Sp := fun vs H Q _ => ∃ (v : V) (t : Value) (b c d : Bool), vs = [v] ∧ TyX K H v t ∧ PySem.W.kitOne K t (.type "int") = some b ∧ PySem.W.kitOne K t (.type "bool") = some c ∧ PySem.W.kitOne K t (.ref C) = some d ∧ Q (.bl ((b && !c) || d)) H
/-- whether a thing is a number, by its type -/
def NumB (K : PySem.W.Frag) (C : Addr) (H : Hp) (v : V) (r : Bool) : Prop := ∃ (t : Value) (b c d : Bool), TyX K H v t ∧ PySem.W.kitOne K t (.type "int") = some b ∧ PySem.W.kitOne K t (.type "bool") = some c ∧ PySem.W.kitOne K t (.ref C) = some d ∧ r = ((b && !c) || d)
theorem NumB.sp {H : Hp} {v : V} {r : Bool} {Q : VK} {E : XK} (h : NumB K C H v r) (q : Q (.bl r) H) : spNum K C [v] H Q E := by
  obtain ⟨t, b, c, d, h1, h2, h3, h4, rfl⟩ := h
  exact ⟨v, t, b, c, d, rfl, h1, h2, h3, h4, q⟩
/-! order -/
def spCmp (C : Addr) (r : Int → Int → Int → Int → Bool) : Sp := fun vs H Q _ => ∃ (x y : V) (o u p q : Int), vs = [x, y] ∧ IsX C H x o u ∧ IsN C H y p q ∧ Sm o ∧ Sm u ∧ Sm p ∧ Sm q ∧ ∀ H', Same H H' → Q (.bl (r o u p q)) H'
abbrev spLt (C : Addr) : Sp := spCmp C fun o u p q => decide (o * q < p * u)
abbrev spLe (C : Addr) : Sp := spCmp C fun o u p q => decide (o * q ≤ p * u)
abbrev spGt (C : Addr) : Sp := spCmp C fun o u p q => decide (p * u < o * q)
abbrev spGe (C : Addr) : Sp := spCmp C fun o u p q => decide (p * u ≤ o * q)
/-! equality: with a number by value, else False -/
def spEqX (K : PySem.W.Frag) (C : Addr) : Sp := fun vs H Q _ => ∃ (x y : V) (o u : Int), vs = [x, y] ∧ IsX C H x o u ∧
  ((∃ p q, IsN C H y p q ∧ ∀ H', Same H H' → Q (.bl (decide (o = p) && decide (u = q))) H') ∨ (NumB K C H y false ∧ ∀ H', Same H H' → Q (.bl false) H'))
end
end LW
namespace LM
/-! fractions by their value -/
theorem red_rat (q : Rat) : Red q.num q.den := ⟨by have := q.den_pos; omega, by
  have := q.reduced
  unfold Nat.Coprime at this
  exact this⟩
theorem red_same {o u p q : Int} (h1 : Red o u) (h2 : Red p q) (h : o * q = p * u) : o = p ∧ u = q := by
  have a := red_scale h1 (s := q) (by have := h2.1; omega)
  have b := red_scale h2 (s := u) (by have := h1.1; omega)
  rw [h, Int.mul_comm u q] at a
  exact ⟨a.1.symm.trans b.1, a.2.symm.trans b.2⟩
theorem rat_of {o u : Int} (hu : u ≠ 0) : rO o u = (Rat.divInt o u).num ∧ rD o u = ((Rat.divInt o u).den : Int) := by
  refine red_same (red_of hu) (red_rat _) ?_
  generalize hq : Rat.divInt o u = q
  have hd : (q.den : Int) ≠ 0 := by have := q.den_pos; omega
  have e := (Rat.divInt_eq_divInt_iff hu hd).mp (hq.trans (Rat.num_divInt_den q).symm)
  have e1 := rO_mul o u
  have e2 := rD_mul o u
  have hw := rwh_ne (o := o) hu
  refine Int.eq_of_mul_eq_mul_right hw ?_
  calc rO o u * q.den * rwh o u = (rO o u * rwh o u) * q.den := by rw [Int.mul_right_comm]
    _ = o * q.den := by rw [e1]
    _ = q.num * u := e
    _ = q.num * (rD o u * rwh o u) := by rw [e2]
    _ = q.num * rD o u * rwh o u := by rw [Int.mul_assoc]
theorem den0 (q : Rat) : (q.den : Int) ≠ 0 := by have := q.den_pos; omega
theorem q_add (a b : Rat) : Rat.divInt (a.num * b.den + b.num * a.den) (a.den * b.den) = a + b := by
  rw [← Rat.divInt_add_divInt _ _ (den0 a) (den0 b), Rat.num_divInt_den, Rat.num_divInt_den]
theorem q_mul (a b : Rat) : Rat.divInt (a.num * b.num) (a.den * b.den) = a * b := by
  rw [← Rat.divInt_mul_divInt, Rat.num_divInt_den, Rat.num_divInt_den]
theorem q_div (a b : Rat) : Rat.divInt (a.num * b.den) (a.den * b.num) = a / b := by
  rw [← Rat.divInt_mul_divInt, Rat.num_divInt_den, Rat.div_def]
  congr 1
  rw [← Rat.inv_divInt, Rat.num_divInt_den]
theorem num0 {a : Rat} (h : a ≠ 0) : a.num ≠ 0 := fun z => h (Rat.num_eq_zero.mp z)
/-! sizes -/
def Ht (n : Nat) (q : Rat) : Prop := q.num.natAbs < 2 ^ n ∧ q.den < 2 ^ n
theorem Ht.mono {n m : Nat} {q : Rat} (h : Ht n q) (l : n ≤ m) : Ht m q := ⟨Nat.lt_of_lt_of_le h.1 (Nat.pow_le_pow_right (by decide) l), Nat.lt_of_lt_of_le h.2 (Nat.pow_le_pow_right (by decide) l)⟩
theorem ht_div {o u : Int} {n : Nat} (hu : u ≠ 0) (h1 : o.natAbs < 2 ^ n) (h2 : u.natAbs < 2 ^ n) : Ht n (Rat.divInt o u) := by
  obtain ⟨e1, e2⟩ := rat_of (o := o) hu
  have b1 := abs_rO (o := o) hu
  have b2 := abs_rD (o := o) hu
  rw [e1] at b1
  rw [e2] at b2
  exact ⟨by omega, by omega⟩
theorem mul_lt2 {a b n m : Nat} (h1 : a < 2 ^ n) (h2 : b < 2 ^ m) : a * b < 2 ^ (n + m) := by
  rw [Nat.pow_add]
  rcases Nat.eq_zero_or_pos b with rfl | hb
  · rw [Nat.mul_zero]
    exact Nat.mul_pos (Nat.two_pow_pos n) (Nat.two_pow_pos m)
  · exact Nat.mul_lt_mul_of_lt_of_le h1 (Nat.le_of_lt h2) (by omega)
theorem Ht.add {a b : Rat} {n m : Nat} (h1 : Ht n a) (h2 : Ht m b) : Ht (n + m + 1) (a + b) := by
  rw [← q_add]
  have x1 := mul_lt2 h1.1 h2.2
  have x2 := mul_lt2 h2.1 h1.2
  have x3 := mul_lt2 h1.2 h2.2
  rw [Nat.add_comm m n] at x2
  have e : 2 ^ (n + m + 1) = 2 ^ (n + m) + 2 ^ (n + m) := by rw [Nat.pow_succ]; omega
  refine ht_div (Int.mul_ne_zero (den0 a) (den0 b)) ?_ ?_
  · have y1 : (a.num * b.den).natAbs = a.num.natAbs * b.den := by rw [Int.natAbs_mul]; rfl
    have y2 : (b.num * a.den).natAbs = b.num.natAbs * a.den := by rw [Int.natAbs_mul]; rfl
    have := Int.natAbs_add_le (a.num * b.den) (b.num * a.den)
    omega
  · have y1 : ((a.den : Int) * b.den).natAbs = a.den * b.den := by rw [Int.natAbs_mul]; rfl
    omega
theorem Ht.neg {a : Rat} {n : Nat} (h : Ht n a) : Ht n (-a) := by
  refine ⟨?_, ?_⟩
  · rw [Rat.neg_num, Int.natAbs_neg]; exact h.1
  · rw [Rat.neg_den]; exact h.2
theorem Ht.sub {a b : Rat} {n m : Nat} (h1 : Ht n a) (h2 : Ht m b) : Ht (n + m + 1) (a - b) := by
  rw [Rat.sub_eq_add_neg]
  exact h1.add h2.neg
theorem Ht.mul {a b : Rat} {n m : Nat} (h1 : Ht n a) (h2 : Ht m b) : Ht (n + m) (a * b) := by
  rw [← q_mul]
  have x1 := mul_lt2 h1.1 h2.1
  have x3 := mul_lt2 h1.2 h2.2
  refine ht_div (Int.mul_ne_zero (den0 a) (den0 b)) ?_ ?_
  · rw [Int.natAbs_mul]; exact x1
  · rw [Int.natAbs_mul]; exact x3
theorem Ht.div {a b : Rat} {n m : Nat} (h1 : Ht n a) (h2 : Ht m b) (hb : b ≠ 0) : Ht (n + m) (a / b) := by
  rw [← q_div]
  have x1 := mul_lt2 h1.1 h2.2
  have x3 := mul_lt2 h1.2 h2.1
  refine ht_div (Int.mul_ne_zero (den0 a) (num0 hb)) ?_ ?_
  · rw [Int.natAbs_mul]; exact x1
  · rw [Int.natAbs_mul]; exact x3
/-! two lists, item by item -/
def All2 {α β : Type _} (R : α → β → Prop) : List α → List β → Prop
  | [], [] => True
  | a :: as, b :: bs => R a b ∧ All2 R as bs
  | _, _ => False
section
variable {α β : Type _} {R S : α → β → Prop}
theorem All2.imp (h : ∀ a b, R a b → S a b) : ∀ {as : List α} {bs : List β}, All2 R as bs → All2 S as bs
  | [], [], _ => trivial
  | _ :: _, _ :: _, x => ⟨h _ _ x.1, All2.imp h x.2⟩
  | [], _ :: _, x => x.elim
  | _ :: _, [], x => x.elim
theorem All2.len : ∀ {as : List α} {bs : List β}, All2 R as bs → as.length = bs.length
  | [], [], _ => rfl
  | _ :: _, _ :: _, x => congrArg Nat.succ (All2.len x.2)
  | [], _ :: _, x => x.elim
  | _ :: _, [], x => x.elim
theorem All2.app : ∀ {as : List α} {bs : List β} {cs : List α} {ds : List β}, All2 R as bs → All2 R cs ds → All2 R (as ++ cs) (bs ++ ds)
  | [], [], _, _, _, y => y
  | _ :: _, _ :: _, _, _, x, y => ⟨x.1, All2.app x.2 y⟩
  | [], _ :: _, _, _, x, _ => x.elim
  | _ :: _, [], _, _, x, _ => x.elim
theorem All2.snoc {as : List α} {bs : List β} {a : α} {b : β} (h : All2 R as bs) (r : R a b) : All2 R (as ++ [a]) (bs ++ [b]) := h.app ⟨r, trivial⟩
theorem All2.get : ∀ {as : List α} {bs : List β} {i : Nat} {a : α}, All2 R as bs → as[i]? = some a → ∃ b, bs[i]? = some b ∧ R a b
  | _ :: _, b :: _, 0, _, x, h => by
    simp only [List.getElem?_cons_zero, Option.some.injEq] at h
    exact ⟨b, rfl, h ▸ x.1⟩
  | _ :: _, _ :: _, i + 1, _, x, h => by
    simp only [List.getElem?_cons_succ] at h ⊢
    exact All2.get x.2 h
  | [], [], _, _, _, h => by simp at h
  | [], _ :: _, _, _, x, _ => x.elim
  | _ :: _, [], _, _, x, _ => x.elim
theorem All2.at : ∀ {as : List α} {bs : List β} {i : Nat} {b : β}, All2 R as bs → bs[i]? = some b → ∃ a, as[i]? = some a ∧ R a b
  | a :: _, _ :: _, 0, _, x, h => by
    simp only [List.getElem?_cons_zero, Option.some.injEq] at h
    exact ⟨a, rfl, h ▸ x.1⟩
  | _ :: _, _ :: _, i + 1, _, x, h => by
    simp only [List.getElem?_cons_succ] at h ⊢
    exact All2.at x.2 h
  | [], [], _, _, _, h => by simp at h
  | [], _ :: _, _, _, x, _ => x.elim
  | _ :: _, [], _, _, x, _ => x.elim
theorem All2.take : ∀ {as : List α} {bs : List β} (n : Nat), All2 R as bs → All2 R (as.take n) (bs.take n)
  | [], [], n, _ => by simp [All2]
  | _ :: _, _ :: _, 0, _ => by simp [All2]
  | _ :: _, _ :: _, n + 1, x => ⟨x.1, All2.take n x.2⟩
  | [], _ :: _, _, x => x.elim
  | _ :: _, [], _, x => x.elim
theorem All2.dropLast {as : List α} {bs : List β} (h : All2 R as bs) : All2 R as.dropLast bs.dropLast := by
  rw [List.dropLast_eq_take, List.dropLast_eq_take, h.len]
  exact h.take _
theorem All2.map {γ : Type _} {f : γ → α} {g : γ → β} (h : ∀ c, R (f c) (g c)) : ∀ cs : List γ, All2 R (cs.map f) (cs.map g)
  | [] => trivial
  | _ :: cs => ⟨h _, All2.map h cs⟩
theorem All2.split : ∀ {as : List α} {bs cs : List β}, All2 R as (bs ++ cs) → ∃ a1 a2, as = a1 ++ a2 ∧ All2 R a1 bs ∧ All2 R a2 cs
  | as, [], cs, h => ⟨[], as, rfl, trivial, h⟩
  | a :: as, b :: bs, cs, h => by
    obtain ⟨a1, a2, e, h1, h2⟩ := All2.split (bs := bs) h.2
    exact ⟨a :: a1, a2, by rw [e]; rfl, ⟨h.1, h1⟩, h2⟩
  | [], _ :: _, _, h => h.elim
theorem All2.one {as : List α} {b : β} (h : All2 R as [b]) : ∃ a, as = [a] ∧ R a b := by
  match as, h with
  | [a], h => exact ⟨a, rfl, h.1⟩
theorem All2.two {as : List α} {b c : β} (h : All2 R as [b, c]) : ∃ a d, as = [a, d] ∧ R a b ∧ R d c := by
  match as, h with
  | [a, d], h => exact ⟨a, d, rfl, h.1, h.2.1⟩
theorem All2.drop : ∀ {as : List α} {bs : List β} (n : Nat), All2 R as bs → All2 R (as.drop n) (bs.drop n)
  | [], [], n, _ => by simp [All2]
  | _ :: _, _ :: _, 0, h => h
  | _ :: _, _ :: _, n + 1, h => All2.drop n h.2
  | [], _ :: _, _, h => h.elim
  | _ :: _, [], _, h => h.elim
end
end LM
set_option Elab.async false
set_option linter.all false
set_option maxRecDepth 100000
set_option maxHeartbeats 4000000
namespace LW
open PySem PySem.Spec PyProof.Rows L2 LV LM
theorem Sm.le {i : Int} (h : i.natAbs ≤ 10 ^ 38) : Sm i := Nat.lt_of_le_of_lt h (Nat.lt_of_lt_of_le (show 10 ^ 38 < 2 ^ 127 by decide) (Nat.pow_le_pow_right (by decide) (by decide)))
section
variable {P : Program} {w : World} {K : PySem.W.Frag} {mg : Str → Option Value} {base : Heap} {C : Addr}
/-! readings of comparisons -/
section
variable {H : Hp} {vx vy : V} {o u p q : Int} {Q : VK} {r r' : Int → Int → Int → Int → Bool}
/-- an object that is no number -/
structure OthK (K : PySem.W.Frag) (C : Addr) (H : Hp) (v : V) : Prop where
  nb : NumB K C H v false
  nf : NotF K C H v
  lf : ∃ T, Lft K H v T ∧ PySem.W.subIn K (.ref C) (.type T) = some false
end
end
/-! numbers by their value -/
theorem TN.num {C : Addr} {H : Hp} {v : V} {o u : Int} (h : TN C H v o u) : IsN C H v o u := by
  rcases h with ⟨e, rfl⟩ | ⟨_, h⟩
  · exact .inl ⟨rfl, e⟩
  · exact .inr h
section
variable {P : Program} {w : World} {K : PySem.W.Frag} {mg : Str → Option Value} {base : Heap} {C : Addr} {H : Hp} {x y : V} {a b : Rat} {Q : VK} {E : XK}
end
end LW
set_option Elab.async false
set_option linter.all false
set_option maxRecDepth 100000
set_option maxHeartbeats 2000000
/-! operations on pure values -/
namespace UL
open PySem PySem.Spec PyProof.Rows L2 LV
def smQ (r : Rat) : Bool := decide (r.num.natAbs < 2 ^ 4000) && decide (r.den < 2 ^ 4000)
def bigI (i : Int) : Bool := decide (i.natAbs < 2 ^ 8500)
def smI (i : Int) : Bool := decide (i.natAbs < 2 ^ 64)
def mulOk (i j : Int) : Bool := smI i || smI j || (bigI i && bigI j)
def okQ (a b : Rat) (x : U) : Option U := if smQ a && smQ b then some x else none
def addU : U → U → Option U
  | .int i, .int j => some (.int (i + j))
  | .q a, .q b => okQ a b (.q (a + b))
  | .q a, .int j => okQ a j (.q (a + j))
  | .int i, .q b => okQ i b (.q (i + b))
  | .str a, .str b => if a.length + b.length ≤ sizeLine then some (.str (a ++ b)) else none
  | .lst a, .lst b => if a.length + b.length ≤ sizeLine then some (.lst (a ++ b)) else none
  | .tup a, .tup b => if a.length + b.length ≤ sizeLine then some (.tup (a ++ b)) else none
  | _, _ => none
def subU : U → U → Option U
  | .int i, .int j => some (.int (i - j))
  | .q a, .q b => okQ a b (.q (a - b))
  | .q a, .int j => okQ a j (.q (a - j))
  | .int i, .q b => okQ i b (.q (i - b))
  | _, _ => none
def mulU : U → U → Option U
  | .int i, .int j => if mulOk i j then some (.int (i * j)) else none
  | .q a, .q b => okQ a b (.q (a * b))
  | .q a, .int j => okQ a j (.q (a * j))
  | .int i, .q b => okQ i b (.q (i * b))
  | _, _ => none
def negU : U → Option U
  | .int i => some (.int (-i))
  | .q a => if smQ a then some (.q (-a)) else none
  | _ => none
def fdivU : U → U → Option U
  | .int i, .int j => if j ≠ 0 ∧ j.natAbs.log2 < 9000 then some (.int (i.fdiv j)) else none
  | _, _ => none
def modU : U → U → Option U
  | .int i, .int j => if j ≠ 0 then some (.int (i.fmod j)) else none
  | _, _ => none
def powU : U → U → Option U
  | .int i, .int j => if 0 ≤ j ∧ j ≤ 1000000 ∧ i.natAbs < 2 ^ 64 then some (.int (i ^ j.toNat)) else none
  | _, _ => none
def ltU : U → U → Option U
  | .int i, .int j => some (.bl (decide (i < j)))
  | .q a, .q b => okQ a b (.bl (decide (a < b)))
  | .q a, .int j => okQ a j (.bl (decide (a < j)))
  | .int i, .q b => okQ i b (.bl (decide ((i : Rat) < b)))
  | _, _ => none
def leU : U → U → Option U
  | .int i, .int j => some (.bl (decide (i ≤ j)))
  | .q a, .q b => okQ a b (.bl (decide (a ≤ b)))
  | .q a, .int j => okQ a j (.bl (decide (a ≤ j)))
  | .int i, .q b => okQ i b (.bl (decide ((i : Rat) ≤ b)))
  | _, _ => none
def gtU (a b : U) : Option U := match a, b with
  | .int i, .int j => some (.bl (decide (j < i)))
  | .q a, .q b => okQ a b (.bl (decide (b < a)))
  | .q a, .int j => okQ a j (.bl (decide ((j : Rat) < a)))
  | .int i, .q b => okQ i b (.bl (decide (b < (i : Rat))))
  | _, _ => none
def geU (a b : U) : Option U := match a, b with
  | .int i, .int j => some (.bl (decide (j ≤ i)))
  | .q a, .q b => okQ a b (.bl (decide (b ≤ a)))
  | .q a, .int j => okQ a j (.bl (decide ((j : Rat) ≤ a)))
  | .int i, .q b => okQ i b (.bl (decide (b ≤ (i : Rat))))
  | _, _ => none
/-- == of flat values -/
def eqF : U → U → Option Bool
  | .non, .non => some true | .non, .int _ => some false | .int _, .non => some false | .non, .bl _ => some false | .bl _, .non => some false | .non, .str _ => some false | .str _, .non => some false
  | .int i, .int j => some (decide (i = j)) | .bl a, .bl b => some (decide (a = b)) | .str x, .str y => some (decide (x = y))
  | .int _, .str _ => some false | .str _, .int _ => some false | .bl _, .str _ => some false | .str _, .bl _ => some false
  | .q a, .q b => some (decide (a = b)) | .q a, .int j => some (decide (a = j)) | .int i, .q b => some (decide ((i : Rat) = b))
  | .q _, .non => some false | .q _, .bl _ => some false | .q _, .str _ => some false | .q _, .lst _ => some false | .q _, .tup _ => some false | .q _, .dic _ _ => some false
  | .non, .q _ => some false | .bl _, .q _ => some false | .str _, .q _ => some false | .lst _, .q _ => some false | .tup _, .q _ => some false | .dic _ _, .q _ => some false
  | _, _ => none
def allEq (f : U → U → Option Bool) : List U → List U → Option Bool
  | [], [] => some true
  | x :: xs, y :: ys => (f x y).bind fun b => (allEq f xs ys).bind fun c => some (b && c)
  | _, _ => none
/-- == within a depth -/
def eqN : Nat → U → U → Option Bool
  | n + 1, .lst a, .lst b => if a.length = b.length then allEq (eqN n) a b else some false
  | n + 1, .tup a, .tup b => if a.length = b.length then allEq (eqN n) a b else (allEq (eqN n) (a.take b.length) (b.take a.length)).bind fun _ => some false
  | _, a, b => eqF a b
def eqU (n : Nat) (a b : U) : Option U := (eqN n a b).bind fun x => some (.bl x)
def ixU : U → U → Option U
  | .lst us, .int i => atI us i
  | .tup us, .int i => atI us i
  | .atl _ us, .int i => atI us i
  | .str z, .int i => if z.length ≤ sizeLine then (atI z.cps.toList i).bind fun c => some (.str ⟨#[c]⟩) else none
  | _, _ => none
def lenU : List U → Option U
  | [.lst us] => some (.int us.length)
  | [.tup us] => some (.int us.length)
  | [.atl _ us] => some (.int us.length)
  | [.str z] => if z.length ≤ sizeLine then some (.int z.length) else none
  | _ => none
/-- the name of a value's class -/
def tyU : U → String
  | .non => "NoneType" | .bl _ => "bool" | .int _ => "int" | .str _ => "str" | .q _ => "Exact" | .lst _ => "list" | .tup _ => "tuple" | .dic _ _ => "dict" | .obj c _ _ => c | .kt _ => "tuple" | .atl _ _ => "list" | .pd _ => "dict" | .er c _ _ => c
def isiN (T t : String) : Bool := decide (t = T) || (decide (T = "int") && decide (t = "bool"))
def allB : List U → Option (List Bool)
  | [] => some []
  | u :: us => (isB u).bind fun b => (allB us).bind fun bs => some (b :: bs)
def allU : List U → Option U
  | [.lst us] => (allB us).bind fun bs => some (.bl (bs.all id))
  | _ => none
def intU : List U → Option U
  | [.int i] => some (.int i)
  | [.bl b] => some (.int (if b then 1 else 0))
  | _ => none
end UL
set_option Elab.async false
set_option linter.all false
set_option maxRecDepth 100000
set_option maxHeartbeats 4000000
namespace LW
open PySem PySem.Spec PyProof.Rows L2 LV LM UL
/-! operators on pure values -/
abbrev Std (X : Cx) (P : Program) (w : World) (K : PySem.W.Frag) (mg : Str → Option Value) (base : Heap) : Prop := X.prog = P ∧ X.w = w ∧ X.K = K ∧ X.mg = mg ∧ X.base = base
/-- the operators of Exact -/
structure UX (P : Program) (w : World) (K : PySem.W.Frag) (mg : Str → Option Value) (base : Heap) (κ : String → Addr) : Prop where
  T : XE K mg (κ "Exact")
  add : ∀ X, Std X P w K mg base → OwnM X 5 (κ "Exact") "__add__" (spAdd (κ "Exact"))
  sub : ∀ X, Std X P w K mg base → OwnM X 5 (κ "Exact") "__sub__" (spSub (κ "Exact"))
  mul : ∀ X, Std X P w K mg base → OwnM X 5 (κ "Exact") "__mul__" (spMul (κ "Exact"))
  radd : ∀ X, Std X P w K mg base → OwnM X 6 (κ "Exact") "__radd__" (spRadd (κ "Exact"))
  rsub : ∀ X, Std X P w K mg base → OwnM X 6 (κ "Exact") "__rsub__" (spRsub (κ "Exact"))
  rmul : ∀ X, Std X P w K mg base → OwnM X 6 (κ "Exact") "__rmul__" (spRmul (κ "Exact"))
  neg : ∀ X, Std X P w K mg base → OwnM X 5 (κ "Exact") "__neg__" (spNeg (κ "Exact"))
  lt : ∀ X, Std X P w K mg base → OwnM X 5 (κ "Exact") "__lt__" (spLt (κ "Exact"))
  le : ∀ X, Std X P w K mg base → OwnM X 5 (κ "Exact") "__le__" (spLe (κ "Exact"))
  gt : ∀ X, Std X P w K mg base → OwnM X 5 (κ "Exact") "__gt__" (spGt (κ "Exact"))
  ge : ∀ X, Std X P w K mg base → OwnM X 5 (κ "Exact") "__ge__" (spGe (κ "Exact"))
  eq : ∀ X, Std X P w K mg base → OwnM X 5 (κ "Exact") "__eq__" (spEqX K (κ "Exact"))
section
variable {P : Program} {w : World} {K : PySem.W.Frag} {mg : Str → Option Value} {base : Heap} {κ : String → Addr} {γ : Gh}
theorem stay {S H : Hp} (e : Same S H) : StpP κ S H S H := StpP.refl e
theorem stay' {S H H' : Hp} (e : Same S H) (e' : Same H H') : StpP κ S H S H' := ⟨e', fun _ _ h => h, e.trans e', fun _ _ h => .inl h⟩
/-! the other way round: an int on the left -/
section
variable {C : Addr} {H : Hp} {y : V} {i : Int} {b : Rat} {Q : VK} {E : XK}
end
theorem bigI_mul {i j : Int} (h : mulOk i j = true) : IntMulOk i j := by
  unfold mulOk at h
  rw [Bool.or_eq_true, Bool.or_eq_true, Bool.and_eq_true] at h
  rcases h with (h | h) | h
  · have := of_decide_eq_true h
    exact .of_left (intBits_le_64 (by omega) (by omega))
  · have := of_decide_eq_true h
    exact .of_right (intBits_le_64 (by omega) (by omega))
  · exact mulB (of_decide_eq_true h.1) (of_decide_eq_true h.2)
/-! operators of ints alone -/
theorem op_fdivU {X : Cx} : OpR X (binaryOp .FloorDiv) (r2 κ fdivU) := by
  intro pins s σ H x y v u Q I rx ry h
  obtain ⟨S, a, b, c, e, ra, rb, hf, k⟩ := h
  cases a <;> cases b <;> try cases hf
  dsimp only [fdivU] at hf
  split at hf
  · rename_i hz
    cases hf
    cases ra
    cases rb
    exact op_fdivG pins s σ H _ _ v u Q I rx ry ⟨_, _, rfl, rfl, hz, k _ S H (stay e) rfl⟩
  · cases hf
theorem op_modU {X : Cx} : OpR X (binaryOp .Mod) (r2 κ modU) := by
  intro pins s σ H x y v u Q I rx ry h
  obtain ⟨S, a, b, c, e, ra, rb, hf, k⟩ := h
  cases a <;> cases b <;> try cases hf
  dsimp only [modU] at hf
  split at hf
  · rename_i hz
    cases hf
    cases ra
    cases rb
    exact op_modN pins s σ H _ _ v u Q I rx ry ⟨_, _, rfl, rfl, hz, k _ S H (stay e) rfl⟩
  · cases hf
theorem op_powU {X : Cx} : OpR X (binaryOp .Pow) (r2 κ powU) := by
  intro pins s σ H x y v u Q I rx ry h
  obtain ⟨S, a, b, c, e, ra, rb, hf, k⟩ := h
  cases a <;> cases b <;> try cases hf
  dsimp only [powU] at hf
  split at hf
  · rename_i hz
    cases hf
    cases ra
    cases rb
    exact op_pow pins s σ H _ _ v u Q I rx ry ⟨_, _, rfl, rfl, hz, k _ S H (stay e) rfl⟩
  · cases hf
end
end LW
set_option Elab.async false
set_option linter.all false
set_option maxRecDepth 100000
set_option maxHeartbeats 4000000
namespace LW
open PySem PySem.Spec PyProof.Rows L2 LV LM UL
/-! comparisons, subscripts, built-ins on pure values -/
section
variable {P : Program} {w : World} {K : PySem.W.Frag} {mg : Str → Option Value} {base : Heap} {κ : String → Addr} {γ : Gh}
section
variable {C : Addr} {H : Hp} {y : V} {i : Int} {b : Rat} {Q : VK}
end
/-! subscripts -/
theorem atI_reps {S : Hp} {us : List U} {vs : List V} {i : Int} {u : U} (r : Reps κ S us vs) (h : atI us i = some u) : ∃ v, atI vs i = some v ∧ Rep κ S u v := by
  obtain ⟨n, h1, h2⟩ := bindS (show (ixN us.length i).bind (fun n => us[n]?) = some u from h)
  obtain ⟨v, hv, rv⟩ := r.get h2
  refine ⟨v, ?_, rv⟩
  show (ixN vs.length i).bind _ = _
  rw [← r.len, h1]
  exact hv
theorem ix_U {X : Cx} : IxR X (r2 κ ixU) := by
  intro value slice pins s σ H x y v u Q I rx ry h hs
  obtain ⟨S, a, b, c, e, ra, rb, hf, k⟩ := h
  cases a <;> cases b <;> try cases hf
  · rename_i z i
    dsimp only [ixU] at hf
    split at hf
    · rename_i hz
      obtain ⟨ch, hc, hf⟩ := bindS hf
      cases hf
      cases ra
      cases rb
      exact ix_str value slice pins s σ H _ _ v u Q I rx ry ⟨z, i, ch, rfl, rfl, hz, hc, k _ S H (stay e) rfl⟩ hs
    · cases hf
  · rename_i us i
    obtain ⟨p, xs, rfl, hp, r1⟩ := ra
    cases rb
    obtain ⟨x, hx, rx'⟩ := atI_reps r1 hf
    exact ix_list value slice pins s σ H _ _ v u Q I rx ry ⟨p, xs, i, x, rfl, rfl, SqL.of (e _ _ hp), hx, k _ S H (stay e) rx'⟩ hs
  · rename_i us i
    obtain ⟨p, xs, rfl, hp, r1⟩ := ra
    cases rb
    obtain ⟨x, hx, rx'⟩ := atI_reps r1 hf
    exact ix_tup value slice pins s σ H _ _ v u Q I rx ry ⟨p, xs, i, x, rfl, rfl, SqT.of (e _ _ hp), hx, k _ S H (stay e) rx'⟩ hs
  · rename_i us i
    obtain ⟨p, xs, rfl, hp, r1, _⟩ := ra
    cases rb
    obtain ⟨x, hx, rx'⟩ := atI_reps r1 hf
    exact ix_list value slice pins s σ H _ _ v u Q I rx ry ⟨p, xs, i, x, rfl, rfl, SqL.of (e _ _ hp), hx, k _ S H (stay e) rx'⟩ hs
/-! built-ins -/
theorem cr_of {X : Cx} {f : Value} {r r' : List V → Hp → VK → Prop} (h : CallR X f r) (hi : ∀ xs H Q, r' xs H Q → r xs H Q) : CallR X f r' := fun pins s σ H xs us Q I rv q => h pins s σ H xs us Q I rv (hi xs H Q q)
theorem call_lenU {X : Cx} : CallR X (.builtin "len") (rP κ lenU) := fun pins s σ H xs us Q I rv h => by
  obtain ⟨S, ws, u, e, rs, hf, k⟩ := h
  unfold lenU at hf
  split at hf <;> try cases hf
  · obtain ⟨v, _, rfl, ⟨a, ys, rfl, ha, ry⟩, rfl⟩ := rs
    exact call_len_seq pins s σ H _ us Q I rv ⟨a, ys, rfl, .inl (SqL.of (e _ _ ha)), k _ S H (stay e) (by rw [ry.len]; rfl)⟩
  · obtain ⟨v, _, rfl, ⟨a, ys, rfl, ha, ry⟩, rfl⟩ := rs
    exact call_len_seq pins s σ H _ us Q I rv ⟨a, ys, rfl, .inr (SqT.of (e _ _ ha)), k _ S H (stay e) (by rw [ry.len]; rfl)⟩
  · obtain ⟨v, _, rfl, ⟨a, ys, rfl, ha, ry, _⟩, rfl⟩ := rs
    exact call_len_seq pins s σ H _ us Q I rv ⟨a, ys, rfl, .inl (SqL.of (e _ _ ha)), k _ S H (stay e) (by rw [ry.len]; rfl)⟩
  · split at hf
    · rename_i hz
      cases hf
      obtain ⟨v, _, rfl, rfl, rfl⟩ := rs
      exact call_len_str pins s σ H _ us Q I rv ⟨_, rfl, hz, k _ S H (stay e) rfl⟩
    · cases hf
theorem call_intU {X : Cx} : CallR X (.type "int") (rP κ intU) := cr_of call_int1 fun xs H Q h => by
  obtain ⟨S, us, u, e, rs, hf, k⟩ := h
  unfold intU at hf
  split at hf <;> try cases hf
  · obtain ⟨v, _, rfl, rfl, rfl⟩ := rs
    exact .inl ⟨_, rfl, k _ S H (stay e) rfl⟩
  · obtain ⟨v, _, rfl, rfl, rfl⟩ := rs
    exact .inr ⟨_, rfl, k _ S H (stay e) rfl⟩
theorem allB_reps {S : Hp} : ∀ {us : List U} {bs : List Bool} {vs : List V}, allB us = some bs → Reps κ S us vs → vs = bs.map V.bl
  | [], bs, vs, h, r => by
    cases h
    exact r
  | u :: us, bs, vs, h, r => by
    obtain ⟨b, h1, h⟩ := bindS h
    obtain ⟨bs', h2, h⟩ := bindS h
    cases h
    obtain ⟨v, vs', rfl, r1, r2⟩ := r
    rw [isB_rep h1 r1, allB_reps h2 r2]
    rfl
theorem call_allU {X : Cx} (hc : X.calm = true) : CallR X (.builtin "all") (rP κ allU) := cr_of (cr_all hc) fun xs H Q h => by
  obtain ⟨S, us, u, e, rs, hf, k⟩ := h
  unfold allU at hf
  split at hf <;> try cases hf
  obtain ⟨bs, h1, hf⟩ := bindS hf
  cases hf
  obtain ⟨v, _, rfl, ⟨a, ys, rfl, ha, ry⟩, rfl⟩ := rs
  have := allB_reps h1 ry
  subst this
  exact ⟨a, bs, rfl, SqL.of (e _ _ ha), k _ S H (stay e) rfl⟩
end
end LW
set_option Elab.async false
set_option linter.all false
set_option maxRecDepth 100000
set_option maxHeartbeats 4000000
namespace LW
open PySem PySem.Spec PyProof.Rows L2 LV LM UL
/-! == of pure values -/
section
variable {X : Cx} {n : Nat} {C : Addr} {sp : Sp}
end
end LW
set_option Elab.async false
set_option linter.all false
set_option maxRecDepth 100000
set_option maxHeartbeats 4000000
namespace LW
open PySem PySem.Spec PyProof.Rows L2 LV LM UL
section
variable {P : Program} {w : World} {K : PySem.W.Frag} {mg : Str → Option Value} {base : Heap} {κ : String → Addr} {γ : Gh}
end
end LW
set_option Elab.async false
set_option linter.all false
set_option maxRecDepth 100000
set_option maxHeartbeats 2000000
/-! xs.remove(x) by the text's own == -/
namespace GB
open PySem PySem.SeqAt
open AutoSeq1 (wpAny_loadPart')
open MeetsSeq MeetsSeq2 MeetsSeq3 SeqRoads2
open GQ (FinOf call_here)
section
variable {prog : Program} {w : World} {A : Around} {R : Result → Shared → Prop}
end
end GB
namespace LV
open PySem PySem.Spec PyProof.Rows L2
section
variable {X : Cx} {n : Nat} {D : EqvB}
end
end LV
set_option Elab.async false
set_option linter.all false
set_option maxRecDepth 100000
set_option maxHeartbeats 2000000
/-! != of lists and tuples by the text's own == -/
namespace GB
open PySem PySem.SeqAt
open AutoSeq1 (wpAny_loadPart')
open MeetsSeq MeetsSeq2 MeetsSeq3 SeqRoads2
open GQ (FinOf call_here)
section
variable {prog : Program} {w : World} {A : Around} {R : Result → Shared → Prop}
end
section
variable {prog : Program} {w : World} {A : Around} {E : Value → Shared → Prop} {s : Shared}
end
end GB
set_option Elab.async false
set_option linter.all false
set_option maxRecDepth 100000
set_option maxHeartbeats 2000000
/-! != with its answer -/
namespace LV
open PySem PySem.Spec PyProof.Rows L2
section
variable {X : Cx} {n m : Nat} {D D' : EqvB}
end
end LV
set_option Elab.async false
set_option linter.all false
set_option maxRecDepth 100000
set_option maxHeartbeats 2000000
/-! == and != of tuples of any two lengths -/
namespace GB
open PySem PySem.SeqAt
open AutoSeq1 (wpAny_loadPart')
open MeetsSeq MeetsSeq2 MeetsSeq3 SeqRoads2
open GQ (FinOf call_here)
section
variable {prog : Program} {w : World} {A : Around} {R : Result → Shared → Prop}
end
section
variable {prog : Program} {w : World} {A : Around} {E : Value → Shared → Prop} {s : Shared}
end
end GB
namespace LV
open PySem PySem.Spec PyProof.Rows L2
section
variable {X : Cx} {n m : Nat} {D : EqvB}
end
end LV
set_option Elab.async false
set_option linter.all false
set_option maxRecDepth 100000
set_option maxHeartbeats 4000000
namespace LW
open PySem PySem.Spec PyProof.Rows L2 LV LM UL
section
variable {P : Program} {w : World} {K : PySem.W.Frag} {mg : Str → Option Value} {base : Heap} {κ : String → Addr} {γ : Gh}
end
end LW
set_option Elab.async false
set_option linter.all false
set_option maxRecDepth 100000
set_option maxHeartbeats 2000000
/-! further operations on pure values -/
namespace UL
open PySem PySem.Spec PyProof.Rows L2 LV
mutual
def toD : U → Option PyData
  | .non => some .none
  | .bl b => some (.bool b)
  | .int i => some (.int i)
  | .str x => some (.str x)
  | .lst us => (toDs us).bind fun ds => some (.list ds)
  | .tup us => (toDs us).bind fun ds => some (.tuple ds)
  | _ => none
def toDs : List U → Option (List PyData)
  | [] => some []
  | u :: us => (toD u).bind fun d => (toDs us).bind fun ds => some (d :: ds)
end
/-- != -/
def neU : U → U → Option U
  | .lst us, .lst [] => some (.bl (!us.isEmpty))
  | .q a, .q b => some (.bl (!decide (a = b)))
  | .q a, .int j => some (.bl (!decide (a = j)))
  | .q _, .non => some (.bl true) | .q _, .bl _ => some (.bl true) | .q _, .str _ => some (.bl true)
  | a, b => (toD a).bind fun d => (toD b).bind fun e => if SeqAt.shaped d && SeqAt.shaped e then some (.bl (!PyData.eqv d e)) else none
def addI (a b : U) : Option U := (isI a).bind fun i => (isI b).bind fun j => some (.int (i + j))
/-- x in xs, flat things -/
def flatU : U → Bool
  | .non => true | .bl _ => true | .int _ => true | .str _ => true | _ => false
def eqFl : U → U → Bool
  | .non, .non => true
  | .bl a, .bl b => a == b
  | .bl a, .int b => (if a then 1 else 0) == b
  | .int a, .bl b => a == (if b then 1 else 0)
  | .int a, .int b => a == b
  | .str a, .str b => a == b
  | _, _ => false
def inU (x y : U) : Option U := (seqU y).bind fun us => if flatU x && us.all flatU then some (.bl (us.any fun u => eqFl u x)) else none
def isBU (a b : U) : Option U := (isB a).bind fun x => (isB b).bind fun y => some (.bl (decide (x = y)))
/-- how often a loop may turn -/
def fuel : Nat := 2 ^ 20000
/-! functions of the module exacts -/
def byF : List U → Option U
  | [.q a, .q b] => if b ≠ 0 then okQ a b (.q (a / b)) else none
  | [.q a, .int j] => if j ≠ 0 then okQ a j (.q (a / j)) else none
  | _ => none
end UL
set_option Elab.async false
set_option linter.all false
set_option maxRecDepth 100000
set_option maxHeartbeats 4000000
namespace LW
open PySem PySem.Spec PyProof.Rows L2 LV LM UL
section
variable {P : Program} {w : World} {K : PySem.W.Frag} {mg : Str → Option Value} {base : Heap} {κ : String → Addr} {γ : Gh} {ρ : Bool} {E : XK}
/-! != -/
mutual
theorem dp_of {S H : Hp} (e : Same S H) : ∀ (u : U) {v : V} {d : PyData}, Rep κ S u v → toD u = some d → Dp K H v d
  | .non, _, _, r, h => by
    cases h
    have : _ = V.non := r
    subst this
    exact .non
  | .bl b, _, _, r, h => by
    cases h
    have : _ = V.bl b := r
    subst this
    exact .bl b
  | .int i, _, _, r, h => by
    cases h
    have : _ = V.int i := r
    subst this
    exact .int i
  | .str z, _, _, r, h => by
    cases h
    have : _ = V.str z := r
    subst this
    exact .str z
  | .lst us, _, _, r, h => by
    obtain ⟨ds, h1, h⟩ := bindS h
    cases h
    obtain ⟨a, vs, rfl, ha, rs⟩ := r
    exact .lst (SqL.of (e _ _ ha)) (dps_of e us rs h1)
  | .tup us, _, _, r, h => by
    obtain ⟨ds, h1, h⟩ := bindS h
    cases h
    obtain ⟨a, vs, rfl, ha, rs⟩ := r
    exact .tup (SqT.of (e _ _ ha)) (dps_of e us rs h1)
  | .q _, _, _, _, h => by cases h
  | .obj _ _ _, _, _, _, h => by cases h
  | .dic _ _, _, _, _, h => by cases h
theorem dps_of {S H : Hp} (e : Same S H) : ∀ (us : List U) {vs : List V} {ds : List PyData}, Reps κ S us vs → toDs us = some ds → DpAll K H vs ds
  | [], _, _, r, h => by
    cases h
    have : _ = [] := r
    subst this
    exact .nil
  | u :: us, _, _, r, h => by
    obtain ⟨d, h1, h⟩ := bindS h
    obtain ⟨ds, h2, h⟩ := bindS h
    cases h
    obtain ⟨v, vs, rfl, r1, r2⟩ := r
    exact .cons (dp_of e u r1 h1) (dps_of e us r2 h2)
end
/-! own classes -/
structure OC (K : PySem.W.Frag) (C : Addr) : Prop where
  cl : Cls K C
  ha : PySem.W.findIn K (.ref C) "__class__" = some (some (.builtin "object.__class__"))
  hm : PySem.W.mroIn K C (.type "object") = some true
  kT : ∀ t ∈ typs, PySem.W.kitOne K (.type t) (.ref C) = some false ∧ PySem.W.kitOne K (.ref C) (.type t) = some false
/-- the classes of the text -/
structure CW (K : PySem.W.Frag) (κ : String → Addr) (cs : List String) : Prop where
  oc : ∀ c ∈ cs, OC K (κ c)
  two : ∀ c ∈ cs, ∀ c' ∈ cs, PySem.W.kitOne K (.ref (κ c)) (.ref (κ c')) = some (decide (c = c'))
  ex : "Exact" ∈ cs
  nb : ∀ c ∈ cs, c ∉ typs
  hn : PySem.W.specialIn K (.builtin "object.__class__") "__get__" = some (some (.builtin "getset_descriptor.__get__"))
  htk : PySem.W.takesIn K (.builtin "object.__class__") = some true
theorem kit_typs : ∀ t ∈ typs, ∀ T ∈ typs, kitB t T = some (isiN T t) := by decide +kernel
end
end LW
set_option Elab.async false
set_option linter.all false
set_option maxRecDepth 100000
set_option maxHeartbeats 2000000
/-! defs as a whole; slices -/
namespace UL
open PySem PySem.Spec PyProof.Rows L2 LV
def env0 (ws : List Ow) (nl : Nat) : Env := ws.map some ++ List.replicate nl none
/-- a def that owns nothing from outside -/
def fnP (n nl : Nat) (b : MS) : List U → Option U := fun us => if us.length = n then (b (env0 (us.map .p) nl)).bind fun f => match f with
    | .rt w _ => isP w
    | .nx _ => some .non
    | .bk _ => none
  else none
/-- its first argument is owned -/
def fnI (n nl : Nat) (b : MS) : Ow → List U → Option (U × Ow) := fun w us => if us.length + 1 = n then (b (env0 (w :: us.map .p) nl)).bind fun f => match f with
    | .rt r e => (isP r).bind fun u => (atS e 0).bind fun w' => some (u, w')
    | .nx e => (atS e 0).bind fun w' => some (.non, w')
    | .bk _ => none
  else none
abbrev fx0 : Nat → Bool := fun _ => false
abbrev fx1 : Nat → Bool := fun i => i == 0
section
variable {κ : String → Addr} {γ : Gh} {ρ : Bool}
theorem envOk_nones {S H : Hp} : ∀ n : Nat, EnvOk κ [] S H (List.replicate n none) (List.replicate n none) []
  | 0 => rfl
  | n + 1 => by
    rw [List.replicate_succ]
    exact ⟨[], [], rfl, rfl, envOk_nones n⟩
theorem envOk_start {S H : Hp} {nl : Nat} : ∀ {ws : List Ow} {vs : List V} {F : List Addr}, RepOs κ S H ws vs F → EnvOk κ [] S H (vs.map some ++ List.replicate nl none) (ws.map some ++ List.replicate nl none) F
  | [], _, _, h => by
    obtain ⟨rfl, rfl⟩ := h
    exact envOk_nones nl
  | w :: ws, _, _, h => by
    obtain ⟨v, vs', F1, F2, rfl, rfl, h1, h2⟩ := h
    exact ⟨F1, F2, rfl, ⟨v, rfl, h1⟩, envOk_start h2⟩
theorem gd_start {S H : Hp} {nl : Nat} {N : List Str} {ws : List Ow} {vs : List V} {F : List Addr} (wf : WF S H F) (r : RepOs κ S H ws vs F) (hN : N.length = vs.length + nl) : Gd κ [] (L2.start N vs) S H F (env0 ws nl) := by
  refine ⟨wf, ?_⟩
  unfold L2.start env0
  rw [show N.length - vs.length = nl by omega]
  exact envOk_start r
theorem StpP.of {S H S' H' : Hp} {F : List Addr} (s : Stp κ S H [] S' H' F) (w : Same S' H') : StpP κ S H S' H' :=
  ⟨fun b o h => s.keep b o (by simp) h, s.sub, w, fun b o h => by
    rcases s.new b o h with z | z | z | z
    · exact .inl z
    · exact .inr (.inl z)
    · exact .inr (.inr z)
    · simp at z⟩
theorem sim_fnP {t : TS} {b : MS} {n nl : Nat} {N : List Str} {vs : List V} {H : Hp} {Q : VK} {E : XK} (h : SimS κ [] fx0 t b) (hs : spP κ (fnP n nl b) vs H Q E) (hN : N.length = n + nl) : t { nx := fun _ H' => Q .non H', rt := Q } (L2.start N vs) H := by
  obtain ⟨S, us, u, e, rs, hf, k⟩ := hs
  unfold fnP at hf
  split at hf <;> try cases hf
  rename_i hl
  obtain ⟨f, h1, hf⟩ := bindS hf
  have hN : N.length = vs.length + nl := by rw [hN, ← rs.len, hl]
  have g := gd_start (nl := nl) (N := N) ⟨e, by simp, fun a ha => by simp at ha⟩ (RepOs.pure_ (H := H) rs) hN
  refine h.run g h1 _ ?_
  cases f with
  | nx e1 =>
    cases hf
    exact fun σ' S' H' F' s' g' _ => k _ S' H' (StpP.of s' g'.wf.sub) rfl
  | rt w e1 =>
    have := isP_eq hf
    subst this
    intro v σ' S' H' F' Fw s' g' wf r _
    exact k _ S' H' (StpP.of s' g'.wf.sub) r.2
  | bk e1 => cases hf
theorem slot0 {σ : L2.St} {S H : Hp} {F : List Addr} {env : Env} {w : Ow} (g : Gd κ [] σ S H F env) (h : atS env 0 = some w) : ∃ v F1, σ[0]? = some (some v) ∧ RepO κ S H w v F1 ∧ WF S H F1 ∧ ∀ a ∈ F1, a ∈ F := by
  obtain ⟨s, A, B, C, h1, rfl, ⟨v, rfl, h3⟩, _⟩ := g.env.get (atS_eq h)
  have sb : ∀ a ∈ B, a ∈ A ++ B ++ C := fun a ha => by simp [ha]
  exact ⟨v, B, h1, h3, ⟨g.wf.sub, (List.nodup_append.mp (List.nodup_append.mp g.wf.nd).1).2.1, fun a ha => g.wf.out a (sb a ha)⟩, sb⟩
theorem start0 {N : List Str} {v0 : V} {vs : List V} : (L2.start N (v0 :: vs))[0]? = some (some v0) := rfl
theorem sim_fnI {t : TS} {b : MS} {n nl : Nat} {N : List Str} {vs : List V} {H : Hp} {Q : VK} {E : XK} (h : SimS κ [] fx1 t b) (hs : spI κ (fnI n nl b) vs H Q E) (hN : N.length = n + nl) : t { nx := fun _ H' => Q .non H', rt := Q } (L2.start N vs) H := by
  obtain ⟨S, F, w, us, v0, vs', u, w', rfl, wf, rw', rs, hf, k⟩ := hs
  unfold fnI at hf
  split at hf <;> try cases hf
  rename_i hl
  obtain ⟨f, h1, hf⟩ := bindS hf
  have hN : N.length = (v0 :: vs').length + nl := by rw [hN, List.length_cons, ← rs.len, hl]
  have g := gd_start (nl := nl) (N := N) (ws := w :: us.map .p) (vs := v0 :: vs') (F := F) wf ⟨v0, vs', F, [], rfl, by simp, rw', RepOs.pure_ rs⟩ hN
  refine h.run g h1 _ ?_
  cases f with
  | nx e1 =>
    obtain ⟨w2, h2, hf⟩ := bindS hf
    cases hf
    intro σ' S' H' F' s' g' f'
    obtain ⟨v, F1, q1, q2, q3, q4⟩ := slot0 g' h2
    have := (f'.2 0 rfl).symm.trans q1
    rw [start0] at this
    cases this
    exact k _ S' H' F1 (s'.less q4) q3 q2 rfl
  | rt r e1 =>
    obtain ⟨u', h3, hf⟩ := bindS hf
    obtain ⟨w2, h2, hf⟩ := bindS hf
    cases hf
    have := isP_eq h3
    subst this
    intro x σ' S' H' F' Fw s' g' wf' r' f'
    obtain ⟨v, F1, q1, q2, q3, q4⟩ := slot0 g' h2
    have := (f'.2 0 rfl).symm.trans q1
    rw [start0] at this
    cases this
    exact k _ S' H' F1 (s'.less fun a ha => by simp [q4 a ha]) q3 q2 r'.2
  | bk e1 => cases hf
theorem len_fnP {b : MS} {n nl : Nat} {vs : List V} {H : Hp} {Q : VK} {E : XK} (hs : spP κ (fnP n nl b) vs H Q E) : vs.length = n := by
  obtain ⟨S, us, u, e, rs, hf, k⟩ := hs
  unfold fnP at hf
  split at hf
  · rename_i hl
    rw [← rs.len, hl]
  · cases hf
theorem len_fnI {b : MS} {n nl : Nat} {vs : List V} {H : Hp} {Q : VK} {E : XK} (hs : spI κ (fnI n nl b) vs H Q E) : vs.length = n := by
  obtain ⟨S, F, w, us, v0, vs', u, w', rfl, wf, rw', rs, hf, k⟩ := hs
  unfold fnI at hf
  split at hf
  · rename_i hl
    rw [List.length_cons, ← rs.len, hl]
  · cases hf
/-! fields by their class -/
/-- self.f = e -/
def putN (f : Str) (w : Ow) : List Str → List Ow → List Str × List Ow
  | n :: ns, x :: ws => if n = f then (n :: ns, w :: ws) else let r := putN f w ns ws; (n :: r.1, x :: r.2)
  | _, _ => ([f], [w])
/-! slices -/
def mPart : Option (M U) → M (Option Int)
  | none => fun env => some (none, env)
  | some m => fun env => (m env).bind fun x => (isI x.1).bind fun i => some (some i, x.2)
structure SimPt (κ : String → Addr) (γ : Gh) (ρ : Bool) (t : TO) (m : Option (M U)) : Prop where
  run : ∀ {σ : L2.St} {S H : Hp} {F : List Addr} {env : Env}, Gd κ γ σ S H F env → ∀ {o : Option Int} {env' : Env}, mPart m env = some (o, env') → ∀ Q : Option Int → Hp → Prop,
  (∀ S' H' F', StpQ κ ρ S H F env S' H' F' env' → Gd κ γ σ S' H' F' env' → Q o H') → t σ H Q
end
end UL
set_option Elab.async false
set_option linter.all false
set_option maxRecDepth 100000
set_option maxHeartbeats 4000000
namespace LW
open PySem PySem.Spec PyProof.Rows L2 LV LM UL
section
variable {P : Program} {w : World} {K : PySem.W.Frag} {mg : Str → Option Value} {base : Heap} {κ : String → Addr} {γ : Gh} {ρ : Bool} {E : XK}
theorem ip_addU {X : Cx} : PIp X .Add (r2 κ addI) := by
  have h := ip_add (X := X)
  intro pins s σ H x y v u Q I rx ry q
  obtain ⟨S, a, b, c, e, ra, rb, hf, k⟩ := q
  obtain ⟨i, h1, hf⟩ := bindS hf
  obtain ⟨j, h2, hf⟩ := bindS hf
  cases hf
  have := isI_eq h1
  subst this
  have := isI_eq h2
  subst this
  have : x = .int i := ra
  subst this
  have : y = .int j := rb
  subst this
  exact h pins s σ H _ _ v u Q I rx ry ⟨i, j, rfl, rfl, k _ S H (stay e) rfl⟩
end
end LW
set_option Elab.async false
set_option linter.all false
set_option maxRecDepth 100000
set_option maxHeartbeats 2000000
/-! several things at once; walks, further -/
namespace UL
open PySem PySem.Spec PyProof.Rows L2 LV
/-- arguments, some of them owned -/
structure SimAO (κ : String → Addr) (γ : Gh) (n : Nat) (t : TA) (m : M (List Ow)) : Prop where
  len : ∀ {env ws env'}, m env = some (ws, env') → ws.length = n
  run : ∀ {σ : L2.St} {S H : Hp} {F : List Addr} {env : Env}, Gd κ γ σ S H F env → ∀ {ws : List Ow} {env' : Env}, m env = some (ws, env') → ∀ Q : List V → Hp → Prop,
    (∀ vs S' H' F' Fw, Stp κ S H F S' H' (F' ++ Fw) → Gd κ γ σ S' H' F' env' → WF S' H' (F' ++ Fw) → RepOs κ S' H' ws vs Fw → Q vs H') → t σ H Q
def oNil : M (List Ow) := fun env => some ([], env)
def oCons (a : M Ow) (r : M (List Ow)) : M (List Ow) := fun env => (a env).bind fun x => (r x.2).bind fun y => some (x.1 :: y.1, y.2)
section
variable {κ : String → Addr} {γ : Gh} {ρ : Bool} {fx : Nat → Bool} {K : PySem.W.Frag}
def sParO (i j : Nat) (a : M (List Ow)) : MS := fun env => (a env).bind fun x => match x.1 with
  | [u, v] => some (.nx ((x.2.set i (some u)).set j (some v)))
  | _ => none
def sPar3O (i j l : Nat) (a : M (List Ow)) : MS := fun env => (a env).bind fun x => match x.1 with
  | [u, v, w] => some (.nx (((x.2.set i (some u)).set j (some v)).set l (some w)))
  | _ => none
/-- list(x) that is owned -/
def seq1 : List U → Option (List U)
  | [u] => seqU u
  | _ => none
theorem seq1_eq {x us : List U} (h : seq1 x = some us) : ∃ u, x = [u] ∧ (u = .lst us ∨ u = .tup us) := by
  cases x with
  | nil => cases h
  | cons u r =>
    cases r with
    | cons _ _ => cases h
    | nil =>
      refine ⟨u, rfl, ?_⟩
      cases u <;> first
        | (cases h; exact .inl rfl)
        | (cases h; exact .inr rfl)
        | cases h
/-- xs != [] -/
def mNeNilV (i : Nat) : M U := fun env => match env[i]? with
  | some (some (.l ws)) => some (.bl (!ws.isEmpty), env)
  | _ => none
/-- enumerate of a list or a tuple -/
def mEnumS (a : M (List U)) : M (List U) := fun env => (a env).bind fun x => (seq1 x.1).bind fun us => some (enumU us, x.2)
theorem none_spP {vs : List V} {H : Hp} {Q : VK} {E : XK} (h : spP κ (fun _ => none) vs H Q E) : False := by
  obtain ⟨_, _, _, _, _, h, _⟩ := h
  cases h
end
end UL
set_option Elab.async false
set_option linter.all false
set_option maxRecDepth 100000
set_option maxHeartbeats 4000000
namespace LW
open PySem PySem.Spec PyProof.Rows L2 LV LM UL
/-- names of built-ins that the text leaves as they are -/
abbrev bltN : List Str := ["len", "int", "enumerate", "isinstance", "zip", "all", "range", "list", "tuple", "bool", "any", "sorted", "dict", "str", "reversed", "repr", "iter"]
/-- what a def's walk leans on -/
structure En (P : Program) (w : World) (K : PySem.W.Frag) (mg : Str → Option Value) (base : Heap) (κ : String → Addr) (cs : List String) : Prop where
  B : UX P w K mg base κ
  W : CW K κ cs
  free : ∀ x ∈ bltN, mg x = none
  gx : mg "Exact" = some (.ref (κ "Exact"))
section
variable {P : Program} {w : World} {K : PySem.W.Frag} {mg : Str → Option Value} {base : Heap} {κ : String → Addr} {γ : Gh} {ρ : Bool} {E : XK} {fx : Nat → Bool}
/-! in -/
theorem flat_rep {S : Hp} {u : U} {v : V} (r : Rep κ S u v) (h : flatU u = true) : flatV v = true := by
  cases u <;> try cases h
  all_goals
    have r : v = _ := r
    rw [r]
    rfl
theorem eqFl_rep {S : Hp} {a b : U} {x y : V} (ra : Rep κ S a x) (rb : Rep κ S b y) (ha : flatU a = true) (hb : flatU b = true) : eqV x y = eqFl a b := by
  cases a <;> try cases ha
  all_goals
    cases b <;> try cases hb
    all_goals
      have ra : x = _ := ra
      have rb : y = _ := rb
      rw [ra, rb]
      rfl
theorem any_rep {S : Hp} {x : U} {v : V} (rx : Rep κ S x v) (hx : flatU x = true) : ∀ {us : List U} {vs : List V}, Reps κ S us vs → us.all flatU = true → inV v vs = us.any (fun u => eqFl u x) ∧ vs.all flatV = true
  | [], vs, r, _ => by
    have : vs = [] := r
    subst this
    exact ⟨rfl, rfl⟩
  | u :: us, vs, r, h => by
    obtain ⟨y, ys, rfl, r1, r2⟩ := r
    rw [List.all_cons, Bool.and_eq_true] at h
    obtain ⟨i1, i2⟩ := any_rep rx hx r2 h.2
    refine ⟨?_, by rw [List.all_cons, flat_rep r1 h.1, i2]; rfl⟩
    show (eqV y v || inV v ys) = _
    rw [i1, eqFl_rep r1 rx h.1 hx]
    rfl
theorem seqU_eq {y : U} {us : List U} (h : seqU y = some us) : y = .lst us ∨ y = .tup us := by
  cases y <;> first
    | (cases h; exact .inl rfl)
    | (cases h; exact .inr rfl)
    | cases h
theorem seq_rep {S H : Hp} (e : Same S H) {y : U} {us : List U} {v : V} (h : seqU y = some us) (r : Rep κ S y v) : ∃ p xs, v = .ref p ∧ (SqL K H p xs ∨ SqT K H p xs) ∧ Reps κ S us xs := by
  rcases seqU_eq h with rfl | rfl
  · obtain ⟨p, xs, rfl, hp, rs⟩ := r
    exact ⟨p, xs, rfl, .inl (SqL.of (e _ _ hp)), rs⟩
  · obtain ⟨p, xs, rfl, hp, rs⟩ := r
    exact ⟨p, xs, rfl, .inr (SqT.of (e _ _ hp)), rs⟩
theorem op_inU {X : Cx} : OpR X (compareOp .In) (r2 κ inU) := by
  intro pins s σ H x y v u Q I rx ry h
  obtain ⟨S, a, b, c, e, ra, rb, hf, k⟩ := h
  obtain ⟨us, h1, hf⟩ := bindS hf
  split at hf
  · rename_i hz
    rw [Bool.and_eq_true] at hz
    cases hf
    obtain ⟨p, xs, rfl, hp, rs⟩ := seq_rep (K := X.K) e h1 rb
    obtain ⟨i1, i2⟩ := any_rep ra hz.1 rs hz.2
    refine op_in_seq pins s σ H x _ v u Q I rx ry ⟨p, xs, rfl, hp, flat_rep ra hz.1, i2, ?_⟩
    rw [i1]
    exact k _ S H (stay e) rfl
  · cases hf
/-! enumerate of a list or a tuple -/
theorem itOk_enumT {a : Addr} {S A : Hp} {us : List U} {vs : List V} (h : A a = some (.tup vs)) (r : Reps κ S us vs) : ItOk κ (IteT K a) S A (enumU us) := by
  have wk := walk_enumT (K := K) (a := a) (xs := vs)
  have hl := enumU_len us
  refine ⟨fun i H hi q => wk.goes i H (by rw [← r.len, ← hl]; exact hi) (SqT.of (q _ _ h)), fun H q => by rw [hl, r.len]; exact wk.stops H (SqT.of (q _ _ h)), fun i H x H' S1 u hu e0 e1 e2 y => ?_⟩
  have hi : i < vs.length := by
    rw [← r.len, ← hl]
    exact (List.getElem?_eq_some_iff.mp hu).1
  obtain ⟨T, p, z, rfl, hT, rfl, h1, h2⟩ := wk.yields i H x H' hi (SqT.of (e0 _ _ h)) y
  obtain ⟨w, hw, rfl⟩ := enumU_get hu
  obtain ⟨v, hv, rv⟩ := r.get hw
  have h2 : vs[i]? = some z := h2
  rw [h2] at hv
  cases hv
  cases h1
  exact pair_rep e2 hT rfl (Rep.mono e1 w rv)
theorem simI_enumS {n : Nat} {t : TA} {m : M (List U)} (h : SimA κ γ ρ n t m) : SimI κ γ ρ (iOr (iEnum K t) (iEnumT K t)) (mEnumS m) := by
  constructor
  intro σ S H F env gd items env' e R k
  obtain ⟨⟨x, e1⟩, h1, e⟩ := bindS e
  obtain ⟨us, h2, e⟩ := bindS e
  cases e
  obtain ⟨u, hx, hu⟩ := seq1_eq h2
  dsimp only at hx
  subst hx
  rcases hu with rfl | rfl
  · refine .inl (h.run gd h1 _ fun vs S1 H1 F1 s1 g1 r => ?_)
    obtain ⟨v, _, rfl, ⟨a, ws, rfl, ha, rs⟩, rfl⟩ := r
    exact ⟨a, ws, rfl, SqL.of (g1.wf.sub _ _ ha), k _ S1 H1 F1 s1 g1 (itOk_enum ha rs)⟩
  · refine .inr (h.run gd h1 _ fun vs S1 H1 F1 s1 g1 r => ?_)
    obtain ⟨v, _, rfl, ⟨a, ws, rfl, ha, rs⟩, rfl⟩ := r
    exact ⟨a, ws, rfl, SqT.of (g1.wf.sub _ _ ha), k _ S1 H1 F1 s1 g1 (itOk_enumT ha rs)⟩
theorem pi_enumS {X : Cx} {e : Expr} {ta : TA} {p pos tpos : Pos} {elts : List Expr} {kk : Nat} (hg : Gl X "enumerate") (hm : X.mg "enumerate" = none) (ha : PA X [e] ta) (hs : starEach [e] X.env = [(false, eval e X.env)] := by rfl) :
    PI X (.Tuple elts kk tpos) (.Call (.Name "enumerate" p) [e] [] pos) (iOr (iEnum X.K ta) (iEnumT X.K ta)) := pi_or (pi_enum hg hm ha hs) (pi_enumT hg hm ha hs)
end
end LW
set_option Elab.async false
set_option linter.all false
set_option maxRecDepth 100000
set_option maxHeartbeats 4000000
namespace LW
open PySem PySem.Spec PyProof.Rows L2 LV LM UL
section
variable {P : Program} {w : World} {K : PySem.W.Frag} {mg : Str → Option Value} {base : Heap} {κ : String → Addr} {γ : Gh} {ρ : Bool} {E : XK} {cs : List String}
theorem op_isBU {X : Cx} : OpR X (compareOp .Is) (r2 κ isBU) := by
  intro pins s σ H x y v u Q I rx ry h
  obtain ⟨S, a, b, z, e, ra, rb, hf, k⟩ := h
  obtain ⟨p, h1, hf⟩ := bindS hf
  obtain ⟨q, h2, hf⟩ := bindS hf
  cases hf
  exact op_isBl pins s σ H x y v u Q I rx ry ⟨p, q, isB_rep h1 ra, isB_rep h2 rb, k _ S H (stay e) rfl⟩
end
end LW
set_option Elab.async false
set_option linter.all false
set_option maxRecDepth 100000
set_option maxHeartbeats 4000000
namespace LW
open PySem PySem.Spec PyProof.Rows L2 LV LM UL
/-! rules that name the written part, told by its own name (in a comprehension the context is a bound one) -/
section
variable {X : Cx} {K : PySem.W.Frag}
theorem ix_listK (h : X.K = K) : IxR X (rIxL K) := by
  subst h
  exact ix_list
theorem call_isiK1 (h : X.K = K) : CallR X (.builtin "isinstance") (rIsi K) := by
  subst h
  exact call_isi
theorem call_isiTK (h : X.K = K) : CallR X (.builtin "isinstance") (rIsiT K) := by
  subst h
  exact call_isiT
theorem pi_seqK {tg l : Expr} {tl : TE} (h : X.K = K) (hl : PE X l tl) : PI X tg l (iOr (iList K tl) (iTup K tl)) := by
  subst h
  exact pi_seq hl
theorem pi_enumSK {e : Expr} {ta : TA} {p pos tpos : Pos} {elts : List Expr} {kk : Nat} (h : X.K = K) (hg : Gl X "enumerate") (hm : X.mg "enumerate" = none) (ha : PA X [e] ta) (hs : starEach [e] X.env = [(false, eval e X.env)] := by rfl) :
    PI X (.Tuple elts kk tpos) (.Call (.Name "enumerate" p) [e] [] pos) (iOr (iEnum K ta) (iEnumT K ta)) := by
  subst h
  exact pi_enumS hg hm ha hs
theorem pi_zipK {e e2 : Expr} {ta : TA} {p pos tpos : Pos} {elts : List Expr} {kk : Nat} (h : X.K = K) (hg : Gl X "zip") (hm : X.mg "zip" = none) (ha : PA X [e, e2] ta)
    (hs : starEach [e, e2] X.env = (false, eval e X.env) :: starEach [e2] X.env := by rfl) (hpl : (backTo pos (starEach [e2] X.env)).any (·.1) = false := by rfl) :
    PI X (.Tuple elts kk tpos) (.Call (.Name "zip" p) [e, e2] [] pos) (RZ.iZipA K ta) := by
  subst h
  exact RZ.pi_zipA hg hm ha hs hpl
end
end LW
set_option Elab.async false
set_option linter.all false
set_option maxRecDepth 100000
set_option maxHeartbeats 4000000
namespace LW
open PySem PySem.Spec PyProof.Rows L2 LV LM UL
/-! the law's own def: its first statement makes the draw state of the script -/
section
variable {P : Program} {w : World} {K : PySem.W.Frag} {mg : Str → Option Value} {base : Heap} {κ : String → Addr} {γ : Gh} {cs : List String}
def spFr (K : PySem.W.Frag) : Sp := fun vs H Q _ => ∃ (a : Addr) (ns : List Int), vs = [.ref a] ∧ SqL K H a (ns.map V.int) ∧ ns.length ≤ 63 ∧
  ∀ p c H', H c = none → H p = none → p ≠ c → Same H H' → H' c = some (.lst (ns.map V.int)) → H' p = some (.lst [.ref c, .int 0, .int 0, .bl false]) → (∀ b, b ≠ p → b ≠ c → H' b = H b) → Q (.ref p) H'
abbrev s__law_fresh : Stmt := top 16
abbrev N__law_fresh : List Str := ["_law_script"]
theorem sc__law_fresh : FnScope N__law_fresh ["_law_script"] (defScope s__law_fresh) := ⟨rfl, rfl, rfl, by decide +kernel, rfl, by decide +kernel, by decide +kernel⟩
theorem ok__law_fresh {f : Addr} {fd : FuncData} (F : FunD K "_law_fresh" "_law_fresh" (defArgs s__law_fresh) (defBody s__law_fresh) (defScope s__law_fresh) [] [] f fd) : FnOk P w K mg base CX0 1 f fd ["_law_script"] (spFr K) := by
  refine F.ok sc__law_fresh (fun vs H Q E h => ?_) (fun cdv A outer s H vs Q E hr h => ?_)
  · obtain ⟨a, ns, rfl, hS, hl, k⟩ := h
    rfl
  · obtain ⟨a, ns, rfl, hS, hl, k⟩ := h
    refine ⟨_, PSs.nox (pss_one (ps_ret (pe_lst (pa_cons (pe_slice sl_list (pv 0) po_none (po_some pe_int)) (pa_cons pe_int (pa_cons pe_int (pa_cons pe_bl pa_nil))))))), ?_⟩
    refine ⟨_, rfl, _, rfl, a, _, rfl, hS, fun c n1 => ?_⟩
    generalize q1 : upd H c _ = H1
    have h1 := nAt q1
    have e1 := nSm q1 n1
    refine ⟨by show 4 ≤ sizeLine; decide, fun p n2 => ?_⟩
    generalize q2 : upd H1 p _ = H2
    have h2 := nAt q2
    have e2 := nSm q2 n2
    have e : cutV (ns.map V.int) none (some 63) = ns.map V.int := by
      have hz : (ns.map V.int).length ≤ 63 := by rw [List.length_map]; exact hl
      unfold cutV
      rw [HT.sIx_none, show (some (63 : Int)) = some ((63 : Nat) : Int) from rfl, HT.sIx_nat, List.drop_zero, List.take_of_length_le]
      omega
    rw [e] at h1
    refine k p c H2 n1 (none_of_same e1 n2) (fun z => ?_) (e1.trans e2) (e2 _ _ h1) h2 fun b hp hc => ?_
    · subst z
      rw [h1] at n2
      cases n2
    · rw [← q2, upd_ne hp, ← q1, upd_ne hc]
/-- the draw state of a script -/
def st0 (c : Addr) (ns : List Int) : Ow := .l [.p (.atl c (ns.map .int)), .p (.int 0), .p (.int 0), .p (.bl false)]
def spLw (K : PySem.W.Frag) (nl i : Nat) (b : MS) : Sp := fun vs H Q _ => ∃ (a : Addr) (ns : List Int), vs = [.ref a] ∧ SqL K H a (ns.map V.int) ∧ ns.length ≤ 63 ∧ (∀ c, ∃ e, b ((none :: List.replicate nl none).set i (some (st0 c ns))) = some (.rt (.p (.bl true)) e)) ∧ ∀ H', Q (.bl true) H'
theorem reps_ints {S : Hp} : ∀ ns : List Int, Reps κ S (ns.map .int) (ns.map V.int)
  | [] => rfl
  | n :: ns => ⟨_, _, rfl, rfl, reps_ints ns⟩
theorem sim_law {t2 : TS} {b : MS} {nl i : Nat} {N : List Str} {vs : List V} {H : Hp} {Q : VK} {E : XK} (h : SimS κ [] fx0 t2 b) (hs : spLw K nl i b vs H Q E) (hN : N.length = nl + 1) :
    tSeq (tAsg (tCall (spFr K) [] C8.E0 (tCons (tVar 0) tNil)) (gName i)) t2 { nx := fun _ H' => Q .non H', rt := Q } (L2.start N vs) H := by
  obtain ⟨a, ns, rfl, hS, hl, hb, k⟩ := hs
  refine ⟨_, rfl, a, ns, by rw [List.append_nil], hS, hl, fun p c H1 hc hp ne e1 h1 h2 h3 => ?_⟩
  -- the region: the cells alone
  let S : Hp := fun x => if x = c then some (.lst (ns.map V.int)) else none
  have hSc : S c = some (.lst (ns.map V.int)) := if_pos rfl
  have sub : Same S H1 := fun x o hx => by
    by_cases z : x = c
    · subst z
      rw [hSc] at hx
      cases hx
      exact h1
    · have : S x = none := if_neg z
      rw [this] at hx
      cases hx
  have rp : RepO κ S H1 (st0 c ns) (.ref p) [p] := ⟨p, _, [], rfl, h2, rfl, RepOs.pure_ (us := [.atl c (ns.map .int), .int 0, .int 0, .bl false]) ⟨_, _, rfl, ⟨c, _, rfl, hSc, reps_ints ns, rfl⟩, _, _, rfl, rfl, _, _, rfl, rfl, _, _, rfl, rfl, rfl⟩⟩
  have wf : WF S H1 ([] ++ [p]) := ⟨sub, by simp, fun x hx => by
    have : x = p := by simpa using hx
    subst this
    exact if_neg ne⟩
  have g0 : Gd κ [] (L2.start N [.ref a]) S H1 [] (none :: List.replicate nl none) := by
    refine ⟨⟨sub, by simp, fun x hx => by simp at hx⟩, ?_⟩
    unfold L2.start
    rw [show N.length - [V.ref a].length = nl by simp [hN]]
    exact ⟨[], [], rfl, rfl, envOk_nones nl⟩
  obtain ⟨F', g1, _⟩ := g0.put2 wf rp i
  obtain ⟨e, hb⟩ := hb c
  exact h.run g1 hb _ fun v σ' S' H' F2 Fw s' g' wf' r _ => by
    have := r.2
    have hv : v = .bl true := this
    rw [hv]
    exact k H'
end
/-! what the head looks at -/
/-- where a class stands, or the default () of a class's __init__ -/
def kap (K : PySem.W.Frag) : String → Addr := fun c => if c = "()Net" then He.dflAt ("Net", some "__init__") 0 K else if c = "()Book" then He.dflAt ("Book", some "__init__") 0 K else He.ga K (Str.ofString c)
section
variable {K : PySem.W.Frag} {mg : Str → Option Value} {cs : List String}
end
end LW
set_option Elab.async false
set_option linter.all false
set_option maxRecDepth 100000
set_option maxHeartbeats 2000000
/-! what is owned, lent for a look -/
namespace UL
open PySem PySem.Spec PyProof.Rows L2 LV
/-! no list, object or dict within -/
mutual
def tO : U → Bool
  | .lst _ => false
  | .obj _ _ _ => false
  | .dic _ _ => false
  | .atl _ _ => false
  | .pd _ => false
  | .er _ _ _ => false
  | .tup us => tOs us
  | _ => true
def tOs : List U → Bool
  | [] => true
  | u :: us => tO u && tOs us
end
mutual
def tW : Ow → Bool
  | .p u => tO u
  | .l ws => tWs ws
  | .o _ _ ws => tWs ws
  | .d _ ws => tWs ws
  | .t ws => tWs ws
  | .g _ => true
def tWs : List Ow → Bool
  | [] => true
  | w :: ws => tW w && tWs ws
end
section
variable {κ : String → Addr} {γ : Gh} {ρ : Bool}
/-- a tuple or an Exact -/
def TX (κ : String → Addr) (o : HO) : Prop := XObj κ o ∨ ∃ vs, o = .tup vs
mutual
theorem Rep.less {S S' : Hp} (h : ∀ a o, S a = some o → TX κ o → S' a = some o) : ∀ (u : U) {v : V}, tO u = true → Rep κ S u v → Rep κ S' u v
  | .non, _, _, r => r
  | .bl _, _, _, r => r
  | .int _, _, _, r => r
  | .str _, _, _, r => r
  | .kt _, _, _, r => r
  | .q _, _, _, ⟨x, dx, h1, h2⟩ => ⟨x, dx, h1, h _ _ h2 (.inl (.inl ⟨_, _, rfl⟩))⟩
  | .tup us, _, t, ⟨a, vs, h1, h2, h3⟩ => ⟨a, vs, h1, h _ _ h2 (.inr ⟨_, rfl⟩), Reps.less h us t h3⟩
  | .lst _, _, t, _ => by cases t
  | .obj _ _ _, _, t, _ => by cases t
  | .dic _ _, _, t, _ => by cases t
  | .atl _ _, _, t, _ => by cases t
  | .pd _, _, t, _ => by cases t
  | .er _ _ _, _, t, _ => by cases t
theorem Reps.less {S S' : Hp} (h : ∀ a o, S a = some o → TX κ o → S' a = some o) : ∀ (us : List U) {vs : List V}, tOs us = true → Reps κ S us vs → Reps κ S' us vs
  | [], _, _, r => r
  | u :: us, _, t, ⟨v, vs', h1, h2, h3⟩ => by
    rw [tOs, Bool.and_eq_true] at t
    exact ⟨v, vs', h1, Rep.less h u t.1 h2, Reps.less h us t.2 h3⟩
end
mutual
theorem RepO.less {S S' H : Hp} (h : ∀ a o, S a = some o → TX κ o → S' a = some o) : ∀ (w : Ow) {v : V} {F : List Addr}, tW w = true → RepO κ S H w v F → RepO κ S' H w v F
  | .p u, _, _, t, ⟨h1, h2⟩ => ⟨h1, Rep.less h u t h2⟩
  | .l ws, _, _, t, ⟨a, vs, F', h1, h2, h3, h4⟩ => ⟨a, vs, F', h1, h2, h3, RepOs.less h ws t h4⟩
  | .o _ _ ws, _, _, t, ⟨a, dx, vs, F', h1, h2, h3, h5, h6, h4⟩ => ⟨a, dx, vs, F', h1, h2, h3, h5, h6, RepOs.less h ws t h4⟩
  | .d _ ws, _, _, t, ⟨a, vs, F', h1, h2, h3, h5, h4⟩ => ⟨a, vs, F', h1, h2, h3, h5, RepOs.less h ws t h4⟩
  | .t ws, _, _, t, ⟨a, vs, h1, h2, h3⟩ => ⟨a, vs, h1, h _ _ h2 (.inr ⟨_, rfl⟩), RepOs.less h ws t h3⟩
  | .g _, _, _, _, r => r
theorem RepOs.less {S S' H : Hp} (h : ∀ a o, S a = some o → TX κ o → S' a = some o) : ∀ (ws : List Ow) {vs : List V} {F : List Addr}, tWs ws = true → RepOs κ S H ws vs F → RepOs κ S' H ws vs F
  | [], _, _, _, r => r
  | w :: ws, _, _, t, ⟨v, vs', F1, F2, h1, h2, h3, h4⟩ => by
    rw [tWs, Bool.and_eq_true] at t
    exact ⟨v, vs', F1, F2, h1, h2, RepO.less h w t.1 h3, RepOs.less h ws t.2 h4⟩
end
/-! owned places hold lists, dicts and objects -/
mutual
theorem RepO.foot2 {S H : Hp} : ∀ (w : Ow) {v : V} {F : List Addr}, RepO κ S H w v F → ∀ a ∈ F, ∃ o, H a = some o ∧ ¬ TX κ o
  | .p u, _, _, h => by
    obtain ⟨rfl, _⟩ := h
    exact fun a ha => by simp at ha
  | .l ws, _, _, h => by
    obtain ⟨a, vs, F', h1, h2, rfl, h4⟩ := h
    intro b hb
    rcases List.mem_cons.mp hb with rfl | hb
    · exact ⟨_, h2, fun z => by rcases z with (⟨_, _, z⟩ | ⟨_, _, z⟩) | ⟨_, z⟩ <;> cases z⟩
    · exact RepOs.foot2 ws h4 b hb
  | .o _ _ ws, _, _, h => by
    obtain ⟨a, dx, vs, F', h1, h2, h3, _, rfl, h4⟩ := h
    intro b hb
    rcases List.mem_cons.mp hb with rfl | hb
    · exact ⟨_, h2, fun z => by
        rcases z with (⟨_, _, z⟩ | ⟨_, _, z⟩) | ⟨_, z⟩
        · injection z with z
          exact h3 z
        · cases z
        · cases z⟩
    · exact RepOs.foot2 ws h4 b hb
  | .d _ ws, _, _, h => by
    obtain ⟨a, vs, F', h1, h2, _, rfl, h4⟩ := h
    intro b hb
    rcases List.mem_cons.mp hb with rfl | hb
    · exact ⟨_, h2, fun z => by rcases z with (⟨_, _, z⟩ | ⟨_, _, z⟩) | ⟨_, z⟩ <;> cases z⟩
    · exact RepOs.foot2 ws h4 b hb
  | .t ws, _, _, ⟨_, _, _, _, h⟩ => RepOs.foot2 ws h
  | .g _, _, _, h => by
    obtain ⟨a, h1, h2, rfl⟩ := h
    intro b hb
    rcases List.mem_cons.mp hb with rfl | hb
    · exact ⟨_, h2, fun z => by rcases z with (⟨_, _, z⟩ | ⟨_, _, z⟩) | ⟨_, z⟩ <;> cases z⟩
    · cases hb
theorem RepOs.foot2 {S H : Hp} : ∀ (ws : List Ow) {vs : List V} {F : List Addr}, RepOs κ S H ws vs F → ∀ a ∈ F, ∃ o, H a = some o ∧ ¬ TX κ o
  | [], _, _, h => by
    obtain ⟨_, rfl⟩ := h
    exact fun a ha => by simp at ha
  | w :: ws, _, _, h => by
    obtain ⟨v, vs', F1, F2, h1, rfl, h3, h4⟩ := h
    intro b hb
    rcases List.mem_append.mp hb with hb | hb
    · exact RepO.foot2 w h3 b hb
    · exact RepOs.foot2 ws h4 b hb
end
/-- the region with an owned thing within, for a look; and back -/
structure Lend (κ : String → Addr) (S H S0 : Hp) (G : List Addr) : Prop where
  sub : Same S S0
  in_ : Same S0 H
  new : ∀ b o, S0 b = some o → S b = some o ∨ b ∈ G
/-- behind a pure step in the lent region: a pure step in the first one -/
theorem Lend.back {S H S0 S' H' : Hp} {F G : List Addr} (l : Lend κ S H S0 G) (wf : WF S H F) (hG : ∀ a ∈ G, a ∈ F) (ft : ∀ a ∈ G, ∃ o, H a = some o ∧ ¬ TX κ o) (p : StpP κ S0 H S' H') :
    ∃ S2, StpP κ S H S2 H' ∧ ∀ a o, S' a = some o → TX κ o → S2 a = some o := by
  have hk : ∀ a ∈ G, ∀ o, S' a = some o → ¬ TX κ o := fun a ha o h => by
    obtain ⟨o', ho, nx⟩ := ft a ha
    have h2 := p.in_ a o h
    rw [p.keep a o' ho] at h2
    cases h2
    exact nx
  refine ⟨fun b => if b ∈ G then none else S' b, ⟨p.keep, fun b o h => ?_, fun b o h => ?_, fun b o h => ?_⟩, fun a o h t => ?_⟩
  · have : b ∉ G := fun z => by
      rw [wf.out b (hG b z)] at h
      cases h
    show (if b ∈ G then none else S' b) = _
    rw [if_neg this]
    exact p.sub b o (l.sub b o h)
  · by_cases hb : b ∈ G
    · rw [if_pos hb] at h
      cases h
    · rw [if_neg hb] at h
      exact p.in_ b o h
  · by_cases hb : b ∈ G
    · rw [if_pos hb] at h
      cases h
    · rw [if_neg hb] at h
      rcases p.new b o h with z | z | z
      · rcases l.new b o z with z | z
        · exact .inl z
        · exact (hb z).elim
      · exact .inr (.inl z)
      · exact .inr (.inr z)
  · show (if a ∈ G then none else S' a) = _
    rw [if_neg fun z => hk a z o h t]
    exact h
end
end UL
set_option Elab.async false
set_option linter.all false
set_option maxRecDepth 100000
set_option maxHeartbeats 2000000
/-! methods and calls that look at what is owned -/
namespace UL
open PySem PySem.Spec PyProof.Rows L2 LV
section
variable {κ : String → Addr} {γ : Gh} {ρ : Bool} {fx : Nat → Bool} {K : PySem.W.Frag} {E : XK}
/-- a pure method or def that tells a new list, quietly -/
def mNF (f : List U → Option Ow) (a : M (List U)) : M U := fun env => (a env).bind fun x => (f x.1).bind fun z => some (frz z, x.2)
end
end UL
set_option Elab.async false
set_option linter.all false
set_option maxRecDepth 100000
set_option maxHeartbeats 2000000
/-! places within what is owned -/
namespace UL
open PySem PySem.Spec PyProof.Rows L2 LV
abbrev PL := Env → Option (Nat × List Sg)
section
variable {κ : String → Addr} {γ : Gh} {ρ : Bool} {fx : Nat → Bool} {K : PySem.W.Frag} {E : XK}
structure SimW (κ : String → Addr) (γ : Gh) (t : TE) (pl : PL) : Prop where
  run : ∀ {σ : L2.St} {S H : Hp} {F : List Addr} {env : Env}, Gd κ γ σ S H F env → ∀ {x : Nat × List Sg}, pl env = some x → ∀ Q : VK,
    (∀ v S' H' w, StpP κ S H S' H' → Gd κ γ σ S' H' F env → getE env x.1 x.2 = some w → Loc κ γ σ S' H' F env x.1 x.2 w v → Q v H') → t σ H Q
theorem StpQ.quiet {σ : L2.St} {S H S' H' : Hp} {F F' : List Addr} {env env' : Env} (s : StpQ κ true S H F env S' H' F' env') (g : Gd κ γ σ S' H' F' env') : StpP κ S H S' H' ∧ F' = F ∧ env' = env := by
  obtain ⟨k, rfl, rfl⟩ := s.qt rfl
  refine ⟨⟨k, s.sub, g.wf.sub, fun b o h => ?_⟩, rfl, rfl⟩
  rcases s.stp.new b o h with z | z | z | z
  · exact .inl z
  · exact .inr (.inl z)
  · exact .inr (.inr z)
  · rw [g.wf.out b z] at h
    cases h
/-! looks at a place -/
end
end UL
set_option Elab.async false
set_option linter.all false
set_option maxRecDepth 100000
set_option maxHeartbeats 2000000
/-! changes at places -/
namespace UL
open PySem PySem.Spec PyProof.Rows L2 LV
/-- a def whose first argument is what stands at a place -/
def mCallP (pl : PL) (f : Ow → List U → Option (U × Ow)) (a : M (List U)) : M U := fun env => (pl env).bind fun x => (getE env x.1 x.2).bind fun w => (a env).bind fun y => (f w y.1).bind fun z => some (z.1, putE env x.1 x.2 z.2)
section
variable {κ : String → Addr} {γ : Gh} {ρ : Bool} {fx : Nat → Bool} {K : PySem.W.Frag} {E : XK} {σ : L2.St} {S H : Hp} {F : List Addr} {env : Env}
/-- what is exchanged at a place for what has a foot of its own -/
theorem Loc.put (g : Gd κ γ σ S H F env) {i : Nat} {p : List Sg} {w w' : Ow} {v : V} {S' H' : Hp} {G : List Addr} (h : ∃ F1 F2 F3, F = F1 ++ F2 ++ F3 ∧ RepO κ S H w v F2 ∧ (∀ {S' H' : Hp} {w' : Ow} {F2' : List Addr}, Same S S' → (∀ a, a ∈ F1 ∨ a ∈ F3 → H' a = H a) → RepO κ S' H' w' v F2' → EnvOk κ γ S' H' σ (putE env i p w') (F1 ++ F2' ++ F3)) ∧ Stp κ S H F2 S' H' G)
    (wf : WF S' H' G) (r : RepO κ S' H' w' v G) : ∃ F3, Gd κ γ σ S' H' F3 (putE env i p w') ∧ Stp κ S H F S' H' F3 := by
  obtain ⟨F1, F2, F3, rfl, r0, sg, s⟩ := h
  obtain ⟨nd1, nd2⟩ := nodup_mid g.wf.nd
  have ap : ∀ a, a ∈ F1 ∨ a ∈ F3 → H' a = H a ∧ a ∉ G ∧ S' a = none := fun a ha => by
    have hm : a ∈ F1 ++ F2 ++ F3 := by rcases ha with ha | ha <;> simp [ha]
    obtain ⟨o, ho, nx⟩ := g.env.foot a hm
    have na : a ∉ F2 := fun z => by
      obtain ⟨q1, q2⟩ := nd2 a z
      rcases ha with ha | ha
      · exact q1 ha
      · exact q2 ha
    obtain ⟨q1, q2, q3⟩ := s.apart wf.sub ho na (g.wf.out a hm) nx
    exact ⟨q1.trans ho.symm, q2, q3⟩
  have q := sg (S' := S') (H' := H') (w' := w') (F2' := G) s.sub (fun a ha => (ap a ha).1) r
  refine ⟨F1 ++ G ++ F3, ⟨⟨wf.sub, ?_, fun a ha => ?_⟩, q⟩, ⟨fun b o hb hh => s.keep b o (fun z => hb (by simp [z])) hh, s.trk, s.sub, fun b o hh => ?_, fun a ha => ?_⟩⟩
  · obtain ⟨n1, n2, n3⟩ := List.nodup_append.mp nd1
    rw [List.append_assoc]
    refine List.nodup_append.mpr ⟨n1, List.nodup_append.mpr ⟨wf.nd, n2, fun a ha b hb z => ?_⟩, fun a ha b hb z => ?_⟩
    · subst z
      exact (ap a (.inr hb)).2.1 ha
    · subst z
      rcases List.mem_append.mp hb with hb | hb
      · exact (ap a (.inl ha)).2.1 hb
      · exact n3 a ha a hb rfl
  · simp only [List.mem_append] at ha
    rcases ha with (ha | ha) | ha
    · exact (ap a (.inl ha)).2.2
    · exact wf.out a ha
    · exact (ap a (.inr ha)).2.2
  · rcases s.new b o hh with z | z | z | z
    · exact .inl z
    · exact .inr (.inl z)
    · exact .inr (.inr (.inl z))
    · exact .inr (.inr (.inr (by simp [z])))
  · simp only [List.mem_append] at ha
    rcases ha with (ha | ha) | ha
    · exact .inl (by simp [ha])
    · rcases s.foot a ha with z | z
      · exact .inl (by simp [z])
      · exact .inr z
    · exact .inl (by simp [ha])
end
end UL
set_option Elab.async false
set_option linter.all false
set_option maxRecDepth 100000
set_option maxHeartbeats 2000000
/-! comprehensions whose items are owned -/
namespace UL
open PySem PySem.Spec PyProof.Rows L2 LV
section
variable {κ : String → Addr} {γ : Gh} {ρ : Bool} {fx : Nat → Bool} {K : PySem.W.Frag}
end
end UL
set_option Elab.async false
set_option linter.all false
set_option maxRecDepth 100000
set_option maxHeartbeats 2000000
/-! comprehensions of two clauses -/
namespace UL
open PySem PySem.Spec PyProof.Rows L2 LV
section
variable {κ : String → Addr} {γ : Gh} {ρ : Bool} {fx : Nat → Bool} {K : PySem.W.Frag}
end
section
variable {κ : String → Addr} {γ : Gh} {ρ : Bool} {fx : Nat → Bool} {K : PySem.W.Frag}
end
end UL
set_option Elab.async false
set_option linter.all false
set_option maxRecDepth 100000
set_option maxHeartbeats 2000000
/-! further operations -/
namespace UL
open PySem PySem.Spec PyProof.Rows L2 LV
section
variable {κ : String → Addr} {γ : Gh} {ρ : Bool} {fx : Nat → Bool} {K : PySem.W.Frag} {E : XK}
end
end UL
set_option Elab.async false
set_option linter.all false
set_option maxRecDepth 100000
set_option maxHeartbeats 4000000
namespace LW
open PySem PySem.Spec PyProof.Rows L2 LV LM UL
section
variable {P : Program} {w : World} {K : PySem.W.Frag} {mg : Str → Option Value} {base : Heap} {κ : String → Addr} {γ : Gh} {ρ : Bool} {E : XK} {fx : Nat → Bool}
end
end LW
set_option Elab.async false
set_option linter.all false
set_option maxRecDepth 100000
set_option maxHeartbeats 2000000
/-! new objects with defaults -/
namespace UL
open PySem PySem.Spec PyProof.Rows L2 LV
section
variable {κ : String → Addr} {γ : Gh} {ρ : Bool} {fx : Nat → Bool} {K : PySem.W.Frag} {E : XK}
end
end UL
set_option Elab.async false
set_option linter.all false
set_option maxRecDepth 100000
set_option maxHeartbeats 2000000
/-! xs.remove(x), xs owned -/
namespace UL
open PySem PySem.Spec PyProof.Rows L2 LV
/-- != within a depth -/
def neN (n : Nat) (a b : U) : Option U := match a, b with
  | .lst us, .lst ws => (eqN n (.lst us) (.lst ws)).bind fun x => some (.bl (!x))
  | .tup us, .tup ws => (eqN n (.tup us) (.tup ws)).bind fun x => some (.bl (!x))
  | a, b => neU a b
section
variable {κ : String → Addr} {γ : Gh}
end
end UL
set_option Elab.async false
set_option linter.all false
set_option maxRecDepth 100000
set_option maxHeartbeats 4000000
namespace LW
open PySem PySem.Spec PyProof.Rows L2 LV LM UL
section
variable {P : Program} {w : World} {K : PySem.W.Frag} {mg : Str → Option Value} {base : Heap} {κ : String → Addr} {γ : Gh} {ρ : Bool} {E : XK} {fx : Nat → Bool}
end
end LW
set_option Elab.async false
set_option linter.all false
set_option maxRecDepth 100000
set_option maxHeartbeats 4000000
namespace LW
open PySem PySem.Spec PyProof.Rows L2 LV LM UL
section
variable {P : Program} {w : World} {K : PySem.W.Frag} {mg : Str → Option Value} {base : Heap} {κ : String → Addr} {γ : Gh} {ρ : Bool} {E : XK} {fx : Nat → Bool}
end
end LW
set_option Elab.async false
set_option linter.all false
set_option maxRecDepth 100000
set_option maxHeartbeats 4000000
namespace LW
open PySem PySem.Spec PyProof.Rows L2 LV LM UL
/-! calls without arguments -/
/-! calls of instances -/
structure CalO (P : Program) (w : World) (K : PySem.W.Frag) (mg : Str → Option Value) (base : Heap) (k : Nat) (L : Addr) (sp : Sp) : Prop where
  ex : ∃ g, StX.CallO K L g ∧ FnR P w K mg base CX0 k g sp
section
variable {P : Program} {w : World} {K : PySem.W.Frag} {mg : Str → Option Value} {base : Heap} {κ : String → Addr} {γ : Gh} {ρ : Bool} {E : XK} {fx : Nat → Bool} {cs : List String}
end
end LW
set_option Elab.async false
set_option linter.all false
set_option maxRecDepth 100000
set_option maxHeartbeats 4000000
namespace LW
open PySem PySem.Spec PyProof.Rows L2 LV LM UL
end LW
set_option Elab.async false
set_option linter.all false
set_option maxRecDepth 100000
set_option maxHeartbeats 4000000
/-! the head's look over objects that are found by a walk with a set of marks -/
noncomputable section
namespace LW
open PySem PySem.Spec PyProof.Rows L2 LV LM UL
/-- those that are not marked, each once, with the marks behind them -/
def pickB (as : List Addr) : Nat → List Addr → (Nat → List Addr → List Addr) → List Addr :=
  List.rec (motive := fun _ => Nat → List Addr → (Nat → List Addr → List Addr) → List Addr) (fun m acc k => k m acc)
    (fun a _ ih m acc k => Bool.rec (motive := fun _ => List Addr) (ih (Nat.lor m (Nat.shiftLeft 1 a)) (a :: acc) k) (ih m acc k) (Nat.beq (Nat.land (Nat.shiftRight m a) 1) 1)) as
theorem map_three {α β γ δ : Type} {x : Option α} {f : α → β} {g : α → γ} {e : α → δ} {b : β} {c : γ} {d : δ} (h1 : (x.map fun s => (f s, g s)) = some (b, c)) (h2 : x.map e = some d) : (x.map fun s => (f s, g s, e s)) = some (b, c, d) := by
  cases x with
  | none => cases h1
  | some a =>
    cases h1
    cases h2
    rfl
end LW
end
set_option Elab.async false
set_option linter.all false
set_option maxRecDepth 100000
set_option maxHeartbeats 2000000
/-! a name for a row of what is owned, while the row changes in place -/
namespace UL
open PySem PySem.Spec PyProof.Rows L2 LV
mutual
def cnt : Ow → Nat
  | .p _ => 0
  | .l ws => cnts ws + 1
  | .o _ _ ws => cnts ws + 1
  | .d _ ws => cnts ws + 1
  | .t ws => cnts ws
  | .g _ => 1
def cnts : List Ow → Nat
  | [] => 0
  | w :: ws => cnt w + cnts ws
end
def nav2 (H : Hp) (v0 : V) (f : Str) (n : Nat) (va : V) : Prop := ∃ a C dx fs b vs, v0 = .ref a ∧ H a = some (.ins C dx fs) ∧ fs.lookup f = some (.ref b) ∧ H b = some (.lst vs) ∧ vs[n]? = some va
theorem nav2.eq {H : Hp} {v0 : V} {f : Str} {n : Nat} {x y : V} (h : nav2 H v0 f n x) (h' : nav2 H v0 f n y) : x = y := by
  obtain ⟨a, C, dx, fs, b, vs, rfl, h1, h2, h3, h4⟩ := h
  obtain ⟨a', C', dx', fs', b', vs', e, g1, g2, g3, g4⟩ := h'
  cases e
  rw [h1] at g1
  cases g1
  rw [h2] at g2
  cases g2
  rw [h3] at g3
  cases g3
  rw [h4] at g4
  cases g4
  rfl
theorem nav2.mono {H H' : Hp} {v0 : V} {f : Str} {n : Nat} {x : V} (h : nav2 H v0 f n x) (e : Same H H') : nav2 H' v0 f n x := by
  obtain ⟨a, C, dx, fs, b, vs, h0, h1, h2, h3, h4⟩ := h
  exact ⟨a, C, dx, fs, b, vs, h0, e _ _ h1, h2, e _ _ h3, h4⟩
section
variable {κ : String → Addr} {γ : Gh} {ρ : Bool} {fx : Nat → Bool} {K : PySem.W.Frag} {E : XK} {σ : L2.St} {S H : Hp} {F : List Addr} {env : Env}
mutual
theorem RepO.cnt : ∀ (w : Ow) {v : V} {F : List Addr}, RepO κ S H w v F → F.length = UL.cnt w
  | .p u, _, _, h => by
    obtain ⟨rfl, _⟩ := h
    rfl
  | .l ws, _, _, h => by
    obtain ⟨a, vs, F', h1, h2, rfl, h4⟩ := h
    simp [UL.cnt, RepOs.cnt ws h4]
  | .o _ _ ws, _, _, h => by
    obtain ⟨a, dx, vs, F', h1, h2, h3, _, rfl, h4⟩ := h
    simp [UL.cnt, RepOs.cnt ws h4]
  | .d _ ws, _, _, h => by
    obtain ⟨a, vs, F', h1, h2, _, rfl, h4⟩ := h
    simp [UL.cnt, RepOs.cnt ws h4]
  | .t ws, _, _, ⟨_, _, _, _, h⟩ => by
    simp [UL.cnt, RepOs.cnt ws h]
  | .g _, _, _, h => by
    obtain ⟨a, h1, h2, rfl⟩ := h
    rfl
theorem RepOs.cnt : ∀ (ws : List Ow) {vs : List V} {F : List Addr}, RepOs κ S H ws vs F → F.length = cnts ws
  | [], _, _, h => by
    obtain ⟨_, rfl⟩ := h
    rfl
  | w :: ws, _, _, h => by
    obtain ⟨v, vs', F1, F2, h1, rfl, h3, h4⟩ := h
    simp [cnts, RepO.cnt w h3, RepOs.cnt ws h4]
end
/-! the row named by slot j -/
def AL (f : Str) (n j : Nat) (σ : L2.St) (H : Hp) : Prop := ∃ v0 va, σ[0]? = some (some v0) ∧ σ[j]? = some (some va) ∧ nav2 H v0 f n va
theorem AL.mono {f : Str} {n j : Nat} {σ : L2.St} {H H' : Hp} (h : AL f n j σ H) (e : Same H H') : AL f n j σ H' := by
  obtain ⟨v0, va, h1, h2, h3⟩ := h
  exact ⟨v0, va, h1, h2, h3.mono e⟩
theorem AL.set {f : Str} {n j i : Nat} {σ : L2.St} {H : Hp} {v : Option V} (h : AL f n j σ H) (h0 : i ≠ 0) (hj : i ≠ j) : AL f n j (σ.set i v) H := by
  obtain ⟨v0, va, h1, h2, h3⟩ := h
  exact ⟨v0, va, by rw [List.getElem?_set_ne h0]; exact h1, by rw [List.getElem?_set_ne hj]; exact h2, h3⟩
structure SimEA (κ : String → Addr) (γ : Gh) (f : Str) (n j : Nat) (t : TE) (m : M U) : Prop where
  run : ∀ {σ : L2.St} {S H : Hp} {F : List Addr} {env : Env}, Gd κ γ σ S H F env → AL f n j σ H → ∀ {u : U} {env' : Env}, m env = some (u, env') → ∀ Q : VK,
  (∀ v S' H', StpP κ S H S' H' → Gd κ γ σ S' H' F env → env' = env → Rep κ S' u v → Q v H') → t σ H Q
structure SimAA (κ : String → Addr) (γ : Gh) (f : Str) (n j : Nat) (t : TA) (m : M (List U)) : Prop where
  run : ∀ {σ : L2.St} {S H : Hp} {F : List Addr} {env : Env}, Gd κ γ σ S H F env → AL f n j σ H → ∀ {us : List U} {env' : Env}, m env = some (us, env') → ∀ Q : List V → Hp → Prop,
    (∀ vs S' H', StpP κ S H S' H' → Gd κ γ σ S' H' F env → env' = env → Reps κ S' us vs → Q vs H') → t σ H Q
structure SimSA (κ : String → Addr) (γ : Gh) (f : Str) (n j : Nat) (t : TS) (m : MS) : Prop where
  only : ∀ {env fl}, m env = some fl → ∃ e, fl = .nx e
  run : ∀ {σ : L2.St} {S H : Hp} {F : List Addr} {env : Env}, Gd κ γ σ S H F env → AL f n j σ H → ∀ {env' : Env}, m env = some (.nx env') → ∀ D : Ends,
    (∀ σ' S' H' F', Stp κ S H F S' H' F' → Gd κ γ σ' S' H' F' env' → AL f n j σ' H' → Fix fx1 σ σ' → D.nx σ' H') → t D σ H
variable {f : Str} {n j : Nat}
/-! statements -/
/-! a def that keeps the foot -/
structure SimSF (κ : String → Addr) (γ : Gh) (t : TS) (m : MS) : Prop where
  only : ∀ {env fl}, m env = some fl → ∃ e, fl = .nx e
  run : ∀ {σ : L2.St} {S H : Hp} {F : List Addr} {env : Env}, Gd κ γ σ S H F env → ∀ {env' : Env}, m env = some (.nx env') → ∀ D : Ends,
    (∀ S' H', Stp κ S H F S' H' F → Gd κ γ σ S' H' F env' → D.nx σ H') → t D σ H
theorem Gd.putW (g : Gd κ γ σ S H F env) (i : Nat) (v : Option V) : ∃ F', Gd κ γ (σ.set i v) S H F' (env.set i none) ∧ ∀ a ∈ F', a ∈ F := by
  by_cases hi : i < env.length
  · have e : env[i]? = some env[i] := by simp [hi]
    obtain ⟨s, F1, F2, F3, h1, rfl, h3, h4⟩ := g.env.get e
    have q := h4 (S' := S) (H' := H) (s' := v) (w' := none) (F2' := []) (fun _ _ h => h) (fun _ _ => rfl) rfl
    have sub : ∀ a ∈ F1 ++ [] ++ F3, a ∈ F1 ++ F2 ++ F3 := fun a ha => by
      simp only [List.mem_append, List.not_mem_nil, or_false] at ha ⊢
      rcases ha with ha | ha <;> simp [ha]
    refine ⟨_, ⟨⟨g.wf.sub, ?_, fun a ha => g.wf.out a (sub a ha)⟩, q⟩, sub⟩
    rw [List.append_nil]
    exact (nodup_mid g.wf.nd).1
  · have hl := g.env.len
    rw [set_ge hi, set_ge (by omega)]
    exact ⟨F, g, fun a ha => ha⟩
end
end UL
set_option Elab.async false
set_option linter.all false
set_option maxRecDepth 100000
set_option maxHeartbeats 2000000
/-! x, y = e, e' by a tuple that is made and taken apart -/
namespace UL
open PySem PySem.Spec PyProof.Rows L2 LV
section
variable {κ : String → Addr} {γ : Gh} {fx : Nat → Bool} {K : PySem.W.Frag}
end
end UL
set_option Elab.async false
set_option linter.all false
set_option maxRecDepth 100000
set_option maxHeartbeats 2000000
/-! a call of a def that only looks at an owned thing -/
namespace UL
open PySem PySem.Spec PyProof.Rows L2 LV
section
variable {κ : String → Addr} {γ : Gh} {ρ : Bool} {E : XK}
end
end UL
set_option Elab.async false
set_option linter.all false
set_option maxRecDepth 100000
set_option maxHeartbeats 2000000
namespace UL
open PySem L2
end UL
namespace UL
open PySem L2
end UL
set_option Elab.async false
set_option linter.all false
set_option maxRecDepth 100000
set_option maxHeartbeats 4000000
/-! == of empty dicts; lists of own instances -/
namespace LW
open PySem PySem.Spec PyProof.Rows L2 LV LM UL
section
variable {P : Program} {w : World} {K : PySem.W.Frag} {mg : Str → Option Value} {base : Heap} {κ : String → Addr} {γ : Gh} {cs : List String}
end
end LW
/-! [..] * n; {}; the parts of an Exact -/
namespace LW
open PySem PySem.Spec PyProof.Rows L2 LV LM UL
section
variable {K : PySem.W.Frag} {κ : String → Addr} {γ : Gh} {ρ : Bool}
end
end LW
set_option Elab.async false
set_option linter.all false
set_option maxRecDepth 100000
set_option maxHeartbeats 2000000
/-! dicts with texts as keys -/
namespace UL
open PySem PySem.Spec PyProof.Rows L2 LV
def kvz (ks : List Str) (vs : List V) : List (Key × V) := (ks.map Sum.inr).zip vs
theorem kvz_val : ∀ {ks : List Str} {vs : List V} {n : Str}, ks.length = vs.length → valV (kvz ks vs) (Sum.inr n) = (ixF n ks).bind fun j => vs[j]?
  | [], vs, n, h => rfl
  | m :: r, [], n, h => by simp at h
  | m :: r, v :: vs, n, h => by
    have ih := kvz_val (ks := r) (vs := vs) (n := n) (by simpa using h)
    show valV ((Sum.inr m, v) :: kvz r vs) _ = _
    unfold ixF
    by_cases hm : m = n
    · rw [valV_pos (by rw [hm]), if_pos hm]
      rfl
    · rw [valV_neg (fun z => hm (Sum.inr.inj z)), if_neg hm, ih]
      cases ixF n r <;> rfl
theorem kvz_put_new {ks : List Str} {vs : List V} {n : Str} {y : V} (h : ks.length = vs.length) (hj : ixF n ks = none) : putK (kvz ks vs) (Sum.inr n) y = kvz (ks ++ [n]) (vs ++ [y]) := by
  rw [putK_new _ (by rw [kvz_val h, hj]; rfl)]
  unfold kvz
  rw [List.map_append, List.zip_append (by simpa using h)]
  rfl
section
variable {κ : String → Addr} {γ : Gh} {ρ : Bool} {fx : Nat → Bool} {K : PySem.W.Frag} {σ : L2.St} {S H : Hp} {F : List Addr} {env : Env}
/-- what is owned by nobody yet keeps its foot over a pure step -/
theorem WF.pure_ {S1 H1 : Hp} {A : List Addr} (ft : ∀ a ∈ A, ∃ o, H a = some o ∧ ¬ XObj κ o) (wf : WF S H A) (p : StpP κ S H S1 H1) : WF S1 H1 A := by
  refine ⟨p.in_, wf.nd, fun a ha => ?_⟩
  obtain ⟨o, ho, nx⟩ := ft a ha
  rcases hs : S1 a with _ | o1
  · rfl
  · have e1 := p.in_ _ _ hs
    rw [p.keep _ _ ho] at e1
    cases e1
    rcases p.new a _ hs with z | z | z
    · rw [wf.out a ha] at z
      cases z
    · rw [ho] at z
      cases z
    · exact (nx z).elim
end
end UL
set_option Elab.async false
set_option linter.all false
set_option maxRecDepth 100000
set_option maxHeartbeats 2000000
/-! dicts: displays; an owned thing lent to a def that changes the state, or hands back what is owned -/
namespace UL
open PySem PySem.Spec PyProof.Rows L2 LV
section
variable {κ : String → Addr} {γ : Gh} {ρ : Bool} {fx : Nat → Bool} {K : PySem.W.Frag} {E : XK}
/-! a display -/
structure SimD (κ : String → Addr) (γ : Gh) (trs : List (TE × TE)) (fs : List Str) (m : M (List U)) : Prop where
  len : ∀ {env us env'}, m env = some (us, env') → us.length = fs.length
  run : ∀ {σ : L2.St} {S H : Hp} {F : List Addr} {env : Env}, Gd κ γ σ S H F env → ∀ {us : List U} {env' : Env}, m env = some (us, env') → ∀ Q : List (V × V) → Hp → Prop,
    (∀ vs S' H' F', Stp κ S H F S' H' F' → Gd κ γ σ S' H' F' env' → Reps κ S' us vs → Q ((kvz fs vs).map fun kv => (kV kv.1, kv.2)) H') → tPairs trs σ H Q
theorem simD_nil : SimD κ γ [] [] mNil := by
  constructor
  · intro env us env' e
    cases e
    rfl
  · intro σ S H F env g us env' e Q k
    cases e
    exact k [] S H F (Stp.refl S H F) g rfl
theorem simD_cons {f : Str} {fs : List Str} {tk te : TE} {m : M U} {ms : M (List U)} {trs : List (TE × TE)} (hk : SimE κ γ true tk (mC (.str f))) (he : SimE κ γ false te m) (hr : SimD κ γ trs fs ms) : SimD κ γ ((tk, te) :: trs) (f :: fs) (mCons m ms) := by
  constructor
  · intro env us env' e
    obtain ⟨⟨x, e1⟩, h1, e⟩ := bindS e
    obtain ⟨⟨y, e2⟩, h2, e⟩ := bindS e
    cases e
    simp [hr.len h2]
  · intro σ S H F env g us env' e Q k
    obtain ⟨⟨x, e1⟩, h1, e⟩ := bindS e
    obtain ⟨⟨y, e2⟩, h2, e⟩ := bindS e
    cases e
    refine hk.run g rfl _ fun v0 S0 H0 F0 s0 g0 r0 => ?_
    have r0 : v0 = .str f := r0
    subst r0
    obtain ⟨p0, hF0, _⟩ := s0.quiet g0
    subst hF0
    refine he.run g0 h1 _ fun v S1 H1 F1 s1 g1 r1 => hr.run g1 h2 _ fun vs S2 H2 F2 s2 g2 r2 => ?_
    exact k (v :: vs) S2 H2 F2 ((p0.stp.trans s1.stp).trans s2) g2 ⟨v, vs, rfl, Rep.mono s2.sub x r1, r2⟩
def mDisp (fs : List Str) (m : M (List U)) : M Ow := fun env => (m env).bind fun x => if fs.Nodup ∧ fs.length ≤ 15 then some (.d fs (x.1.map .p), x.2) else none
theorem kvz_merge : ∀ (fs : List Str) (vs : List V) (gs : List Str) (ws : List V), gs.length = ws.length → fs.length = vs.length → (gs ++ fs).Nodup → mergeK (kvz gs ws) (kvz fs vs) = kvz (gs ++ fs) (ws ++ vs)
  | [], [], gs, ws, _, _, _ => by simp [kvz, mergeK]
  | f :: fs, v :: vs, gs, ws, hg, hf, nd => by
    have nf : ixF f gs = none := by
      rcases h : ixF f gs with _ | j
      · rfl
      · exfalso
        have m1 : f ∈ gs := by
          clear nd hf hg
          induction gs generalizing j with
          | nil => cases h
          | cons m r ih =>
            unfold ixF at h
            split at h
            · rename_i hm
              simp [hm]
            · obtain ⟨j', hj, rfl⟩ := Option.map_eq_some_iff.mp h
              simp [ih _ hj]
        exact (List.nodup_append.mp nd).2.2 f m1 f (by simp) rfl
    show mergeK (putK (kvz gs ws) (Sum.inr f) v) (kvz fs vs) = _
    rw [kvz_put_new hg nf, kvz_merge fs vs (gs ++ [f]) (ws ++ [v]) (by simp [hg]) (by simpa using hf) (by simpa using nd)]
    simp
  | [], _ :: _, _, _, _, h, _ => by simp at h
  | _ :: _, [], _, _, _, h, _ => by simp at h
theorem simO_disp {trs : List (TE × TE)} {fs : List Str} {m : M (List U)} (h : SimD κ γ trs fs m) : SimO κ γ (tDisp trs) (mDisp fs m) := by
  constructor
  intro σ S H F env g w env' e Q k
  obtain ⟨⟨us, e1⟩, h1, e⟩ := bindS e
  dsimp only at e
  split at e
  case isFalse => cases e
  rename_i hc
  cases e
  intro p hp
  have kp : Same H (upd H p (.dK [])) := Same.new hp
  have p1 : StpP κ S H S (upd H p (.dK [])) := ⟨kp, fun _ _ h => h, g.wf.sub.trans kp, fun _ _ h => .inl h⟩
  have nF : p ∉ F := fun z => by
    obtain ⟨o, ho, _⟩ := g.env.foot p z
    rw [hp] at ho
    cases ho
  have nS : S p = none := by
    rcases hs : S p with _ | o
    · rfl
    · have := g.wf.sub p o hs
      rw [hp] at this
      cases this
  refine h.run (g.pure_ p1) h1 _ fun vs S' H' F' s' g' r => ?_
  have hl : fs.length = vs.length := by rw [← h.len h1]; exact r.len
  have h2 : H' p = some (.dK []) := s'.keep p _ nF upd_same
  have nX : ¬ XObj κ (HO.dK []) := fun z => by rcases z with ⟨_, _, z⟩ | ⟨_, _, z⟩ <;> cases z
  have nS' : S' p = none := by
    rcases hs : S' p with _ | o
    · rfl
    · have e2 := g'.wf.sub p o hs
      rw [h2] at e2
      cases e2
      rcases s'.new p _ hs with z | z | z | z
      · rw [nS] at z; cases z
      · rw [upd_same] at z; cases z
      · exact (nX z).elim
      · exact (nF z).elim
  have nF' : p ∉ F' := fun z => by
    rcases s'.foot p z with z | z
    · exact nF z
    · rw [upd_same] at z; cases z
  refine ⟨h2, kvz fs vs, rfl, by
    unfold kvz
    rw [List.length_zip, List.length_map]
    omega, ?_⟩
  have em : mergeK [] (kvz fs vs) = kvz fs vs := by
    have := kvz_merge fs vs [] [] rfl hl (by simpa using hc.1)
    simpa [kvz] using this
  rw [em]
  have kk : ∀ b, b ≠ p → upd H' p (.dK (kvz fs vs)) b = H' b := fun b hb => upd_ne hb
  have sub2 : Same S' (upd H' p (.dK (kvz fs vs))) := fun b o hb => by
    rw [upd_ne fun z => by subst z; rw [nS'] at hb; cases hb]
    exact g'.wf.sub b o hb
  have g2 : Gd κ γ σ S' (upd H' p (.dK (kvz fs vs))) F' env' := ⟨⟨sub2, g'.wf.nd, g'.wf.out⟩, EnvOk.mono (fun _ _ h => h) (fun a ha => kk a fun z => nF' (z ▸ ha)) g'.env⟩
  have s0 := p1.stp (F := F) |>.trans s'
  refine k (.ref p) S' _ F' [p] ⟨fun b o hb hh => ?_, fun b hb => ?_, s0.sub, s0.new, fun a ha => ?_⟩ g2 ⟨sub2, ?_, fun a ha => ?_⟩ ⟨p, vs, [], rfl, upd_same, hl, rfl, RepOs.pure_ r⟩
  · rw [upd_ne fun z => by subst z; rw [hp] at hh; cases hh]
    exact s0.keep b o hb hh
  · by_cases z : b = p
    · subst z
      exact hp
    · rw [upd_ne z] at hb
      exact s0.trk b hb
  · rcases List.mem_append.mp ha with ha | ha
    · exact s0.foot a ha
    · simp at ha
      subst ha
      exact .inr hp
  · exact List.nodup_append.mpr ⟨g'.wf.nd, by simp, fun a ha b hb z => by
      simp at hb
      subst hb
      subst z
      exact nF' ha⟩
  · rcases List.mem_append.mp ha with ha | ha
    · exact g'.wf.out a ha
    · simp at ha
      subst ha
      exact nS'
end
end UL
set_option Elab.async false
set_option linter.all false
set_option maxRecDepth 100000
set_option maxHeartbeats 2000000
/-! what changes the state and leaves the dict of slot i -/
namespace UL
open PySem PySem.Spec PyProof.Rows L2 LV
section
variable {κ : String → Addr} {γ : Gh} {ρ : Bool} {fx : Nat → Bool} {K : PySem.W.Frag} {E : XK}
def isDs (env : Env) (i : Nat) : Prop := ∃ ks ws, env[i]? = some (some (.d ks ws))
def Stay (σ : L2.St) (i : Nat) (H H' : Hp) : Prop := ∀ a o, σ[i]? = some (some (.ref a)) → H a = some o → H' a = some o
structure SimEi (κ : String → Addr) (γ : Gh) (i : Nat) (t : TE) (m : M U) : Prop where
  run : ∀ {σ : L2.St} {S H : Hp} {F : List Addr} {env : Env}, Gd κ γ σ S H F env → isDs env i → ∀ {u : U} {env' : Env}, m env = some (u, env') → ∀ Q : VK,
    (∀ v S' H' F', Stp κ S H F S' H' F' → Gd κ γ σ S' H' F' env' → env'[i]? = env[i]? → Stay σ i H H' → Rep κ S' u v → Q v H') → t σ H Q
structure SimAi (κ : String → Addr) (γ : Gh) (i n : Nat) (t : TA) (m : M (List U)) : Prop where
  len : ∀ {env us env'}, m env = some (us, env') → us.length = n
  run : ∀ {σ : L2.St} {S H : Hp} {F : List Addr} {env : Env}, Gd κ γ σ S H F env → isDs env i → ∀ {us : List U} {env' : Env}, m env = some (us, env') → ∀ Q : List V → Hp → Prop,
    (∀ vs S' H' F', Stp κ S H F S' H' F' → Gd κ γ σ S' H' F' env' → env'[i]? = env[i]? → Stay σ i H H' → Reps κ S' us vs → Q vs H') → t σ H Q
variable {i : Nat}
theorem Stay.trans {σ : L2.St} {H H1 H2 : Hp} (a : Stay σ i H H1) (b : Stay σ i H1 H2) : Stay σ i H H2 := fun x o h1 h2 => b x o h1 (a x o h1 h2)
theorem isDs.eq {env env' : Env} (h : isDs env i) (e : env'[i]? = env[i]?) : isDs env' i := by
  obtain ⟨ks, ws, h⟩ := h
  exact ⟨ks, ws, e.trans h⟩
end
end UL
set_option Elab.async false
set_option linter.all false
set_option maxRecDepth 100000
set_option maxHeartbeats 2000000
/-! sorted of whole numbers -/
namespace UL
open PySem PySem.Spec PyProof.Rows L2 LV
section
variable {κ : String → Addr} {X : Cx}
end
section
variable {κ : String → Addr} {γ : Gh} {K : PySem.W.Frag} {S H : Hp}
end
end UL
set_option Elab.async false
set_option linter.all false
set_option maxRecDepth 100000
set_option maxHeartbeats 2000000
/-! an owned thing lent to an expression; dict(x); x.f.pop(); several targets at once, keys of dicts among them -/
namespace UL
open PySem PySem.Spec PyProof.Rows L2 LV
section
variable {κ : String → Addr} {γ : Gh} {ρ : Bool} {fx : Nat → Bool} {K : PySem.W.Frag} {E : XK}
/-! dict(x) -/
/-! several targets -/
abbrev MGO := List Ow → Env → Option Env
structure SimGsO (κ : String → Addr) (γ : Gh) (fx : Nat → Bool) (g : TGs) (m : MGO) : Prop where
  run : ∀ {σ : L2.St} {S H : Hp} {F A : List Addr} {env : Env}, Gd κ γ σ S H F env → WF S H (F ++ A) → ∀ {ws : List Ow} {vs : List V} {env' : Env}, RepOs κ S H ws vs A → m ws env = some env' → ∀ Q : L2.St → Hp → Prop,
    (∀ σ' S' H' F', Stp κ S H (F ++ A) S' H' F' → Gd κ γ σ' S' H' F' env' → Fix fx σ σ' → Q σ' H') → g vs σ H Q
end
end UL
set_option Elab.async false
set_option linter.all false
set_option maxRecDepth 100000
set_option maxHeartbeats 1000000
/-! owned tuples; a walk along what is owned that changes all within; a walk that only looks -/
namespace UL
open PySem PySem.Spec PyProof.Rows L2 LV
section
variable {κ : String → Addr} {γ : Gh} {fx : Nat → Bool} {K : PySem.W.Frag} {E : XK} {σ : L2.St} {S H : Hp} {F F0 : List Addr} {env env0 : Env}
theorem Gd.forget (g : Gd κ γ σ S H F env) (j : Nat) : ∃ F', Gd κ γ σ S H F' (env.set j none) ∧ ∀ a ∈ F', a ∈ F := by
  by_cases hj : j < σ.length
  · obtain ⟨F', g', h⟩ := g.putW j σ[j]
    rw [set_id (by simp [hj])] at g'
    exact ⟨F', g', h⟩
  · have := g.env.len
    rw [set_ge (by omega)]
    exact ⟨F, g, fun _ h => h⟩
end
end UL
set_option Elab.async false
set_option linter.all false
set_option maxRecDepth 100000
set_option maxHeartbeats 1000000
/-! a list display whose place is told: mirrors that take the place; a stretch of statements in which the list at that place changes -/
namespace UL
open PySem PySem.Spec PyProof.Rows L2 LV
section
variable (κ : String → Addr) (γ : Gh) (fx : Nat → Bool)
structure SimEp (t : TE) (m : Addr → M U) : Prop where
  run : ∀ {σ : L2.St} {S H : Hp} {F : List Addr} {env : Env}, Gd κ γ σ S H F env → ∀ {r : Addr → U × Env}, (∀ p, m p env = some (r p)) → ∀ Q : VK,
    (∀ p v S' H' F', H p = none → StpQ κ false S H F env S' H' F' (r p).2 → Gd κ γ σ S' H' F' (r p).2 → Rep κ S' (r p).1 v → Q v H') → t σ H Q
structure SimAp (n : Nat) (t : TA) (m : Addr → M (List U)) : Prop where
  len : ∀ {p env us env'}, m p env = some (us, env') → us.length = n
  run : ∀ {σ : L2.St} {S H : Hp} {F : List Addr} {env : Env}, Gd κ γ σ S H F env → ∀ {r : Addr → List U × Env}, (∀ p, m p env = some (r p)) → ∀ Q : List V → Hp → Prop,
    (∀ p vs S' H' F', H p = none → StpQ κ false S H F env S' H' F' (r p).2 → Gd κ γ σ S' H' F' (r p).2 → Reps κ S' (r p).1 vs → Q vs H') → t σ H Q
structure SimSp (t : TS) (m : Addr → MS) : Prop where
  run : ∀ {σ : L2.St} {S H : Hp} {F : List Addr} {env : Env}, Gd κ γ σ S H F env → ∀ {fl : Addr → Fl}, (∀ p, m p env = some (fl p)) → ∀ D : Ends, (∀ p, H p = none → Rch κ γ fx σ S H F D (fl p)) → t D σ H
/-- while the list at p may have changed since the base -/
structure SimC (p : Addr) (t : TS) (m : MS) : Prop where
  run : ∀ {σ0 σ : L2.St} {S0 H0 S H : Hp} {F0 F : List Addr} {env : Env}, H0 p = none → Same S0 H0 → Stp κ S0 H0 F0 S H F → Fix fx σ0 σ → Gd κ γ σ S H F env → ∀ {fl : Fl}, m env = some fl → ∀ D : Ends, Rch κ γ fx σ0 S0 H0 F0 D fl → t D σ H
end
/-- the display at p -/
def mAtL (p : Addr) (m : M (List U)) : M U := fun env => (m env).bind fun x => some (.atl p x.1, x.2)
def dropE (L : List Nat) (env : Env) : Env := L.foldl (fun e i => e.set i none) env
def dropFl (L : List Nat) : Fl → Fl
  | .nx e => .nx (dropE L e)
  | .bk e => .bk (dropE L e)
  | .rt w e => .rt w (dropE L e)
section
variable {κ : String → Addr} {γ : Gh} {fx : Nat → Bool} {E : XK}
theorem ax {α β : Type} {P : α → β → Prop} (h : ∀ a, ∃ b, P a b) : ∃ f : α → β, ∀ a, P a (f a) := ⟨fun a => (h a).choose, fun a => (h a).choose_spec⟩
theorem simEp_at {n : Nat} {t : TA} {m : M (List U)} (h : SimA κ γ false n t m) (hn : n ≤ 1000 := by decide) : SimEp κ γ (tLst t) (fun p => mAtL p m) := by
  constructor
  intro σ S H F env g r e Q k
  obtain ⟨⟨x, e1⟩, h1, e0⟩ := bindS (e 0)
  have hr : ∀ p, r p = (.atl p x, e1) := fun p => by
    have := e p
    unfold mAtL at this
    rw [h1] at this
    exact (Option.some.inj this).symm
  have hl := h.len h1
  refine h.run g h1 _ fun vs S1 H1 F1 s1 g1 rs => ⟨?_, fun p hp => ?_⟩
  · rw [← rs.len, hl]
    exact Nat.le_trans hn (by decide)
  · have st : StpP κ S1 H1 (upd S1 p (.lst vs)) (upd H1 p (.lst vs)) := StpP.new1 g1.wf.sub hp
    refine k p _ (upd S1 p (.lst vs)) (upd H1 p (.lst vs)) F1 (s1.stp.trk p hp) ?_ ?_ ?_
    · rw [hr]
      exact s1.trans st.stq
    · rw [hr]
      exact g1.pure_ st
    · rw [hr]
      exact ⟨p, vs, rfl, upd_same, Reps.mono st.sub _ rs, rfl⟩
theorem simAp_head {n : Nat} {ta : TE} {ma : Addr → M U} {tr : TA} {mr : M (List U)} (ha : SimEp κ γ ta ma) (hr : SimA κ γ false n tr mr) : SimAp κ γ (n + 1) (tCons ta tr) (fun p => mCons (ma p) mr) := by
  constructor
  · intro p env us env' e
    obtain ⟨⟨x, e1⟩, h1, e⟩ := bindS e
    obtain ⟨⟨y, e2⟩, h2, e⟩ := bindS e
    cases e
    simp [hr.len h2]
  · intro σ S H F env g r e Q k
    have q : ∀ p, ∃ z : (U × Env) × (List U × Env), ma p env = some z.1 ∧ mr z.1.2 = some z.2 ∧ r p = (z.1.1 :: z.2.1, z.2.2) := fun p => by
      obtain ⟨x, h1, e⟩ := bindS (e p)
      obtain ⟨y, h2, e⟩ := bindS e
      exact ⟨(x, y), h1, h2, (Option.some.inj e).symm⟩
    obtain ⟨f, hf⟩ := ax q
    refine ha.run g (fun p => (hf p).1) _ fun p v S1 H1 F1 hp s1 g1 r1 => hr.run g1 (hf p).2.1 _ fun vs S2 H2 F2 s2 g2 rs => k p _ S2 H2 F2 hp ?_ ?_ ?_
    · rw [(hf p).2.2]
      exact s1.trans s2
    · rw [(hf p).2.2]
      exact g2
    · rw [(hf p).2.2]
      exact ⟨v, vs, rfl, Rep.mono s2.sub _ r1, rs⟩
theorem simAp_tail {n : Nat} {ta : TE} {ma : M U} {tr : TA} {mr : Addr → M (List U)} (ha : SimE κ γ false ta ma) (hr : SimAp κ γ n tr mr) : SimAp κ γ (n + 1) (tCons ta tr) (fun p => mCons ma (mr p)) := by
  constructor
  · intro p env us env' e
    obtain ⟨⟨x, e1⟩, h1, e⟩ := bindS e
    obtain ⟨⟨y, e2⟩, h2, e⟩ := bindS e
    cases e
    simp [hr.len h2]
  · intro σ S H F env g r e Q k
    obtain ⟨⟨x, e1⟩, h1, _⟩ := bindS (e 0)
    have q : ∀ p, ∃ z : List U × Env, mr p e1 = some z ∧ r p = (x :: z.1, z.2) := fun p => by
      obtain ⟨x', h1', e⟩ := bindS (e p)
      rw [h1] at h1'
      cases h1'
      obtain ⟨y, h2, e⟩ := bindS e
      exact ⟨y, h2, (Option.some.inj e).symm⟩
    obtain ⟨f, hf⟩ := ax q
    refine ha.run g h1 _ fun v S1 H1 F1 s1 g1 r1 => hr.run g1 (fun p => (hf p).1) _ fun p vs S2 H2 F2 hp s2 g2 rs => k p _ S2 H2 F2 (s1.stp.trk p hp) ?_ ?_ ?_
    · rw [(hf p).2]
      exact s1.trans s2
    · rw [(hf p).2]
      exact g2
    · rw [(hf p).2]
      exact ⟨v, vs, rfl, Rep.mono s2.sub _ r1, rs⟩
theorem simEp_lst {n : Nat} {t : TA} {m : Addr → M (List U)} (h : SimAp κ γ n t m) (hn : n ≤ 1000 := by decide) : SimEp κ γ (tLst t) (fun p => mLst (m p)) := by
  constructor
  intro σ S H F env g r e Q k
  have q : ∀ p, ∃ z : List U × Env, m p env = some z ∧ r p = (.lst z.1, z.2) := fun p => by
    obtain ⟨y, h2, e⟩ := bindS (e p)
    exact ⟨y, h2, (Option.some.inj e).symm⟩
  obtain ⟨f, hf⟩ := ax q
  refine h.run g (fun p => (hf p).1) _ fun p vs S1 H1 F1 hp s1 g1 rs => ⟨?_, fun p' hp' => ?_⟩
  · rw [← rs.len, h.len (hf p).1]
    exact Nat.le_trans hn (by decide)
  · have st : StpP κ S1 H1 (upd S1 p' (.lst vs)) (upd H1 p' (.lst vs)) := StpP.new1 g1.wf.sub hp'
    refine k p _ (upd S1 p' (.lst vs)) (upd H1 p' (.lst vs)) F1 hp ?_ ?_ ?_
    · rw [(hf p).2]
      exact s1.trans st.stq
    · rw [(hf p).2]
      exact g1.pure_ st
    · rw [(hf p).2]
      exact ⟨p', vs, rfl, upd_same, Reps.mono st.sub _ rs⟩
theorem simEp_callI {i n : Nat} {f : Ow → List U → Option (U × Ow)} {t : TA} {m : Addr → M (List U)} (h : SimAp κ γ n t m) : SimEp κ γ (tCall (spI κ f) [] E (tCons (tVar i) t)) (fun p => mCallI i f (m p)) := by
  constructor
  intro σ S H F env g r e Q k
  have q : ∀ p, ∃ z : (List U × Env) × Ow × (U × Ow), hasS env i = some () ∧ m p env = some z.1 ∧ atS z.1.2 i = some z.2.1 ∧ f z.2.1 z.1.1 = some z.2.2 ∧ r p = (z.2.2.1, z.1.2.set i (some z.2.2.2)) := fun p => by
    obtain ⟨_, h0, e⟩ := bindS (e p)
    obtain ⟨x, h1, e⟩ := bindS e
    obtain ⟨w, h2, e⟩ := bindS e
    obtain ⟨z, h3, e⟩ := bindS e
    exact ⟨(x, w, z), h0, h1, h2, h3, (Option.some.inj e).symm⟩
  obtain ⟨c, hc⟩ := ax q
  obtain ⟨v, hv⟩ := hasS_val g (hc 0).1
  refine ⟨v, hv, h.run g (fun p => (hc p).2.1) _ fun p vs S1 H1 F1 hp s1 g1 rs => ?_⟩
  show spI κ f ((v :: vs) ++ []) H1 Q E
  rw [List.append_nil]
  refine callI_core g1 hv rs (atS_eq (hc p).2.2.1) (hc p).2.2.2.1 _ fun v' S' H' F' s' g' ru => k p v' S' H' F' hp ?_ ?_ ?_
  · rw [(hc p).2.2.2.2]
    exact (s1.stp.trans s').stq
  · rw [(hc p).2.2.2.2]
    exact g'
  · rw [(hc p).2.2.2.2]
    exact ru
theorem simSp_set {t : TE} {m : Addr → M U} (i : Nat) (h : SimEp κ γ t m) (hf : fx i = false := by rfl) : SimSp κ γ fx (tAsg t (gName i)) (fun p => sSet i (mP (m p))) := by
  constructor
  intro σ S H F env g fl e D k
  have q : ∀ p, ∃ z : U × Env, m p env = some z ∧ fl p = .nx (z.2.set i (some (.p z.1))) := fun p => by
    obtain ⟨x, h1, e⟩ := bindS (e p)
    obtain ⟨y, h2, e'⟩ := bindS h1
    cases e'
    exact ⟨y, h2, (Option.some.inj e).symm⟩
  obtain ⟨c, hc⟩ := ax q
  refine h.run g (fun p => (hc p).1) _ fun p v S1 H1 F1 hp s1 g1 r => ?_
  obtain ⟨F', g2, hs⟩ := g1.putP r i
  have := k p hp
  rw [(hc p).2] at this
  exact this _ S1 H1 F' (s1.stp.less hs) g2 (Fix.set hf)
theorem Gd.drop {σ : L2.St} {S H : Hp} : ∀ (L : List Nat) {F : List Addr} {env : Env}, Gd κ γ σ S H F env → ∃ F', Gd κ γ σ S H F' (dropE L env) ∧ ∀ a ∈ F', a ∈ F
  | [], F, _, g => ⟨F, g, fun _ h => h⟩
  | i :: L, F, _, g => by
    obtain ⟨F1, g1, h1⟩ := g.forget i
    obtain ⟨F2, g2, h2⟩ := Gd.drop L g1
    exact ⟨F2, g2, fun a ha => h1 a (h2 a ha)⟩
theorem Rch.drop {L : List Nat} {σ : L2.St} {S H : Hp} {F : List Addr} {D : Ends} {fl : Fl} (h : Rch κ γ fx σ S H F D (dropFl L fl)) : Rch κ γ fx σ S H F D fl := by
  cases fl with
  | nx e =>
    intro σ' S' H' F' s g f
    obtain ⟨F2, g2, h2⟩ := g.drop L
    exact h σ' S' H' F2 (s.less h2) g2 f
  | bk e =>
    intro σ' S' H' F' s g f
    obtain ⟨F2, g2, h2⟩ := g.drop L
    exact h σ' S' H' F2 (s.less h2) g2 f
  | rt w e =>
    intro v σ' S' H' F' Fw s g wf r f
    obtain ⟨F2, g2, h2⟩ := g.drop L
    have sb : ∀ a ∈ F2 ++ Fw, a ∈ F' ++ Fw := fun a ha => by
      rcases List.mem_append.mp ha with z | z
      · simp [h2 a z]
      · simp [z]
    refine h v σ' S' H' F2 Fw (s.less sb) g2 ⟨wf.sub, ?_, fun a ha => wf.out a (sb a ha)⟩ r f
    obtain ⟨n1, n2, n3⟩ := List.nodup_append.mp wf.nd
    exact List.nodup_append.mpr ⟨g2.wf.nd, n2, fun a ha b hb => n3 a (h2 a ha) b hb⟩
theorem simC_of {p : Addr} {t : TS} {m : MS} (h : SimS κ γ fx t m) : SimC κ γ fx p t m :=
  ⟨fun _ _ s f g _ e D k => h.run g e D (k.mono s f)⟩
theorem simC_seq {p : Addr} {t u : TS} {m n : MS} (h : SimC κ γ fx p t m) (h' : SimC κ γ fx p u n) : SimC κ γ fx p (tSeq t u) (sSeq m n) := by
  constructor
  intro σ0 σ S0 H0 S H F0 F env hp so s f g fl e D k
  obtain ⟨f1, h1, e⟩ := bindS e
  refine h.run hp so s f g h1 _ ?_
  cases f1 with
  | nx e1 => exact fun σ1 S1 H1 F1 s1 g1 f1 => h'.run hp so s1 f1 g1 e D k
  | bk e1 =>
    cases e
    exact k
  | rt w e1 =>
    cases e
    exact k
end
end UL
set_option Elab.async false
set_option linter.all false
set_option maxRecDepth 100000
set_option maxHeartbeats 1000000
/-! what the slots tell after the list at p has grown -/
namespace UL
open PySem PySem.Spec PyProof.Rows L2 LV
def atm : U → Bool
  | .str _ => true
  | .int _ => true
  | _ => false
def eqA : List U → List U → Bool
  | [], [] => true
  | .str x :: us, .str y :: vs => decide (x = y) && eqA us vs
  | .int x :: us, .int y :: vs => decide (x = y) && eqA us vs
  | _, _ => false
mutual
def updU (p : Addr) (us0 us1 : List U) : U → Option U
  | .atl a us => if a = p then (if eqA us us0 = true then some (.lst us1) else none) else (updUs p us0 us1 us).map (.atl a)
  | .lst us => if eqA us us0 = true then none else (updUs p us0 us1 us).map .lst
  | .tup us => (updUs p us0 us1 us).map .tup
  | .obj c ns us => (updUs p us0 us1 us).map (.obj c ns)
  | .dic ks us => (updUs p us0 us1 us).map (.dic ks)
  | .er c ns us => (updUs p us0 us1 us).map (.er c ns)
  | u => some u
def updUs (p : Addr) (us0 us1 : List U) : List U → Option (List U)
  | [] => some []
  | u :: us => (updU p us0 us1 u).bind fun x => (updUs p us0 us1 us).bind fun r => some (x :: r)
end
mutual
def updO (p : Addr) (us0 us1 : List U) : Ow → Option Ow
  | .p u => (updU p us0 us1 u).map .p
  | .l ws => (updOs p us0 us1 ws).map .l
  | .o c ns ws => (updOs p us0 us1 ws).map (.o c ns)
  | .d ks ws => (updOs p us0 us1 ws).map (.d ks)
  | .t ws => (updOs p us0 us1 ws).map .t
  | .g kvs => some (.g kvs)
def updOs (p : Addr) (us0 us1 : List U) : List Ow → Option (List Ow)
  | [] => some []
  | w :: ws => (updO p us0 us1 w).bind fun x => (updOs p us0 us1 ws).bind fun r => some (x :: r)
end
def updE (p : Addr) (us0 us1 : List U) : Env → Option Env
  | [] => some []
  | none :: e => (updE p us0 us1 e).map (none :: ·)
  | some w :: e => (updO p us0 us1 w).bind fun x => (updE p us0 us1 e).bind fun r => some (some x :: r)
theorem mapS {α β : Type} {x : Option α} {f : α → β} {z : β} (h : x.map f = some z) : ∃ a, x = some a ∧ f a = z := by
  cases x with
  | none => cases h
  | some a => exact ⟨a, rfl, Option.some.inj h⟩
section
variable {κ : String → Addr} {γ : Gh}
theorem atm_inj {S : Hp} : ∀ {u0 u : U} {v : V}, atm u0 = true → Rep κ S u0 v → Rep κ S u v → u = u0 := by
  intro u0 u v ha r0 r
  cases u0 <;> try cases ha
  · have : v = .int _ := r0
    subst this
    cases u <;> first | (obtain ⟨_, _, z, _⟩ := r; cases z; done) | (obtain ⟨_, _, _, z, _⟩ := r; cases z; done) | (obtain ⟨_, z, _⟩ := r; cases z) | (have z : _ = _ := r; cases z; try rfl)
  · have : v = .str _ := r0
    subst this
    cases u <;> first | (obtain ⟨_, _, z, _⟩ := r; cases z; done) | (obtain ⟨_, _, _, z, _⟩ := r; cases z; done) | (obtain ⟨_, z, _⟩ := r; cases z) | (have z : _ = _ := r; cases z; try rfl)
theorem atms_inj {S : Hp} : ∀ {us0 us : List U} {vs : List V}, us0.all atm = true → Reps κ S us0 vs → Reps κ S us vs → us = us0
  | [], [], _, _, _, _ => rfl
  | [], _ :: _, _, _, h0, ⟨_, _, z, _⟩ => by
    cases (show _ = _ from h0)
    cases z
  | _ :: _, [], _, _, ⟨_, _, z, _⟩, h => by
    cases (show _ = _ from h)
    cases z
  | u0 :: us0, u :: us, _, ha, ⟨v, vs, rfl, a, b⟩, ⟨v', vs', z, c, d⟩ => by
    cases z
    rw [List.all_cons, Bool.and_eq_true] at ha
    rw [atm_inj ha.1 a c, atms_inj ha.2 b d]
theorem eqA_self : ∀ {us : List U}, us.all atm = true → eqA us us = true
  | [], _ => rfl
  | u :: us, h => by
    rw [List.all_cons, Bool.and_eq_true] at h
    cases u <;> try cases h.1
    · simp [eqA, eqA_self h.2]
    · simp [eqA, eqA_self h.2]
/-- the list at p grows -/
structure Grow (κ : String → Addr) (p : Addr) (us0 us1 : List U) (S S' : Hp) : Prop where
  atm : us0.all atm = true
  at0 : ∃ vs, S p = some (.lst vs) ∧ Reps κ S us0 vs
  at1 : ∃ vs, S' p = some (.lst vs) ∧ Reps κ S' us1 vs
  els : ∀ b, b ≠ p → S' b = S b
variable {p : Addr} {us0 us1 : List U} {S S' : Hp}
theorem Grow.ne (G : Grow κ p us0 us1 S S') {a : Addr} {us : List U} {vs : List V} (h : S a = some (.lst vs)) (r : Reps κ S us vs) (e : ¬ eqA us us0 = true) : a ≠ p := fun z => by
  subst z
  obtain ⟨vs0, h0, r0⟩ := G.at0
  rw [h] at h0
  cases h0
  rw [atms_inj G.atm r0 r] at e
  exact e (eqA_self G.atm)
theorem Grow.eq {P : Prop} (G : Grow κ p us0 us1 S S') {a : Addr} {o : HO} (h : S a = some o) (nl : ∀ vs, o ≠ .lst vs) : S' a = some o := by
  rw [G.els a fun z => ?_]
  · exact h
  · subst z
    obtain ⟨vs0, h0, _⟩ := G.at0
    rw [h] at h0
    cases h0
    exact nl _ rfl
mutual
theorem Rep.upd (G : Grow κ p us0 us1 S S') : ∀ (u : U) {v : V} {u' : U}, Rep κ S u v → updU p us0 us1 u = some u' → Rep κ S' u' v
  | .non, _, _, r, e => by cases e; exact r
  | .bl _, _, _, r, e => by cases e; exact r
  | .int _, _, _, r, e => by cases e; exact r
  | .str _, _, _, r, e => by cases e; exact r
  | .kt _, _, _, r, e => by cases e; exact r
  | .q _, _, _, ⟨x, dx, h1, h2⟩, e => by
    cases e
    exact ⟨x, dx, h1, G.eq (P := True) h2 fun _ z => by cases z⟩
  | .pd _, _, _, ⟨a, h1, h2⟩, e => by
    cases e
    exact ⟨a, h1, G.eq (P := True) h2 fun _ z => by cases z⟩
  | .lst us, _, _, ⟨a, vs, h1, h2, h3⟩, e => by
    unfold updU at e
    split at e
    · cases e
    rename_i hn
    obtain ⟨us', e1, rfl⟩ := mapS e
    exact ⟨a, vs, h1, by rw [G.els a (G.ne h2 h3 hn)]; exact h2, Reps.upd G us h3 e1⟩
  | .atl b us, _, _, ⟨a, vs, h1, h2, h3, h4⟩, e => by
    unfold updU at e
    split at e
    · rename_i hp
      split at e
      · cases e
        subst h4
        subst hp
        obtain ⟨vs1, q1, q2⟩ := G.at1
        exact ⟨_, vs1, h1, q1, q2⟩
      · cases e
    rename_i hn
    obtain ⟨us', e1, rfl⟩ := mapS e
    exact ⟨a, vs, h1, by rw [G.els a (by rw [h4]; exact hn)]; exact h2, Reps.upd G us h3 e1, h4⟩
  | .tup us, _, _, ⟨a, vs, h1, h2, h3⟩, e => by
    unfold updU at e
    obtain ⟨us', e1, rfl⟩ := mapS e
    exact ⟨a, vs, h1, G.eq (P := True) h2 fun _ z => (by cases z), Reps.upd G us h3 e1⟩
  | .obj c ns us, _, _, ⟨a, dx, vs, h1, h2, h3, h4⟩, e => by
    unfold updU at e
    obtain ⟨us', e1, rfl⟩ := mapS e
    exact ⟨a, dx, vs, h1, G.eq (P := True) h2 fun _ z => (by cases z), h3, Reps.upd G us h4 e1⟩
  | .dic ks us, _, _, ⟨a, vs, h1, h2, h3, h4⟩, e => by
    unfold updU at e
    obtain ⟨us', e1, rfl⟩ := mapS e
    exact ⟨a, vs, h1, G.eq (P := True) h2 fun _ z => (by cases z), h3, Reps.upd G us h4 e1⟩
  | .er c ns us, _, _, ⟨a, d, vs, h1, h2, h3, h4, h5⟩, e => by
    unfold updU at e
    obtain ⟨us', e1, rfl⟩ := mapS e
    refine ⟨a, d, vs, h1, G.eq (P := True) h2 fun _ z => (by unfold ErO at z; cases z), ?_, h4, Reps.upd G us h5 e1⟩
    cases d with
    | none => exact h3
    | some dd => exact G.eq (P := True) h3 fun _ z => (by cases z)
theorem Reps.upd (G : Grow κ p us0 us1 S S') : ∀ (us : List U) {vs : List V} {us' : List U}, Reps κ S us vs → updUs p us0 us1 us = some us' → Reps κ S' us' vs
  | [], _, _, r, e => by
    cases e
    exact r
  | u :: us, _, _, ⟨v, vs, h1, h2, h3⟩, e => by
    unfold updUs at e
    obtain ⟨x, e1, e⟩ := bindS e
    obtain ⟨y, e2, e⟩ := bindS e
    cases e
    exact ⟨v, vs, h1, Rep.upd G u h2 e1, Reps.upd G us h3 e2⟩
end
mutual
theorem RepO.upd {H H' : Hp} (G : Grow κ p us0 us1 S S') : ∀ (w : Ow) {v : V} {F : List Addr} {w' : Ow}, (∀ a ∈ F, H' a = H a) → RepO κ S H w v F → updO p us0 us1 w = some w' → RepO κ S' H' w' v F
  | .p u, _, _, _, k, ⟨h1, h2⟩, e => by
    unfold updO at e
    obtain ⟨u', e1, rfl⟩ := mapS e
    exact ⟨h1, Rep.upd G u h2 e1⟩
  | .l ws, _, _, _, k, h, e => by
    unfold updO at e
    obtain ⟨ws', e1, rfl⟩ := mapS e
    obtain ⟨a, vs, F', h1, h2, rfl, h4⟩ := h
    exact ⟨a, vs, F', h1, (k a (by simp)).trans h2, rfl, RepOs.upd G ws (fun b hb => k b (by simp [hb])) h4 e1⟩
  | .o _ _ ws, _, _, _, k, h, e => by
    unfold updO at e
    obtain ⟨ws', e1, rfl⟩ := mapS e
    obtain ⟨a, dx, vs, F', h1, h2, h3, h5, rfl, h4⟩ := h
    exact ⟨a, dx, vs, F', h1, (k a (by simp)).trans h2, h3, h5, rfl, RepOs.upd G ws (fun b hb => k b (by simp [hb])) h4 e1⟩
  | .d _ ws, _, _, _, k, h, e => by
    unfold updO at e
    obtain ⟨ws', e1, rfl⟩ := mapS e
    obtain ⟨a, vs, F', h1, h2, h3, rfl, h4⟩ := h
    exact ⟨a, vs, F', h1, (k a (by simp)).trans h2, h3, rfl, RepOs.upd G ws (fun b hb => k b (by simp [hb])) h4 e1⟩
  | .t ws, _, _, _, k, ⟨a, vs, h1, h2, h3⟩, e => by
    unfold updO at e
    obtain ⟨ws', e1, rfl⟩ := mapS e
    exact ⟨a, vs, h1, G.eq (P := True) h2 fun _ z => (by cases z), RepOs.upd G ws k h3 e1⟩
  | .g _, _, _, _, k, h, e => by
    unfold updO at e
    cases e
    obtain ⟨a, h1, h2, rfl⟩ := h
    exact ⟨a, h1, (k a (by simp)).trans h2, rfl⟩
theorem RepOs.upd {H H' : Hp} (G : Grow κ p us0 us1 S S') : ∀ (ws : List Ow) {vs : List V} {F : List Addr} {ws' : List Ow}, (∀ a ∈ F, H' a = H a) → RepOs κ S H ws vs F → updOs p us0 us1 ws = some ws' → RepOs κ S' H' ws' vs F
  | [], _, _, _, k, h, e => by
    unfold updOs at e
    cases e
    exact h
  | w :: ws, _, _, _, k, h, e => by
    unfold updOs at e
    obtain ⟨x, e1, e⟩ := bindS e
    obtain ⟨y, e2, e⟩ := bindS e
    cases e
    obtain ⟨v, vs', F1, F2, h1, rfl, h3, h4⟩ := h
    exact ⟨v, vs', F1, F2, h1, rfl, RepO.upd G w (fun b hb => k b (by simp [hb])) h3 e1, RepOs.upd G ws (fun b hb => k b (by simp [hb])) h4 e2⟩
end
theorem GhO.upd {H H' : Hp} (G : Grow κ p us0 us1 S S') : ∀ {γ : Gh} {F : List Addr}, (∀ a ∈ F, H' a = H a) → GhO S H γ F → GhO S' H' γ F
  | [], _, _, h => h
  | (q, r) :: γ, _, k, h => by
    obtain ⟨ps, F', rfl, h1, h2, h3, h4⟩ := h
    refine ⟨ps, F', rfl, (k q (by simp)).trans h1, h2, fun pos cv hc => ?_, GhO.upd G (fun b hb => k b (by simp [hb])) h4⟩
    obtain ⟨c, a1, a2⟩ := h3 pos cv hc
    exact ⟨c, a1, G.eq (P := True) a2 fun _ z => by cases z⟩
theorem EnvOk.upd {H H' : Hp} (G : Grow κ p us0 us1 S S') : ∀ {σ : L2.St} {env env' : Env} {F : List Addr}, (∀ a ∈ F, H' a = H a) → EnvOk κ γ S H σ env F → updE p us0 us1 env = some env' → EnvOk κ γ S' H' σ env' F
  | [], [], _, _, k, h, e => by
    cases e
    exact GhO.upd G k h
  | s :: σ, none :: env, _, _, k, h, e => by
    unfold updE at e
    obtain ⟨e', e1, rfl⟩ := mapS e
    obtain ⟨F1, F2, rfl, h1, h2⟩ := h
    exact ⟨F1, F2, rfl, h1, EnvOk.upd G (fun b hb => k b (by simp [hb])) h2 e1⟩
  | s :: σ, some w :: env, _, _, k, h, e => by
    unfold updE at e
    obtain ⟨x, e1, e⟩ := bindS e
    obtain ⟨y, e2, e⟩ := bindS e
    cases e
    obtain ⟨F1, F2, rfl, ⟨v, h0, h1⟩, h2⟩ := h
    exact ⟨F1, F2, rfl, ⟨v, h0, RepO.upd G w (fun b hb => k b (by simp [hb])) h1 e1⟩, EnvOk.upd G (fun b hb => k b (by simp [hb])) h2 e2⟩
  | [], _ :: _, _, _, _, h, _ => h.elim
  | _ :: _, [], _, _, _, h, _ => h.elim
end
/-! the places that are told -/
mutual
def aaU : U → List Addr
  | .atl a us => a :: aaUs us
  | .lst us => aaUs us
  | .tup us => aaUs us
  | .obj _ _ us => aaUs us
  | .dic _ us => aaUs us
  | .er _ _ us => aaUs us
  | _ => []
def aaUs : List U → List Addr
  | [] => []
  | u :: us => aaU u ++ aaUs us
end
mutual
def aaO : Ow → List Addr
  | .p u => aaU u
  | .l ws => aaOs ws
  | .o _ _ ws => aaOs ws
  | .d _ ws => aaOs ws
  | .t ws => aaOs ws
  | .g _ => []
def aaOs : List Ow → List Addr
  | [] => []
  | w :: ws => aaO w ++ aaOs ws
end
def aaE : Env → List Addr
  | [] => []
  | none :: e => aaE e
  | some w :: e => aaO w ++ aaE e
section
variable {κ : String → Addr} {γ : Gh} {fx : Nat → Bool}
mutual
theorem Rep.aa {S : Hp} : ∀ (u : U) {v : V}, Rep κ S u v → ∀ a ∈ aaU u, ∃ o, S a = some o
  | .atl a us, _, ⟨b, vs, _, h2, h3, h4⟩, x, hx => by
    rcases List.mem_cons.mp (show x ∈ a :: aaUs us from hx) with rfl | hx
    · rw [← h4]
      exact ⟨_, h2⟩
    · exact Reps.aa us h3 x hx
  | .lst us, _, ⟨_, _, _, _, h⟩, x, hx => Reps.aa us h x hx
  | .tup us, _, ⟨_, _, _, _, h⟩, x, hx => Reps.aa us h x hx
  | .obj _ _ us, _, ⟨_, _, _, _, _, _, h⟩, x, hx => Reps.aa us h x hx
  | .dic _ us, _, ⟨_, _, _, _, _, h⟩, x, hx => Reps.aa us h x hx
  | .er _ _ us, _, ⟨_, _, _, _, _, _, _, h⟩, x, hx => Reps.aa us h x hx
  | .non, _, _, _, hx => (nomatch hx)
  | .bl _, _, _, _, hx => (nomatch hx)
  | .int _, _, _, _, hx => (nomatch hx)
  | .str _, _, _, _, hx => (nomatch hx)
  | .q _, _, _, _, hx => (nomatch hx)
  | .kt _, _, _, _, hx => (nomatch hx)
  | .pd _, _, _, _, hx => (nomatch hx)
theorem Reps.aa {S : Hp} : ∀ (us : List U) {vs : List V}, Reps κ S us vs → ∀ a ∈ aaUs us, ∃ o, S a = some o
  | [], _, _, _, hx => (nomatch hx)
  | u :: us, _, ⟨_, _, _, h1, h2⟩, x, hx => by
    rcases List.mem_append.mp (show x ∈ aaU u ++ aaUs us from hx) with z | z
    · exact Rep.aa u h1 x z
    · exact Reps.aa us h2 x z
end
mutual
theorem RepO.aa {S H : Hp} : ∀ (w : Ow) {v : V} {F : List Addr}, RepO κ S H w v F → ∀ a ∈ aaO w, ∃ o, S a = some o
  | .p u, _, _, h, x, hx => Rep.aa u h.2 x hx
  | .l ws, _, _, h, x, hx => by
    obtain ⟨_, _, _, _, _, _, h⟩ := h
    exact RepOs.aa ws h x hx
  | .o _ _ ws, _, _, h, x, hx => by
    obtain ⟨_, _, _, _, _, _, _, _, _, h⟩ := h
    exact RepOs.aa ws h x hx
  | .d _ ws, _, _, h, x, hx => by
    obtain ⟨_, _, _, _, _, _, _, h⟩ := h
    exact RepOs.aa ws h x hx
  | .t ws, _, _, ⟨_, _, _, _, h⟩, x, hx => RepOs.aa ws h x hx
  | .g _, _, _, _, _, hx => (nomatch hx)
theorem RepOs.aa {S H : Hp} : ∀ (ws : List Ow) {vs : List V} {F : List Addr}, RepOs κ S H ws vs F → ∀ a ∈ aaOs ws, ∃ o, S a = some o
  | [], _, _, _, _, hx => (nomatch hx)
  | w :: ws, _, _, ⟨_, _, _, _, _, _, h1, h2⟩, x, hx => by
    rcases List.mem_append.mp (show x ∈ aaO w ++ aaOs ws from hx) with z | z
    · exact RepO.aa w h1 x z
    · exact RepOs.aa ws h2 x z
end
theorem EnvOk.aa {S H : Hp} : ∀ {σ : L2.St} {env : Env} {F : List Addr}, EnvOk κ γ S H σ env F → ∀ a ∈ aaE env, ∃ o, S a = some o
  | [], [], _, _, _, hx => (nomatch hx)
  | _ :: _, none :: env, _, ⟨_, _, _, _, h⟩, x, hx => EnvOk.aa h x hx
  | _ :: _, some w :: env, _, ⟨_, _, _, ⟨_, _, h1⟩, h2⟩, x, hx => by
    rcases List.mem_append.mp (show x ∈ aaO w ++ aaE env from hx) with z | z
    · exact RepO.aa w h1 x z
    · exact EnvOk.aa h2 x z
  | [], _ :: _, _, h, _, _ => h.elim
  | _ :: _, [], _, h, _, _ => h.elim
end
open Classical in
/-- the mirror over all new places -/
noncomputable def sOrF (L : List Nat) (m n : Addr → MS) : MS := fun env => if h : (∀ p, (m p env).isSome = true) ∧ ∃ fl, ∀ p, p ∉ aaE env → (sSeq (m p) (n p) env).map (dropFl L) = some fl then some h.2.choose else none
theorem new_place (L : List Addr) : ∃ p : Addr, p ∉ L := by
  have h : ∀ L : List Addr, ∃ n : Nat, ∀ a ∈ L, a < n := fun L => by
    induction L with
    | nil => exact ⟨0, fun a h => (nomatch h)⟩
    | cons x L ih =>
      obtain ⟨n, hn⟩ := ih
      refine ⟨max n (x + 1), fun a ha => ?_⟩
      rcases List.mem_cons.mp ha with rfl | ha
      · exact Nat.lt_of_lt_of_le (Nat.lt_succ_self _) (Nat.le_max_right _ _)
      · exact Nat.lt_of_lt_of_le (hn a ha) (Nat.le_max_left _ _)
  obtain ⟨n, hn⟩ := h L
  exact ⟨n, fun z => Nat.lt_irrefl n (hn n z)⟩
theorem sOrF_eq {L : List Nat} {m n : Addr → MS} {env : Env} {fl : Fl} (hm : ∀ p, (m p env).isSome = true) (h : ∀ p, p ∉ aaE env → (sSeq (m p) (n p) env).map (dropFl L) = some fl) : sOrF L m n env = some fl := by
  have hx : (∀ p, (m p env).isSome = true) ∧ ∃ fl, ∀ p, p ∉ aaE env → (sSeq (m p) (n p) env).map (dropFl L) = some fl := ⟨hm, fl, h⟩
  unfold sOrF
  rw [dif_pos hx]
  obtain ⟨p, hp⟩ := new_place (aaE env)
  have a := hx.2.choose_spec p hp
  rw [h p hp] at a
  exact a.symm
/-- x.append(e), x the list at p -/
def sApp (p : Addr) (i : Nat) (m : M U) : MS := fun env => match env[i]? with
  | some (some (.p (.atl a us))) => (m env).bind fun y => if a = p ∧ us.all atm = true ∧ atm y.1 = true ∧ us.length < sizeLine then (updE p us (us ++ [y.1]) env).map .nx else none
  | _ => none
section
variable {κ : String → Addr} {γ : Gh} {fx : Nat → Bool} {K : PySem.W.Frag} {E : XK}
theorem sim_blockF {L : List Nat} {t u : TS} {m n : Addr → MS} (h : SimSp κ γ fx t m) (h' : ∀ p, SimC κ γ fx p u (n p)) : SimS κ γ fx (tSeq t u) (sOrF L m n) := by
  constructor
  intro σ S H F env g fl e D k
  unfold sOrF at e
  split at e
  case isFalse => cases e
  rename_i hx
  cases e
  have hs := hx.2.choose_spec
  obtain ⟨c, hc⟩ := ax (fun p => Option.isSome_iff_exists.mp (hx.1 p))
  refine h.run g hc _ fun p hp => ?_
  have fr : p ∉ aaE env := fun z => by
    obtain ⟨o, ho⟩ := g.env.aa p z
    rw [g.wf.sub _ _ ho] at hp
    cases hp
  have a : (sSeq (m p) (n p) env).map (dropFl L) = some hx.2.choose := hs p fr
  cases b : sSeq (m p) (n p) env with
  | none => rw [b] at a; cases a
  | some f2 =>
    rw [b] at a
    have k' : Rch κ γ fx σ S H F D f2 := Rch.drop (L := L) (by rw [Option.some.inj a]; exact k)
    unfold sSeq at b
    rw [hc p] at b
    generalize c p = f1 at b ⊢
    cases f1 with
    | nx e1 => exact fun σ1 S1 H1 F1 s1 g1 f1 => (h' p).run hp g.wf.sub s1 f1 g1 b D k'
    | bk e1 =>
      cases b
      exact k'
    | rt w e1 =>
      cases b
      exact k'
theorem simC_if {p : Addr} {c : TT} {t u : TS} {mc : M Bool} {m n : MS} (hc : SimT κ γ false c mc) (h : SimC κ γ fx p t m) (h' : SimC κ γ fx p u n) : SimC κ γ fx p (tIfS c t u) (sIf mc m n) := by
  constructor
  intro σ0 σ S0 H0 S H F0 F env hp so s f g fl e D k
  obtain ⟨⟨x, e1⟩, h1, e⟩ := bindS e
  refine hc.run g h1 _ fun S1 H1 F1 s1 g1 => ?_
  have s2 := s.trans s1.stp
  cases x with
  | true => exact h.run hp so s2 f g1 e D k
  | false => exact h'.run hp so s2 f g1 e D k
theorem atm_any {S S2 : Hp} {u : U} {v : V} (h : atm u = true) (r : Rep κ S u v) : Rep κ S2 u v := by
  cases u <;> first | (cases h; done) | exact r
theorem atms_any {S S2 : Hp} : ∀ {us : List U} {vs : List V}, us.all atm = true → Reps κ S us vs → Reps κ S2 us vs
  | [], _, _, r => r
  | u :: us, _, h, ⟨v, vs, e, r, rs⟩ => by
    rw [List.all_cons, Bool.and_eq_true] at h
    exact ⟨v, vs, e, atm_any h.1 r, atms_any h.2 rs⟩
theorem simC_app {p : Addr} {i : Nat} {t : TE} {m : M U} (h : SimE κ γ true t m) : SimC κ γ fx p (tDrop (tBM K "list" rAppend (tVar i) (tCons t tNil))) (sApp p i m) := by
  constructor
  intro σ0 σ S0 H0 S H F0 F env hp so s f g fl e D k
  unfold sApp at e
  split at e
  case h_2 => cases e
  rename_i a us hi
  obtain ⟨⟨y, e1⟩, h1, e⟩ := bindS e
  dsimp only at e
  split at e
  case isFalse => cases e
  rename_i hcond
  obtain ⟨rfl, ha, hy, hl⟩ := hcond
  obtain ⟨env', e2, rfl⟩ := mapS e
  obtain ⟨v, hv, b, vs, rfl, hb, rs, rfl⟩ := g.slot hi
  refine ⟨.ref b, hv, .inl ⟨rfl, _, .inl (.inl (g.wf.sub _ _ hb))⟩, ?_⟩
  refine h.run g h1 _ fun v1 S1 H1 F1 s1 g1 r1 => ?_
  obtain ⟨p0, rfl, rfl⟩ := s1.quiet g1
  have hb1 : H1 b = some (.lst vs) := p0.keep _ _ (g.wf.sub _ _ hb)
  have hs1 : S1 b = some (.lst vs) := p0.sub _ _ hb
  have rs1 := Reps.mono p0.sub us rs
  refine ⟨b, vs, v1, rfl, rfl, hb1, by rw [← rs.len]; exact hl, ?_⟩
  have G : Grow κ b us (us ++ [y]) S1 (upd S1 b (.lst (vs ++ [v1]))) := ⟨ha, ⟨vs, hs1, rs1⟩, ⟨_, upd_same, Reps.snoc (atm_any hy r1) (atms_any ha rs1)⟩, fun c hc => upd_ne hc⟩
  have nF : ∀ c ∈ F1, c ≠ b := fun c hc z => by
    subst z
    rw [g1.wf.out _ hc] at hs1
    cases hs1
  have s2 := s.trans (p0.stp (F := F1))
  have b0 : S0 b = none := none_of_same so hp
  refine k σ (upd S1 b (.lst (vs ++ [v1]))) (upd H1 b (.lst (vs ++ [v1]))) F1 ⟨fun c o hc hh => ?_, fun c hh => ?_, fun c o hh => ?_, fun c o hh => ?_, s2.foot⟩ ⟨⟨fun c o hh => ?_, g1.wf.nd, fun c hc => ?_⟩, g1.env.upd G (fun c hc => upd_ne (nF c hc)) e2⟩ f
  · rw [upd_ne fun z => by
      subst z
      rw [hp] at hh
      cases hh]
    exact s2.keep c o hc hh
  · by_cases z : c = b
    · subst z
      exact hp
    · rw [upd_ne z] at hh
      exact s2.trk c hh
  · rw [upd_ne fun z => by
      subst z
      rw [b0] at hh
      cases hh]
    exact s2.sub c o hh
  · by_cases z : c = b
    · subst z
      exact .inr (.inl hp)
    · rw [upd_ne z] at hh
      exact s2.new c o hh
  · by_cases z : c = b
    · subst z
      rw [upd_same] at hh ⊢
      exact hh
    · rw [upd_ne z] at hh ⊢
      exact g1.wf.sub c o hh
  · rw [upd_ne (nF c hc)]
    exact g1.wf.out c hc
end
end UL
set_option Elab.async false
set_option linter.all false
set_option maxRecDepth 100000
set_option maxHeartbeats 2000000
/-! an own error over an own error over ValueError: __init__ says super().__init__(x), then self.f = x (the block of skel/42 turned to this) -/
namespace PySem
namespace LevX
open PySem.W PySem.Calls PyProof.Rows PySem.HandSPX
def iA (f : Str) (p1 p2 : Pos) : Arguments := { posonlyargs := [], args := [{ arg := "self", annotation := none, pos := p1 }, { arg := f, annotation := none, pos := p2 }], vararg := none, kwonlyargs := [], kw_defaults := [], kwarg := none, defaults := [] }
def iB (f : Str) (a1 a2 a3 a4 a5 a6 q1 q2 q3 q4 : Pos) : List Stmt :=
  [.Expr (.Call (.Attribute (.Call (.Name "super" a1) [] [] a2) "__init__" a3) [.Name f a4] [] a5) a6, .Assign [.Attribute (.Name "self" q1) f q2] (.Name f q3) q4]
def iS (f : Str) : Scope := { kind := .function, names := [(PySem.Str.ofString "self", .local), (f, .local), (PySem.Str.ofString "__class__", .free), (PySem.Str.ofString "super", .globalImplicit)], isGenerator := false, isCoroutine := false, more := [] }
/-- a name of a field that is none of the others -/
structure FName (f : Str) : Prop where
  s : ("self" : Str) ≠ f
  c : ("__class__" : Str) ≠ f
  u : ("super" : Str) ≠ f
  d : (f == ("__debug__" : Str)) = false
  b : ∀ (q : Str) (p1 p2 : Pos) (body : List Stmt) (doc pm : Value) (an : Option Addr) (cdv ct : Value) (cc : Addr) (x v : Value),
    bindArgs (ksFn "__init__" q (iA f p1 p2) body (iS f) .none .none doc pm an cdv ct cc) ⟨[x, v], []⟩ = pure [(("self" : Str), x), (f, v)]
  k : ∀ (q : Str) (p1 p2 : Pos) (body : List Stmt) (doc pm : Value) (an : Option Addr) (cdv ct : Value) (cc : Addr) (x v : Value),
    bindArgs (ksFn "__init__" q (iA f p1 p2) body (iS f) .none .none doc pm an cdv ct cc) ⟨[x], [(f, v)]⟩ = pure [(("self" : Str), x), (f, v)]
theorem fPart : FName "part" := ⟨by decide, by decide, by decide, by decide, fun _ _ _ _ _ _ _ _ _ _ _ _ => by first | rfl | with_unfolding_all rfl, fun _ _ _ _ _ _ _ _ _ _ _ _ => by first | rfl | with_unfolding_all rfl⟩
theorem fLine : FName "line" := ⟨by decide, by decide, by decide, by decide, fun _ _ _ _ _ _ _ _ _ _ _ _ => by first | rfl | with_unfolding_all rfl, fun _ _ _ _ _ _ _ _ _ _ _ _ => by first | rfl | with_unfolding_all rfl⟩
theorem fIndex : FName "index" := ⟨by decide, by decide, by decide, by decide, fun _ _ _ _ _ _ _ _ _ _ _ _ => by first | rfl | with_unfolding_all rfl, fun _ _ _ _ _ _ _ _ _ _ _ _ => by first | rfl | with_unfolding_all rfl⟩
theorem fMoment : FName "moment" := ⟨by decide, by decide, by decide, by decide, fun _ _ _ _ _ _ _ _ _ _ _ _ => by first | rfl | with_unfolding_all rfl, fun _ _ _ _ _ _ _ _ _ _ _ _ => by first | rfl | with_unfolding_all rfl⟩
theorem fName : FName "name" := ⟨by decide, by decide, by decide, by decide, fun _ _ _ _ _ _ _ _ _ _ _ _ => by first | rfl | with_unfolding_all rfl, fun _ _ _ _ _ _ _ _ _ _ _ _ => by first | rfl | with_unfolding_all rfl⟩
theorem fHeight : FName "height" := ⟨by decide, by decide, by decide, by decide, fun _ _ _ _ _ _ _ _ _ _ _ _ => by first | rfl | with_unfolding_all rfl, fun _ _ _ _ _ _ _ _ _ _ _ _ => by first | rfl | with_unfolding_all rfl⟩
/-- what the written part says of the class at C and of its __init__ at fI -/
structure LevTxt (prog : Program) (K : Frag) (mg : Str → Option Value) (cn f q : Str) (C fI : Addr) : Prop where
  gC : mg cn = some (.ref C)
  cls : ∃ nm qn N bs bm sn sub ab col dd k0 k1 k2 k3 k5, K.lookup C = some (excClassObj nm qn C N bs bm true sn sub ab col dd k0 k1 k2 k3 k5 "ValueError.__new__") ∧ refsVE bm = true
  sa : findIn K (.ref C) "__setattr__" = some (some (.builtin "object.__setattr__"))
  ga : findIn K (.ref C) "__getattribute__" = some (some (.builtin "BaseException.__getattribute__"))
  gg : findIn K (.ref C) "__getattr__" = some none
  noN : findIn K (.ref C) f = some none
  iC : findIn K (.ref C) "__init__" = some (some (.ref fI))
  tC : typeIn K (.ref fI) = some (.type "function")
  kC : keepIn K (.ref C) = true
  exC : subIn K (.ref C) (.type "BaseException") = some true
  veC : subIn K (.ref C) (.type "ValueError") = some true
  tyC : typeIn K (.ref C) = some (.type "type")
  hdC : hasDictIn K C = true
  su : ks_superIn K C C "__init__" = some (some (.builtin "ValueError.__init__"))
  op : nsIn K cStatics "thirdparty.any" = some none
  mr : mroIn K C (.ref C) = some true
  sup : mg "super" = none
  top : (prog.main.scope.names.lookup ("super" : Str)).isSome = false
  fn : ∃ (oc : Value) (od : Option Addr) (doc pm : Value) (an : Option Addr) (cda cc : Addr) (ct : Value) (osl : Array (Option Value)) (p1 p2 a1 a2 a3 a4 a5 a6 q1 q2 q3 q4 : Pos),
    K.lookup fI = some ⟨oc, od, .func (ksFn "__init__" q (iA f p1 p2) (iB f a1 a2 a3 a4 a5 a6 q1 q2 q3 q4) (iS f) .none .none doc pm an (.ref cda) ct cc), osl⟩ ∧ codeIn K (.ref cda) q = true ∧
    (∃ (vs : Array Value) (file : Str) (tf : Tok) (ccl : Value) (cdd : Option Addr) (ccs : Array (Option Value)), K.lookup cda = some ⟨ccl, cdd, .fields vs, ccs⟩ ∧ vs[2]? = some (.str file tf) ∧ ((prog.main.file : Str) == file) = true) ∧
    a3.endLine = a5.line ∧ ∃ (cl : Value) (cld : Option Addr) (csl : Array (Option Value)), K.lookup cc = some ⟨cl, cld, .cell (some (.ref C)), csl⟩
end LevX
end PySem
set_option Elab.async false
set_option linter.all false
set_option maxRecDepth 100000
set_option maxHeartbeats 2000000
/-! the error's __init__ walked -/
namespace PySem
namespace LevX
open PySem.W PySem.Calls PyProof.Rows PySem.HandSPX
section
variable {prog : Program} {w : World} {A : Around} {E : Value → Shared → Prop} {h : Heap} {g : Array GenState} {d : Drawn} {t : Nat} {os : OsState}
variable {nm q : Str} {C N : Addr} {bs bm : List Value} {hdct : Bool} {sn : List Str} {sub : List Value} {ab : Bool} {col : Option Bool} {dd : Option Addr} {k0 k1 k2 k3 k5 : Option Value}
/-- ValueError.__init__ bound to a fresh error, called -/
theorem call_vw {u e t0 : Addr} {rest : List Value} {Q : Value → Shared → Prop} (hC : h.get? C = some (excClassObj nm q C N bs bm hdct sn sub ab col dd k0 k1 k2 k3 k5 "ValueError.__new__")) (he : h.get? e = some (excO C t0))
    (hu : h.get? u = some (kxs_mw "ValueError.__init__" e)) (hz : rest.length ≤ sizeLine)
    (hq : ∀ h' t1, (∀ b o, b ≠ e → h.get? b = some o → h'.get? b = some o) → h'.get? e = some (excO C t1) → Q .none ⟨h', g, d, t, os⟩) : wpAny (model prog w) A (call (.ref u) rest) Q E ⟨h, g, d, t, os⟩ := by
  have FB := F.excBase_ValueError
  refine wpAny_call (codeAny_of_tree (show wpAny _ A.in1 (callAny (.ref u) ⟨rest, []⟩) _ _ _ from ?_))
  simp only [callAny]
  refine (wpAny_bind (wpAny_load hu ?_))
  simp only [kxs_mw, show (Value.type "method-wrapper" == Value.type "method" || Value.type "method-wrapper" == Value.type "builtin_function_or_method" || Value.type "method-wrapper" == Value.type "method-wrapper") = true by decide, if_true, id]
  refine (KFB.if_so (by decide) ?_)
  refine (wpAny_bind (check_bound_init FB.toExcCallFacts hC he rfl ?_))
  refine (wpAny_bind (wpAny_pure (wpAny_pure ?_)))
  refine ⟨plainId_quiet FB.init.plain _, codeAny_builtin FB.initEntry ?_⟩
  exact exc_init_tree (cls := .ref C) (t0 := t0) (dv := none) (c2 := .none) (c3 := .none) (b4 := .bool false) he hz fun h' k e' _ => hq h' _ k e'
end
/-- what __init__ leaves of a fresh error at x -/
structure InitEnd (f : Str) (h h' : Heap) (x C dx : Addr) (v : Value) : Prop where
  keep : ∀ b o, b ≠ x → h.get? b = some o → h'.get? b = some o
  obj : ∃ t1, h'.get? x = some { cls := .ref C, dict := some dx, data := .fields #[.ref t1, .none, .none, .none, .bool false, .none] }
  dbig : h.objs.size ≤ dx
  dne : dx ≠ x
  ns : h'.Ns1 dx (fun y => if y = f then some v else none)
section
variable {prog : Program} {w : World} {A : Around} {R : Result → Shared → Prop} {s : Shared} {K : Frag} {mg : Str → Option Value} {cn f q : Str} {C fI : Addr} {base : Heap}
theorem lev_initA {x : Addr} {v : Value} {ar : Args} (hB : ∀ (q : Str) (p1 p2 : Pos) (body : List Stmt) (doc pm : Value) (an : Option Addr) (cdv ct : Value) (cc : Addr), bindArgs (ksFn "__init__" q (iA f p1 p2) body (iS f) .none .none doc pm an cdv ct cc) ar = pure [(("self" : Str), .ref x), (f, v)]) (T : LevTxt prog K mg cn f q C fI) (NF : FName f) (MO : L2.Mod K mg base) (BK : ∀ b o, base.get? b = some o → s.heap.get? b = some o) {t0 : Addr} (hx : s.heap.get? x = some (excO C t0)) (hnx : base.get? x = none) (hroom : A.depth < recursionLimit)
    (hq : ∀ h' tk dx, InitEnd f s.heap h' x C dx v → R (.ok (.ret .none)) { s with heap := h', toks := tk }) :
    codeAny (model prog w) A (.call (.ref fI) ar) R s := by
  obtain ⟨oc, od, doc, pm, an, cda, cc, ct, osl, p1, p2, a1, a2, a3, a4, a5, a6, q1, q2, q3, q4, ho, hcd, ⟨vs, file, tf, ccl, cdd, ccs, hcode, hvs, hfile⟩, hln, cl, cld, csl, hcell⟩ := T.fn
  obtain ⟨nm, qn, N, bs, bm, sn, sub, ab, col, dd, k0, k1, k2, k3, k5, hC, hbm⟩ := T.cls
  have hcl : clsIn K C = some { name := nm, bases := bs, mro := .ref C :: bm, ns := N, qualname := qn, hasDict := true, slotNames := sn, subclasses := sub, abstract := ab, collection := col, hasDel := false } := by
    unfold clsIn
    rw [hC] <;> rfl
  have X : K.In s.heap := fun a o e => BK _ _ (MO.kin a o e)
  have ne1 : (f == ("self" : Str)) = false := by simpa using Ne.symm NF.s
  have lkf : (iS f).names.lookup f = some .local := by
    show List.lookup f [(PySem.Str.ofString "self", NameKind.local), (f, .local), (PySem.Str.ofString "__class__", .free), (PySem.Str.ofString "super", .globalImplicit)] = _
    simp [List.lookup, ne1]
  have lks : (iS f).names.lookup ("self" : Str) = some .local := by
    show List.lookup _ ((PySem.Str.ofString "self", NameKind.local) :: _) = _
    simp [List.lookup]
  have lkc : (iS f).names.lookup ("__class__" : Str) = some .free := by
    have e1 : (("__class__" : Str) == ("self" : Str)) = false := by decide
    have e2 : (("__class__" : Str) == f) = false := by simpa using NF.c
    show List.lookup _ [(PySem.Str.ofString "self", NameKind.local), (f, .local), (PySem.Str.ofString "__class__", .free), (PySem.Str.ofString "super", .globalImplicit)] = _
    simp [List.lookup, e1, e2]
  have lku : (iS f).names.lookup ("super" : Str) = some .globalImplicit := by
    have e1 : (("super" : Str) == ("self" : Str)) = false := by decide
    have e2 : (("super" : Str) == f) = false := by simpa using NF.u
    have e3 : (("super" : Str) == ("__class__" : Str)) = false := by decide
    show List.lookup _ [(PySem.Str.ofString "self", NameKind.local), (f, .local), (PySem.Str.ofString "__class__", .free), (PySem.Str.ofString "super", .globalImplicit)] = _
    simp [List.lookup, e1, e2, e3]
  refine ks_codeAny_call_defAt (binds := [("self", .ref x), (f, v)]) hroom (X _ _ ho) rfl (MO.nolimit.keeps BK) (codeRec_of X hcd) rfl (BindsTo.of_eq (hB _ _ _ _ _ _ _ _ _ _)) ?_ ?_ (fun h₁ hn k => ?_) rfl rfl rfl
  · intro y hy
    have hy' : y ∈ [(PySem.Str.ofString "self", NameKind.local), (f, .local), (PySem.Str.ofString "__class__", .free), (PySem.Str.ofString "super", .globalImplicit)] := hy
    simp only [List.mem_cons, List.not_mem_nil, or_false] at hy'
    rcases hy' with rfl | rfl | rfl | rfl <;> simp
  · intro y hy
    simp only [List.mem_cons, List.not_mem_nil, or_false] at hy
    rcases hy with rfl | rfl
    · exact lks
    · exact lkf
  · have K1 : K.In h₁ := fun a o e => k _ _ (X a o e)
    have hx1 := k _ _ hx
    have xC : x ≠ C := fun z => by
      have e1 := MO.kin _ _ hC
      rw [← z, hnx] at e1
      cases e1
    have xL : s.heap.objs.size ≠ x := Nat.ne_of_gt (Heap.lt_size hx)
    have hnS : (fun y => List.lookup y [(f, v), (("self" : Str), Value.ref x)]) ("self" : Str) = some (.ref x) := by
      have e2 : (("self" : Str) == f) = false := by simpa using NF.s
      simp [List.lookup, e2]
    have hnF : (fun y => List.lookup y [(f, v), (("self" : Str), Value.ref x)]) f = some v := by simp [List.lookup]
    obtain ⟨mb, hb1, hb2⟩ := MO.blt
    have bk1 : ∀ b o, base.get? b = some o → h₁.get? b = some o := fun b o e => k _ _ (BK b o e)
    generalize hE : callEnv (ksFn "__init__" q (iA f p1 p2) (iB f a1 a2 a3 a4 a5 a6 q1 q2 q3 q4) (iS f) .none .none doc pm an (.ref cda) ct cc) s.heap.objs.size fI = env at *
    have hmc : eval (.Call (.Attribute (.Call (.Name "super" a1) [] [] a2) "__init__" a3) [.Name f a4] [] a5) env = (do
        let ov ← attributeBase (.Call (.Name "super" a1) [] [] a2) "__init__" env (eval (.Call (.Name "super" a1) [] [] a2) env)
        standAt a3.atName
        let (g, first) ← holding [ov] (getMethod ov "__init__" (do return (← importBound (.Call (.Name "super" a1) [] [] a2) env).getD true))
        callWith a5 g first (backTo a5 (starEach [.Name f a4] env)) []) := by
      have e0 : (a3.endLine == a5.line) = true := by simp [hln]
      show (do
        let ov ← attributeBase (.Call (.Name "super" a1) [] [] a2) "__init__" env (eval (.Call (.Name "super" a1) [] [] a2) env)
        standAt a3.atName
        methodCall (.Call (.Name "super" a1) [] [] a2) "__init__" a3 a5 env ov 1 (backTo a5 (starEach [.Name f a4] env)) []) = _
      unfold methodCall methodCallPos calleeOf
      simp only [e0, Bool.or_true, if_true]
      rfl
    have hint : interactive env = false := by
      rw [← hE]
      rfl
    have eks : env.kindOf ("super" : Str) = some .globalImplicit := by
      rw [← hE]
      exact lku
    have ekc : env.kindOf ("__class__" : Str) = some .free := by
      rw [← hE]
      exact lkc
    have ekl : env.kindOf ("self" : Str) = some .local := by
      rw [← hE]
      exact lks
    have ekf : env.kindOf f = some .local := by
      rw [← hE]
      exact lkf
    have ekd : env.scope.kind = .function := by
      rw [← hE]
      rfl
    have eL : env.locals = s.heap.objs.size := by
      rw [← hE]
      rfl
    have efu : env.func = some fI := by
      rw [← hE]
      rfl
    have eco : env.code = .ref cda := by
      rw [← hE]
      rfl
    have egl : env.globals = mainGlobals := by
      rw [← hE]
      rfl
    have ebl : env.builtins = builtinsNs := by
      rw [← hE]
      rfl
    have ecl : env.cells.lookup ("__class__" : Str) = some cc := by
      rw [← hE]
      rfl
    have hn' : h₁.Ns env.locals (fun y => List.lookup y [(f, v), (("self" : Str), Value.ref x)]) := by
      rw [eL]
      exact hn
    have IX : InstAt h₁ x (excO C t0) C none := ⟨hx1, rfl, rfl, trivial⟩
    obtain ⟨hp0, g0, d0, tk0, os0⟩ := s
    refine ks_wpAt_execs_cons (ks_wpAt_Expr_any (ks_wpAt_MethodCall ?_ hmc) hint)
    refine ks_wpAt_super_base (env := env) eks ekc (by decide) efu (K1 _ _ ho) rfl (ar := { arg := "self", annotation := none, pos := p1 }) rfl eco (K1 _ _ hcode) rfl hvs hfile T.top ?_
    refine ks_loadName_global ekd eks (loadGlobal_builtin (env := env) (by rw [egl]; exact MO.glob.keeps bk1) T.sup (by rw [ebl]; exact hb1.keeps bk1) ((hb2 _ (by decide)).trans (by rfl)) ⟨rfl, ?_⟩)
    refine (wpAny_loadName_free ekd ekc ecl ⟨_, K1 _ _ hcell, rfl⟩ ?_)
    refine (wpAny_loadName_local ekd ekl hn' hnS ?_)
    have hC1 := K1 _ _ hC
    refine (ks_wpAny_isType_cls hC1 rfl ⟨rfl, ?_⟩)
    refine ks_wpAny_call_super hC1 rfl hx1 rfl (fun c z => by cases z) (looks_mroIn K1 T.mr) (fun h2 e2 k2 => ?_)
    have K2 : K.In h2 := fun a o e => k2 _ _ (K1 a o e)
    have IX2 : InstAt h2 x (excO C t0) C none := ⟨k2 _ _ hx1, rfl, rfl, trivial⟩
    have hsu := T.su
    unfold ks_superIn at hsu
    rw [hcl] at hsu
    refine kxs_getMethod kxs_ValueError e2 (looks_opaque K2 T.op) (l₀ := .ref C :: bm) ?_ rfl K2 hsu (IX2.type.andThen (looks_subIn K2 T.veC)) xC (by decide) ?_
    · exact fun A Q E s k q => wpAny_bind ((looks_clsIn K2 hcl) A _ E s k (wpAny_pure q))
    have k3 : ∀ b o, h2.get? b = some o → (h2.push (kxs_mw "ValueError.__init__" x)).get? b = some o := fun b o e => Heap.get?_push_of_some _ e
    have hu3 : (h2.push (kxs_mw "ValueError.__init__" x)).get? h2.objs.size = some (kxs_mw "ValueError.__init__" x) := Heap.get?_push_at rfl rfl
    refine kxs_callWith (i := "ValueError.__init__") (x := x) rfl (evalArgs_plain (spliced_more (env := env) (e := .Name f a4) (rest := []) (pos := a5) ?_))
    refine (wpAny_Name (wpAny_loadName_local ekd ekf ((hn'.keeps k2).keeps k3) hnF ?_) NF.d)
    refine spliced_none ⟨hu3, ?_⟩
    refine call_vw (k3 _ _ (K2 _ _ hC |> fun z => z)) (k3 _ _ (k2 _ _ hx1)) hu3 (show (1 : Nat) ≤ sizeLine by rw [sizeLine_eq]; decide) (fun h4 t4 k4 hx4 => ?_)
    have nLx : env.locals ≠ x := by
      rw [eL]
      exact xL
    have hn4 : h4.Ns env.locals (fun y => List.lookup y [(f, v), (("self" : Str), Value.ref x)]) := ((hn'.keeps k2).keeps k3).at (fun o z => k4 _ _ nLx z)
    have K4 : K.In h4 := fun a o e => k4 _ _ (fun z => by
      have e1 := MO.kin a o e
      rw [z, hnx] at e1
      cases e1) (k3 _ _ (K2 a o e))
    refine wpAt_of_wpAny (wpAny_execs_cons (plainObj_wpAny_Assign_Attribute ?_ (by rfl)))
    refine (wpAny_Name (wpAny_loadName_local ekd ekf hn4 hnF ?_) NF.d)
    refine (wpAny_Name (wpAny_loadName_local ekd ekl hn4 hnS ?_) (by decide))
    refine set_plain K4 (ox := excO C t4) (od := none) ⟨hx4, rfl, rfl, trivial⟩ T.sa ?_
    refine exc_osa K4 hx4 hcl (show refsVE (.ref C :: bm) = true from hbm) rfl T.noN (fun h5 tk5 dx k5 dn dne hx5 hn5 => ?_)
    refine wpAny_execs_nil (hq h5 tk5 dx ⟨fun b o hb e => k5 b o hb (k4 b o hb (k3 _ _ (k2 _ _ (k _ _ e)))), ⟨t4, hx5⟩, ?_, dne, hn5⟩)
    have z1 : hp0.objs.size < h₁.objs.size := by
      have := hn'.lt
      rw [eL] at this
      exact this
    have z2 : h₁.objs.size ≤ h4.objs.size := by
      have e3 := k4 _ _ (fun z => by
        have e4 := k2 _ _ hx1
        rw [← z] at e4
        exact absurd (Heap.lt_size e4) (Nat.lt_irrefl _)) hu3
      have e5 : h2.objs.size < h4.objs.size := Heap.lt_size e3
      have e6 : h₁.objs.size < h2.objs.size := Heap.lt_size e2
      omega
    exact Nat.le_trans (Nat.le_of_lt (Nat.lt_of_lt_of_le z1 z2)) dn
theorem lev_init (T : LevTxt prog K mg cn f q C fI) (NF : FName f) (MO : L2.Mod K mg base) (BK : ∀ b o, base.get? b = some o → s.heap.get? b = some o) {x t0 : Addr} {v : Value} (hx : s.heap.get? x = some (excO C t0)) (hnx : base.get? x = none) (hroom : A.depth < recursionLimit)
    (hq : ∀ h' tk dx, InitEnd f s.heap h' x C dx v → R (.ok (.ret .none)) { s with heap := h', toks := tk }) : codeAny (model prog w) A (.call (.ref fI) ⟨[.ref x, v], []⟩) R s := lev_initA (fun _ _ _ _ _ _ _ _ _ _ => NF.b _ _ _ _ _ _ _ _ _ _ _ _) T NF MO BK hx hnx hroom hq
theorem lev_initK (T : LevTxt prog K mg cn f q C fI) (NF : FName f) (MO : L2.Mod K mg base) (BK : ∀ b o, base.get? b = some o → s.heap.get? b = some o) {x t0 : Addr} {v : Value} (hx : s.heap.get? x = some (excO C t0)) (hnx : base.get? x = none) (hroom : A.depth < recursionLimit)
    (hq : ∀ h' tk dx, InitEnd f s.heap h' x C dx v → R (.ok (.ret .none)) { s with heap := h', toks := tk }) : codeAny (model prog w) A (.call (.ref fI) ⟨[.ref x], [(f, v)]⟩) R s := lev_initA (fun _ _ _ _ _ _ _ _ _ _ => NF.k _ _ _ _ _ _ _ _ _ _ _ _) T NF MO BK hx hnx hroom hq
end
end LevX
end PySem
set_option Elab.async false
set_option linter.all false
set_option maxRecDepth 100000
set_option maxHeartbeats 2000000
/-! such an error made -/
namespace PySem
namespace LevX
open PySem.W PySem.Calls PyProof.Rows PySem.HandSPX
/-- a made error -/
structure OwnMade (f : Str) (h h' : Heap) (e C d : Addr) (v : Value) : Prop where
  keep : ∀ b o, h.get? b = some o → h'.get? b = some o
  new : h.objs.size ≤ e
  obj : ∃ t1, h'.get? e = some { cls := .ref C, dict := some d, data := .fields #[.ref t1, .none, .none, .none, .bool false, .none] }
  dbig : h.objs.size ≤ d
  dne : d ≠ e
  ns : h'.Ns1 d (fun y => if y = f then some v else none)
section
variable {prog : Program} {w : World} {A : Around} {R : Result → Shared → Prop} {s : Shared} {K : Frag} {mg : Str → Option Value} {cn f q : Str} {C fI : Addr} {base : Heap}
theorem lev_made (T : LevTxt prog K mg cn f q C fI) (NF : FName f) (MO : L2.Mod K mg base) (BK : ∀ b o, base.get? b = some o → s.heap.get? b = some o) {v : Value} (hroom : A.depth + 1 < recursionLimit)
    (hq : ∀ h' tk e d, OwnMade f s.heap h' e C d v → R (.ok (.ret (.ref e))) { s with heap := h', toks := tk }) : codeAny (model prog w) A (.call (.ref C) ⟨[v], []⟩) R s := by
  obtain ⟨nm, qn, N, bs, bm, sn, sub, ab, col, dd, k0, k1, k2, k3, k5, hC, hbm⟩ := T.cls
  obtain ⟨hp, g, dr, tk, os⟩ := s
  have X : K.In hp := fun a o e => BK _ _ (MO.kin a o e)
  have k : ∀ b o, hp.get? b = some o → ((hp.push (kdv_tup [v])).push (excO C hp.objs.size)).get? b = some o := fun b o z => Heap.get?_push_of_some _ (Heap.get?_push_of_some _ z)
  have hget : ((hp.push (kdv_tup [v])).push (excO C hp.objs.size)).get? (hp.objs.size + 1) = some (excO C hp.objs.size) := by
    heap_get
  have hnb : base.get? (hp.objs.size + 1) = none := by
    cases e : base.get? (hp.objs.size + 1) with
    | none => rfl
    | some o => exact absurd (Nat.lt_of_succ_lt (Heap.lt_size (BK _ _ e))) (Nat.lt_irrefl _)
  refine call_own F.excBase_ValueError (fun z => refsVE_contains z bm hbm) (X _ _ hC) (looks_findIn X T.iC) (fun self => bind_fn X self T.tC) (show (1 : Nat) ≤ sizeLine by rw [sizeLine_eq]; decide) ?_
  refine lev_init (s := ⟨(hp.push (kdv_tup [v])).push (excO C hp.objs.size), g, dr, tk, os⟩) T NF MO (fun b o e => k b o (BK b o e)) hget hnb (show A.depth + 1 < recursionLimit from hroom) fun h' tk' dx I => ?_
  have old : ∀ b o, hp.get? b = some o → h'.get? b = some o := fun b o e => I.keep b o (Nat.ne_of_lt (Nat.lt_succ_of_lt (Heap.lt_size e))) (k b o e)
  have z : hp.objs.size + 1 + 1 ≤ dx := by
    have z0 := I.dbig
    rw [show (⟨(hp.push (kdv_tup [v])).push (excO C hp.objs.size), g, dr, tk, os⟩ : Shared).heap = (hp.push (kdv_tup [v])).push (excO C hp.objs.size) from rfl, Heap.size_push, Heap.size_push] at z0
    exact z0
  exact ⟨rfl, hq h' tk' (hp.objs.size + 1) dx ⟨old, Nat.le_succ _, I.obj, by show hp.objs.size ≤ dx; omega, I.dne, I.ns⟩⟩
end
end LevX
end PySem
set_option Elab.async false
set_option linter.all false
set_option maxRecDepth 100000
set_option maxHeartbeats 2000000
/-! such an error made with its argument by its name -/
namespace PySem
namespace LevX
open PySem.W PySem.Calls PyProof.Rows PySem.HandSPX Builtin Builtin.ObjectAttr
section
variable {prog : Program} {w : World} {A : Around} {E : Value → Shared → Prop} {R : Result → Shared → Prop} {hp : Heap} {ge : Array GenState} {dr : Drawn} {tk : Nat} {os : OsState}
variable {nm qn : Str} {C N : Addr} {bs bm bmB : List Value} {hdct : Bool} {sn : List Str} {sub : List Value} {ab : Bool} {col : Option Bool} {dd : Option Addr} {k0 k1 k2 k3 k5 : Option Value} {B newId initId : String} {kws : List (Str × Value)}
theorem kwNew_check (F : ExcBaseFacts B newId initId bmB) (same : ∀ X : String, bm.contains (.type X) = bmB.contains (.type X)) {Q : Unit → Shared → Prop}
    (cl : hp.get? C = some (excClassObj nm qn C N bs bm hdct sn sub ab col dd k0 k1 k2 k3 k5 newId)) (z : Q () ⟨hp, ge, dr, tk, os⟩) : wpAny (model prog w) A (checkBuiltinCall newId ⟨[.ref C], kws⟩) Q E ⟨hp, ge, dr, tk, os⟩ := by
  have ofB : (Value.ref C :: bm).contains (.type B) = true := by rw [List.contains_cons, same, F.hasB, Bool.or_true]
  have noS := F.noStar
  simp only [checkBuiltinCall, F.newKind, F.newSplit, F.newRow]
  repeat (first | refine wpAny_loadPart_at cl ?_ | (refine wpAny_isSubtype_exc cl ?_; rw [ofB]) | refine wpAny_staticBase_exc cl ?_ | refine wpAny_madeBy_exc cl ?_ | simp only [bne_self_eq_false, Bool.false_eq_true, if_false] | wp_step)
  exact z
theorem kwNew_made (F : ExcBaseFacts B newId initId bmB) (same : ∀ X : String, bm.contains (.type X) = bmB.contains (.type X))
    (cl : hp.get? C = some (excClassObj nm qn C N bs bm hdct sn sub ab col dd k0 k1 k2 k3 k5 newId))
    (z : R (.ok (.ret (.ref (hp.objs.size + 1)))) ⟨(hp.push (kdv_tup [])).push (excO C hp.objs.size), ge, dr, tk, os⟩) : codeAny (model prog w) A (.builtin newId ⟨[.ref C], kws⟩) R ⟨hp, ge, dr, tk, os⟩ := by
  have e0 := F.ends
  have ofB : (Value.ref C :: bm).contains (.type B) = true := by rw [List.contains_cons, same, F.hasB, Bool.or_true]
  have ofA : (Value.ref C :: bm).contains (.type "AttributeError") = false := by rw [List.contains_cons, same, F.noAttr]; rfl
  have ofN : (Value.ref C :: bm).contains (.type "NameError") = false := by rw [List.contains_cons, same, F.noName]; rfl
  refine codeAny_builtinAt F.entry ?_
  unfold Builtin.«BaseException.__new__»
  refine wpAt_bind ?_
  show wpAt _ _ _ (stack >>= _) _ _ _
  refine wpAt_bind (wpAt_stack fun p below => wpAt_of_wpAny ?_)
  wp_walk
  refine wpAt_of_wpAny ?_
  rw [F.owner]
  repeat (first | with_reducible refine wpAny_madeHere_exc F.canon cl ?_ | with_reducible refine wpAny_loadPart_at cl ?_ | (with_reducible refine wpAny_isSubtype_exc cl ?_; first | rw [ofB] | rw [ofA] | rw [ofN]) | wp_step)
  show R _ _
  rw [Heap.size_push]
  exact z
theorem kwCall (F : ExcBaseFacts B newId initId bmB) (same : ∀ X : String, bm.contains (.type X) = bmB.contains (.type X)) {fI : Addr}
    (cl : hp.get? C = some (excClassObj nm qn C N bs bm hdct sn sub ab col dd k0 k1 k2 k3 k5 newId))
    (li : W.Looks (model prog w) hp (typeLookup (.ref C) "__init__") (some (.ref fI))) (lb : ∀ self, W.Looks (model prog w) hp (bindSpecial (.ref fI) self) (.ref fI, [self]))
    (z : codeAny (model prog w) (A.under (.builtin "type.__call__" ⟨[.ref C], kws⟩)) (.call (.ref fI) ⟨[.ref (hp.objs.size + 1)], kws⟩) (W.InitBack (hp.objs.size + 1) R) ⟨(hp.push (kdv_tup [])).push (excO C hp.objs.size), ge, dr, tk, os⟩) :
    codeAny (model prog w) A (.call (.ref C) ⟨[], kws⟩) R ⟨hp, ge, dr, tk, os⟩ := by
  have t1 := tc_lookup
  have t2 := tc_bind (.ref C)
  have ty : (⟨hp, ge, dr, tk, os⟩ : Shared).TypeIs (.ref C) "type" := ⟨_, cl, rfl⟩
  refine codeAny_of_tree ?_
  show wpAny _ _ (callAny (.ref C) _) _ _ _
  repeat (any_goals (first | assumption | with_reducible refine wpAny_loadPart_at cl ?_ | wp_step))
  refine ⟨rfl, ?_⟩
  refine codeAny_call_builtin_at (Code.quiet_builtin _ (by decide +kernel)) entry_typeCall (wpAny_check_type_call_sub cl ?_)
  repeat (first | with_reducible refine wpAny_loadPart_at cl ?_ | with_reducible refine wpAny_madeBy_exc cl ?_ | wp_step)
  refine codeAny_call_builtin_code (Code.quiet_builtin _ F.quiet) (kwNew_check F same cl ?_)
  refine kwNew_made F same cl ?_
  show wpAny _ _ _ _ _ _
  have old : ∀ b o, hp.get? b = some o → ((hp.push (kdv_tup [])).push (excO C hp.objs.size)).get? b = some o := fun b o e => Heap.get?_push_of_some _ (Heap.get?_push_of_some _ e)
  have cl1 := old _ _ cl
  have new : ((hp.push (kdv_tup [])).push (excO C hp.objs.size)).get? (hp.objs.size + 1) = some (excO C hp.objs.size) := by heap_get
  have ofC : (Value.ref C :: bm).contains (.ref C) = true := by simp
  have i1 := li.keeps old
  have b1 := (lb (.ref (hp.objs.size + 1))).keeps old
  unfold isInstance
  repeat (first | with_reducible refine wpAny_loadPart_at new ?_ | (with_reducible refine wpAny_isSubtype_exc cl1 ?_; rw [ofC]) | wp_step)
  show wpAny _ _ (typeLookup (.ref C) _) _ _ _
  refine i1.at ?_
  refine wpAny_holding (wpAny_bind (b1.at ?_))
  refine wpAny_bind (wpAny_call (codeAny_mono z fun r s' y => ?_))
  rcases r with e | (v | _ | _ | _) <;> first | exact y | exact y.elim | skip
  obtain ⟨rfl, y⟩ := y
  first
    | exact wpAny_pure (wpAny_pure y)
    | (wp_walk; exact y)
end
section
variable {prog : Program} {w : World} {A : Around} {R : Result → Shared → Prop} {s : Shared} {K : Frag} {mg : Str → Option Value} {cn f q : Str} {C fI : Addr} {base : Heap}
theorem lev_madeK (T : LevTxt prog K mg cn f q C fI) (NF : FName f) (MO : L2.Mod K mg base) (BK : ∀ b o, base.get? b = some o → s.heap.get? b = some o) {v : Value} (hroom : A.depth + 1 < recursionLimit)
    (hq : ∀ h' tk e d, OwnMade f s.heap h' e C d v → R (.ok (.ret (.ref e))) { s with heap := h', toks := tk }) : codeAny (model prog w) A (.call (.ref C) ⟨[], [(f, v)]⟩) R s := by
  obtain ⟨nm, qn, N, bs, bm, sn, sub, ab, col, dd, k0, k1, k2, k3, k5, hC, hbm⟩ := T.cls
  obtain ⟨hp, g, dr, tk, os⟩ := s
  have X : K.In hp := fun a o e => BK _ _ (MO.kin a o e)
  have k : ∀ b o, hp.get? b = some o → ((hp.push (kdv_tup [])).push (excO C hp.objs.size)).get? b = some o := fun b o z => Heap.get?_push_of_some _ (Heap.get?_push_of_some _ z)
  have hget : ((hp.push (kdv_tup [])).push (excO C hp.objs.size)).get? (hp.objs.size + 1) = some (excO C hp.objs.size) := by
    heap_get
  have hnb : base.get? (hp.objs.size + 1) = none := by
    cases e : base.get? (hp.objs.size + 1) with
    | none => rfl
    | some o => exact absurd (Nat.lt_of_succ_lt (Heap.lt_size (BK _ _ e))) (Nat.lt_irrefl _)
  refine kwCall F.excBase_ValueError (fun z => refsVE_contains z bm hbm) (X _ _ hC) (looks_findIn X T.iC) (fun self => bind_fn X self T.tC) ?_
  refine lev_initK (s := ⟨(hp.push (kdv_tup [])).push (excO C hp.objs.size), g, dr, tk, os⟩) T NF MO (fun b o e => k b o (BK b o e)) hget hnb (show A.depth + 1 < recursionLimit from hroom) fun h' tk' dx I => ?_
  have old : ∀ b o, hp.get? b = some o → h'.get? b = some o := fun b o e => I.keep b o (Nat.ne_of_lt (Nat.lt_succ_of_lt (Heap.lt_size e))) (k b o e)
  have z : hp.objs.size + 1 + 1 ≤ dx := by
    have z0 := I.dbig
    rw [show (⟨(hp.push (kdv_tup [])).push (excO C hp.objs.size), g, dr, tk, os⟩ : Shared).heap = (hp.push (kdv_tup [])).push (excO C hp.objs.size) from rfl, Heap.size_push, Heap.size_push] at z0
    exact z0
  exact ⟨rfl, hq h' tk' (hp.objs.size + 1) dx ⟨old, Nat.le_succ _, I.obj, by show hp.objs.size ≤ dx; omega, I.dne, I.ns⟩⟩
end
end LevX
end PySem
set_option Elab.async false
set_option linter.all false
set_option maxRecDepth 100000
set_option maxHeartbeats 2000000
/-! raise C(e) over the layer -/
namespace LV
open PySem PySem.Spec PyProof.Rows L2
theorem relO_one {f : Str} {v : V} {v' : Value} (r : RelV v v') (y : Str) : RelO (List.lookup y [(f, v)]) (if y = f then some v' else none) := by
  by_cases hw : y = f
  · subst hw
    rw [if_pos rfl, show List.lookup y [(y, v)] = some v by simp [List.lookup]]
    exact r
  · have qw : (y == f) = false := by simpa using hw
    rw [if_neg hw, show List.lookup y [(f, v)] = none by simp [List.lookup, qw]]
    trivial
section
variable {X : Cx} {C fI : Addr} {cn f q : Str}
end
end LV
set_option Elab.async false
set_option linter.all false
set_option maxRecDepth 100000
set_option maxHeartbeats 2000000
/-! errors without an __init__ of their own, made without arguments -/
namespace LV
open PySem PySem.Spec PyProof.Rows L2
section
variable {X : Cx} {C : Addr} {bmB : List Value} {B newId initId : String}
end
end LV
set_option Elab.async false
set_option linter.all false
set_option maxRecDepth 100000
set_option maxHeartbeats 2000000
/-! isinstance of a pinned error that may hold a field; its field -/
namespace LevX2
open PySem PySem.W PySem.Spec PySem.Calls PyProof.Rows
section
variable {prog : Program} {w : World} {A : Around} {E : Value → Shared → Prop} {s : Shared} {K : Frag} {x D : Addr} {ox : Obj} {od : Option Obj}
theorem find_cls (C : L2.ExcC K D) : findObj K D od "__class__" = some (.bind (.builtin "getset_descriptor.__get__") (.builtin "object.__class__")) := by
  have hs : (clsIn K D).isSome = true := by
    obtain ⟨cd, hc, _⟩ := any_some C.hd
    rw [hc]
    rfl
  cases od with
  | none => exact findObj_dataN hs C.ha C.hn C.ht
  | some o => exact findObj_data hs C.ha C.hn C.ht
theorem cls_of_exc {Q : Option Value → Shared → Prop} (C : L2.ExcC K D) (X : K.In s.heap) (I : InstAt s.heap x ox D od) (h : Q (some (.ref D)) { s with toks := s.toks + 1 }) : wpAny (model prog w) A (getAttr? (.ref x) "__class__") Q E s := by
  have hf := find_cls (od := od) C
  obtain ⟨hp, gg, dd, tt, oo⟩ := s
  have l0 := I.type (M := model prog w)
  have l1 := looks_findIn (M := model prog w) X C.hg
  have l2 := looks_findIn (M := model prog w) X C.hk
  have l3 := looks_find (M := model prog w) X I hf
  have sub : Looks (model prog w) hp (isInstance (.ref x) (.type "BaseException")) true := l0.andThen (looks_subIn X C.hs)
  have b2 : (Value.builtin "BaseException.__getattribute__" == Value.builtin "object.__getattribute__") = false := by decide +kernel
  have b1 : (onTheHeap (Value.ref D) && Value.builtin "BaseException.__getattribute__" == Value.builtin "object.__getattribute__") = false := by
    rw [b2]
    rfl
  unfold getAttr? getAttrBy? getAttrBy
  refine wpAny_bind (wpAny_mkText ?_)
  refine wpAny_bind (wpAny_attempt (wpAny_holding (wpAny_bind (l0.at ?_))))
  refine wpAny_bind (l1.at ?_)
  show wpAny _ _ (if (onTheHeap (Value.ref D) && Value.builtin "BaseException.__getattribute__" == Value.builtin "object.__getattribute__") = true then _ else _) _ _ _
  rw [if_neg (by rw [b1]; exact Bool.false_ne_true)]
  unfold getAttrByItsOwn hookBefore
  refine wpAny_bind ?_
  rw [if_pos (by rfl : onTheHeap (Value.ref D) = true)]
  refine l2.at (wpAny_bind (wpAny_attempt (wpAny_holding ?_)))
  unfold callGetattribute
  rw [if_neg (by decide : ¬ (false && onTheHeap (Value.builtin "BaseException.__getattribute__")) = true)]
  unfold boundAndCalled
  rw [PySem.F.excAttr_ValueError.ga.bind (.ref x)]
  refine wpAny_bind (wpAny_pure ?_)
  show wpAny _ _ (call (.builtin "BaseException.__getattribute__") [.ref x, .str "__class__" tt]) _ _ _
  refine wpAny_call (codeAny_call_builtin PySem.F.excAttr_ValueError.ga.plain PySem.F.entry_bexc_ga ?_)
  have aa := PySem.F.args_bexc_ga (.ref x) (.str "__class__" tt)
  refine @check_slot (model prog w) _ _ ⟨hp, gg, dd, tt + 1, oo⟩ "BaseException.__getattribute__" "BaseException" "__getattribute__" (.ref x) [.str "__class__" tt] [] _ (by decide +kernel) (by decide +kernel) sub aa ?_
  unfold Builtin.«object.__getattribute__»
  refine wpAny_bind (wpAny_of_eq (a := ((Value.ref x : Value), [Value.str "__class__" tt])) (by
    first
      | rfl
      | (simp only [slotArgs]; rfl)) ?_)
  refine wpAny_bind (wpAny_pure (wpAny_bind (l0.at (wpAny_bind (l3.at ?_)))))
  show wpAny _ _ (holding [Value.builtin "object.__class__"] (call (.builtin "getset_descriptor.__get__") [.builtin "object.__class__", .ref x, .ref D]) >>= ret) _ _ _
  refine wpAny_bind (wpAny_holding (wpAny_call (class_get (s := ⟨hp, gg, dd, tt + 1, oo⟩) (ox := ox) (od := od) X I C.hm ?_)))
  refine wpAny_pure ?_
  show wpAny _ _ (handedOut (.ref D)) _ _ _
  rw [handedOut_of (v := .ref D) rfl]
  first
    | exact wpAny_pure (wpAny_pure h)
    | exact wpAny_pure h
    | exact wpAny_pure (wpAny_bind (wpAny_pure (wpAny_pure h)))
theorem kit_exc (C : L2.ExcC K D) : KitX K (.ref x) (.ref D) (fun h => InstAt h x ox D od) := by
  obtain ⟨cdD, hcD, _⟩ := any_some C.hd
  unfold clsIn at hcD
  split at hcD
  case h_2 => cases hcD
  rename_i c' d' cd' sl' ho
  exact {
    ty := fun _ _ _ I => I.type
    it := fun _ _ X _ A' Q' E' s' k q => by
      unfold isType loadHead
      exact wpAny_bind (wpAny_loadPart (k _ _ (X _ _ ho)) (wpAny_pure q))
    ne := fun h tp dd its n sl X htp => Bool.eq_false_iff.mpr fun q => by
      have e : D = tp := Value.ref.inj (beq_iff_eq.mp q)
      subst e
      cases (X _ _ ho).symm.trans htp
    ca := fun X I k => cls_of_exc C X I k }
end
end LevX2
namespace LV
open PySem PySem.Spec PyProof.Rows L2
/-- the error's dict, as it is tracked -/
def XdOk (H : Hp) : Option Addr → Prop
  | none => True
  | some dd => ∃ fs, H dd = some (.xd fs)
end LV
set_option Elab.async false
set_option linter.all false
set_option maxRecDepth 100000
set_option maxHeartbeats 1000000
/-! texts: an int in nine digits -/
namespace LV
open PySem PySem.Spec PyProof.Rows L2
open PySem.Builtin PySem.Builtin.Float
section
variable {X : Cx}
end
end LV
set_option Elab.async false
set_option linter.all false
set_option maxRecDepth 100000
set_option maxHeartbeats 2000000
/-! defs that an except suite calls with the caught error -/
namespace LV
open PySem PySem.Spec PyProof.Rows L2
open L2H (RoomH PinOk)
/-- what a def promises of the pinned error p -/
structure FnC (P : Program) (w : World) (K : PySem.W.Frag) (mg : Str → Option Value) (base : Heap) (k : Nat) (f : Addr) (fd : FuncData) (ps : List Str) (sp : Addr × Obj → Sp) : Prop where
  len : ∀ p vs H Q E, sp p vs H Q E → vs.length = ps.length
  go : ∀ (A : Around) (outer : List PySem.Env) (s : Shared) (H : Hp) (args : Args) (us : List Value) (vs : List V) (Q : VK) (E : XK) (p : Addr × Obj), RoomH k A → PinOk outer H s p →
    Env0 P w K mg base A outer s H → BindsTo s fd args (ps.zip us) → Vals vs us → sp p vs H Q E → codeAny (model P w) A (.call (.ref f) args) (CR CX0 outer P w H s Q E) s
section
variable {X : Cx} {k : Nat} {f : Addr} {fd : FuncData} {ps : List Str} {sp : Addr × Obj → Sp} {x : Str} {E : XK}
end
end LV
set_option Elab.async false
set_option linter.all false
set_option maxRecDepth 100000
set_option maxHeartbeats 2000000
/-! errors of the package, as the law words them -/
namespace UL
open PySem PySem.Spec PyProof.Rows L2 LV
inductive Ek where
  | part | text | level | fact | place | point | moment | line | unknown | height | frame | unfit | history
  deriving DecidableEq, Repr
/-- the class's name -/
def Ek.c : Ek → String
  | .part => "BadPart" | .text => "BadText" | .level => "BadLevel" | .fact => "BadFact" | .place => "BadPlace" | .point => "BadPoint" | .moment => "BadMoment" | .line => "BadLine"
  | .unknown => "UnknownLevel" | .height => "BadHeight" | .frame => "BadFrame" | .unfit => "Unfit" | .history => "HasHistory"
/-- its attribute -/
def Ek.f : Ek → Option String
  | .part => some "part" | .text => some "line" | .level => some "index" | .fact => some "index" | .place => some "index" | .point => some "index" | .moment => some "moment" | .line => some "line"
  | .unknown => some "name" | .height => some "height" | _ => none
/-- the law's word -/
def Ek.w : Ek → String
  | .part => "part" | .text => "text" | .level => "level" | .fact => "fact" | .place => "place" | .point => "point" | .moment => "moment" | .line => "line"
  | .unknown => "unknown" | .height => "height" | .frame => "frame" | .unfit => "unfit" | .history => "history"
structure Er where
  k : Ek
  u : U
section
variable (κ : String → Addr)
/-- an error of this class and with this field, by its class and its dict -/
def ErOk (S : Hp) (e : Er) (cls : Value) (d : Option Addr) : Prop := cls = .ref (κ e.k.c) ∧ match e.k.f with
  | none => d = none ∧ e.u = .non
  | some f => ∃ dd v, d = some dd ∧ S dd = some (.xd [(Str.ofString f, v)]) ∧ Rep κ S e.u v
end
theorem ErOk.mono {κ : String → Addr} {S S' : Hp} {e : Er} {cls : Value} {d : Option Addr} (q : Same S S') (h : ErOk κ S e cls d) : ErOk κ S' e cls d := by
  refine ⟨h.1, ?_⟩
  have h2 := h.2
  split
  · rename_i hf
    rw [hf] at h2
    exact h2
  · rename_i f hf
    rw [hf] at h2
    obtain ⟨dd, v, a1, a2, a3⟩ := h2
    exact ⟨dd, v, a1, q _ _ a2, Rep.mono q _ a3⟩
/-- what the head must find of the errors' classes -/
structure ErrT (P : Program) (K : PySem.W.Frag) (mg : Str → Option Value) (κ : String → Addr) : Prop where
  gC : ∀ k : Ek, mg (Str.ofString k.c) = some (.ref (κ k.c))
  lev : ∀ (k : Ek) (f : String), k.f = some f → ∃ q fI, PySem.LevX.LevTxt P K mg (Str.ofString k.c) (Str.ofString f) q (κ k.c) fI
  bare : ∀ k : Ek, k.f = none → ∃ bmB B newId initId, ∃ F : ExcBaseFacts B newId initId bmB, PySem.W.excIn K (κ k.c) bmB newId = true ∧ PySem.W.keepIn K (.ref (κ k.c)) = true ∧ PySem.W.subIn K (.ref (κ k.c)) (.type "BaseException") = some true ∧ PySem.W.typeIn K (.ref (κ k.c)) = some (.type "type")
  isk : ∀ k k' : Ek, PySem.W.kitOne K (.ref (κ k.c)) (.ref (κ k'.c)) = some (decide (k = k'))
  exc : ∀ k : Ek, ExcC K (κ k.c)
  xf : ∀ k : Ek, XfC K (κ k.c)
  nof : ∀ (k : Ek) (f : String), k.f = some f → PySem.W.findIn K (.ref (κ k.c)) (Str.ofString f) = some none
  gL : mg "LevelError" = some (.ref (κ "LevelError"))
  exm : ∀ k : Ek, PySem.W.exmOne K (.ref (κ k.c)) (.ref (κ "LevelError")) = some true
end UL
set_option Elab.async false
set_option linter.all false
set_option maxRecDepth 100000
set_option maxHeartbeats 2000000
/-! readings that end with an error, by their mirrors -/
namespace UL
open PySem PySem.Spec PyProof.Rows L2 LV
/-- the mirror of the errors: the error and the slots as they are then -/
abbrev MX := Env → Option (Er × Env)
section
variable (κ : String → Addr) (γ : Gh)
/-- what an error asks of the wish -/
def RchX (fx : Nat → Bool) (σ : L2.St) (S H : Hp) (F : List Addr) (E : XK) (r : Er × Env) : Prop :=
  ∀ cls d σ' S' H' F', Stp κ S H F S' H' F' → Gd κ γ σ' S' H' F' r.2 → Fix fx σ σ' → ErOk κ S' r.1 cls d → E cls d H'
structure SimEX (E : XK) (t : TE) (x : MX) : Prop where
  run : ∀ {σ : L2.St} {S H : Hp} {F : List Addr} {env : Env}, Gd κ γ σ S H F env → ∀ {r : Er × Env}, x env = some r → RchX κ γ (fun _ => true) σ S H F E r → ∀ Q : VK, t σ H Q
structure SimAX (E : XK) (t : TA) (x : MX) : Prop where
  run : ∀ {σ : L2.St} {S H : Hp} {F : List Addr} {env : Env}, Gd κ γ σ S H F env → ∀ {r : Er × Env}, x env = some r → RchX κ γ (fun _ => true) σ S H F E r → ∀ Q : List V → Hp → Prop, t σ H Q
structure SimIX (E : XK) (t : TI) (x : MX) : Prop where
  run : ∀ {σ : L2.St} {S H : Hp} {F : List Addr} {env : Env}, Gd κ γ σ S H F env → ∀ {r : Er × Env}, x env = some r → RchX κ γ (fun _ => true) σ S H F E r → ∀ Q : It → Hp → Prop, t σ H Q
structure SimSX (fx : Nat → Bool) (E : XK) (t : TS) (x : MX) : Prop where
  run : ∀ {σ : L2.St} {S H : Hp} {F : List Addr} {env : Env}, Gd κ γ σ S H F env → ∀ {r : Er × Env}, x env = some r → RchX κ γ fx σ S H F E r → ∀ D : Ends, t D σ H
end
section
variable {κ : String → Addr} {γ : Gh} {fx : Nat → Bool} {ρ : Bool} {E : XK}
theorem Fix.all (fx : Nat → Bool) (σ : L2.St) {σ' : L2.St} (h : Fix (fun _ => true) σ σ') : σ' = σ := by
  apply List.ext_getElem?
  intro i
  exact h.2 i rfl
theorem RchX.mono {σ σ1 : L2.St} {S H S1 H1 : Hp} {F F1 : List Addr} {r : Er × Env} (s : Stp κ S H F S1 H1 F1) (hf : Fix fx σ σ1) (h : RchX κ γ fx σ S H F E r) : RchX κ γ fx σ1 S1 H1 F1 E r :=
  fun cls d σ' S' H' F' s' g f e => h cls d σ' S' H' F' (s.trans s') g (hf.trans f) e
/-! calls -/
/-! made instances -/
/-! methods of owned things -/
/-! statements -/
/-! defs -/
/-! the promise without errors -/
section
variable {P : Program} {w : World} {K : PySem.W.Frag} {mg : Str → Option Value} {base : Heap} {k : Nat} {fa : Addr} {fd : FuncData} {ps : List Str}
theorem FnOk.calm {sp sp' : Sp} (F : FnOk P w K mg base (L2.CX P w) k fa fd ps sp) (h : ∀ vs H Q E, sp' vs H Q E → sp vs H Q fun _ _ _ => False) : FnOk P w K mg base CX0 k fa fd ps sp' := by
  refine ⟨fun vs H Q E q => F.len vs H Q _ (h _ _ _ _ q), fun A outer s H args us vs Q E hr he hb hv hs => ?_⟩
  refine codeAny_mono (F.run A outer s H args us vs Q (fun _ _ _ => False) hr he hb hv (h _ _ _ _ hs)) fun r s' hq => ?_
  cases r with
  | error e =>
    obtain ⟨_, _, _, _, _, _, _, _, _, _, _, _, z⟩ := hq
    exact z.elim
  | ok fl => cases fl <;> exact hq
end
end
end UL
set_option Elab.async false
set_option linter.all false
set_option maxRecDepth 100000
set_option maxHeartbeats 2000000
/-! texts: words of mirrors -/
namespace UL
open PySem PySem.Spec PyProof.Rows L2 LV
section
variable {κ : String → Addr} {γ : Gh} {ρ : Bool}
inductive SimJ (κ : String → Addr) (γ : Gh) (ρ : Bool) : List TE → List (M U) → Prop where
  | nil : SimJ κ γ ρ [] []
  | cons {t : TE} {m : M U} {ts : List TE} {ms : List (M U)} (h : SimE κ γ ρ t m) (r : SimJ κ γ ρ ts ms) : SimJ κ γ ρ (t :: ts) (m :: ms)
end
end UL
set_option Elab.async false
set_option linter.all false
set_option maxRecDepth 100000
set_option maxHeartbeats 2000000
/-! a staticmethod called by its class -/
namespace LV
open PySem PySem.Spec PyProof.Rows L2
structure Sta (K : PySem.W.Frag) (C : Addr) (mc : Value) (m : Str) (p g : Addr) : Prop where
  rd : ClX.CRead K C mc
  at_ : PySem.W.findCls K (.ref C) mc m = some (.get (.builtin "staticmethod.__get__") (.ref p) .none (.ref C))
  rc : ∃ rest, PySem.W.recIn K p "staticmethod" = some (.ref g :: rest)
section
variable {X : Cx} {pins : List (Addr × Obj)} {σ : L2.St} {H : Hp} {s : Shared} {C p g : Addr} {mc : Value} {m : Str} {A : Around} {E : Value → Shared → Prop}
end
section
variable {X : Cx} {CX : CXT} {k : Nat} {C p g : Addr} {mc : Value} {sp : Sp} {E : XK} {o e : Expr} {es : List Expr} {m : Str} {pos apos : Pos} {ta : TE} {t : TA} {pl : Sem Bool} {fd : FuncData} {ps : List Str}
end
end LV
namespace UL
open PySem PySem.Spec PyProof.Rows L2 LV
section
variable {κ : String → Addr} {γ : Gh} {ρ : Bool} {E : XK}
end
end UL
set_option Elab.async false
set_option linter.all false
set_option maxRecDepth 100000
set_option maxHeartbeats 2000000
/-! calls with arguments by their names: the names' values follow the positional ones in the parameters' order -/
namespace KW
open PySem PySem.Spec PyProof.Rows L2 LV UL
/-- n values by place, the others by the names ks, bind the parameters in their order -/
structure KB (K : PySem.W.Frag) (fd : FuncData) (ps : List Str) (n : Nat) (ks : List Str) : Prop where
  to : ∀ (s : Shared) (us ws : List Value), K.In s.heap → us.length = n → ws.length = ks.length → BindsTo s fd ⟨us, ks.zip ws⟩ (ps.zip (us ++ ws))
section
variable {K : PySem.W.Frag} {x qual : Str} {params : Arguments} {body : List Stmt} {scope : Scope} {dvs : List V} {kws : List (Str × V)} {f : Addr} {fd : FuncData} {ps ks : List Str} {n : Nat}
theorem KB.kbn (h : KB K fd ps n ks) : KBn K fd ps n ks (fun us ws => us ++ ws) (fun vs zs => vs ++ zs) := ⟨h.to, fun a b => a.append b⟩
/-- a def without defaults -/
theorem kb0 (F : FunD K x qual params body scope [] kws f fd) (h : ∀ (kV doc pm : Value) (an : Option Addr) (cdv ct : Value) (us ws : List Value), us.length = n → ws.length = ks.length →
    bindArgs (PySem.W.fnOf x qual params body scope .none kV doc pm an cdv ct) ⟨us, ks.zip ws⟩ = pure (ps.zip (us ++ ws))) : KB K fd ps n ks := by
  obtain ⟨oc, od, dV, kV, doc, pm, an, cdv, ct, osl, rfl, lk, hcd, hD, hK⟩ := F.ex
  rcases hD with ⟨_, rfl⟩ | ⟨e, _⟩
  · exact ⟨fun s us ws _ l1 l2 => .of_eq (h kV doc pm an cdv ct us ws l1 l2)⟩
  · exact absurd rfl e
/-- a def with defaults, all of its parameters given -/
theorem kb1 (F : FunD K x qual params body scope dvs kws f fd) (hd : dvs ≠ []) (h : ∀ (T : Addr) (kV doc pm : Value) (an : Option Addr) (cdv ct : Value) (us ws its : List Value), us.length = n → ws.length = ks.length → its.length = dvs.length →
    ∃ k, bindArgs (PySem.W.fnOf x qual params body scope (.ref T) kV doc pm an cdv ct) ⟨us, ks.zip ws⟩ = seqItems? (.ref T) >>= k ∧ k (some its.toArray) = pure (ps.zip (us ++ ws))) : KB K fd ps n ks := by
  obtain ⟨oc, od, dV, kV, doc, pm, an, cdv, ct, osl, rfl, lk, hcd, hD, hK⟩ := F.ex
  rcases hD with ⟨e, _⟩ | ⟨_, T, o, its, m, rfl, lT, oT, rT⟩
  · exact absurd e hd
  · refine ⟨fun s us ws X l1 l2 => ?_⟩
    obtain ⟨k, e1, e2⟩ := h T kV doc pm an cdv ct us ws its l1 l2 rT.length.symm
    refine BindsTo.of_looks fun M => ?_
    rw [e1]
    exact looks_items X lT oT (.of_pure e2)
end
/-- the arguments by place, then those by name -/
def tApp (n m : Nat) (t tk : TA) : TA := fun σ H Q => t σ H fun vs H1 => tk σ H1 fun zs H2 => vs.length = n ∧ zs.length = m ∧ Q (vs ++ zs) H2
structure Cal (CX : CXT) (P : Program) (w : World) (K : PySem.W.Frag) (mg : Str → Option Value) (base : Heap) (k n : Nat) (ks : List Str) (x : Str) (sp : Sp) : Prop where
  ex : ∃ (f : Addr) (fd : FuncData) (ps : List Str), FnOk P w K mg base CX k f fd ps sp ∧ mg x = some (.ref f) ∧ PySem.W.keepIn K (.ref f) = true ∧ KB K fd ps n ks
structure Met (CX : CXT) (P : Program) (w : World) (K : PySem.W.Frag) (mg : Str → Option Value) (base : Heap) (k : Nat) (ks : List Str) (C : Addr) (m : Str) (sp : Sp) : Prop where
  ex : ∃ (f : Addr) (fd : FuncData) (ps : List Str), Cls K C ∧ Meth K C m f ∧ FnOk P w K mg base CX k f fd ps sp ∧ KB K fd ps 1 ks
structure Mak (CX : CXT) (P : Program) (w : World) (K : PySem.W.Frag) (mg : Str → Option Value) (base : Heap) (k : Nat) (ks : List Str) (x : Str) (C : Addr) (sp : Sp) : Prop where
  ex : ∃ (f : Addr) (fd : FuncData) (ps : List Str), Mk K C f ∧ FnOk P w K mg base CX k f fd ps sp ∧ mg x = some (.ref C) ∧ KB K fd ps 1 ks
structure Stat (CX : CXT) (P : Program) (w : World) (K : PySem.W.Frag) (mg : Str → Option Value) (base : Heap) (k : Nat) (ks : List Str) (C : Addr) (m : Str) (sp : Sp) : Prop where
  ex : ∃ (mc : Value) (p g : Addr) (fd : FuncData) (ps : List Str), Sta K C mc m p g ∧ FnOk P w K mg base CX k g fd ps sp ∧ PySem.W.keepIn K (.ref g) = true ∧ KB K fd ps 0 ks
structure CalO (CX : CXT) (P : Program) (w : World) (K : PySem.W.Frag) (mg : Str → Option Value) (base : Heap) (k : Nat) (ks : List Str) (L : Addr) (sp : Sp) : Prop where
  ex : ∃ (g : Addr) (fd : FuncData) (ps : List Str), StX.CallO K L g ∧ FnOk P w K mg base CX k g fd ps sp ∧ KB K fd ps 1 ks
section
variable {X : Cx} {CX : CXT} {E : XK} {k j n : Nat} {C : Addr} {x m : Str} {sp : Sp} {p pos apos : Pos} {e o fe : Expr} {es : List Expr} {kws : List Keyword} {ks : List Str} {ta tf : TE} {t tk : TA}
/-- f(e, .., k = v, ..) -/
theorem pe_c (hx : Passes CX X E) (c : Cal CX X.prog X.w X.K X.mg X.base k n ks x sp) (hr : Room j X.A) (hk : k ≤ j) (hg : Gl X x) (ha : PA X (e :: es) t) (hkw : PK X kws tk)
    (hall : (backToKw pos (keywordEach kws X.env)).all (·.1.isSome) = true := by rfl) (hks : (backToKw pos (keywordEach kws X.env)).filterMap (·.1) = ks := by rfl)
    (hdb : (x == ("__debug__" : Str)) = false := by decide) (he : starEach (e :: es) X.env = (false, eval e X.env) :: starEach es X.env := by rfl)
    (hpl : ((backTo pos (starEach (e :: es) X.env)).any (·.1) || (backToKw pos (keywordEach kws X.env)).any (·.1.isNone)) = false := by rfl) :
    PE X (.Call (.Name x p) (e :: es) kws pos) (tCall sp [] E (tApp n ks.length t tk)) := by
  obtain ⟨f, fd, ps, F, hm, kp, b⟩ := c.ex
  refine ⟨fun pins s σ H Q I h => ?_⟩
  refine wpAny_Call_Name_kw (ld_glob I hg hm ?_ hdb)
  refine PySem.W.callWith_KW (h₀ := X.base) I.ok.mod.kin kp hall (thn (ha.run pos pins s σ H _ I h) fun us s1 ⟨vs, H1, I1, r, q⟩ => ?_) hpl he
  refine thn (hkw.run pos pins s1 σ H1 _ I1 q) fun ws s2 ⟨zs, H2, I2, rz, l1, l2, q2⟩ => ⟨I2.kIn, ?_⟩
  rw [hks]
  dsimp only at q2
  rw [List.append_nil] at q2
  exact run_fnN F (hr.mono hk) b.kbn hx I2 r rz l1 l2 q2
end
end KW
namespace UL
open PySem PySem.Spec PyProof.Rows L2 LV KW
section
variable {κ : String → Addr} {γ : Gh} {ρ : Bool}
end
end UL
set_option Elab.async false
set_option linter.all false
set_option maxRecDepth 100000
set_option maxHeartbeats 2000000
/-! errors as things: made, their fields, their classes -/
namespace LV
open PySem PySem.Spec PyProof.Rows L2 UL
theorem erO_ok {P : Program} {w : World} {H : Hp} {h : Heap} {a C : Addr} {d : Option Addr} {oe : Obj} {vs : Array Value} (e : h.get? a = some oe) (z : Zc (.ref C) d oe) (f : oe.data = .fields vs) : ObjOk P w H h a (ErO C d a) :=
  ⟨⟨oe, vs, e, z, f⟩, ⟨oe, e⟩, fun _ _ ⟨o, v, q, r⟩ k => ⟨o, v, k o q, r⟩⟩
/-- C(e) or C(f = e), the made error -/
def tErMk (C : Addr) (f : Str) (ta : TA) : TE := fun σ H Q => ta σ H fun vs H1 => ∃ v, vs = [v] ∧ ∀ d e, H1 d = none → H1 e = none → d ≠ e → Q (.ref e) (upd (upd H1 d (.xd [(f, v)])) e (ErO C (some d) e))
def tEr0 (C : Addr) : TE := fun σ H Q => ∀ e, H e = none → Q (.ref e) (upd H e (ErO C none e))
section
variable {X : Cx} {C fI : Addr} {cn f q : Str}
theorem er_laid {pins : List (Addr × Obj)} {σ : L2.St} {H1 : Hp} {s1 : Shared} {h' : Heap} {tk' : Nat} {e d : Addr} {v : V} {v' : Value} (I1 : Inv X pins σ H1 s1) (M : PySem.LevX.OwnMade f s1.heap h' e C d v') (rv : RelV v v') :
    Inv X pins σ (upd (upd H1 d (.xd [(f, v)])) e (ErO C (some d) e)) { s1 with heap := h', toks := tk' } ∧ H1 d = none ∧ H1 e = none ∧ d ≠ e := by
  obtain ⟨t1, hoe⟩ := M.obj
  have hns := M.ns
  obtain ⟨G', g1, g2⟩ := restrict h' fun b => decide (b ≠ e)
  have gk : ∀ b, b ≠ e → G'.get? b = h'.get? b := fun b hb => g1 b (decide_eq_true hb)
  have gone : G'.get? e = none := g2 e (by simp)
  have old : ∀ b o, s1.heap.get? b = some o → G'.get? b = some o := fun b o z => (gk b (Nat.ne_of_lt (Nat.lt_of_lt_of_le (Heap.lt_size z) M.new))).trans (M.keep b o z)
  have ob : ObjOk X.prog X.w (upd H1 d (.xd [(f, v)])) G' d (.xd [(f, v)]) := ⟨_, hns.at (fun o z => (gk d M.dne).trans z), fun y => relO_one rv y⟩
  have hd := I1.hok.fresh M.dbig
  have he := I1.hok.fresh M.new
  have J : Inv X pins σ (upd H1 d (.xd [(f, v)])) { s1 with heap := G', toks := tk' } := I1.laid (t' := tk') old M.dbig ob
  refine ⟨?_, hd, he, M.dne⟩
  refine J.laidN (t' := tk') (h' := h') (fun b o z => ?_) gone ?_ (erO_ok hoe ⟨rfl, rfl⟩ rfl)
  · have z' : G'.get? b = some o := z
    rw [← gk b fun y => by
      rw [y, gone] at z'
      cases z']
    exact z'
  · rw [upd_ne (Ne.symm M.dne)]
    exact he
theorem pe_erMk {a : Expr} {ta : TA} {p pos : Pos} {k : Nat} (T : PySem.LevX.LevTxt X.prog X.K X.mg cn f q C fI) (NF : PySem.LevX.FName f) (hr : Room k X.A) (ha : PA X [a] ta) (hg : Gl X cn) (hdb : (cn == ("__debug__" : Str)) = false)
    (he : starEach (a :: []) X.env = (false, eval a X.env) :: starEach [] X.env := by rfl) (hpl : (backTo pos (starEach [] X.env)).any (·.1) = false := by rfl) : PE X (.Call (.Name cn p) [a] [] pos) (tErMk C f ta) := by
  refine ⟨fun pins s σ H Q I h => ?_⟩
  refine (wpAny_Call_Name_kw (ld_glob I hg T.gC ?_ hdb))
  refine PySem.W.callWith_K (h₀ := X.base) I.ok.mod.kin T.kC (thn (ha.run pos pins s σ H _ I h) fun us s1 hh => ?_) he hpl
  obtain ⟨vs, H1, I1, r1, v, ev, q1⟩ := hh
  subst ev
  refine ⟨I1.kIn, ?_⟩
  cases r1 with
  | cons rv rn =>
    rename_i v' us'
    cases rn
    show wpAny _ _ (call (.ref C) [v']) _ _ _
    refine wpAny_call (PySem.LevX.lev_made T NF I1.mod I1.bk (by have := hr.dp; omega) fun h' tk' e d M => ?_)
    obtain ⟨J, n1, n2, n3⟩ := er_laid (tk' := tk') I1 M rv
    exact ⟨.ref e, _, J, rfl, q1 d e n1 n2 n3⟩
theorem pe_erMkK {kws : List Keyword} {tk : TA} {p pos : Pos} {k : Nat} (T : PySem.LevX.LevTxt X.prog X.K X.mg cn f q C fI) (NF : PySem.LevX.FName f) (hr : Room k X.A) (hkw : PK X kws tk) (hg : Gl X cn) (hdb : (cn == ("__debug__" : Str)) = false)
    (hall : (backToKw pos (keywordEach kws X.env)).all (·.1.isSome) = true := by rfl) (hks : (backToKw pos (keywordEach kws X.env)).filterMap (·.1) = [f] := by rfl)
    (hpl : ((backTo pos (starEach [] X.env)).any (·.1) || (backToKw pos (keywordEach kws X.env)).any (·.1.isNone)) = false := by rfl) : PE X (.Call (.Name cn p) [] kws pos) (tErMk C f tk) := by
  refine ⟨fun pins s σ H Q I h => ?_⟩
  refine (wpAny_Call_Name_kw (ld_glob I hg T.gC ?_ hdb))
  refine PySem.W.callWith_KW0 (h₀ := X.base) I.ok.mod.kin T.kC hall ?_ hpl
  refine thn (hkw.run pos pins s σ H _ I h) fun ws s2 ⟨zs, H2, I2, rz, v, ev, q2⟩ => ⟨I2.kIn, ?_⟩
  subst ev
  rw [hks]
  cases rz with
  | cons rv rn =>
    rename_i v' us'
    cases rn
    show wpAny _ _ (call (.ref C) [] [(f, _)]) _ _ _
    refine wpAny_call (PySem.LevX.lev_madeK T NF I2.mod I2.bk (by have := hr.dp; omega) fun h' tk' e d M => ?_)
    obtain ⟨J, n1, n2, n3⟩ := er_laid (tk' := tk') I2 M rv
    exact ⟨.ref e, _, J, rfl, q2 d e n1 n2 n3⟩
theorem pe_er0 {bmB : List Value} {B newId initId : String} {x : Str} {p pos : Pos} (F : ExcBaseFacts B newId initId bmB) (q : PySem.W.excIn X.K C bmB newId = true) (gC : X.mg x = some (.ref C)) (kC : PySem.W.keepIn X.K (.ref C) = true) (hg : Gl X x)
    (hdb : (x == ("__debug__" : Str)) = false := by decide) : PE X (.Call (.Name x p) [] [] pos) (tEr0 C) := by
  refine ⟨fun pins s σ H Q I h => ?_⟩
  refine (wpAny_Call_Name_kw (ld_glob I hg gC ?_ hdb))
  obtain ⟨bm, N, nm, qn, bs, hdct, sn, sub, ab, col, dd, k0, k1, k2, k3, k5, mN, hC, hN, hni, T⟩ := exc_obj I.kIn q
  refine PySem.W.callWith_K0 I.kIn kC ?_
  refine wpAny_call_exc_subT F T hC hN hni (fun h' a hm => ?_) (by show 0 ≤ sizeLine; exact Nat.zero_le _)
  have hn : H a = none := I.hok.gone hm.new
  obtain ⟨t, ht, _, _⟩ := hm.there
  exact ⟨.ref a, _, I.laidN hm.keeps hm.new hn (erO_ok ht ⟨rfl, rfl⟩ rfl), rfl, h a hn⟩
/-! fields and classes -/
theorem er_inst {pins : List (Addr × Obj)} {σ : L2.St} {H : Hp} {s : Shared} {a D : Addr} {d : Option Addr} (I : Inv X pins σ H s) (ha : H a = some (ErO D d a)) (hd : XdOk H d) : ∃ oe od, PySem.W.InstAt s.heap a oe D od := by
  obtain ⟨⟨oe, vs, hget, hz, hv⟩, _, _⟩ := I.hok a _ ha
  have nc : PySem.W.notCls oe = true := by
    unfold PySem.W.notCls
    rw [hv] <;> rfl
  cases d with
  | none => exact ⟨oe, none, hget, hz.1, nc, by rw [hz.2]; trivial⟩
  | some dd =>
    obtain ⟨fs, ea⟩ := hd
    obtain ⟨mA, hns, hr⟩ := (I.hok dd _ ea : ObjOk X.prog X.w H s.heap dd (.xd fs))
    obtain ⟨od, ho, hl⟩ := lookIn_ns hns
    exact ⟨oe, some od, hget, hz.1, nc, by rw [hz.2]; exact ho⟩
/-- isinstance(e, c), e a made error -/
def rIsEr (K : PySem.W.Frag) : List V → Hp → VK → Prop := fun xs H Q => ∃ (a D : Addr) (d : Option Addr) (c : V) (cv : Value) (b : Bool), xs = [.ref a, c] ∧ H a = some (ErO D d a) ∧ XdOk H d ∧ ExcC K D ∧ (∀ u, RelV c u → u = cv) ∧ PySem.W.kitOne K (.ref D) cv = some b ∧ Q (.bl b) H
theorem call_isEr {K : PySem.W.Frag} (hK : X.K = K) : CallR X (.builtin "isinstance") (rIsEr K) := by
  subst hK
  intro pins s σ H xs us Q I r h
  obtain ⟨a, D, d, c, cv, b, rfl, ha, hd, C, hcv, e, q⟩ := h
  cases r with
  | cons rx rr =>
    cases rr with
    | cons rt rr =>
      cases rr
      cases rx
      obtain rfl := hcv _ rt
      obtain ⟨oe, od, J⟩ := er_inst I ha hd
      refine PySem.W.kia_one (LevX2.kit_exc (ox := oe) (od := od) C) I.kIn J e (by intro z; cases z) fun tk => ?_
      exact ⟨.bl b, H, I.kept (t' := tk) fun _ _ z => z, rfl, q⟩
/-- e.n, e a made error -/
def tErF (K : PySem.W.Frag) (n : Str) (te : TE) : TE := fun σ H Q => te σ H fun x H1 => ∃ a D dd fs v, x = .ref a ∧ H1 a = some (ErO D (some dd) a) ∧ H1 dd = some (.xd fs) ∧ XfC K D ∧ PySem.W.findIn K (.ref D) n = some none ∧ fs.lookup n = some v ∧ Q v H1
theorem pe_erF {K : PySem.W.Frag} (hK : X.K = K) {e : Expr} {te : TE} {pos : Pos} {n : Str} (he : PE X e te) (hb : attributeBase e n X.env (eval e X.env) = eval e X.env := by rfl) : PE X (.Attribute e n pos) (tErF K n te) := by
  subst hK
  constructor
  intro pins s σ H Q I h
  refine attr_of hb (thn (he.run pins s σ H _ I h) ?_)
  rintro u s1 ⟨x, H1, I1, rx, a, D, dd, fs, v, rfl, ha, ea, T, hno, l, q⟩
  obtain rfl : u = Value.ref a := rx
  obtain ⟨⟨oe, vs, hget, hz, hd⟩, _, _⟩ := I1.hok a _ ha
  obtain ⟨mA, hns, hr⟩ := (I1.hok dd _ ea : ObjOk X.prog X.w H1 s1.heap dd (.xd fs))
  obtain ⟨od, ho, hl⟩ := lookIn_ns hns
  obtain ⟨u, hu, ru⟩ := RelO.some_of (v := v) (o := mA n) (by rw [← l]; exact hr n)
  have nc : PySem.W.notCls oe = true := by
    unfold PySem.W.notCls
    rw [hd] <;> rfl
  have J : PySem.W.InstAt s1.heap a oe D (some od) := ⟨hget, hz.1, nc, by rw [hz.2]; exact ho⟩
  refine HandSPX.exc_get I1.kIn J T.ga T.gg T.exC (PySem.W.findObj_own T.hdC hno rfl (by rw [hl, hu])) (handed_of ru) ?_
  exact ⟨v, H1, I1.tok _, ru, q⟩
end
end LV
namespace UL
open PySem PySem.Spec PyProof.Rows L2 LV
/-- the errors' classes: their names, their fields; LevelError has none -/
def erTab : List (String × Option String) := [("BadPart", some "part"), ("BadText", some "line"), ("BadLevel", some "index"), ("BadFact", some "index"), ("BadPlace", some "index"), ("BadPoint", some "index"), ("BadMoment", some "moment"), ("BadLine", some "line"), ("UnknownLevel", some "name"), ("BadHeight", some "height"), ("BadFrame", none), ("Unfit", none), ("HasHistory", none), ("LevelError", none)]
def erNs : List String := erTab.map (·.1)
def erOf (c : String) : Bool := erNs.any fun d => decide (d = c)
/-- what the head tells of them -/
structure ErrL (K : PySem.W.Frag) (κ : String → Addr) : Prop where
  exc : ∀ c ∈ erNs, ExcC K (κ c)
  xf : ∀ c ∈ erNs, XfC K (κ c)
  nof : ∀ p ∈ erTab, ∀ f, p.2 = some f → PySem.W.findIn K (.ref (κ p.1)) (Str.ofString f) = some none
  kit : ∀ c ∈ erNs, ∀ d ∈ erNs, PySem.W.kitOne K (.ref (κ c)) (.ref (κ d)) = some (decide (c = d) || decide (d = "LevelError"))
  kitV : ∀ c ∈ erNs, PySem.W.kitOne K (.ref (κ c)) (.type "ValueError") = some true
def mEr (c : String) (f : Str) (m : M (List U)) : M U := fun env => (m env).bind fun x => match x.1 with
  | [u] => some (.er c [f] [u], x.2)
  | _ => none
def isEr (d : String) : U → Option U
  | .er c _ _ => if erOf c = true ∧ erOf d = true then some (.bl (decide (c = d) || decide (d = "LevelError"))) else none
  | _ => none
def isErV : U → Option U
  | .er c _ _ => if erOf c = true then some (.bl true) else none
  | _ => none
def erF (f : String) : U → Option U
  | .er c ns [u] => if ns = [Str.ofString f] ∧ erTab.contains (c, some f) = true then some u else none
  | _ => none
section
variable {κ : String → Addr} {γ : Gh} {ρ : Bool} {K : PySem.W.Frag}
theorem simE_er {c : String} {f : Str} {t : TA} {m : M (List U)} {n : Nat} (h : SimA κ γ ρ n t m) : SimE κ γ ρ (tErMk (κ c) f t) (mEr c f m) := by
  constructor
  intro σ S H F env g u env' e Q k
  obtain ⟨⟨x, e1⟩, h1, e⟩ := bindS e
  dsimp only at e
  split at e <;> try cases e
  rename_i u0
  refine h.run g h1 _ fun vs S1 H1 F1 s1 g1 rs => ?_
  obtain ⟨v, vs', rfl, r, rn⟩ := rs
  have : vs' = [] := rn
  subst this
  refine ⟨v, rfl, fun d a hd ha hda => ?_⟩
  have st1 : StpP κ S1 H1 (upd S1 d (.xd [(f, v)])) (upd H1 d (.xd [(f, v)])) := StpP.new1 g1.wf.sub hd
  have ha' : upd H1 d (.xd [(f, v)]) a = none := by
    rw [upd_ne (Ne.symm hda)]
    exact ha
  have st2 : StpP κ (upd S1 d (.xd [(f, v)])) (upd H1 d (.xd [(f, v)])) (upd (upd S1 d (.xd [(f, v)])) a (ErO (κ c) (some d) a)) (upd (upd H1 d (.xd [(f, v)])) a (ErO (κ c) (some d) a)) := StpP.new1 st1.in_ ha'
  have st := st1.trans st2
  refine k _ _ _ F1 (s1.trans st.stq) (g1.pure_ st) ⟨a, some d, [v], rfl, upd_same, ?_, rfl, ⟨v, [], rfl, Rep.mono st.sub _ r, rfl⟩⟩
  show upd _ a _ d = _
  rw [upd_ne hda, upd_same]
  rfl
theorem simE_er0 {c : String} : SimE κ γ ρ (tEr0 (κ c)) (mC (.er c [] [])) := by
  constructor
  intro σ S H F env g u env' e Q k
  cases e
  intro a ha
  have st : StpP κ S H (upd S a (ErO (κ c) none a)) (upd H a (ErO (κ c) none a)) := StpP.new1 g.wf.sub ha
  exact k _ _ _ F st.stq (g.pure_ st) ⟨a, none, [], rfl, upd_same, rfl, rfl, rfl⟩
theorem er_mem {c : String} (h : erOf c = true) : c ∈ erNs := by
  obtain ⟨d, hd, e⟩ := List.any_eq_true.mp h
  rw [← of_decide_eq_true e]
  exact hd
theorem er_xd {S H : Hp} {ns : List Str} {vs : List V} {d : Option Addr} (e : Same S H) (h : ErD S ns vs d) : XdOk H d := by
  cases d with
  | none => trivial
  | some dd => exact ⟨_, e _ _ h⟩
theorem isEr_inv {d : String} {x z : U} (h : isEr d x = some z) : ∃ c ns us, x = .er c ns us ∧ erOf c = true ∧ erOf d = true ∧ z = .bl (decide (c = d) || decide (d = "LevelError")) := by
  cases x with
  | er c ns us =>
    simp only [isEr] at h
    split at h
    · rename_i hc
      cases h
      exact ⟨c, ns, us, rfl, hc.1, hc.2, rfl⟩
    · cases h
  | _ => cases h
theorem isErV_inv {x z : U} (h : isErV x = some z) : ∃ c ns us, x = .er c ns us ∧ erOf c = true ∧ z = .bl true := by
  cases x with
  | er c ns us =>
    simp only [isErV] at h
    split at h
    · rename_i hc
      cases h
      exact ⟨c, ns, us, rfl, hc, rfl⟩
    · cases h
  | _ => cases h
theorem erF_inv {f : String} {x z : U} (h : erF f x = some z) : ∃ c, x = .er c [Str.ofString f] [z] ∧ (c, some f) ∈ erTab := by
  cases x with
  | er c ns us =>
    rcases us with _ | ⟨u1, _ | ⟨u2, us⟩⟩
    · cases h
    · simp only [erF] at h
      split at h
      · rename_i hc
        cases h
        rw [hc.1]
        exact ⟨c, rfl, by simpa using hc.2⟩
      · cases h
    · cases h
  | _ => cases h
theorem simE_isEr (L : ErrL K κ) {d : String} {t : TE} {m : M U} (h : SimE κ γ ρ t m) : SimE κ γ ρ (tCB (rIsEr K) (tCons t (tCons (tC (.ref (κ d))) tNil))) (m1 (isEr d) m) := by
  constructor
  intro σ S H F env g u env' e Q k
  obtain ⟨⟨x, e1⟩, h1, e⟩ := bindS e
  obtain ⟨z, h2, e⟩ := bindS e
  cases e
  obtain ⟨c, ns, us, ex, hc, hd', rfl⟩ := isEr_inv h2
  refine h.run g h1 _ fun v S1 H1 F1 s1 g1 r => ?_
  have ex : x = .er c ns us := ex
  subst ex
  obtain ⟨a, dd, vs, rfl, ha, hd, _, _⟩ := r
  exact ⟨a, κ c, dd, _, _, _, rfl, g1.wf.sub _ _ ha, er_xd g1.wf.sub hd, L.exc c (er_mem hc), fun u hu => hu, L.kit c (er_mem hc) d (er_mem hd'), k _ S1 H1 F1 s1 g1 rfl⟩
theorem simE_isErV (L : ErrL K κ) {t : TE} {m : M U} (h : SimE κ γ ρ t m) : SimE κ γ ρ (tCB (rIsEr K) (tCons t (tCons (tC (.ty "ValueError")) tNil))) (m1 isErV m) := by
  constructor
  intro σ S H F env g u env' e Q k
  obtain ⟨⟨x, e1⟩, h1, e⟩ := bindS e
  obtain ⟨z, h2, e⟩ := bindS e
  cases e
  obtain ⟨c, ns, us, ex, hc, rfl⟩ := isErV_inv h2
  refine h.run g h1 _ fun v S1 H1 F1 s1 g1 r => ?_
  have ex : x = .er c ns us := ex
  subst ex
  obtain ⟨a, dd, vs, rfl, ha, hd, _, _⟩ := r
  exact ⟨a, κ c, dd, _, _, _, rfl, g1.wf.sub _ _ ha, er_xd g1.wf.sub hd, L.exc c (er_mem hc), fun u hu => hu, L.kitV c (er_mem hc), k _ S1 H1 F1 s1 g1 rfl⟩
theorem simE_erF (L : ErrL K κ) {f : String} {t : TE} {m : M U} (h : SimE κ γ ρ t m) : SimE κ γ ρ (tErF K (Str.ofString f) t) (m1 (erF f) m) := by
  constructor
  intro σ S H F env g u env' e Q k
  obtain ⟨⟨x, e1⟩, h1, e⟩ := bindS e
  obtain ⟨z, h2, e⟩ := bindS e
  cases e
  obtain ⟨c, ex, hm⟩ := erF_inv h2
  refine h.run g h1 _ fun v S1 H1 F1 s1 g1 r => ?_
  have ex : x = .er c [Str.ofString f] [u] := ex
  subst ex
  obtain ⟨a, dd, vs, rfl, ha, hd, hl, w, ws, rfl, rw', rn⟩ := r
  have : ws = [] := rn
  subst this
  have hn : c ∈ erNs := List.mem_map.mpr ⟨_, hm, rfl⟩
  cases dd with
  | none => exact absurd (show [Str.ofString f] = [] from hd) (by simp)
  | some dd =>
    exact ⟨a, κ c, dd, _, w, rfl, g1.wf.sub _ _ ha, g1.wf.sub _ _ hd, L.xf c hn, L.nof _ hm f rfl, by simp [List.lookup], k _ S1 H1 F1 s1 g1 rw'⟩
end
end UL
set_option Elab.async false
set_option linter.all false
set_option maxRecDepth 100000
set_option maxHeartbeats 2000000
/-! errors as things, by the table of the classes -/
namespace UL
open PySem PySem.Spec PyProof.Rows L2 LV
/-- LevelError itself, made without arguments -/
structure ErrLB (K : PySem.W.Frag) (κ : String → Addr) : Prop where
  ex : ∃ bmB B newId initId, ∃ F : ExcBaseFacts B newId initId bmB, PySem.W.excIn K (κ "LevelError") bmB newId = true ∧ PySem.W.keepIn K (.ref (κ "LevelError")) = true
section
variable {X : Cx} {j : Nat} {κ : String → Addr} {a : Expr} {t : TA} {p pos : Pos}
theorem pe_er1 (et : ErrT X.prog X.K X.mg κ) (kk : Ek) (f : String) (hf : kk.f = some f) (NF : PySem.LevX.FName (Str.ofString f)) (hr : Room j X.A) (hg : Gl X (Str.ofString kk.c)) (ha : PA X [a] t)
    (hdb : (Str.ofString kk.c == ("__debug__" : Str)) = false := by decide) (he : starEach (a :: []) X.env = (false, eval a X.env) :: starEach [] X.env := by rfl) (hpl : (backTo pos (starEach [] X.env)).any (·.1) = false := by rfl) :
    PE X (.Call (.Name (Str.ofString kk.c) p) [a] [] pos) (tErMk (κ kk.c) (Str.ofString f) t) := by
  obtain ⟨q, fI, T⟩ := et.lev kk f hf
  exact pe_erMk T NF hr ha hg hdb he hpl
theorem pe_er1K {kws : List Keyword} (et : ErrT X.prog X.K X.mg κ) (kk : Ek) (f : String) (hf : kk.f = some f) (NF : PySem.LevX.FName (Str.ofString f)) (hr : Room j X.A) (hg : Gl X (Str.ofString kk.c)) (hkw : PK X kws t)
    (hdb : (Str.ofString kk.c == ("__debug__" : Str)) = false := by decide) (hall : (backToKw pos (keywordEach kws X.env)).all (·.1.isSome) = true := by rfl) (hks : (backToKw pos (keywordEach kws X.env)).filterMap (·.1) = [Str.ofString f] := by rfl)
    (hpl : ((backTo pos (starEach [] X.env)).any (·.1) || (backToKw pos (keywordEach kws X.env)).any (·.1.isNone)) = false := by rfl) :
    PE X (.Call (.Name (Str.ofString kk.c) p) [] kws pos) (tErMk (κ kk.c) (Str.ofString f) t) := by
  obtain ⟨q, fI, T⟩ := et.lev kk f hf
  exact pe_erMkK T NF hr hkw hg hdb hall hks hpl
theorem pe_erB (et : ErrT X.prog X.K X.mg κ) (kk : Ek) (hf : kk.f = none) (hg : Gl X (Str.ofString kk.c)) (hdb : (Str.ofString kk.c == ("__debug__" : Str)) = false := by decide) : PE X (.Call (.Name (Str.ofString kk.c) p) [] [] pos) (tEr0 (κ kk.c)) := by
  obtain ⟨bmB, B, newId, initId, F, q1, q2, q3, q4⟩ := et.bare kk hf
  exact pe_er0 F q1 (et.gC kk) q2 hg hdb
theorem pe_erL (et : ErrT X.prog X.K X.mg κ) (eb : ErrLB X.K κ) (hg : Gl X "LevelError") : PE X (.Call (.Name "LevelError" p) [] [] pos) (tEr0 (κ "LevelError")) := by
  obtain ⟨bmB, B, newId, initId, F, q1, q2⟩ := eb.ex
  exact pe_er0 F q1 et.gL q2 hg
end
end UL
set_option Elab.async false
set_option linter.all false
set_option maxRecDepth 100000
set_option maxHeartbeats 2000000
/-! a text of one sign, some times; == of dicts with one key -/
namespace UL
open PySem PySem.Spec PyProof.Rows L2 LV LW Builtin Builtin.Str
def repS (n : Int) (z : Str) : Str := if n < 1 then Str.empty else if (n == 1 || z.length == 0) = true then z else ⟨(List.replicate n.toNat z.cps).foldl (· ++ ·) #[]⟩
def mulSU : U → U → Option U
  | .str z, .int n => if (n = 0 ∨ n = 1 ∨ n = 2 ∨ n = 3) ∧ z.length = 1 then some (.str (repS n z)) else none
  | _, _ => none
theorem op_mulS {κ : String → Addr} {X : Cx} : OpR X (binaryOp .Mult) (r2 κ mulSU) := by
  intro pins s σ H x y v u Q I rx ry h
  obtain ⟨S, a, b, c, e, ra, rb, hf, k⟩ := h
  cases a <;> try cases hf
  rename_i z
  cases b <;> try cases hf
  rename_i n
  simp only [mulSU] at hf
  split at hf
  case isFalse => cases hf
  rename_i hc
  cases hf
  have ex : x = .str z := ra
  have ey : y = .int n := rb
  subst ex ey
  obtain ⟨t, rfl⟩ := rx
  obtain ⟨t', rfl⟩ := ry
  obtain ⟨hn, hz⟩ := hc
  obtain ⟨c, rfl⟩ : ∃ c, z = ⟨#[c]⟩ := by
    obtain ⟨⟨l⟩⟩ := z
    rcases l with _ | ⟨c, _ | ⟨d, l⟩⟩
    · cases hz
    · exact ⟨c, rfl⟩
    · cases hz
  have q := k (.str (repS n ⟨#[c]⟩)) S H (stay e) rfl
  have fin : ∀ (y : Str) (t : Tok), y = repS n ⟨#[c]⟩ → EP X pins σ Q (.str y t) { s with toks := s.toks + 1 } := fun y t hy => by
    subst hy
    exact ⟨.str _, H, I.tok _, ⟨_, rfl⟩, q⟩
  rcases hn with rfl | rfl | rfl | rfl
  · exact PySem.P.mul_str (by decide) (fun h => absurd (by decide) h) (fun h => absurd (by decide) h) ⟨by decide, fin _ _ rfl⟩
  · exact PySem.P.mul_str (by decide) (fun _ h => by cases h) (fun _ h => by cases h) ⟨.str _, H, I, ⟨_, rfl⟩, q⟩
  · exact PySem.P.mul_str (by decide) (fun _ _ => by show ¬ ((1 : Int) > _); decide) (fun _ _ => by show tooLong 2 = false; decide +kernel) ⟨by show (2 : Nat) ≤ _; decide, fin _ _ rfl⟩
  · exact PySem.P.mul_str (by decide) (fun _ _ => by show ¬ ((1 : Int) > _); decide) (fun _ _ => by show tooLong 3 = false; decide +kernel) ⟨by show (3 : Nat) ≤ _; decide, fin _ _ rfl⟩
end UL
set_option Elab.async false
set_option linter.all false
set_option maxRecDepth 100000
set_option maxHeartbeats 2000000
/-! the rules for a text without the class Exact -/
namespace UL
open PySem PySem.Spec PyProof.Rows L2 LV LW
structure EnN (mg : Str → Option Value) : Prop where
  free : ∀ x ∈ bltN, mg x = none
def isQt : U → Bool
  | .q _ => true
  | _ => false
def nq (f : U → U → Option U) (a b : U) : Option U := if (isQt a || isQt b) = true then none else f a b
def addN := nq addU
def subN := nq subU
def mulN := nq mulU
def ltN := nq ltU
def gtN := nq gtU
def geN := nq geU
theorem nq_eq {f : U → U → Option U} {a b c : U} (h : nq f a b = some c) : f a b = some c ∧ isQt a = false ∧ isQt b = false := by
  unfold nq at h
  split at h
  · cases h
  · rename_i hz
    simp only [Bool.or_eq_true, not_or, Bool.not_eq_true] at hz
    exact ⟨h, hz.1, hz.2⟩
section
variable {κ : String → Addr} {γ : Gh} {ρ : Bool} {X : Cx} {K : PySem.W.Frag}
theorem op_addN : OpR X (binaryOp .Add) (r2 κ addN) := by
  intro pins s σ H x y v u Q I rx ry h
  obtain ⟨S, a, b, c, e, ra, rb, hf, k⟩ := h
  replace hf := nq_eq hf
  obtain ⟨hf, na, nb⟩ := hf
  cases a <;> cases b <;> (try cases na) <;> (try cases nb) <;> try cases hf
  · cases ra
    cases rb
    exact op_add pins s σ H _ _ v u Q I rx ry ⟨_, _, rfl, rfl, k _ S H (stay e) rfl⟩
  · rename_i z1 z2
    dsimp only [addU] at hf
    split at hf
    · rename_i hz
      cases hf
      cases ra
      cases rb
      exact op_add_str pins s σ H _ _ v u Q I rx ry ⟨z1, z2, rfl, rfl, hz, k _ S H (stay e) rfl⟩
    · cases hf
  · rename_i us ws
    dsimp only [addU] at hf
    split at hf
    · rename_i hz
      cases hf
      obtain ⟨p, xs, rfl, hp, r1⟩ := ra
      obtain ⟨p', ys, rfl, hp', r2⟩ := rb
      refine op_cat pins s σ H _ _ v u Q I rx ry ⟨p, p', xs, ys, rfl, rfl, e _ _ hp, e _ _ hp', by rw [← r1.len, ← r2.len]; exact hz, fun l hl => ?_⟩
      have st : StpP κ S H (upd S l (.lst (xs ++ ys))) (upd H l (.lst (xs ++ ys))) := StpP.new1 e hl
      exact k _ _ _ st ⟨l, _, rfl, upd_same, Reps.mono st.sub _ (r1.app r2)⟩
    · cases hf
  · rename_i us ws
    dsimp only [addU] at hf
    split at hf
    · rename_i hz
      cases hf
      obtain ⟨p, xs, rfl, hp, r1⟩ := ra
      obtain ⟨p', ys, rfl, hp', r2⟩ := rb
      refine op_catA pins s σ H _ _ v u Q I rx ry ⟨p, p', xs, ys, rfl, rfl, SqT.of (e _ _ hp), SqT.of (e _ _ hp'), by rw [← r1.len, ← r2.len]; exact hz, fun h0 => ?_, fun h0 h1 => ?_, fun h0 h1 l hl => ?_⟩
      · subst h0
        have : us = [] := List.length_eq_zero_iff.mp (by rw [r1.len]; rfl)
        subst this
        exact k _ S H (stay e) ⟨p', ys, rfl, hp', r2⟩
      · subst h1
        have : ws = [] := List.length_eq_zero_iff.mp (by rw [r2.len]; rfl)
        subst this
        exact k _ S H (stay e) ⟨p, xs, rfl, hp, by rw [List.append_nil]; exact r1⟩
      · have st : StpP κ S H (upd S l (.tup (xs ++ ys))) (upd H l (.tup (xs ++ ys))) := StpP.new1 e hl
        exact k _ _ _ st ⟨l, _, rfl, upd_same, Reps.mono st.sub _ (r1.app r2)⟩
    · cases hf
theorem op_subN : OpR X (binaryOp .Sub) (r2 κ subN) := by
  intro pins s σ H x y v u Q I rx ry h
  obtain ⟨S, a, b, c, e, ra, rb, hf, k⟩ := h
  replace hf := nq_eq hf
  obtain ⟨hf, na, nb⟩ := hf
  cases a <;> cases b <;> (try cases na) <;> (try cases nb) <;> try cases hf
  cases ra
  cases rb
  exact op_sub pins s σ H _ _ v u Q I rx ry ⟨_, _, rfl, rfl, k _ S H (stay e) rfl⟩
theorem op_mulN : OpR X (binaryOp .Mult) (r2 κ mulN) := by
  intro pins s σ H x y v u Q I rx ry h
  obtain ⟨S, a, b, c, e, ra, rb, hf, k⟩ := h
  replace hf := nq_eq hf
  obtain ⟨hf, na, nb⟩ := hf
  cases a <;> cases b <;> (try cases na) <;> (try cases nb) <;> try cases hf
  dsimp only [mulU] at hf
  split at hf
  · rename_i hz
    cases hf
    cases ra
    cases rb
    exact op_mulG pins s σ H _ _ v u Q I rx ry ⟨_, _, rfl, rfl, bigI_mul hz, k _ S H (stay e) rfl⟩
  · cases hf
theorem op_ltN : OpR X (compareOp .Lt) (r2 κ ltN) := by
  intro pins s σ H x y v u Q I rx ry h
  obtain ⟨S, a, b, c, e, ra, rb, hf, k⟩ := h
  replace hf := nq_eq hf
  obtain ⟨hf, na, nb⟩ := hf
  cases a <;> cases b <;> (try cases na) <;> (try cases nb) <;> try cases hf
  cases ra
  cases rb
  exact op_lt pins s σ H _ _ v u Q I rx ry ⟨_, _, rfl, rfl, k _ S H (stay e) rfl⟩
theorem op_gtN : OpR X (compareOp .Gt) (r2 κ gtN) := by
  intro pins s σ H x y v u Q I rx ry h
  obtain ⟨S, a, b, c, e, ra, rb, hf, k⟩ := h
  replace hf := nq_eq hf
  obtain ⟨hf, na, nb⟩ := hf
  cases a <;> cases b <;> (try cases na) <;> (try cases nb) <;> try cases hf
  cases ra
  cases rb
  exact op_gt pins s σ H _ _ v u Q I rx ry ⟨_, _, rfl, rfl, k _ S H (stay e) rfl⟩
theorem op_geN : OpR X (compareOp .GtE) (r2 κ geN) := by
  intro pins s σ H x y v u Q I rx ry h
  obtain ⟨S, a, b, c, e, ra, rb, hf, k⟩ := h
  replace hf := nq_eq hf
  obtain ⟨hf, na, nb⟩ := hf
  cases a <;> cases b <;> (try cases na) <;> (try cases nb) <;> try cases hf
  cases ra
  cases rb
  exact op_ge pins s σ H _ _ v u Q I rx ry ⟨_, _, rfl, rfl, k _ S H (stay e) rfl⟩
/-! == and != by the data -/
def eqDU (a b : U) : Option U := (toD a).bind fun d => (toD b).bind fun e => if (SeqAt.shaped d && SeqAt.shaped e) = true then some (.bl (PyData.eqv d e)) else none
def neDU (a b : U) : Option U := (toD a).bind fun d => (toD b).bind fun e => if (SeqAt.shaped d && SeqAt.shaped e) = true then some (.bl (!PyData.eqv d e)) else none
theorem op_eqDU (hu : X.A.units + 64 < cLine) : OpR X (compareOp .Eq) (r2 κ eqDU) := by
  intro pins s σ H x y v u Q I rx ry h
  obtain ⟨S, a, b, c, e, ra, rb, hf, k⟩ := h
  obtain ⟨d, h1, hf⟩ := bindS hf
  obtain ⟨e', h2, hf⟩ := bindS hf
  split at hf
  · rename_i hz
    rw [Bool.and_eq_true] at hz
    cases hf
    exact op_eqD hu pins s σ H x y v u Q I rx ry ⟨_, _, dp_of e a ra h1, dp_of e b rb h2, hz.1, hz.2, k _ S H (stay e) rfl⟩
  · cases hf
theorem op_neDU (hu : X.A.units + 64 < cLine) : OpR X (compareOp .NotEq) (r2 κ neDU) := by
  intro pins s σ H x y v u Q I rx ry h
  obtain ⟨S, a, b, c, e, ra, rb, hf, k⟩ := h
  obtain ⟨d, h1, hf⟩ := bindS hf
  obtain ⟨e', h2, hf⟩ := bindS hf
  split at hf
  · rename_i hz
    rw [Bool.and_eq_true] at hz
    cases hf
    exact op_neD hu pins s σ H x y v u Q I rx ry ⟨_, _, dp_of e a ra h1, dp_of e b rb h2, hz.1, hz.2, k _ S H (stay e) rfl⟩
  · cases hf
def eqUkN (a b : U) : Option U := match a, b with
  | .dic [k] [.int i], .dic [l] [.int j] => if k = l ∧ i = j then some (.bl true) else none
  | a, b => eqDU a b
theorem op_eqUkN (hu : X.A.units + 64 < cLine) : OpR X (compareOp .Eq) (r2 κ eqUkN) := by
  intro pins s σ H x y v u Q I rx ry h
  obtain ⟨S, a, c, z, e, ra, rc, hf, k⟩ := h
  unfold eqUkN at hf
  split at hf
  · split at hf
    case isFalse => cases hf
    rename_i hc
    obtain ⟨rfl, rfl⟩ := hc
    cases hf
    obtain ⟨l, vs, rfl, hl, hn, v1, vs1, rfl, r1, r2⟩ := ra
    obtain ⟨l', vs', rfl, hl', hn', v2, vs2, rfl, r3, r4⟩ := rc
    have e1 : vs1 = [] := r2
    have e2 : vs2 = [] := r4
    have e3 : v1 = .int _ := r1
    have e4 : v2 = .int _ := r3
    subst e1 e2 e3 e4
    refine op_eqV hu pins s σ H _ _ v u Q I rx ry ⟨1, by decide, .inr ⟨l, l', _, _, rfl, rfl, e _ _ hl, e _ _ hl', rfl, fun p hp => ?_⟩, k _ S H (stay' e fun _ _ h => h) rfl⟩
    rcases List.mem_cons.mp hp with rfl | hp
    · exact ⟨_, by simp [valV], .inl ⟨rfl, rfl⟩⟩
    · cases hp
  · exact op_eqDU hu pins s σ H x y v u Q I rx ry ⟨S, a, c, z, e, ra, rc, hf, k⟩
/-! isinstance of built-in types -/
def kwnN : U → Bool
  | .q _ => false
  | .obj _ _ _ => false
  | .kt _ => false
  | .pd _ => false
  | .er _ _ _ => false
  | _ => true
def isiUn (T : String) (u : U) : Option U := if kwnN u = true then some (.bl (isiN T (tyU u))) else none
def isiAn (Ts : List String) (u : U) : Option U := if kwnN u = true then some (.bl (Ts.any fun T => isiN T (tyU u))) else none
theorem tyX_n {S H : Hp} (e : Same S H) {u : U} {v : V} (hk : kwnN u = true) (r : Rep κ S u v) : TyX K H v (.type (tyU u)) := by
  cases u with
  | non => rw [show v = .non from r]; exact .base .non
  | bl b => rw [show v = .bl b from r]; exact .base (.bl b)
  | int i => rw [show v = .int i from r]; exact .base (.int i)
  | str z => rw [show v = .str z from r]; exact .base (.str z)
  | q x => cases hk
  | lst us => obtain ⟨a, vs, rfl, ha, _⟩ := r; exact .base (.lst (e _ _ ha))
  | tup us => obtain ⟨a, vs, rfl, ha, _⟩ := r; exact .base (.tup (e _ _ ha))
  | dic ks us => obtain ⟨a, vs, rfl, ha, _⟩ := r; exact .base (.dK (e _ _ ha))
  | obj c ns us => cases hk
  | kt c => cases hk
  | atl a us => obtain ⟨b, vs, rfl, ha, _⟩ := r; exact .base (.lst (e _ _ ha))
  | pd kvs => cases hk
  | er c ns us => cases hk
theorem kit_n {u : U} (hk : kwnN u = true) {T : String} (hT : T ∈ typs) : PySem.W.kitOne K (.type (tyU u)) (.type T) = some (isiN T (tyU u)) := by
  have : tyU u ∈ typs := by cases u <;> first | (cases hk; done) | simp [typs, tyU]
  exact kit_ty (kit_typs _ this T hT)
theorem simE_isiN {T : String} (hT : T ∈ typs) {t : TE} {m : M U} (h : SimE κ γ ρ t m) : SimE κ γ ρ (tCB (rIsi K) (tCons t (tCons (tC (.ty T)) tNil))) (m1 (isiUn T) m) := by
  constructor
  intro σ S H F env g u env' e Q k
  obtain ⟨⟨x, e1⟩, h1, e⟩ := bindS e
  obtain ⟨z, h2, e⟩ := bindS e
  cases e
  refine h.run g h1 _ fun v S1 H1 F1 s1 g1 r => ?_
  unfold isiUn at h2
  split at h2
  · rename_i hk
    cases h2
    exact ⟨v, _, _, _, _, rfl, .ty T, tyX_n g1.wf.sub hk r, kit_n hk hT, k _ S1 H1 F1 s1 g1 rfl⟩
  · cases h2
theorem simE_isi2N {T1 T2 : String} (hT1 : T1 ∈ typs) (hT2 : T2 ∈ typs) {t : TE} {m : M U} (h : SimE κ γ ρ t m) :
    SimE κ γ ρ (tCB (rIsiT K) (tCons t (tCons (tTup (tCons (tC (.ty T1)) (tCons (tC (.ty T2)) tNil))) tNil))) (m1 (isiAn [T1, T2]) m) := by
  constructor
  intro σ S H F env g u env' e Q k
  obtain ⟨⟨x, e1⟩, h1, e⟩ := bindS e
  obtain ⟨z, h2, e⟩ := bindS e
  cases e
  refine h.run g h1 _ fun v S1 H1 F1 s1 g1 r => ⟨by show 2 ≤ sizeLine; decide, fun p hp => ?_⟩
  unfold isiAn at h2
  split at h2
  · rename_i hk
    cases h2
    have st : StpP κ S1 H1 S1 (upd H1 p (.tup [.ty T1, .ty T2])) := stay' g1.wf.sub (Same.new hp)
    refine ⟨v, p, _, _, _, _, rfl, upd_same, .cons (.ty T1) (.cons (.ty T2) .nil), tyX_n st.in_ hk r, kitAny_cons (kit_n hk hT1) (fun h0 => kitAny_cons (kit_n hk hT2) (fun h0' => ?_) (fun h0' => ?_)) (fun h0 => ?_), k _ S1 _ F1 (s1.trans st.stq) (g1.pure_ st) rfl⟩
    · rw [show ([T1, T2].any fun T => isiN T (tyU x)) = false by simp [h0, h0']]
      rfl
    · simp [h0']
    · simp [h0]
  · cases h2
theorem simE_isi4N {T1 T2 T3 T4 : String} (hT1 : T1 ∈ typs) (hT2 : T2 ∈ typs) (hT3 : T3 ∈ typs) (hT4 : T4 ∈ typs) {t : TE} {m : M U} (h : SimE κ γ ρ t m) :
    SimE κ γ ρ (tCB (rIsiT K) (tCons t (tCons (tTup (tCons (tC (.ty T1)) (tCons (tC (.ty T2)) (tCons (tC (.ty T3)) (tCons (tC (.ty T4)) tNil))))) tNil))) (m1 (isiAn [T1, T2, T3, T4]) m) := by
  constructor
  intro σ S H F env g u env' e Q k
  obtain ⟨⟨x, e1⟩, h1, e⟩ := bindS e
  obtain ⟨z, h2, e⟩ := bindS e
  cases e
  refine h.run g h1 _ fun v S1 H1 F1 s1 g1 r => ⟨by show 4 ≤ sizeLine; decide, fun p hp => ?_⟩
  unfold isiAn at h2
  split at h2
  · rename_i hk
    cases h2
    have st : StpP κ S1 H1 S1 (upd H1 p (.tup [.ty T1, .ty T2, .ty T3, .ty T4])) := stay' g1.wf.sub (Same.new hp)
    refine ⟨v, p, _, _, _, _, rfl, upd_same, .cons (.ty T1) (.cons (.ty T2) (.cons (.ty T3) (.cons (.ty T4) .nil))), tyX_n st.in_ hk r, kitAny_cons (kit_n hk hT1) (fun h0 => kitAny_cons (kit_n hk hT2) (fun h1 => kitAny_cons (kit_n hk hT3) (fun h2 => kitAny_cons (kit_n hk hT4) (fun h3 => ?_) (fun h3 => ?_)) (fun h2 => ?_)) (fun h1 => ?_)) (fun h0 => ?_), k _ S1 _ F1 (s1.trans st.stq) (g1.pure_ st) rfl⟩
    · rw [show ([T1, T2, T3, T4].any fun T => isiN T (tyU x)) = false by simp [h0, h1, h2, h3]]
      rfl
    · simp [h3]
    · simp [h2]
    · simp [h1]
    · simp [h0]
  · cases h2
end
end UL
set_option Elab.async false
set_option linter.all false
set_option maxRecDepth 100000
set_option maxHeartbeats 4000000
namespace UM
open PySem L2 UL
def b__law_fill (cs : List String) : MS :=
  (sSeq (sPar 1 2 (mCons (mIxV 0 (mC (.int 0))) (mCons (mIxV 0 (mC (.int 1))) mNil)))
    (sSeq (sSet 3 (mP (m2 addN (m2 mulN (mC (.int 31)) (mVar 2)) (mC (.int 7)))))
    (sSeq (sIf (mTest (m2 gtN (mN lenU (mCons (mVar 1) mNil)) (mC (.int 0)))) (sSet 3 (mP (m2 addN (m2 mulN (mC (.int 104729)) (m2 fdivU (mVar 2) (mN lenU (mCons (mVar 1) mNil)))) (m2 ixU (mVar 1) (m2 modU (mN intU (mCons (mVar 2) mNil)) (mN lenU (mCons (mVar 1) mNil))))))) sNext)
    (sSeq (sSetV 0 (mC (.int 1)) (m2 addN (mVar 2) (mC (.int 1))))
    (sSeq (sSetV 0 (mC (.int 3)) (mOrV (m2 geN (mVar 2) (mN lenU (mCons (mVar 1) mNil))) (m2 ltN (mVar 3) (m2 powU (mC (.int 10)) (mC (.int 18))))))
    (sSeq (sSetV 0 (mC (.int 2)) (m2 subN (mVar 3) (m2 powU (mC (.int 10)) (mC (.int 18)))))
    (sIf (mTest (mIxV 0 (mC (.int 3)))) (sSeq (sSetV 0 (mC (.int 2)) (mC (.int 0)))
    (sFor (mEnumS (mCons (mTup (mCons (mC (.int 2147483647)) (mCons (mC (.int 2147483629)) (mCons (mC (.int 2147483587)) (mCons (mC (.int 2147483579)) (mCons (mC (.int 2147483563)) mNil)))))) mNil)) (gT 2 (gsCons (gN 4) (gsCons (gN 5) gsNil))) (sSeq (sSet 6 (mP (m2 modU (mN intU (mCons (m2 mulN (m2 addN (m2 addN (mVar 3) (m2 mulN (m2 mulN (mC (.int 10007)) (mVar 4)) (mVar 4))) (m2 mulN (mC (.int 101)) (mVar 4))) (m2 addN (mC (.int 48271)) (m2 mulN (mC (.int 2)) (mVar 4)))) mNil)) (mVar 5))))
    (sSetV 0 (mC (.int 2)) (m2 addN (m2 mulN (mIxV 0 (mC (.int 2))) (mVar 5)) (m2 modU (mN intU (mCons (m2 powU (mVar 6) (mC (.int 5))) mNil)) (mVar 5))))))) sNext)))))))
def m__law_fill (cs : List String) : Ow → List U → Option (U × Ow) := fnI 1 6 (b__law_fill cs)
def b__law_take (cs : List String) : MS :=
  (sSeq (sSet 2 (mP (mC (.int 0))))
    (sSeq (whileO (mAnd (mTest (m2 ltN (mVar 2) (mC (.int 64)))) (mOr (mTest (m2 eqDU (mIxV 0 (mC (.int 2))) (mC (.int 0)))) (mAnd (mTest (mIxV 0 (mC (.int 3)))) (mTest (m2 ltN (mIxV 0 (mC (.int 2))) (m2 mulN (mVar 1) (mC (.int 4096)))))))) (sSeq (sDrop (mCallI 0 (m__law_fill cs) mNil))
    (sSeq (sAug 2 addI (mC (.int 1)))
    (sIf (mAnd (mTest (mIxV 0 (mC (.int 3)))) (mTest (m2 ltN (mIxV 0 (mC (.int 2))) (m2 mulN (mVar 1) (mC (.int 4096)))))) (sSetV 0 (mC (.int 2)) (m2 addN (mIxV 0 (mC (.int 2))) (m2 mulN (m2 mulN (mVar 1) (mC (.int 4096))) (m2 addN (mC (.int 1)) (m2 modU (mN intU (mCons (mIxV 0 (mC (.int 2))) mNil)) (mC (.int 4093))))))) sNext))) fuel)
    (sSeq (sSet 3 (mP (m2 modU (mN intU (mCons (mIxV 0 (mC (.int 2))) mNil)) (mVar 1))))
    (sSeq (sSetV 0 (mC (.int 2)) (m2 fdivU (mIxV 0 (mC (.int 2))) (mVar 1)))
    (sRet (mP (mVar 3)))))))
def m__law_take (cs : List String) : Ow → List U → Option (U × Ow) := fnI 2 2 (b__law_take cs)
def b__law_one (cs : List String) : MS :=
  (sRet (mP (m2 ixU (mVar 1) (mCallI 0 (m__law_take cs) (mCons (mN lenU (mCons (mVar 1) mNil)) mNil)))))
def m__law_one (cs : List String) : Ow → List U → Option (U × Ow) := fnI 2 0 (b__law_one cs)
end UM
set_option Elab.async false
set_option linter.all false
set_option maxRecDepth 100000
set_option maxHeartbeats 4000000
namespace LW
open PySem PySem.Spec PyProof.Rows L2 LV LM UL UM
section
variable {P : Program} {w : World} {K : PySem.W.Frag} {mg : Str → Option Value} {base : Heap} {κ : String → Addr} {cs : List String}
abbrev s__law_fill : Stmt := top 17
abbrev N__law_fill : List Str := ["_law_state", "_law_cells", "_law_nth", "_law_seed", "_law_k", "_law_prime", "_law_far"]
theorem sc__law_fill : FnScope N__law_fill ["_law_state"] (defScope s__law_fill) := ⟨rfl, rfl, rfl, by decide +kernel, rfl, by decide +kernel, by decide +kernel⟩
theorem ok__law_fill {f : Addr} {fd : FuncData} (F : FunD K "_law_fill" "_law_fill" (defArgs s__law_fill) (defBody s__law_fill) (defScope s__law_fill) [] [] f fd) (T : EnN mg)  : FnOk P w K mg base CX0 7 f fd ["_law_state"] (spI κ (m__law_fill cs)) := by
  refine F.ok sc__law_fill (fun vs H Q E h => len_fnI h) (fun cdv A outer s H vs Q E hr h => ⟨_, PSs.nox (pss_cons (ps_par (i := 1) (j := 2) rfl sc__law_fill.nd rfl rfl (by decide) rfl rfl (pa_cons (pe_ix (ix_listK (K := K) rfl) (pv 0) pe_int (fun _ _ => rfl)) (pa_cons (pe_ix (ix_listK (K := K) rfl) (pv 0) pe_int (fun _ _ => rfl)) pa_nil)) rfl)
      (pss_cons (ps_set (i := 3) sc__law_fill.nd rfl (Or.inl rfl) (pe_op (op_addN (κ := κ)) (pe_op (op_mulN (κ := κ)) pe_int (pv 2)) pe_int))
      (pss_cons (ps_if (pt_cmpR (op_gtN (κ := κ)) (pe_callB (call_lenU (κ := κ)) rfl (T.free "len" (by decide +kernel)) (by decide +kernel) (pa_cons (pv 1) pa_nil)) pe_int (nomark _)) (pss_one (ps_set (i := 3) sc__law_fill.nd rfl (Or.inl rfl) (pe_op (op_addN (κ := κ)) (pe_op (op_mulN (κ := κ)) pe_int (pe_op (op_fdivU (κ := κ)) (pv 2) (pe_callB (call_lenU (κ := κ)) rfl (T.free "len" (by decide +kernel)) (by decide +kernel) (pa_cons (pv 1) pa_nil)))) (pe_ix (ix_U (κ := κ)) (pv 1) (pe_op (op_modU (κ := κ)) (pe_callTy (call_intU (κ := κ)) rfl (T.free "int" (by decide +kernel)) (by decide +kernel) (pa_cons (pv 2) pa_nil)) (pe_callB (call_lenU (κ := κ)) rfl (T.free "len" (by decide +kernel)) (by decide +kernel) (pa_cons (pv 1) pa_nil))) (fun _ _ => rfl))))) pss_nil)
      (pss_cons (ps_asg (pe_op (op_addN (κ := κ)) (pv 2) pe_int) (pg_sub (pv 0) pe_int set_list))
      (pss_cons (ps_asg (pe_or (pe_cmpR (op_geN (κ := κ)) (pv 2) (pe_callB (call_lenU (κ := κ)) rfl (T.free "len" (by decide +kernel)) (by decide +kernel) (pa_cons (pv 1) pa_nil)) (nomark _)) (pe_one (pe_cmpR (op_ltN (κ := κ)) (pv 3) (pe_op (op_powU (κ := κ)) pe_int pe_int) (nomark _)))) (pg_sub (pv 0) pe_int set_list))
      (pss_cons (ps_asg (pe_op (op_subN (κ := κ)) (pv 3) (pe_op (op_powU (κ := κ)) pe_int pe_int)) (pg_sub (pv 0) pe_int set_list))
      (pss_one (ps_if (pt_val (pe_ix (ix_listK (K := K) rfl) (pv 0) pe_int (fun _ _ => rfl))) (pss_cons (ps_asg pe_int (pg_sub (pv 0) pe_int set_list))
      (pss_one (ps_for PassesOwn.never rfl (pi_enumSK (K := K) rfl rfl (T.free "enumerate" (by decide +kernel)) (pa_cons (pe_tup (pa_cons pe_int (pa_cons pe_int (pa_cons pe_int (pa_cons pe_int (pa_cons pe_int pa_nil)))))) pa_nil)) (pg_tup rfl (pgs_cons (pg_name (i := 4) sc__law_fill.nd rfl (Or.inl rfl)) (pgs_cons (pg_name (i := 5) sc__law_fill.nd rfl (Or.inl rfl)) pgs_nil))) (pss_cons (ps_set (i := 6) sc__law_fill.nd rfl (Or.inl rfl) (pe_op (op_modU (κ := κ)) (pe_callTy (call_intU (κ := κ)) rfl (T.free "int" (by decide +kernel)) (by decide +kernel) (pa_cons (pe_op (op_mulN (κ := κ)) (pe_op (op_addN (κ := κ)) (pe_op (op_addN (κ := κ)) (pv 3) (pe_op (op_mulN (κ := κ)) (pe_op (op_mulN (κ := κ)) pe_int (pv 4)) (pv 4))) (pe_op (op_mulN (κ := κ)) pe_int (pv 4))) (pe_op (op_addN (κ := κ)) pe_int (pe_op (op_mulN (κ := κ)) pe_int (pv 4)))) pa_nil)) (pv 5)))
      (pss_one (ps_asg (pe_op (op_addN (κ := κ)) (pe_op (op_mulN (κ := κ)) (pe_ix (ix_listK (K := K) rfl) (pv 0) pe_int (fun _ _ => rfl)) (pv 5)) (pe_op (op_modU (κ := κ)) (pe_callTy (call_intU (κ := κ)) rfl (T.free "int" (by decide +kernel)) (by decide +kernel) (pa_cons (pe_op (op_powU (κ := κ)) (pv 6) pe_int) pa_nil)) (pv 5))) (pg_sub (pv 0) pe_int set_list))))))) pss_nil)))))))), ?_⟩)
  exact sim_fnI (b := b__law_fill cs) (sim_seq (sim_par (simA_cons (simE_ixV simE_int) (simA_cons (simE_ixV simE_int) simA_nil)))
      (sim_seq (sim_set 3 (simO_p (simE_op (simE_op simE_int (simE_var 2)) simE_int)))
      (sim_seq (sim_if (simT_test (simE_op (simE_cb (simA_cons (simE_var 1) simA_nil)) simE_int)) (sim_set 3 (simO_p (simE_op (simE_op simE_int (simE_op (simE_var 2) (simE_cb (simA_cons (simE_var 1) simA_nil)))) (simE_op (simE_var 1) (simE_op (simE_cb (simA_cons (simE_var 2) simA_nil)) (simE_cb (simA_cons (simE_var 1) simA_nil))))))) sim_next)
      (sim_seq (sim_setV simE_int (simE_op (simE_var 2) simE_int))
      (sim_seq (sim_setV simE_int (simE_orV (simE_op (simE_var 2) (simE_cb (simA_cons (simE_var 1) simA_nil))) (simE_op (simE_var 3) (simE_op simE_int simE_int))))
      (sim_seq (sim_setV simE_int (simE_op (simE_var 3) (simE_op simE_int simE_int)))
      (sim_if (simT_B (simE_ixV simE_int)) (sim_seq (sim_setV simE_int simE_int)
      (sim_for (simI_enumS (simA_cons (simE_tup (simA_cons simE_int (simA_cons simE_int (simA_cons simE_int (simA_cons simE_int (simA_cons simE_int simA_nil)))))) simA_nil)) (simG_tup (simGs_cons (simG_name 4) (simGs_cons (simG_name 5) simGs_nil))) (sim_seq (sim_set 6 (simO_p (simE_op (simE_cb (simA_cons (simE_op (simE_op (simE_op (simE_var 3) (simE_op (simE_op simE_int (simE_var 4)) (simE_var 4))) (simE_op simE_int (simE_var 4))) (simE_op simE_int (simE_op simE_int (simE_var 4)))) simA_nil)) (simE_var 5))))
      (sim_setV simE_int (simE_op (simE_op (simE_ixV simE_int) (simE_var 5)) (simE_op (simE_cb (simA_cons (simE_op (simE_var 6) simE_int) simA_nil)) (simE_var 5))))))) sim_next))))))) h rfl
abbrev s__law_take : Stmt := top 18
abbrev N__law_take : List Str := ["_law_state", "_law_many", "_law_laps", "_law_digit"]
theorem sc__law_take : FnScope N__law_take ["_law_state", "_law_many"] (defScope s__law_take) := ⟨rfl, rfl, rfl, by decide +kernel, rfl, by decide +kernel, by decide +kernel⟩
theorem ok__law_take {f : Addr} {fd : FuncData} (F : FunD K "_law_take" "_law_take" (defArgs s__law_take) (defBody s__law_take) (defScope s__law_take) [] [] f fd) (T : EnN mg) (c__law_fill : C8.Cal P w K mg base 7 "_law_fill" (spI κ (m__law_fill cs)) []) : FnOk P w K mg base CX0 8 f fd ["_law_state", "_law_many"] (spI κ (m__law_take cs)) := by
  refine F.ok sc__law_take (fun vs H Q E h => len_fnI h) (fun cdv A outer s H vs Q E hr h => ⟨_, PSs.nox (pss_cons (ps_set (i := 2) sc__law_take.nd rfl (Or.inl rfl) pe_int)
      (pss_cons (ps_while PassesOwn.never (PW.pt (pw_and (pt_cmpR (op_ltN (κ := κ)) (pv 2) pe_int (nomark _)) (pw_and1 (PW.pt (pw_or (pt_cmpR (op_eqDU (κ := κ) hr.units) (pe_ix (ix_listK (K := K) rfl) (pv 0) pe_int (fun _ _ => rfl)) pe_int (nomark _)) (pw_or1 (PW.pt (pw_and (pt_val (pe_ix (ix_listK (K := K) rfl) (pv 0) pe_int (fun _ _ => rfl))) (pw_and1 (pt_cmpR (op_ltN (κ := κ)) (pe_ix (ix_listK (K := K) rfl) (pv 0) pe_int (fun _ _ => rfl)) (pe_op (op_mulN (κ := κ)) (pv 1) pe_int) (nomark _))))))))))) (pss_cons (ps_expr (C8.pe_c c__law_fill hr (by decide) rfl (pa_cons (pv 0) pa_nil)))
      (pss_cons (ps_aug (i := 2) sc__law_take.nd rfl (Or.inl rfl) pe_int (ip_addU (κ := κ)))
      (pss_one (ps_if (PW.pt (pw_and (pt_val (pe_ix (ix_listK (K := K) rfl) (pv 0) pe_int (fun _ _ => rfl))) (pw_and1 (pt_cmpR (op_ltN (κ := κ)) (pe_ix (ix_listK (K := K) rfl) (pv 0) pe_int (fun _ _ => rfl)) (pe_op (op_mulN (κ := κ)) (pv 1) pe_int) (nomark _))))) (pss_one (ps_asg (pe_op (op_addN (κ := κ)) (pe_ix (ix_listK (K := K) rfl) (pv 0) pe_int (fun _ _ => rfl)) (pe_op (op_mulN (κ := κ)) (pe_op (op_mulN (κ := κ)) (pv 1) pe_int) (pe_op (op_addN (κ := κ)) pe_int (pe_op (op_modU (κ := κ)) (pe_callTy (call_intU (κ := κ)) rfl (T.free "int" (by decide +kernel)) (by decide +kernel) (pa_cons (pe_ix (ix_listK (K := K) rfl) (pv 0) pe_int (fun _ _ => rfl)) pa_nil)) pe_int)))) (pg_sub (pv 0) pe_int set_list))) pss_nil)))))
      (pss_cons (ps_set (i := 3) sc__law_take.nd rfl (Or.inl rfl) (pe_op (op_modU (κ := κ)) (pe_callTy (call_intU (κ := κ)) rfl (T.free "int" (by decide +kernel)) (by decide +kernel) (pa_cons (pe_ix (ix_listK (K := K) rfl) (pv 0) pe_int (fun _ _ => rfl)) pa_nil)) (pv 1)))
      (pss_cons (ps_asg (pe_op (op_fdivU (κ := κ)) (pe_ix (ix_listK (K := K) rfl) (pv 0) pe_int (fun _ _ => rfl)) (pv 1)) (pg_sub (pv 0) pe_int set_list))
      (pss_one (ps_ret (pv 3))))))), ?_⟩)
  exact sim_fnI (b := b__law_take cs) (sim_seq (sim_set 2 (simO_p simE_int))
      (sim_seq (sim_while fuel (simT_and (simT_test (simE_op (simE_var 2) simE_int)) (simT_or (simT_test (simE_op (simE_ixV simE_int) simE_int)) (simT_and (simT_B (simE_ixV simE_int)) (simT_test (simE_op (simE_ixV simE_int) (simE_op (simE_var 1) simE_int)))))) (sim_seq (sim_drop (simE_callI simA_nil))
      (sim_seq (sim_aug simE_int)
      (sim_if (simT_and (simT_B (simE_ixV simE_int)) (simT_test (simE_op (simE_ixV simE_int) (simE_op (simE_var 1) simE_int)))) (sim_setV simE_int (simE_op (simE_ixV simE_int) (simE_op (simE_op (simE_var 1) simE_int) (simE_op simE_int (simE_op (simE_cb (simA_cons (simE_ixV simE_int) simA_nil)) simE_int))))) sim_next))))
      (sim_seq (sim_set 3 (simO_p (simE_op (simE_cb (simA_cons (simE_ixV simE_int) simA_nil)) (simE_var 1))))
      (sim_seq (sim_setV simE_int (simE_op (simE_ixV simE_int) (simE_var 1)))
      (sim_ret (simO_p (simE_var 3))))))) h rfl
abbrev s__law_one : Stmt := top 19
abbrev N__law_one : List Str := ["_law_state", "_law_things"]
theorem sc__law_one : FnScope N__law_one ["_law_state", "_law_things"] (defScope s__law_one) := ⟨rfl, rfl, rfl, by decide +kernel, rfl, by decide +kernel, by decide +kernel⟩
theorem ok__law_one {f : Addr} {fd : FuncData} (F : FunD K "_law_one" "_law_one" (defArgs s__law_one) (defBody s__law_one) (defScope s__law_one) [] [] f fd) (T : EnN mg) (c__law_take : C8.Cal P w K mg base 8 "_law_take" (spI κ (m__law_take cs)) []) : FnOk P w K mg base CX0 9 f fd ["_law_state", "_law_things"] (spI κ (m__law_one cs)) := by
  refine F.ok sc__law_one (fun vs H Q E h => len_fnI h) (fun cdv A outer s H vs Q E hr h => ⟨_, PSs.nox (pss_one (ps_ret (pe_ix (ix_U (κ := κ)) (pv 1) (C8.pe_c c__law_take hr (by decide) rfl (pa_cons (pv 0) (pa_cons (pe_callB (call_lenU (κ := κ)) rfl (T.free "len" (by decide +kernel)) (by decide +kernel) (pa_cons (pv 1) pa_nil)) pa_nil))) (fun _ _ => rfl)))), ?_⟩)
  exact sim_fnI (b := b__law_one cs) (sim_ret (simO_p (simE_op (simE_var 1) (simE_callI (simA_cons (simE_cb (simA_cons (simE_var 1) simA_nil)) simA_nil))))) h rfl
end
end LW
set_option Elab.async false
set_option linter.all false
set_option maxRecDepth 100000
set_option maxHeartbeats 4000000
namespace UM
open PySem L2 UL
def b__law_same (cs : List String) (rec : List U → Option U) : MS :=
  (sSeq (sIf (mTest (m1 (isiAn ["list", "tuple"]) (mVar 1))) (sSeq (sIf (mOr (mTest (m2 neDU (m1 (isiUn "list") (mVar 0)) (m1 (isiUn "list") (mVar 1)))) (mTest (m2 neDU (m1 (isiUn "tuple") (mVar 0)) (m1 (isiUn "tuple") (mVar 1))))) (sRet (mP (mC (.bl false)))) sNext)
    (sRet (mP (mAndV (m2 eqDU (mN lenU (mCons (mVar 0) mNil)) (mN lenU (mCons (mVar 1) mNil))) (mN allU (mCons (mLc [2, 3] (mZip (mCons (mVar 0) (mCons (mVar 1) mNil))) (gT 2 (gsCons (gN 2) (gsCons (gN 3) gsNil))) mYes (mN rec (mCons (mVar 2) (mCons (mVar 3) mNil)))) mNil)))))) sNext)
    (sSeq (sIf (mTest (m1 (isiUn "int") (mVar 1))) (sRet (mP (mAndV (m1 (isiUn "int") (mVar 0)) (mAndV (m2 eqDU (m1 (isiUn "bool") (mVar 0)) (m1 (isiUn "bool") (mVar 1))) (m2 eqUkN (mVar 0) (mVar 1)))))) sNext)
    (sRet (mP (mAndV (m2 isBU (m1 (isiAn ["bool", "int", "list", "tuple"]) (mVar 0)) (mC (.bl false))) (m2 eqUkN (mVar 0) (mVar 1)))))))
def m__law_same (cs : List String) : Nat → List U → Option U
  | 0 => fun _ => none
  | n + 1 => fnP 2 2 (b__law_same cs (m__law_same cs n))
def b__law_with_one (cs : List String) : MS :=
  (sSeq (sSet 1 (mP (mLst (mCons (mEr "BadPart" "part" (mCons (mVar 0) mNil)) (mCons (mEr "BadText" "line" (mCons (mVar 0) mNil)) (mCons (mEr "BadLevel" "index" (mCons (mVar 0) mNil)) (mCons (mEr "BadFact" "index" (mCons (mVar 0) mNil)) (mCons (mEr "BadPlace" "index" (mCons (mVar 0) mNil)) mNil))))))))
    (sSeq (sSet 1 (mP (m2 addN (mVar 1) (mLst (mCons (mEr "BadPoint" "index" (mCons (mVar 0) mNil)) (mCons (mEr "BadMoment" "moment" (mCons (mVar 0) mNil)) (mCons (mEr "BadLine" "line" (mCons (mVar 0) mNil)) (mCons (mEr "UnknownLevel" "name" (mCons (mVar 0) mNil)) mNil))))))))
    (sRet (mP (m2 addN (mVar 1) (mLst (mCons (mEr "BadHeight" "height" (mCons (mVar 0) mNil)) mNil)))))))
def m__law_with_one (cs : List String) : List U → Option U := fnP 1 1 (b__law_with_one cs)
def b__law_by_place (cs : List String) : MS :=
  (sSeq (sSet 1 (mP (mLst (mCons (mEr "BadPart" "part" (mCons (mVar 0) mNil)) (mCons (mEr "BadText" "line" (mCons (mVar 0) mNil)) (mCons (mEr "BadLevel" "index" (mCons (mVar 0) mNil)) (mCons (mEr "BadFact" "index" (mCons (mVar 0) mNil)) (mCons (mEr "BadPlace" "index" (mCons (mVar 0) mNil)) (mCons (mEr "BadPoint" "index" (mCons (mVar 0) mNil)) (mCons (mEr "BadMoment" "moment" (mCons (mVar 0) mNil)) (mCons (mEr "BadLine" "line" (mCons (mVar 0) mNil)) mNil)))))))))))
    (sRet (mP (m2 addN (mVar 1) (mLst (mCons (mEr "UnknownLevel" "name" (mCons (mVar 0) mNil)) (mCons (mEr "BadHeight" "height" (mCons (mVar 0) mNil)) mNil)))))))
def m__law_by_place (cs : List String) : List U → Option U := fnP 1 1 (b__law_by_place cs)
def b__law_held (cs : List String) : MS :=
  (sSeq (sSet 1 (mP (mLst (mCons (m1 (erF "part") (m2 ixU (mVar 0) (mC (.int 0)))) (mCons (m1 (erF "line") (m2 ixU (mVar 0) (mC (.int 1)))) (mCons (m1 (erF "index") (m2 ixU (mVar 0) (mC (.int 2)))) (mCons (m1 (erF "index") (m2 ixU (mVar 0) (mC (.int 3)))) (mCons (m1 (erF "index") (m2 ixU (mVar 0) (mC (.int 4)))) (mCons (m1 (erF "index") (m2 ixU (mVar 0) (mC (.int 5)))) mNil)))))))))
    (sRet (mP (m2 addN (mVar 1) (mLst (mCons (m1 (erF "moment") (m2 ixU (mVar 0) (mC (.int 6)))) (mCons (m1 (erF "line") (m2 ixU (mVar 0) (mC (.int 7)))) (mCons (m1 (erF "name") (m2 ixU (mVar 0) (mC (.int 8)))) (mCons (m1 (erF "height") (m2 ixU (mVar 0) (mC (.int 9)))) mNil)))))))))
def m__law_held (cs : List String) : List U → Option U := fnP 1 1 (b__law_held cs)
def b__law_classes (cs : List String) : MS :=
  (sSeq (sSet 1 (mP (mLst (mCons (m1 (isEr "BadPart") (mVar 0)) (mCons (m1 (isEr "BadText") (mVar 0)) (mCons (m1 (isEr "BadLevel") (mVar 0)) (mCons (m1 (isEr "BadFact") (mVar 0)) mNil)))))))
    (sSeq (sSet 1 (mP (m2 addN (mVar 1) (mLst (mCons (m1 (isEr "BadPlace") (mVar 0)) (mCons (m1 (isEr "BadPoint") (mVar 0)) (mCons (m1 (isEr "BadMoment") (mVar 0)) mNil)))))))
    (sSeq (sSet 1 (mP (m2 addN (mVar 1) (mLst (mCons (m1 (isEr "BadLine") (mVar 0)) (mCons (m1 (isEr "UnknownLevel") (mVar 0)) (mCons (m1 (isEr "BadHeight") (mVar 0)) mNil)))))))
    (sRet (mP (m2 addN (mVar 1) (mLst (mCons (m1 (isEr "BadFrame") (mVar 0)) (mCons (m1 (isEr "Unfit") (mVar 0)) (mCons (m1 (isEr "HasHistory") (mVar 0)) mNil))))))))))
def m__law_classes (cs : List String) : List U → Option U := fnP 1 1 (b__law_classes cs)
end UM
set_option Elab.async false
set_option linter.all false
set_option maxRecDepth 100000
set_option maxHeartbeats 4000000
namespace LW
open PySem PySem.Spec PyProof.Rows L2 LV LM UL UM
section
variable {P : Program} {w : World} {K : PySem.W.Frag} {mg : Str → Option Value} {base : Heap} {κ : String → Addr} {cs : List String}
abbrev s__law_same : Stmt := top 20
abbrev N__law_same : List Str := ["_law_found", "_law_due", "_law_a", "_law_b"]
theorem sc__law_same : FnScope N__law_same ["_law_found", "_law_due"] (defScope s__law_same) := ⟨rfl, rfl, rfl, by decide +kernel, rfl, by decide +kernel, by decide +kernel⟩
theorem okr__law_same {f : Addr} {fd : FuncData} (F : FunD K "_law_same" "_law_same" (defArgs s__law_same) (defBody s__law_same) (defScope s__law_same) [] [] f fd) (T : EnN mg) {rec : List U → Option U} {l : Nat} (hl : 10 ≤ l) (c_rec : C8.Cal P w K mg base l "_law_same" (spP κ rec) [])  : FnOk P w K mg base CX0 (l + 1) f fd ["_law_found", "_law_due"] (spP κ (fnP 2 2 (b__law_same cs rec))) := by
  refine F.ok sc__law_same (fun vs H Q E h => len_fnP h) (fun cdv A outer s H vs Q E hr h => ⟨_, PSs.nox (pss_cons (ps_if (pt_val (pe_callB (call_isiTK (K := K) rfl) rfl (T.free "isinstance" (by decide +kernel)) (by decide +kernel) (pa_cons (pv 1) (pa_cons (pe_tup (pa_cons (pe_bltn (v := .ty "list") rfl (T.free "list" (by decide +kernel)) (by decide +kernel) rfl) (pa_cons (pe_bltn (v := .ty "tuple") rfl (T.free "tuple" (by decide +kernel)) (by decide +kernel) rfl) pa_nil))) pa_nil)))) (pss_cons (ps_if (PW.pt (pw_or (pt_cmpR (op_neDU (κ := κ) (hr.mono hl).units) (pe_callB (call_isiK1 (K := K) rfl) rfl (T.free "isinstance" (by decide +kernel)) (by decide +kernel) (pa_cons (pv 0) (pa_cons (pe_bltn (v := .ty "list") rfl (T.free "list" (by decide +kernel)) (by decide +kernel) rfl) pa_nil))) (pe_callB (call_isiK1 (K := K) rfl) rfl (T.free "isinstance" (by decide +kernel)) (by decide +kernel) (pa_cons (pv 1) (pa_cons (pe_bltn (v := .ty "list") rfl (T.free "list" (by decide +kernel)) (by decide +kernel) rfl) pa_nil))) (nomark _)) (pw_or1 (pt_cmpR (op_neDU (κ := κ) (hr.mono hl).units) (pe_callB (call_isiK1 (K := K) rfl) rfl (T.free "isinstance" (by decide +kernel)) (by decide +kernel) (pa_cons (pv 0) (pa_cons (pe_bltn (v := .ty "tuple") rfl (T.free "tuple" (by decide +kernel)) (by decide +kernel) rfl) pa_nil))) (pe_callB (call_isiK1 (K := K) rfl) rfl (T.free "isinstance" (by decide +kernel)) (by decide +kernel) (pa_cons (pv 1) (pa_cons (pe_bltn (v := .ty "tuple") rfl (T.free "tuple" (by decide +kernel)) (by decide +kernel) rfl) pa_nil))) (nomark _))))) (pss_one (ps_ret pe_bl)) pss_nil)
      (pss_one (ps_ret (pe_and (pe_cmpR (op_eqDU (κ := κ) (hr.mono hl).units) (pe_callB (call_lenU (κ := κ)) rfl (T.free "len" (by decide +kernel)) (by decide +kernel) (pa_cons (pv 0) pa_nil)) (pe_callB (call_lenU (κ := κ)) rfl (T.free "len" (by decide +kernel)) (by decide +kernel) (pa_cons (pv 1) pa_nil)) (nomark _)) (pe_one (pe_callB (call_allU (κ := κ) rfl) rfl (T.free "all" (by decide +kernel)) (by decide +kernel) (pa_cons (pe_lc (own := [("_law_a", 2), ("_law_b", 3)]) (g := (gTup K 2 (gCons (gName 2) (gCons (gName 3) gNil)))) (tt := tYes) rfl sc__law_same.nd (pi_zipK (K := K) rfl rfl (T.free "zip" (by decide +kernel)) (pa_cons (pv 0) (pa_cons (pv 1) pa_nil))) (blkOk_by (N := N__law_same) (sc := defScope s__law_same) (by decide +kernel)) (fun _ _ _ _ _ => by exact (pg_tup rfl (pgs_cons (pg_name (i := 2) sc__law_same.nd rfl (Or.inl rfl)) (pgs_cons (pg_name (i := 3) sc__law_same.nd rfl (Or.inl rfl)) pgs_nil)))) (fun _ _ _ _ _ => pts_nil) (fun _ _ _ _ _ => by exact (C8.pe_c c_rec hr (Nat.le_refl _) rfl (pa_cons (pv 2) (pa_cons (pv 3) pa_nil))))) pa_nil))))))) pss_nil)
      (pss_cons (ps_if (pt_val (pe_callB (call_isiK1 (K := K) rfl) rfl (T.free "isinstance" (by decide +kernel)) (by decide +kernel) (pa_cons (pv 1) (pa_cons (pe_bltn (v := .ty "int") rfl (T.free "int" (by decide +kernel)) (by decide +kernel) rfl) pa_nil)))) (pss_one (ps_ret (pe_and (pe_callB (call_isiK1 (K := K) rfl) rfl (T.free "isinstance" (by decide +kernel)) (by decide +kernel) (pa_cons (pv 0) (pa_cons (pe_bltn (v := .ty "int") rfl (T.free "int" (by decide +kernel)) (by decide +kernel) rfl) pa_nil))) (pe_and (pe_cmpR (op_eqDU (κ := κ) (hr.mono hl).units) (pe_callB (call_isiK1 (K := K) rfl) rfl (T.free "isinstance" (by decide +kernel)) (by decide +kernel) (pa_cons (pv 0) (pa_cons (pe_bltn (v := .ty "bool") rfl (T.free "bool" (by decide +kernel)) (by decide +kernel) rfl) pa_nil))) (pe_callB (call_isiK1 (K := K) rfl) rfl (T.free "isinstance" (by decide +kernel)) (by decide +kernel) (pa_cons (pv 1) (pa_cons (pe_bltn (v := .ty "bool") rfl (T.free "bool" (by decide +kernel)) (by decide +kernel) rfl) pa_nil))) (nomark _)) (pe_one (pe_cmpR (op_eqUkN (κ := κ) (hr.mono hl).units) (pv 0) (pv 1) (nomark _))))))) pss_nil)
      (pss_one (ps_ret (pe_and (pe_cmpR (op_isBU (κ := κ)) (pe_callB (call_isiTK (K := K) rfl) rfl (T.free "isinstance" (by decide +kernel)) (by decide +kernel) (pa_cons (pv 0) (pa_cons (pe_tup (pa_cons (pe_bltn (v := .ty "bool") rfl (T.free "bool" (by decide +kernel)) (by decide +kernel) rfl) (pa_cons (pe_bltn (v := .ty "int") rfl (T.free "int" (by decide +kernel)) (by decide +kernel) rfl) (pa_cons (pe_bltn (v := .ty "list") rfl (T.free "list" (by decide +kernel)) (by decide +kernel) rfl) (pa_cons (pe_bltn (v := .ty "tuple") rfl (T.free "tuple" (by decide +kernel)) (by decide +kernel) rfl) pa_nil))))) pa_nil))) pe_bl (nomark _)) (pe_one (pe_cmpR (op_eqUkN (κ := κ) (hr.mono hl).units) (pv 0) (pv 1) (nomark _)))))))), ?_⟩)
  exact sim_fnP (b := b__law_same cs rec) (sim_seq (sim_if (simT_B (simE_isi2N (by decide) (by decide) (simE_var 1))) (sim_seq (sim_if (simT_or (simT_test (simE_op (simE_isiN (by decide) (simE_var 0)) (simE_isiN (by decide) (simE_var 1)))) (simT_test (simE_op (simE_isiN (by decide) (simE_var 0)) (simE_isiN (by decide) (simE_var 1))))) (sim_ret (simO_p simE_bl)) sim_next)
      (sim_ret (simO_p (simE_andV (simE_op (simE_cb (simA_cons (simE_var 0) simA_nil)) (simE_cb (simA_cons (simE_var 1) simA_nil))) (simE_cb (simA_cons (simE_lc (vs := [2, 3]) (simI_zip (simA_cons (simE_var 0) (simA_cons (simE_var 1) simA_nil))) (simG_tup (simGs_cons (simG_name 2) (simGs_cons (simG_name 3) simGs_nil))) simT_yes (simE_call (simA_cons (simE_var 2) (simA_cons (simE_var 3) simA_nil)))) simA_nil)))))) sim_next)
      (sim_seq (sim_if (simT_B (simE_isiN (by decide) (simE_var 1))) (sim_ret (simO_p (simE_andV (simE_isiN (by decide) (simE_var 0)) (simE_andV (simE_op (simE_isiN (by decide) (simE_var 0)) (simE_isiN (by decide) (simE_var 1))) (simE_op (simE_var 0) (simE_var 1)))))) sim_next)
      (sim_ret (simO_p (simE_andV (simE_op (simE_isi4N (by decide) (by decide) (by decide) (by decide) (simE_var 0)) simE_bl) (simE_op (simE_var 0) (simE_var 1))))))) h rfl
theorem ok__law_same {f : Addr} {fd : FuncData} (F : FunD K "_law_same" "_law_same" (defArgs s__law_same) (defBody s__law_same) (defScope s__law_same) [] [] f fd) (T : EnN mg) (g : mg "_law_same" = some (.ref f)) (kp : PySem.W.keepIn K (.ref f) = true) (bn : Binds K fd ["_law_found", "_law_due"] [])  : ∀ n, C8.Cal P w K mg base (n + 10) "_law_same" (spP κ (m__law_same cs n)) []
  | 0 => ⟨f, fd, ["_law_found", "_law_due"], [], ⟨fun vs H Q E h => (none_spP h).elim, fun A outer s H args us vs Q E hr e0 bt vl h => (none_spP h).elim⟩, g, kp, bn, .nil⟩
  | n + 1 => ⟨f, fd, ["_law_found", "_law_due"], [], (okr__law_same F T (by omega) (ok__law_same F T g kp bn  n) ).mono (by omega), g, kp, bn, .nil⟩
abbrev s__law_with_one : Stmt := top 21
abbrev N__law_with_one : List Str := ["_law_x", "_law_found"]
theorem sc__law_with_one : FnScope N__law_with_one ["_law_x"] (defScope s__law_with_one) := ⟨rfl, rfl, rfl, by decide +kernel, rfl, by decide +kernel, by decide +kernel⟩
theorem ok__law_with_one {f : Addr} {fd : FuncData} (F : FunD K "_law_with_one" "_law_with_one" (defArgs s__law_with_one) (defBody s__law_with_one) (defScope s__law_with_one) [] [] f fd) (T : EnN mg) (et : ErrT P K mg κ) : FnOk P w K mg base CX0 7 f fd ["_law_x"] (spP κ (m__law_with_one cs)) := by
  refine F.ok sc__law_with_one (fun vs H Q E h => len_fnP h) (fun cdv A outer s H vs Q E hr h => ⟨_, PSs.nox (pss_cons (ps_set (i := 1) sc__law_with_one.nd rfl (Or.inl rfl) (pe_lst (pa_cons (pe_er1K et .part "part" rfl PySem.LevX.fPart hr rfl (pk_cons (pv 0) pk_nil)) (pa_cons (pe_er1K et .text "line" rfl PySem.LevX.fLine hr rfl (pk_cons (pv 0) pk_nil)) (pa_cons (pe_er1K et .level "index" rfl PySem.LevX.fIndex hr rfl (pk_cons (pv 0) pk_nil)) (pa_cons (pe_er1K et .fact "index" rfl PySem.LevX.fIndex hr rfl (pk_cons (pv 0) pk_nil)) (pa_cons (pe_er1K et .place "index" rfl PySem.LevX.fIndex hr rfl (pk_cons (pv 0) pk_nil)) pa_nil)))))))
      (pss_cons (ps_set (i := 1) sc__law_with_one.nd rfl (Or.inl rfl) (pe_op (op_addN (κ := κ)) (pv 1) (pe_lst (pa_cons (pe_er1K et .point "index" rfl PySem.LevX.fIndex hr rfl (pk_cons (pv 0) pk_nil)) (pa_cons (pe_er1K et .moment "moment" rfl PySem.LevX.fMoment hr rfl (pk_cons (pv 0) pk_nil)) (pa_cons (pe_er1K et .line "line" rfl PySem.LevX.fLine hr rfl (pk_cons (pv 0) pk_nil)) (pa_cons (pe_er1K et .unknown "name" rfl PySem.LevX.fName hr rfl (pk_cons (pv 0) pk_nil)) pa_nil)))))))
      (pss_one (ps_ret (pe_op (op_addN (κ := κ)) (pv 1) (pe_lst (pa_cons (pe_er1K et .height "height" rfl PySem.LevX.fHeight hr rfl (pk_cons (pv 0) pk_nil)) pa_nil))))))), ?_⟩)
  exact sim_fnP (b := b__law_with_one cs) (sim_seq (sim_set 1 (simO_p (simE_lst (simA_cons (simE_er (c := "BadPart") (simA_cons (simE_var 0) simA_nil)) (simA_cons (simE_er (c := "BadText") (simA_cons (simE_var 0) simA_nil)) (simA_cons (simE_er (c := "BadLevel") (simA_cons (simE_var 0) simA_nil)) (simA_cons (simE_er (c := "BadFact") (simA_cons (simE_var 0) simA_nil)) (simA_cons (simE_er (c := "BadPlace") (simA_cons (simE_var 0) simA_nil)) simA_nil))))))))
      (sim_seq (sim_set 1 (simO_p (simE_op (simE_var 1) (simE_lst (simA_cons (simE_er (c := "BadPoint") (simA_cons (simE_var 0) simA_nil)) (simA_cons (simE_er (c := "BadMoment") (simA_cons (simE_var 0) simA_nil)) (simA_cons (simE_er (c := "BadLine") (simA_cons (simE_var 0) simA_nil)) (simA_cons (simE_er (c := "UnknownLevel") (simA_cons (simE_var 0) simA_nil)) simA_nil))))))))
      (sim_ret (simO_p (simE_op (simE_var 1) (simE_lst (simA_cons (simE_er (c := "BadHeight") (simA_cons (simE_var 0) simA_nil)) simA_nil))))))) h rfl
abbrev s__law_by_place : Stmt := top 22
abbrev N__law_by_place : List Str := ["_law_x", "_law_found"]
theorem sc__law_by_place : FnScope N__law_by_place ["_law_x"] (defScope s__law_by_place) := ⟨rfl, rfl, rfl, by decide +kernel, rfl, by decide +kernel, by decide +kernel⟩
theorem ok__law_by_place {f : Addr} {fd : FuncData} (F : FunD K "_law_by_place" "_law_by_place" (defArgs s__law_by_place) (defBody s__law_by_place) (defScope s__law_by_place) [] [] f fd) (T : EnN mg) (et : ErrT P K mg κ) : FnOk P w K mg base CX0 7 f fd ["_law_x"] (spP κ (m__law_by_place cs)) := by
  refine F.ok sc__law_by_place (fun vs H Q E h => len_fnP h) (fun cdv A outer s H vs Q E hr h => ⟨_, PSs.nox (pss_cons (ps_set (i := 1) sc__law_by_place.nd rfl (Or.inl rfl) (pe_lst (pa_cons (pe_er1 et .part "part" rfl PySem.LevX.fPart hr rfl (pa_cons (pv 0) pa_nil)) (pa_cons (pe_er1 et .text "line" rfl PySem.LevX.fLine hr rfl (pa_cons (pv 0) pa_nil)) (pa_cons (pe_er1 et .level "index" rfl PySem.LevX.fIndex hr rfl (pa_cons (pv 0) pa_nil)) (pa_cons (pe_er1 et .fact "index" rfl PySem.LevX.fIndex hr rfl (pa_cons (pv 0) pa_nil)) (pa_cons (pe_er1 et .place "index" rfl PySem.LevX.fIndex hr rfl (pa_cons (pv 0) pa_nil)) (pa_cons (pe_er1 et .point "index" rfl PySem.LevX.fIndex hr rfl (pa_cons (pv 0) pa_nil)) (pa_cons (pe_er1 et .moment "moment" rfl PySem.LevX.fMoment hr rfl (pa_cons (pv 0) pa_nil)) (pa_cons (pe_er1 et .line "line" rfl PySem.LevX.fLine hr rfl (pa_cons (pv 0) pa_nil)) pa_nil))))))))))
      (pss_one (ps_ret (pe_op (op_addN (κ := κ)) (pv 1) (pe_lst (pa_cons (pe_er1 et .unknown "name" rfl PySem.LevX.fName hr rfl (pa_cons (pv 0) pa_nil)) (pa_cons (pe_er1 et .height "height" rfl PySem.LevX.fHeight hr rfl (pa_cons (pv 0) pa_nil)) pa_nil))))))), ?_⟩)
  exact sim_fnP (b := b__law_by_place cs) (sim_seq (sim_set 1 (simO_p (simE_lst (simA_cons (simE_er (c := "BadPart") (simA_cons (simE_var 0) simA_nil)) (simA_cons (simE_er (c := "BadText") (simA_cons (simE_var 0) simA_nil)) (simA_cons (simE_er (c := "BadLevel") (simA_cons (simE_var 0) simA_nil)) (simA_cons (simE_er (c := "BadFact") (simA_cons (simE_var 0) simA_nil)) (simA_cons (simE_er (c := "BadPlace") (simA_cons (simE_var 0) simA_nil)) (simA_cons (simE_er (c := "BadPoint") (simA_cons (simE_var 0) simA_nil)) (simA_cons (simE_er (c := "BadMoment") (simA_cons (simE_var 0) simA_nil)) (simA_cons (simE_er (c := "BadLine") (simA_cons (simE_var 0) simA_nil)) simA_nil)))))))))))
      (sim_ret (simO_p (simE_op (simE_var 1) (simE_lst (simA_cons (simE_er (c := "UnknownLevel") (simA_cons (simE_var 0) simA_nil)) (simA_cons (simE_er (c := "BadHeight") (simA_cons (simE_var 0) simA_nil)) simA_nil))))))) h rfl
abbrev s__law_held : Stmt := top 23
abbrev N__law_held : List Str := ["_law_made", "_law_found"]
theorem sc__law_held : FnScope N__law_held ["_law_made"] (defScope s__law_held) := ⟨rfl, rfl, rfl, by decide +kernel, rfl, by decide +kernel, by decide +kernel⟩
theorem ok__law_held {f : Addr} {fd : FuncData} (F : FunD K "_law_held" "_law_held" (defArgs s__law_held) (defBody s__law_held) (defScope s__law_held) [] [] f fd) (T : EnN mg) (el : ErrL K κ) : FnOk P w K mg base CX0 7 f fd ["_law_made"] (spP κ (m__law_held cs)) := by
  refine F.ok sc__law_held (fun vs H Q E h => len_fnP h) (fun cdv A outer s H vs Q E hr h => ⟨_, PSs.nox (pss_cons (ps_set (i := 1) sc__law_held.nd rfl (Or.inl rfl) (pe_lst (pa_cons (pe_erF (K := K) rfl (pe_ix (ix_U (κ := κ)) (pv 0) pe_int (fun _ _ => rfl))) (pa_cons (pe_erF (K := K) rfl (pe_ix (ix_U (κ := κ)) (pv 0) pe_int (fun _ _ => rfl))) (pa_cons (pe_erF (K := K) rfl (pe_ix (ix_U (κ := κ)) (pv 0) pe_int (fun _ _ => rfl))) (pa_cons (pe_erF (K := K) rfl (pe_ix (ix_U (κ := κ)) (pv 0) pe_int (fun _ _ => rfl))) (pa_cons (pe_erF (K := K) rfl (pe_ix (ix_U (κ := κ)) (pv 0) pe_int (fun _ _ => rfl))) (pa_cons (pe_erF (K := K) rfl (pe_ix (ix_U (κ := κ)) (pv 0) pe_int (fun _ _ => rfl))) pa_nil))))))))
      (pss_one (ps_ret (pe_op (op_addN (κ := κ)) (pv 1) (pe_lst (pa_cons (pe_erF (K := K) rfl (pe_ix (ix_U (κ := κ)) (pv 0) pe_int (fun _ _ => rfl))) (pa_cons (pe_erF (K := K) rfl (pe_ix (ix_U (κ := κ)) (pv 0) pe_int (fun _ _ => rfl))) (pa_cons (pe_erF (K := K) rfl (pe_ix (ix_U (κ := κ)) (pv 0) pe_int (fun _ _ => rfl))) (pa_cons (pe_erF (K := K) rfl (pe_ix (ix_U (κ := κ)) (pv 0) pe_int (fun _ _ => rfl))) pa_nil))))))))), ?_⟩)
  exact sim_fnP (b := b__law_held cs) (sim_seq (sim_set 1 (simO_p (simE_lst (simA_cons (simE_erF (f := "part") el (simE_op (simE_var 0) simE_int)) (simA_cons (simE_erF (f := "line") el (simE_op (simE_var 0) simE_int)) (simA_cons (simE_erF (f := "index") el (simE_op (simE_var 0) simE_int)) (simA_cons (simE_erF (f := "index") el (simE_op (simE_var 0) simE_int)) (simA_cons (simE_erF (f := "index") el (simE_op (simE_var 0) simE_int)) (simA_cons (simE_erF (f := "index") el (simE_op (simE_var 0) simE_int)) simA_nil)))))))))
      (sim_ret (simO_p (simE_op (simE_var 1) (simE_lst (simA_cons (simE_erF (f := "moment") el (simE_op (simE_var 0) simE_int)) (simA_cons (simE_erF (f := "line") el (simE_op (simE_var 0) simE_int)) (simA_cons (simE_erF (f := "name") el (simE_op (simE_var 0) simE_int)) (simA_cons (simE_erF (f := "height") el (simE_op (simE_var 0) simE_int)) simA_nil))))))))) h rfl
abbrev s__law_classes : Stmt := top 24
abbrev N__law_classes : List Str := ["_law_e", "_law_found"]
theorem sc__law_classes : FnScope N__law_classes ["_law_e"] (defScope s__law_classes) := ⟨rfl, rfl, rfl, by decide +kernel, rfl, by decide +kernel, by decide +kernel⟩
theorem ok__law_classes {f : Addr} {fd : FuncData} (F : FunD K "_law_classes" "_law_classes" (defArgs s__law_classes) (defBody s__law_classes) (defScope s__law_classes) [] [] f fd) (T : EnN mg) (el : ErrL K κ) (et : ErrT P K mg κ) : FnOk P w K mg base CX0 7 f fd ["_law_e"] (spP κ (m__law_classes cs)) := by
  refine F.ok sc__law_classes (fun vs H Q E h => len_fnP h) (fun cdv A outer s H vs Q E hr h => ⟨_, PSs.nox (pss_cons (ps_set (i := 1) sc__law_classes.nd rfl (Or.inl rfl) (pe_lst (pa_cons (pe_callB (call_isEr (K := K) rfl) rfl (T.free "isinstance" (by decide +kernel)) (by decide +kernel) (pa_cons (pv 0) (pa_cons (pe_glob (v := .ref (κ "BadPart")) rfl (et.gC .part) rfl) pa_nil))) (pa_cons (pe_callB (call_isEr (K := K) rfl) rfl (T.free "isinstance" (by decide +kernel)) (by decide +kernel) (pa_cons (pv 0) (pa_cons (pe_glob (v := .ref (κ "BadText")) rfl (et.gC .text) rfl) pa_nil))) (pa_cons (pe_callB (call_isEr (K := K) rfl) rfl (T.free "isinstance" (by decide +kernel)) (by decide +kernel) (pa_cons (pv 0) (pa_cons (pe_glob (v := .ref (κ "BadLevel")) rfl (et.gC .level) rfl) pa_nil))) (pa_cons (pe_callB (call_isEr (K := K) rfl) rfl (T.free "isinstance" (by decide +kernel)) (by decide +kernel) (pa_cons (pv 0) (pa_cons (pe_glob (v := .ref (κ "BadFact")) rfl (et.gC .fact) rfl) pa_nil))) pa_nil))))))
      (pss_cons (ps_set (i := 1) sc__law_classes.nd rfl (Or.inl rfl) (pe_op (op_addN (κ := κ)) (pv 1) (pe_lst (pa_cons (pe_callB (call_isEr (K := K) rfl) rfl (T.free "isinstance" (by decide +kernel)) (by decide +kernel) (pa_cons (pv 0) (pa_cons (pe_glob (v := .ref (κ "BadPlace")) rfl (et.gC .place) rfl) pa_nil))) (pa_cons (pe_callB (call_isEr (K := K) rfl) rfl (T.free "isinstance" (by decide +kernel)) (by decide +kernel) (pa_cons (pv 0) (pa_cons (pe_glob (v := .ref (κ "BadPoint")) rfl (et.gC .point) rfl) pa_nil))) (pa_cons (pe_callB (call_isEr (K := K) rfl) rfl (T.free "isinstance" (by decide +kernel)) (by decide +kernel) (pa_cons (pv 0) (pa_cons (pe_glob (v := .ref (κ "BadMoment")) rfl (et.gC .moment) rfl) pa_nil))) pa_nil))))))
      (pss_cons (ps_set (i := 1) sc__law_classes.nd rfl (Or.inl rfl) (pe_op (op_addN (κ := κ)) (pv 1) (pe_lst (pa_cons (pe_callB (call_isEr (K := K) rfl) rfl (T.free "isinstance" (by decide +kernel)) (by decide +kernel) (pa_cons (pv 0) (pa_cons (pe_glob (v := .ref (κ "BadLine")) rfl (et.gC .line) rfl) pa_nil))) (pa_cons (pe_callB (call_isEr (K := K) rfl) rfl (T.free "isinstance" (by decide +kernel)) (by decide +kernel) (pa_cons (pv 0) (pa_cons (pe_glob (v := .ref (κ "UnknownLevel")) rfl (et.gC .unknown) rfl) pa_nil))) (pa_cons (pe_callB (call_isEr (K := K) rfl) rfl (T.free "isinstance" (by decide +kernel)) (by decide +kernel) (pa_cons (pv 0) (pa_cons (pe_glob (v := .ref (κ "BadHeight")) rfl (et.gC .height) rfl) pa_nil))) pa_nil))))))
      (pss_one (ps_ret (pe_op (op_addN (κ := κ)) (pv 1) (pe_lst (pa_cons (pe_callB (call_isEr (K := K) rfl) rfl (T.free "isinstance" (by decide +kernel)) (by decide +kernel) (pa_cons (pv 0) (pa_cons (pe_glob (v := .ref (κ "BadFrame")) rfl (et.gC .frame) rfl) pa_nil))) (pa_cons (pe_callB (call_isEr (K := K) rfl) rfl (T.free "isinstance" (by decide +kernel)) (by decide +kernel) (pa_cons (pv 0) (pa_cons (pe_glob (v := .ref (κ "Unfit")) rfl (et.gC .unfit) rfl) pa_nil))) (pa_cons (pe_callB (call_isEr (K := K) rfl) rfl (T.free "isinstance" (by decide +kernel)) (by decide +kernel) (pa_cons (pv 0) (pa_cons (pe_glob (v := .ref (κ "HasHistory")) rfl (et.gC .history) rfl) pa_nil))) pa_nil)))))))))), ?_⟩)
  exact sim_fnP (b := b__law_classes cs) (sim_seq (sim_set 1 (simO_p (simE_lst (simA_cons (simE_isEr (d := "BadPart") el (simE_var 0)) (simA_cons (simE_isEr (d := "BadText") el (simE_var 0)) (simA_cons (simE_isEr (d := "BadLevel") el (simE_var 0)) (simA_cons (simE_isEr (d := "BadFact") el (simE_var 0)) simA_nil)))))))
      (sim_seq (sim_set 1 (simO_p (simE_op (simE_var 1) (simE_lst (simA_cons (simE_isEr (d := "BadPlace") el (simE_var 0)) (simA_cons (simE_isEr (d := "BadPoint") el (simE_var 0)) (simA_cons (simE_isEr (d := "BadMoment") el (simE_var 0)) simA_nil)))))))
      (sim_seq (sim_set 1 (simO_p (simE_op (simE_var 1) (simE_lst (simA_cons (simE_isEr (d := "BadLine") el (simE_var 0)) (simA_cons (simE_isEr (d := "UnknownLevel") el (simE_var 0)) (simA_cons (simE_isEr (d := "BadHeight") el (simE_var 0)) simA_nil)))))))
      (sim_ret (simO_p (simE_op (simE_var 1) (simE_lst (simA_cons (simE_isEr (d := "BadFrame") el (simE_var 0)) (simA_cons (simE_isEr (d := "Unfit") el (simE_var 0)) (simA_cons (simE_isEr (d := "HasHistory") el (simE_var 0)) simA_nil)))))))))) h rfl
end
end LW
set_option Elab.async false
set_option linter.all false
set_option maxRecDepth 100000
set_option maxHeartbeats 4000000
namespace UM
open PySem L2 UL
noncomputable def b_law (cs : List String) : MS :=
  (sSeq (sFor (mRng1 (mCons (mC (.int 4)) mNil)) (gN 2) (sOrF [] (fun p => sSet 3 (mP (mCallI 1 (m__law_one cs) (mCons (mLst (mCons (mVar 2) (mCons (m2 mulSU (mC (.str "w")) (mVar 2)) (mCons (mAtL p (mCons (mVar 2) mNil)) (mCons (mTup (mCons (mVar 2) (mCons (mLst (mCons (mVar 2) mNil)) mNil))) (mCons (mC .non) (mCons (mC (.bl true)) (mCons (mF (mDisp ["w"] (mCons (mVar 2) mNil))) mNil)))))))) mNil))))
    (fun p => (sSeq (sSet 4 (mP (mLst (mCons (mN (m__law_with_one cs) (mCons (mFrz 3) mNil)) (mCons (mN (m__law_by_place cs) (mCons (mFrz 3) mNil)) mNil)))))
    (sSeq (sIf (mTest (m1 (isiUn "list") (mFrz 3))) (sApp p 3 (mC (.str "more"))) sNext)
    (sSeq (sFor (mSeq (mVar 4)) (gN 5) (sIf (mNot (mTest (mN allU (mCons (mLc [9] (mSeq (mN (m__law_held cs) (mCons (mVar 5) mNil))) (gN 9) mYes (mN (m__law_same cs 5) (mCons (mVar 9) (mCons (mFrz 3) mNil)))) mNil)))) (sRet (mP (mC (.bl false)))) sNext))
    (sSeq (sSet 5 (mP (m2 addN (m2 ixU (mVar 4) (mC (.int 0))) (mLst (mCons (mC (.er "BadFrame" [] [])) (mCons (mC (.er "Unfit" [] [])) (mCons (mC (.er "HasHistory" [] [])) mNil)))))))
    (sSeq (sFor (mEnumS (mCons (mVar 5) mNil)) (gT 2 (gsCons (gN 6) (gsCons (gN 7) gsNil))) (sSeq (sIf (mOr (mNot (mTest (m1 (isEr "LevelError") (mVar 7)))) (mNot (mTest (m1 isErV (mVar 7))))) (sRet (mP (mC (.bl false)))) sNext)
    (sIf (mTest (m2 neDU (mN (m__law_classes cs) (mCons (mVar 7) mNil)) (mLc [8] (mRng1 (mCons (mN lenU (mCons (mVar 5) mNil)) mNil)) (gN 8) mYes (m2 eqDU (mVar 8) (mVar 6))))) (sRet (mP (mC (.bl false)))) sNext)))
    (sIf (mTest (m2 inU (mC (.bl true)) (mN (m__law_classes cs) (mCons (mC (.er "LevelError" [] [])) mNil)))) (sRet (mP (mC (.bl false)))) sNext)))))))))
    (sRet (mP (m1 isErV (mC (.er "LevelError" [] []))))))
end UM
set_option Elab.async false
set_option linter.all false
set_option maxRecDepth 100000
set_option maxHeartbeats 4000000
namespace LW
open PySem PySem.Spec PyProof.Rows L2 LV LM UL UM
section
variable {P : Program} {w : World} {K : PySem.W.Frag} {mg : Str → Option Value} {base : Heap} {κ : String → Addr} {cs : List String}
abbrev s_law : Stmt := top 25
abbrev N_law : List Str := ["_law_script", "_law_state", "_law_turn", "_law_x", "_law_ones", "_law_made", "_law_k", "_law_e", "_law_at", "_law_found"]
theorem sc_law : FnScope N_law ["_law_script"] (defScope s_law) := ⟨rfl, rfl, rfl, by decide +kernel, rfl, by decide +kernel, by decide +kernel⟩
theorem ok_law {f : Addr} {fd : FuncData} (F : FunD K "law" "law" (defArgs s_law) (defBody s_law) (defScope s_law) [] [] f fd) (T : EnN mg) (c__law_held : C8.Cal P w K mg base 7 "_law_held" (spP κ (m__law_held cs)) []) (c__law_same : C8.Cal P w K mg base 15 "_law_same" (spP κ (m__law_same cs 5)) []) (et : ErrT P K mg κ) (el : ErrL K κ) (fv : mg "ValueError" = none) (c__law_classes : C8.Cal P w K mg base 7 "_law_classes" (spP κ (m__law_classes cs)) []) (eb : ErrLB K κ) (c__law_by_place : C8.Cal P w K mg base 7 "_law_by_place" (spP κ (m__law_by_place cs)) []) (c__law_with_one : C8.Cal P w K mg base 7 "_law_with_one" (spP κ (m__law_with_one cs)) []) (c__law_one : C8.Cal P w K mg base 9 "_law_one" (spI κ (m__law_one cs)) []) (c__law_fresh : C8.Cal P w K mg base 1 "_law_fresh" (spFr K) []) : FnOk P w K mg base CX0 16 f fd ["_law_script"] (spLw K 9 1 (b_law cs)) := by
  refine F.ok sc_law (fun vs H Q E h => by obtain ⟨a, ns, rfl, _⟩ := h; rfl) (fun cdv A outer s H vs Q E hr h => ⟨_, PSs.nox (pss_cons (ps_set (i := 1) sc_law.nd rfl (Or.inl rfl) (C8.pe_c c__law_fresh hr (by decide) rfl (pa_cons (pv 0) pa_nil)))
      (pss_cons (ps_for PassesOwn.never rfl (pi_range1 rfl (T.free "range" (by decide +kernel)) (pa_cons pe_int pa_nil)) (pg_name (i := 2) sc_law.nd rfl (Or.inl rfl)) (pss_cons (ps_set (i := 3) sc_law.nd rfl (Or.inr rfl) (C8.pe_c c__law_one hr (by decide) rfl (pa_cons (pv 1) (pa_cons (pe_lst (pa_cons (pv 2) (pa_cons (pe_op (op_mulS (κ := κ)) pe_str (pv 2)) (pa_cons (pe_lst (pa_cons (pv 2) pa_nil)) (pa_cons (pe_tup (pa_cons (pv 2) (pa_cons (pe_lst (pa_cons (pv 2) pa_nil)) pa_nil))) (pa_cons pe_non (pa_cons pe_bl (pa_cons (pe_disp (pps_cons pe_str (pv 2) pps_nil) rfl rfl (by simp) (by decide)) pa_nil)))))))) pa_nil))))
      (pss_cons (ps_set (i := 4) sc_law.nd rfl (Or.inl rfl) (pe_lst (pa_cons (C8.pe_c c__law_with_one hr (by decide) rfl (pa_cons (pv 3) pa_nil)) (pa_cons (C8.pe_c c__law_by_place hr (by decide) rfl (pa_cons (pv 3) pa_nil)) pa_nil))))
      (pss_cons (ps_if (pt_val (pe_callB (call_isiK1 (K := K) rfl) rfl (T.free "isinstance" (by decide +kernel)) (by decide +kernel) (pa_cons (pv 3) (pa_cons (pe_bltn (v := .ty "list") rfl (T.free "list" (by decide +kernel)) (by decide +kernel) rfl) pa_nil)))) (pss_one (ps_expr (pe_bm PySem.F.plainAttrs_list PySem.F.slot_list_append PySem.F.type_list_append mt_append (pv 3) (pa_cons pe_str pa_nil)))) pss_nil)
      (pss_cons (ps_for PassesOwn.never rfl (pi_seqK (K := K) rfl (pv 4)) (pg_name (i := 5) sc_law.nd rfl (Or.inl rfl)) (pss_one (ps_if (pt_not (pt_val (pe_callB (call_allU (κ := κ) rfl) rfl (T.free "all" (by decide +kernel)) (by decide +kernel) (pa_cons (pe_lc (own := [("_law_found", 9)]) (g := (gName 9)) (tt := tYes) rfl sc_law.nd (pi_seqK (K := K) rfl (C8.pe_c c__law_held hr (by decide) rfl (pa_cons (pv 5) pa_nil))) (blkOk_by (N := N_law) (sc := defScope s_law) (by decide +kernel)) (fun _ _ _ _ _ => by exact (pg_name (i := 9) sc_law.nd rfl (Or.inl rfl))) (fun _ _ _ _ _ => pts_nil) (fun _ _ _ _ _ => by exact (C8.pe_c c__law_same hr (by decide) rfl (pa_cons (pv 9) (pa_cons (pv 3) pa_nil))))) pa_nil)))) (pss_one (ps_ret pe_bl)) pss_nil)))
      (pss_cons (ps_set (i := 5) sc_law.nd rfl (Or.inl rfl) (pe_op (op_addN (κ := κ)) (pe_ix (ix_U (κ := κ)) (pv 4) pe_int (fun _ _ => rfl)) (pe_lst (pa_cons (pe_erB et .frame rfl rfl) (pa_cons (pe_erB et .unfit rfl rfl) (pa_cons (pe_erB et .history rfl rfl) pa_nil))))))
      (pss_cons (ps_for PassesOwn.never rfl (pi_enumSK (K := K) rfl rfl (T.free "enumerate" (by decide +kernel)) (pa_cons (pv 5) pa_nil)) (pg_tup rfl (pgs_cons (pg_name (i := 6) sc_law.nd rfl (Or.inr rfl)) (pgs_cons (pg_name (i := 7) sc_law.nd rfl (Or.inl rfl)) pgs_nil))) (pss_cons (ps_if (PW.pt (pw_or (pt_not (pt_val (pe_callB (call_isEr (K := K) rfl) rfl (T.free "isinstance" (by decide +kernel)) (by decide +kernel) (pa_cons (pv 7) (pa_cons (pe_glob (v := .ref (κ "LevelError")) rfl et.gL rfl) pa_nil))))) (pw_or1 (pt_not (pt_val (pe_callB (call_isEr (K := K) rfl) rfl (T.free "isinstance" (by decide +kernel)) (by decide +kernel) (pa_cons (pv 7) (pa_cons (pe_bltn (v := .ty "ValueError") rfl fv (by decide +kernel) rfl) pa_nil)))))))) (pss_one (ps_ret pe_bl)) pss_nil)
      (pss_one (ps_if (pt_cmpR (op_neDU (κ := κ) hr.units) (C8.pe_c c__law_classes hr (by decide) rfl (pa_cons (pv 7) pa_nil)) (pe_lc (own := [("_law_at", 8)]) (g := (gName 8)) (tt := tYes) rfl sc_law.nd (pi_range1 rfl (T.free "range" (by decide +kernel)) (pa_cons (pe_callB (call_lenU (κ := κ)) rfl (T.free "len" (by decide +kernel)) (by decide +kernel) (pa_cons (pv 5) pa_nil)) pa_nil)) (blkOk_by (N := N_law) (sc := defScope s_law) (by decide +kernel)) (fun _ _ _ _ _ => by exact (pg_name (i := 8) sc_law.nd rfl (Or.inl rfl))) (fun _ _ _ _ _ => pts_nil) (fun _ _ _ _ _ => by exact (pe_cmpR (op_eqDU (κ := κ) hr.units) (pv 8) (pv 6) (nomark _)))) (nomark _)) (pss_one (ps_ret pe_bl)) pss_nil))))
      (pss_one (ps_if (pt_cmpR (op_inU (κ := κ)) pe_bl (C8.pe_c c__law_classes hr (by decide) rfl (pa_cons (pe_erL et eb rfl) pa_nil)) rfl) (pss_one (ps_ret pe_bl)) pss_nil)))))))))
      (pss_one (ps_ret (pe_callB (call_isEr (K := K) rfl) rfl (T.free "isinstance" (by decide +kernel)) (by decide +kernel) (pa_cons (pe_erL et eb rfl) (pa_cons (pe_bltn (v := .ty "ValueError") rfl fv (by decide +kernel) rfl) pa_nil))))))), ?_⟩)
  exact sim_law (b := b_law cs) (sim_seq (sim_for (simI_rng1 (simA_cons simE_int simA_nil)) (simG_name 2) (sim_blockF (L := []) (simSp_set 3 (simEp_callI (simAp_head (simEp_lst (simAp_tail (simE_var 2) (simAp_tail (simE_op simE_str (simE_var 2)) (simAp_head (simEp_at (simA_cons (simE_var 2) simA_nil)) (simA_cons (simE_tup (simA_cons (simE_var 2) (simA_cons (simE_lst (simA_cons (simE_var 2) simA_nil)) simA_nil))) (simA_cons simE_non (simA_cons simE_bl (simA_cons (simE_f (simO_disp (simD_cons simE_str (simE_var 2) simD_nil))) simA_nil)))))))) simA_nil)))
      (fun p => (simC_seq (simC_of (sim_set 4 (simO_p (simE_lst (simA_cons (simE_call (simA_cons (simE_frz 3) simA_nil)) (simA_cons (simE_call (simA_cons (simE_frz 3) simA_nil)) simA_nil))))))
      (simC_seq (simC_if (simT_B (simE_isiN (by decide) (simE_frz 3))) (simC_app simE_str) (simC_of sim_next))
      (simC_of (sim_seq (sim_for (simI_seq (simE_var 4)) (simG_name 5) (sim_if (simT_not (simT_B (simE_cb (simA_cons (simE_lc (vs := [9]) (simI_seq (simE_call (simA_cons (simE_var 5) simA_nil))) (simG_name 9) simT_yes (simE_call (simA_cons (simE_var 9) (simA_cons (simE_frz 3) simA_nil)))) simA_nil)))) (sim_ret (simO_p simE_bl)) sim_next))
      (sim_seq (sim_set 5 (simO_p (simE_op (simE_op (simE_var 4) simE_int) (simE_lst (simA_cons (simE_er0 (c := "BadFrame")) (simA_cons (simE_er0 (c := "Unfit")) (simA_cons (simE_er0 (c := "HasHistory")) simA_nil)))))))
      (sim_seq (sim_for (simI_enumS (simA_cons (simE_var 5) simA_nil)) (simG_tup (simGs_cons (simG_name 6) (simGs_cons (simG_name 7) simGs_nil))) (sim_seq (sim_if (simT_or (simT_not (simT_B (simE_isEr (d := "LevelError") el (simE_var 7)))) (simT_not (simT_B (simE_isErV el (simE_var 7))))) (sim_ret (simO_p simE_bl)) sim_next)
      (sim_if (simT_test (simE_op (simE_call (simA_cons (simE_var 7) simA_nil)) (simE_lc (vs := [8]) (simI_rng1 (simA_cons (simE_cb (simA_cons (simE_var 5) simA_nil)) simA_nil)) (simG_name 8) simT_yes (simE_op (simE_var 8) (simE_var 6))))) (sim_ret (simO_p simE_bl)) sim_next)))
      (sim_if (simT_test (simE_op simE_bl (simE_call (simA_cons (simE_er0 (c := "LevelError")) simA_nil)))) (sim_ret (simO_p simE_bl)) sim_next))))))))))
      (sim_ret (simO_p (simE_isErV el (simE_er0 (c := "LevelError")))))) h rfl
end
end LW
namespace LM
/-! lines: points in order, straight rows between -/
abbrev Pt := Rat × Rat
def slp (p q : Pt) : Rat := (q.2 - p.2) / (q.1 - p.1)
def Inc (ps : List Pt) : Prop := ps.Pairwise fun p q => p.1 < q.1
def bnd (f : Pt) : List Pt → List Pt
  | [] => []
  | [p] => [p]
  | p :: q :: r => if slp f p = slp p q then bnd f (q :: r) else p :: bnd p (q :: r)
def bends : List Pt → List Pt
  | [] => []
  | p :: r => p :: bnd p r
theorem Inc.two {p q : Pt} {r : List Pt} (h : Inc (p :: q :: r)) : p.1 < q.1 := (List.pairwise_cons.mp h).1 q (by simp)
theorem Inc.skip {p q : Pt} {r : List Pt} (h : Inc (p :: q :: r)) : Inc (p :: r) := by
  obtain ⟨a, b⟩ := List.pairwise_cons.mp h
  obtain ⟨_, c⟩ := List.pairwise_cons.mp b
  exact List.pairwise_cons.mpr ⟨fun x hx => a x (by simp [hx]), c⟩
theorem bnd_sub (f : Pt) (r : List Pt) : (bnd f r).Sublist r := by
  induction r generalizing f with
  | nil => exact List.Sublist.refl _
  | cons p r ih =>
    cases r with
    | nil => exact List.Sublist.refl _
    | cons q r =>
      unfold bnd
      split
      · exact List.Sublist.cons p (ih f)
      · exact List.Sublist.cons_cons p (ih p)
theorem bends_sub (ps : List Pt) : (bends ps).Sublist ps := by
  cases ps with
  | nil => exact List.Sublist.refl _
  | cons f r => exact List.Sublist.cons_cons f (bnd_sub f r)
theorem Inc.bends {ps : List Pt} (h : Inc ps) : Inc (bends ps) := List.Pairwise.sublist (bends_sub ps) h
/-! the stack that bends a line -/
/-! the place of a moment -/
theorem between {a b s : Rat} (h : a ≤ b) (h0 : 0 ≤ s) (h1 : s ≤ 1) : a ≤ a + s * (b + -a) ∧ a + s * (b + -a) ≤ b := by
  have x : 0 ≤ s * (b - a) := Rat.mul_nonneg h0 (by grind)
  have y : 0 ≤ (1 - s) * (b - a) := Rat.mul_nonneg (by grind) (by grind)
  constructor <;> grind
end LM
namespace LM
/-! a line is known by its heights: bends are canonical -/
end LM
namespace LM
/-! heights as a function -/
/-- linear between a and b -/
def Ln (f : Rat → Rat) (a b : Rat) : Prop := ∃ u v : Rat, ∀ t, a ≤ t → t ≤ b → f t = u + v * t
theorem Ln.sub {f : Rat → Rat} {a b c d : Rat} (h : Ln f a b) (h1 : a ≤ c) (h2 : d ≤ b) : Ln f c d := by
  obtain ⟨u, v, h⟩ := h
  exact ⟨u, v, fun t x y => h t (by grind) (by grind)⟩
def Seg (f : Rat → Rat) : List Rat → Prop
  | a :: b :: r => Ln f a b ∧ Seg f (b :: r)
  | _ => True
end LM
namespace LM
theorem Seg.congr {f g : Rat → Rat} : ∀ {ms : List Rat}, (∀ t, (∃ a ∈ ms, a ≤ t) → (∃ b ∈ ms, t ≤ b) → f t = g t) → Seg f ms → Seg g ms
  | [], _, _ => trivial
  | [_], _, _ => trivial
  | a :: b :: r, h, s => by
    obtain ⟨⟨u, v, s1⟩, s2⟩ := s
    refine ⟨⟨u, v, fun t x y => ?_⟩, Seg.congr (fun t ⟨x, hx, h1⟩ ⟨y, hy, h2⟩ => h t ⟨x, by simp at hx ⊢; exact .inr hx, h1⟩ ⟨y, by simp at hy ⊢; exact .inr hy, h2⟩) s2⟩
    rw [← h t ⟨a, by simp, x⟩ ⟨b, by simp, y⟩]
    exact s1 t x y
end LM
set_option Elab.async false
set_option linter.all false
set_option maxRecDepth 100000
set_option maxHeartbeats 2000000
/-! mirrors run by simp: what each word of the layer does -/
namespace UL
open PySem L2 LM
/-! sizes of numbers, found by instances -/
class HtC (n : outParam Nat) (r : Rat) : Prop where
  h : Ht n r
section
variable {a b : Rat} {n m : Nat}
theorem HtC.of (h : Ht n a) : HtC n a := ⟨h⟩
theorem Ht.div' (h1 : Ht n a) (h2 : Ht m b) : Ht (n + m + 1) (a / b) := by
  by_cases hb : b = 0
  · subst hb
    rw [Rat.div_def, Rat.inv_zero, Rat.mul_zero]
    exact ⟨Nat.two_pow_pos _, Nat.one_lt_two_pow (by omega)⟩
  · exact (h1.div h2 hb).mono (by omega)
instance [x : HtC n a] [y : HtC m b] : HtC (n + m + 1) (a + b) := ⟨x.h.add y.h⟩
instance [x : HtC n a] [y : HtC m b] : HtC (n + m + 1) (a - b) := ⟨x.h.sub y.h⟩
instance [x : HtC n a] [y : HtC m b] : HtC (n + m) (a * b) := ⟨x.h.mul y.h⟩
instance [x : HtC n a] [y : HtC m b] : HtC (n + m + 1) (a / b) := ⟨Ht.div' x.h y.h⟩
instance [x : HtC n a] : HtC n (-a) := ⟨x.h.neg⟩
theorem smQ_of (h : Ht n a) (l : n ≤ 4000) : smQ a = true := by
  have h := h.mono l
  unfold smQ
  rw [decide_eq_true h.1, decide_eq_true h.2]
  rfl
theorem okQ_of {u : U} [x : HtC n a] [y : HtC m b] (h : n ≤ 4000) (h' : m ≤ 4000) : okQ a b u = some u := by
  unfold okQ
  rw [smQ_of x.h h, smQ_of y.h h']
  rfl
theorem ht0 : Ht 1 ((0 : Int) : Rat) := ⟨by decide, by decide⟩
@[simp] theorem addU_qq [HtC n a] [HtC m b] (h : n ≤ 4000) (h' : m ≤ 4000) : addU (.q a) (.q b) = some (.q (a + b)) := okQ_of h h'
@[simp] theorem subU_qq [HtC n a] [HtC m b] (h : n ≤ 4000) (h' : m ≤ 4000) : subU (.q a) (.q b) = some (.q (a - b)) := okQ_of h h'
@[simp] theorem mulU_qq [HtC n a] [HtC m b] (h : n ≤ 4000) (h' : m ≤ 4000) : mulU (.q a) (.q b) = some (.q (a * b)) := okQ_of h h'
@[simp] theorem ltU_qq [HtC n a] [HtC m b] (h : n ≤ 4000) (h' : m ≤ 4000) : ltU (.q a) (.q b) = some (.bl (decide (a < b))) := okQ_of h h'
@[simp] theorem leU_qq [HtC n a] [HtC m b] (h : n ≤ 4000) (h' : m ≤ 4000) : leU (.q a) (.q b) = some (.bl (decide (a ≤ b))) := okQ_of h h'
@[simp] theorem gtU_qq [HtC n a] [HtC m b] (h : n ≤ 4000) (h' : m ≤ 4000) : gtU (.q a) (.q b) = some (.bl (decide (b < a))) := okQ_of h h'
@[simp] theorem geU_qq [HtC n a] [HtC m b] (h : n ≤ 4000) (h' : m ≤ 4000) : geU (.q a) (.q b) = some (.bl (decide (b ≤ a))) := okQ_of h h'
@[simp] theorem negU_q [x : HtC n a] (h : n ≤ 4000) : negU (.q a) = some (.q (-a)) := by
  dsimp only [negU]
  rw [if_pos (smQ_of x.h h)]
@[simp] theorem byF_qq [HtC n a] [HtC m b] (h0 : b ≠ 0) (h : n ≤ 4000) (h' : m ≤ 4000) : byF [.q a, .q b] = some (.q (a / b)) := by
  dsimp only [byF]
  rw [if_pos h0]
  exact okQ_of h h'
@[simp] theorem ltU_q0 [HtC n a] (h : n ≤ 4000) : ltU (.q a) (.int 0) = some (.bl (decide (a < 0))) := by
  haveI : HtC 1 ((0 : Int) : Rat) := ⟨ht0⟩
  exact okQ_of (b := ((0 : Int) : Rat)) h (by decide)
@[simp] theorem leU_q0 [HtC n a] (h : n ≤ 4000) : leU (.q a) (.int 0) = some (.bl (decide (a ≤ 0))) := by
  haveI : HtC 1 ((0 : Int) : Rat) := ⟨ht0⟩
  exact okQ_of (b := ((0 : Int) : Rat)) h (by decide)
@[simp] theorem gtU_q0 [HtC n a] (h : n ≤ 4000) : gtU (.q a) (.int 0) = some (.bl (decide (0 < a))) := by
  haveI : HtC 1 ((0 : Int) : Rat) := ⟨ht0⟩
  exact okQ_of (b := ((0 : Int) : Rat)) h (by decide)
@[simp] theorem geU_q0 [HtC n a] (h : n ≤ 4000) : geU (.q a) (.int 0) = some (.bl (decide (0 ≤ a))) := by
  haveI : HtC 1 ((0 : Int) : Rat) := ⟨ht0⟩
  exact okQ_of (b := ((0 : Int) : Rat)) h (by decide)
/-! ints -/
@[simp] theorem addU_ii {i j : Int} : addU (.int i) (.int j) = some (.int (i + j)) := rfl
@[simp] theorem subU_ii {i j : Int} : subU (.int i) (.int j) = some (.int (i - j)) := rfl
@[simp] theorem negU_i {i : Int} : negU (.int i) = some (.int (-i)) := rfl
@[simp] theorem ltU_ii {i j : Int} : ltU (.int i) (.int j) = some (.bl (decide (i < j))) := rfl
@[simp] theorem leU_ii {i j : Int} : leU (.int i) (.int j) = some (.bl (decide (i ≤ j))) := rfl
@[simp] theorem gtU_ii {i j : Int} : gtU (.int i) (.int j) = some (.bl (decide (j < i))) := rfl
@[simp] theorem geU_ii {i j : Int} : geU (.int i) (.int j) = some (.bl (decide (j ≤ i))) := rfl
@[simp] theorem addI_ii {i j : Int} : addI (.int i) (.int j) = some (.int (i + j)) := rfl
@[simp] theorem eqU_ii {i j : Int} {n : Nat} : eqU n (.int i) (.int j) = some (.bl (decide (i = j))) := by cases n <;> rfl
@[simp] theorem eqU_bb {i j : Bool} {n : Nat} : eqU n (.bl i) (.bl j) = some (.bl (decide (i = j))) := by cases n <;> rfl
@[simp] theorem eqU_ss {i j : Str} {n : Nat} : eqU n (.str i) (.str j) = some (.bl (decide (i = j))) := by cases n <;> rfl
@[simp] theorem eqU_qq' {i j : Rat} {n : Nat} : eqU n (.q i) (.q j) = some (.bl (decide (i = j))) := by cases n <;> rfl
@[simp] theorem neU_ii {i j : Int} : neU (.int i) (.int j) = some (.bl (!decide (i = j))) := by
  simp [neU, toD, SeqAt.shaped, PyData.canLay0, PyData.depth, PyData.eqv]
  by_cases h : i = j <;> simp [h]
@[simp] theorem neN_ii {i j : Int} {n : Nat} : neN n (.int i) (.int j) = some (.bl (!decide (i = j))) := neU_ii
@[simp] theorem neN_qq {i j : Rat} {n : Nat} : neN n (.q i) (.q j) = some (.bl (!decide (i = j))) := rfl
@[simp] theorem neN_tt {us ws : List U} {n : Nat} : neN n (.tup us) (.tup ws) = (eqN n (.tup us) (.tup ws)).bind fun x => some (.bl (!x)) := rfl
@[simp] theorem neN_ll {us ws : List U} {n : Nat} : neN n (.lst us) (.lst ws) = (eqN n (.lst us) (.lst ws)).bind fun x => some (.bl (!x)) := rfl
theorem smI_of {i : Int} (h : i.natAbs < 2 ^ 64) : smI i = true := decide_eq_true h
theorem mulOk_l {i j : Int} (h : smI i = true) : mulOk i j = true := by simp [mulOk, h]
theorem mulOk_r {i j : Int} (h : smI j = true) : mulOk i j = true := by simp [mulOk, h]
theorem mulU_ii {i j : Int} (h : mulOk i j = true) : mulU (.int i) (.int j) = some (.int (i * j)) := by
  dsimp only [mulU]
  rw [if_pos h]
theorem mulU_l {i j : Int} (h : i.natAbs < 2 ^ 64) : mulU (.int i) (.int j) = some (.int (i * j)) := mulU_ii (mulOk_l (smI_of h))
theorem mulU_r {i j : Int} (h : j.natAbs < 2 ^ 64) : mulU (.int i) (.int j) = some (.int (i * j)) := mulU_ii (mulOk_r (smI_of h))
theorem fdivU_ii {i j : Int} (h : j ≠ 0) (h' : j.natAbs < 2 ^ 9000) : fdivU (.int i) (.int j) = some (.int (i.fdiv j)) := by
  dsimp only [fdivU]
  rw [if_pos ⟨h, (Nat.log2_lt (by omega)).mpr h'⟩]
theorem modU_ii {i j : Int} (h : j ≠ 0) : modU (.int i) (.int j) = some (.int (i.fmod j)) := by
  dsimp only [modU]
  rw [if_pos h]
end
end UL
set_option Elab.async false
set_option linter.all false
set_option maxRecDepth 100000
set_option maxHeartbeats 2000000
/-! mirrors run by simp: the words of the layer -/
namespace UL
open PySem L2 LM
def getP (env : Env) (i : Nat) : Option U := match env[i]? with
  | some (some (.p u)) => some u
  | _ => none
@[simp] theorem mVar_d {env : Env} {i : Nat} : mVar i env = (getP env i).bind fun u => some (u, env) := by
  unfold mVar getP
  split <;> simp_all
@[simp] theorem getP_0 {u : U} {e : Env} : getP (some (.p u) :: e) 0 = some u := rfl
@[simp] theorem getP_s {x : Option Ow} {e : Env} {i : Nat} : getP (x :: e) (i + 1) = getP e i := rfl
section
variable {env : Env} {i j l : Nat} {u v x y : U} {a b c : M U} {α β : Type}
@[simp] theorem mC_d : mC u env = some (u, env) := rfl
@[simp] theorem m1_d {f : U → Option U} : m1 f a env = (a env).bind fun x => (f x.1).bind fun z => some (z, x.2) := rfl
@[simp] theorem m2_d {f : U → U → Option U} : m2 f a b env = (a env).bind fun x => (b x.2).bind fun y => (f x.1 y.1).bind fun z => some (z, y.2) := rfl
@[simp] theorem mNil_d : mNil env = some ([], env) := rfl
@[simp] theorem mCons_d {r : M (List U)} : mCons a r env = (a env).bind fun x => (r x.2).bind fun y => some (x.1 :: y.1, y.2) := rfl
@[simp] theorem mN_d {f : List U → Option U} {r : M (List U)} : mN f r env = (r env).bind fun x => (f x.1).bind fun z => some (z, x.2) := rfl
@[simp] theorem mLst_d {r : M (List U)} : mLst r env = (r env).bind fun x => some (.lst x.1, x.2) := rfl
@[simp] theorem mTup_d {r : M (List U)} : mTup r env = (r env).bind fun x => some (.tup x.1, x.2) := rfl
@[simp] theorem mLstO_d {r : M (List U)} : mLstO r env = (r env).bind fun x => some (.l (x.1.map .p), x.2) := rfl
@[simp] theorem mP_d : mP a env = (a env).bind fun x => some (.p x.1, x.2) := rfl
@[simp] theorem mF_d {r : M Ow} : mF r env = (r env).bind fun x => some (frz x.1, x.2) := rfl
@[simp] theorem isB_bl {t : Bool} : isB (.bl t) = some t := rfl
@[simp] theorem mTest_d : mTest a env = (a env).bind fun x => (isB x.1).bind fun b => some (b, x.2) := rfl
@[simp] theorem mAnd_d {a b : M Bool} : mAnd a b env = (a env).bind fun x => if x.1 = true then b x.2 else some (false, x.2) := rfl
@[simp] theorem mOr_d {a b : M Bool} : mOr a b env = (a env).bind fun x => if x.1 = true then some (true, x.2) else b x.2 := rfl
@[simp] theorem mNot_d {a : M Bool} : mNot a env = (a env).bind fun x => some (!x.1, x.2) := rfl
@[simp] theorem mIf_d {c : M Bool} : mIf c a b env = (c env).bind fun x => if x.1 = true then a x.2 else b x.2 := rfl
@[simp] theorem mAndV_d : mAndV a b env = (a env).bind fun x => (isB x.1).bind fun k => if k = true then b x.2 else some (.bl false, x.2) := rfl
@[simp] theorem mOrV_d : mOrV a b env = (a env).bind fun x => (isB x.1).bind fun k => if k = true then some (.bl true, x.2) else b x.2 := rfl
@[simp] theorem mNotV_d : mNotV a env = (a env).bind fun x => (isB x.1).bind fun k => some (.bl (!k), x.2) := rfl
@[simp] theorem mIsN_d : mIsN a env = (a env).bind fun x => some (.bl (isN x.1), x.2) := rfl
@[simp] theorem mNotN_d : mNotN a env = (a env).bind fun x => some (.bl (!isN x.1), x.2) := rfl
@[simp] theorem sNext_d : sNext env = some (.nx env) := rfl
@[simp] theorem sNever_d : sNever env = none := rfl
def seqK (t : MS) : Fl → Option Fl
  | .nx e => t e
  | f => some f
@[simp] theorem seqK_nx {t : MS} {e : Env} : seqK t (.nx e) = t e := rfl
@[simp] theorem seqK_rt {t : MS} {w : Ow} {e : Env} : seqK t (.rt w e) = some (.rt w e) := rfl
@[simp] theorem seqK_bk {t : MS} {e : Env} : seqK t (.bk e) = some (.bk e) := rfl
@[simp] theorem sSeq_d {s t : MS} : sSeq s t env = (s env).bind (seqK t) := by
  unfold sSeq
  cases s env with
  | none => rfl
  | some f => cases f <;> rfl
theorem sSeq_nx {s t : MS} {e : Env} (h : s env = some (.nx e)) : sSeq s t env = t e := by simp [sSeq, h]
@[simp] theorem sIf_d {c : M Bool} {s t : MS} : sIf c s t env = (c env).bind fun x => if x.1 = true then s x.2 else t x.2 := rfl
@[simp] theorem sDrop_d : sDrop a env = (a env).bind fun x => some (.nx x.2) := rfl
@[simp] theorem sRet_d {r : M Ow} : sRet r env = (r env).bind fun x => some (.rt x.1 x.2) := rfl
@[simp] theorem sSet_d {r : M Ow} : sSet i r env = (r env).bind fun x => some (.nx (x.2.set i (some x.1))) := rfl
@[simp] theorem gN_d : gN i u env = some (env.set i (some (.p u))) := rfl
@[simp] theorem gsNil_d : gsNil [] env = some env := rfl
@[simp] theorem gsCons_d {g : MG} {r : MGs} {us : List U} : gsCons g r (u :: us) env = (g u env).bind fun e => r us e := rfl
@[simp] theorem gT_d {n : Nat} {r : MGs} {us : List U} : gT n r (.tup us) env = if us.length = n then r us env else none := rfl
@[simp] theorem sAsg_d {g : MG} : sAsg a g env = (a env).bind fun x => (g x.1 x.2).bind fun e => some (.nx e) := rfl
def parK (i j : Nat) : List U × Env → Option Fl
  | ([u, v], e) => some (.nx ((e.set i (some (.p u))).set j (some (.p v))))
  | _ => none
@[simp] theorem parK_d {e : Env} : parK i j ([u, v], e) = some (.nx ((e.set i (some (.p u))).set j (some (.p v)))) := rfl
@[simp] theorem sPar_d {r : M (List U)} : sPar i j r env = (r env).bind (parK i j) := by
  unfold sPar
  cases r env with
  | none => rfl
  | some x =>
    obtain ⟨us, e⟩ := x
    rcases us with _ | ⟨a, _ | ⟨b, _ | ⟨c, us⟩⟩⟩ <;> rfl
def par3K (i j l : Nat) : List U × Env → Option Fl
  | ([u, v, w], e) => some (.nx (((e.set i (some (.p u))).set j (some (.p v))).set l (some (.p w))))
  | _ => none
@[simp] theorem par3K_d {e : Env} {w : U} : par3K i j l ([u, v, w], e) = some (.nx (((e.set i (some (.p u))).set j (some (.p v))).set l (some (.p w)))) := rfl
@[simp] theorem sPar3_d {r : M (List U)} : sPar3 i j l r env = (r env).bind (par3K i j l) := by
  unfold sPar3
  cases r env with
  | none => rfl
  | some x =>
    obtain ⟨us, e⟩ := x
    rcases us with _ | ⟨a, _ | ⟨b, _ | ⟨c, _ | ⟨d, us⟩⟩⟩⟩ <;> rfl
@[simp] theorem sAug_d {f : U → U → Option U} : sAug i f a env = (mVar i env).bind fun y => (a y.2).bind fun x => (f y.1 x.1).bind fun z => some (.nx (x.2.set i (some (.p z)))) := rfl
@[simp] theorem sFor_d {it : M (List U)} {g : MG} {s : MS} : sFor it g s env = (it env).bind fun x => forO g s x.1 x.2 := rfl
@[simp] theorem seqU_l {us : List U} : seqU (.lst us) = some us := rfl
@[simp] theorem seqU_t {us : List U} : seqU (.tup us) = some us := rfl
@[simp] theorem mSeq_d : mSeq a env = (a env).bind fun x => (seqU x.1).bind fun us => some (us, x.2) := rfl
@[simp] theorem isP_p : isP (.p u) = some u := rfl
@[simp] theorem isI_i {n : Int} : isI (.int n) = some n := rfl
@[simp] theorem mYes_d : mYes env = some (true, env) := rfl
@[simp] theorem mLc_d {vs : List Nat} {mi : M (List U)} {g : MG} {tt : M Bool} {te : M U} : mLc vs mi g tt te env = (mi env).bind fun x => (lcO vs g tt te x.1 [] x.2).bind fun y => some (.lst y.1, y.2) := by
  show ((mi env).bind _).bind _ = _
  cases mi env <;> rfl
@[simp] theorem forO_nil {g : MG} {s : MS} : forO g s [] env = some (.nx env) := rfl
theorem forO_cons {g : MG} {s : MS} {us : List U} {e e' : Env} (h : g u env = some e) (h' : s e = some (.nx e')) : forO g s (u :: us) env = forO g s us e' := by
  simp [forO, h, h']
theorem while_go {c : M Bool} {s : MS} {n : Nat} {e e' : Env} (h : c env = some (true, e)) (h' : s e = some (.nx e')) : whileO c s (n + 1) env = whileO c s n e' := by
  simp [whileO, h, h']
theorem while_stop {c : M Bool} {s : MS} {n : Nat} {e : Env} (h : c env = some (false, e)) : whileO c s (n + 1) env = some (.nx e) := by
  simp [whileO, h]
@[simp] theorem lcO_nil {vs : List Nat} {g : MG} {tt : M Bool} {te : M U} {acc : List U} : lcO vs g tt te [] acc env = some (acc, env) := rfl
theorem fnI_rt {n nl : Nat} {s : MS} {w w' : Ow} {us : List U} {e : Env} (hn : us.length + 1 = n) (h : s (env0 (w :: us.map .p) nl) = some (.rt (.p u) e)) (h' : e[0]? = some (some w')) : fnI n nl s w us = some (u, w') := by
  unfold fnI
  rw [if_pos hn, h]
  simp [atS, h']
theorem fnI_nx {n nl : Nat} {s : MS} {w w' : Ow} {us : List U} {e : Env} (hn : us.length + 1 = n) (h : s (env0 (w :: us.map .p) nl) = some (.nx e)) (h' : e[0]? = some (some w')) : fnI n nl s w us = some (.non, w') := by
  unfold fnI
  rw [if_pos hn, h]
  simp [atS, h']
theorem atI_nat' {α : Type} {l : List α} {n : Nat} {a : α} (h : l[n]? = some a) : atI l (n : Int) = some a := atI_nat h
@[simp] theorem atI_0 {α : Type} {a : α} {r : List α} : atI (a :: r) 0 = some a := atI_nat (xs := a :: r) (j := 0) rfl
@[simp] theorem atI_1 {α : Type} {a b : α} {r : List α} : atI (a :: b :: r) 1 = some b := atI_nat (xs := a :: b :: r) (j := 1) rfl
@[simp] theorem get_0 {α : Type} {a : α} {r : List α} : (a :: r)[0]? = some a := rfl
@[simp] theorem get_s {α : Type} {a : α} {r : List α} {n : Nat} : (a :: r)[n + 1]? = r[n]? := rfl
@[simp] theorem atI_2 {α : Type} {a b c : α} {r : List α} : atI (a :: b :: c :: r) 2 = some c := atI_nat (xs := a :: b :: c :: r) (j := 2) rfl
@[simp] theorem atI_3 {α : Type} {a b c d : α} {r : List α} : atI (a :: b :: c :: d :: r) 3 = some d := atI_nat (xs := a :: b :: c :: d :: r) (j := 3) rfl
@[simp] theorem atI_4 {α : Type} {a b c d e : α} {r : List α} : atI (a :: b :: c :: d :: e :: r) 4 = some e := atI_nat (xs := a :: b :: c :: d :: e :: r) (j := 4) rfl
@[simp] theorem atI_5 {α : Type} {a b c d e f : α} {r : List α} : atI (a :: b :: c :: d :: e :: f :: r) 5 = some f := atI_nat (xs := a :: b :: c :: d :: e :: f :: r) (j := 5) rfl
@[simp] theorem ixU_l {us : List U} {n : Int} : ixU (.lst us) (.int n) = atI us n := rfl
@[simp] theorem ixU_t {us : List U} {n : Int} : ixU (.tup us) (.int n) = atI us n := rfl
@[simp] theorem lenU_l {us : List U} : lenU [.lst us] = some (.int us.length) := rfl
@[simp] theorem ixU_a {us : List U} {n : Int} {a : Addr} : ixU (.atl a us) (.int n) = atI us n := rfl
@[simp] theorem lenU_a {us : List U} {a : Addr} : lenU [.atl a us] = some (.int us.length) := rfl
@[simp] theorem lenU_t {us : List U} : lenU [.tup us] = some (.int us.length) := rfl
end

/-! slots -/
section
variable {env : Env} {i j l : Nat} {u v x y : U} {a b c k : M U} {w : Ow} {ws : List Ow}
def isLw : Ow → Option (List Ow)
  | .l ws => some ws
  | _ => none
def getL (env : Env) (i : Nat) : Option (List Ow) := (atS env i).bind isLw
@[simp] theorem isLw_l : isLw (.l ws) = some ws := rfl
@[simp] theorem atS_0 {e : Env} : atS (some w :: e) 0 = some w := rfl
@[simp] theorem atS_s {z : Option Ow} {e : Env} : atS (z :: e) (i + 1) = atS e i := rfl
@[simp] theorem getL_0 {e : Env} : getL (some (.l ws) :: e) 0 = some ws := rfl
@[simp] theorem getL_s {z : Option Ow} {e : Env} : getL (z :: e) (i + 1) = getL e i := rfl
@[simp] theorem hasS_d : hasS env i = (atS env i).bind fun _ => some () := by
  unfold hasS atS
  rcases env[i]? with _ | _ | w <;> rfl
@[simp] theorem isL_d : isL env i = (getL env i).bind fun _ => some () := by
  unfold isL getL atS isLw
  rcases env[i]? with _ | _ | w
  · rfl
  · rfl
  · cases w <;> rfl
theorem matchL {α : Type} (e : Env) (i : Nat) (f : List Ow → Option α) : (match e[i]? with
    | some (some (.l ws)) => f ws
    | _ => none) = (getL e i).bind f := by
  unfold getL atS isLw
  rcases e[i]? with _ | _ | w
  · rfl
  · rfl
  · cases w <;> rfl
@[simp] theorem mIxV_d : mIxV i k env = (getL env i).bind fun _ => (k env).bind fun y => (getL y.2 i).bind fun ws => (isI y.1).bind fun j => (atI ws j).bind fun w => (isP w).bind fun u => some (u, y.2) := by
  unfold mIxV
  rw [isL_d]
  cases getL env i with
  | none => rfl
  | some _ =>
    cases k env with
    | none => rfl
    | some y =>
      exact matchL y.2 i _
@[simp] theorem mAppV_d : mAppV i a env = (getL env i).bind fun _ => (a env).bind fun y => (getL y.2 i).bind fun ws => if ws.length < sizeLine then some (.non, y.2.set i (some (.l (ws ++ [.p y.1])))) else none := by
  unfold mAppV
  rw [isL_d]
  cases getL env i with
  | none => rfl
  | some _ =>
    cases a env with
    | none => rfl
    | some y =>
      exact matchL y.2 i _
def lstU : U → Option (List U)
  | .lst us => some us
  | _ => none
@[simp] theorem lstU_l {us : List U} : lstU (.lst us) = some us := rfl
@[simp] theorem mExtV_d : mExtV i a env = (getL env i).bind fun _ => (a env).bind fun y => (getL y.2 i).bind fun ws => (lstU y.1).bind fun us => if ws.length + us.length ≤ sizeLine then some (.non, y.2.set i (some (.l (ws ++ us.map .p)))) else none := by
  unfold mExtV
  rw [isL_d]
  cases getL env i with
  | none => rfl
  | some _ =>
    cases a env with
    | none => rfl
    | some y =>
      obtain ⟨u, e⟩ := y
      cases u <;> exact matchL e i _
@[simp] theorem mInsV_d : mInsV i k a env = (getL env i).bind fun _ => (k env).bind fun y => (a y.2).bind fun x => (getL x.2 i).bind fun ws => (isI y.1).bind fun j => if ws.length < sizeLine ∧ 0 ≤ j ∧ j < 2 ^ 63 then some (.non, x.2.set i (some (.l (ws.take j.toNat ++ [.p x.1] ++ ws.drop j.toNat)))) else none := by
  unfold mInsV
  rw [isL_d]
  cases getL env i with
  | none => rfl
  | some _ =>
    cases k env with
    | none => rfl
    | some y =>
      show (a y.2).bind _ = (a y.2).bind _
      cases a y.2 with
      | none => rfl
      | some x =>
        exact matchL x.2 i _
@[simp] theorem mPopV_d : mPopV i env = (getL env i).bind fun ws => (ws[ws.length - 1]?).bind fun w => (isP w).bind fun u => some (u, env.set i (some (.l ws.dropLast))) := by
  unfold mPopV getL atS isLw
  rcases env[i]? with _ | _ | w
  · rfl
  · rfl
  · cases w <;> rfl
@[simp] theorem mLenV_d : mLenV i env = (getL env i).bind fun ws => some (.int ws.length, env) := by
  unfold mLenV getL atS isLw
  rcases env[i]? with _ | _ | w
  · rfl
  · rfl
  · cases w <;> rfl
@[simp] theorem mNeNilV_d : mNeNilV i env = (getL env i).bind fun ws => some (.bl (!ws.isEmpty), env) := by
  unfold mNeNilV getL atS isLw
  rcases env[i]? with _ | _ | w
  · rfl
  · rfl
  · cases w <;> rfl
@[simp] theorem mFrz_d : mFrz i env = (atS env i).bind fun w => some (frz w, env.set i (some (.p (frz w)))) := by
  unfold mFrz atS
  rcases env[i]? with _ | _ | w <;> rfl
@[simp] theorem mMov_d : mMov i env = (atS env i).bind fun w => some (w, env.set i none) := by
  unfold mMov atS
  rcases env[i]? with _ | _ | w <;> rfl
@[simp] theorem sSetV_d : sSetV i k a env = (a env).bind fun x => (getL x.2 i).bind fun _ => (k x.2).bind fun y => (getL y.2 i).bind fun ws => (isI y.1).bind fun j => (ixN ws.length j).bind fun n => (ws[n]?).bind fun w => (isP w).bind fun _ => some (.nx (y.2.set i (some (.l (ws.set n (.p x.1)))))) := by
  unfold sSetV
  cases a env with
  | none => rfl
  | some x =>
    show (isL x.2 i).bind _ = (getL x.2 i).bind _
    rw [isL_d]
    cases getL x.2 i with
    | none => rfl
    | some _ =>
      show (k x.2).bind _ = (k x.2).bind _
      cases k x.2 with
      | none => rfl
      | some y =>
        exact matchL y.2 i _
@[simp] theorem mCallI_d {f : Ow → List U → Option (U × Ow)} {r : M (List U)} : mCallI i f r env = (atS env i).bind fun _ => (r env).bind fun x => (atS x.2 i).bind fun w => (f w x.1).bind fun z => some (z.1, x.2.set i (some z.2)) := by
  unfold mCallI
  rw [hasS_d]
  cases atS env i <;> rfl
@[simp] theorem frz_l : frz (.l (ws)) = .lst (frzs ws) := rfl
@[simp] theorem frzs_m {us : List U} : frzs (us.map .p) = us := frzs_map us
@[simp] theorem mLcV_d {vs : List Nat} {g : MG} {tt : M Bool} {te : M U} : mLcV i vs g tt te env = (getL env i).bind fun ws => (allP ws).bind fun us => (lcO vs g tt te us [] (env.set i none)).bind fun x => some (.lst x.1, x.2.set i (some (.l ws))) := by
  unfold mLcV mLcLV getL atS isLw
  rcases env[i]? with _ | _ | w
  · rfl
  · rfl
  · cases w with
    | l ws =>
      show Option.bind (Option.bind (allP ws) _) _ = Option.bind (allP ws) _
      cases allP ws with
      | none => rfl
      | some us =>
        show Option.bind (Option.bind (lcO vs g tt te us [] (env.set i none)) _) _ = Option.bind (lcO vs g tt te us [] (env.set i none)) _
        cases lcO vs g tt te us [] (env.set i none) <;> rfl
    | _ => rfl
def parOK (i j : Nat) : List Ow × Env → Option Fl
  | ([u, v], e) => some (.nx ((e.set i (some u)).set j (some v)))
  | _ => none
@[simp] theorem parOK_d {e : Env} {u v : Ow} : parOK i j ([u, v], e) = some (.nx ((e.set i (some u)).set j (some v))) := rfl
@[simp] theorem sParO_d {r : M (List Ow)} : sParO i j r env = (r env).bind (parOK i j) := by
  unfold sParO
  cases r env with
  | none => rfl
  | some x =>
    obtain ⟨us, e⟩ := x
    rcases us with _ | ⟨a, _ | ⟨b, _ | ⟨c, us⟩⟩⟩ <;> rfl
def par3OK (i j l : Nat) : List Ow × Env → Option Fl
  | ([u, v, w], e) => some (.nx (((e.set i (some u)).set j (some v)).set l (some w)))
  | _ => none
@[simp] theorem par3OK_d {e : Env} {u v w : Ow} : par3OK i j l ([u, v, w], e) = some (.nx (((e.set i (some u)).set j (some v)).set l (some w))) := rfl
@[simp] theorem sPar3O_d {r : M (List Ow)} : sPar3O i j l r env = (r env).bind (par3OK i j l) := by
  unfold sPar3O
  cases r env with
  | none => rfl
  | some x =>
    obtain ⟨us, e⟩ := x
    rcases us with _ | ⟨a, _ | ⟨b, _ | ⟨c, _ | ⟨d, us⟩⟩⟩⟩ <;> rfl
@[simp] theorem oNil_d : oNil env = some ([], env) := rfl
@[simp] theorem oCons_d {a : M Ow} {r : M (List Ow)} : oCons a r env = (a env).bind fun x => (r x.2).bind fun y => some (x.1 :: y.1, y.2) := rfl
end
end UL
set_option Elab.async false
set_option linter.all false
set_option maxRecDepth 100000
set_option maxHeartbeats 2000000
/-! mirrors: loops and comprehensions by what stays true -/
namespace UL
open PySem L2 LM
theorem for_inv {α : Type} (enc : α → U) (I : Nat → Env → Prop) {g : MG} {s : MS} : ∀ {xs : List α} {k : Nat} {env : Env}, I k env →
    (∀ j x env, xs[j]? = some x → I (k + j) env → ∃ e, g (enc x) env = some e ∧ ∃ env', s e = some (.nx env') ∧ I (k + j + 1) env') →
    ∃ env', forO g s (xs.map enc) env = some (.nx env') ∧ I (k + xs.length) env'
  | [], k, env, h0, _ => ⟨env, rfl, h0⟩
  | x :: xs, k, env, h0, hs => by
    obtain ⟨e, h1, e', h2, h3⟩ := hs 0 x env rfl h0
    obtain ⟨e2, h4, h5⟩ := for_inv enc I (xs := xs) (k := k + 1) (env := e') h3 (fun j y env hj hI => by
      have := hs (j + 1) y env (by simpa using hj) (by rw [show k + (j + 1) = k + 1 + j by omega]; exact hI)
      rw [show k + (j + 1) + 1 = k + 1 + j + 1 by omega] at this
      exact this)
    refine ⟨e2, ?_, by rw [List.length_cons, show k + (xs.length + 1) = k + 1 + xs.length by omega]; exact h5⟩
    rw [List.map_cons, forO_cons h1 h2, h4]
theorem while_inv {c : M Bool} {s : MS} (I : Nat → Env → Prop) (D : Env → Prop)
    (h : ∀ n env, I n env → (∃ e, c env = some (false, e) ∧ D e) ∨ ∃ e, c env = some (true, e) ∧ ∃ env', s e = some (.nx env') ∧ ∃ m, m < n ∧ I m env') :
    ∀ (k n : Nat) (env : Env), n < k → I n env → ∃ env', whileO c s k env = some (.nx env') ∧ D env'
  | 0, n, env, hk, _ => by omega
  | k + 1, n, env, hk, hI => by
    rcases h n env hI with ⟨e, h1, h2⟩ | ⟨e, h1, e', h2, m, hm, h3⟩
    · exact ⟨e, while_stop h1, h2⟩
    · obtain ⟨z, h4, h5⟩ := while_inv I D h k m e' (by omega) h3
      exact ⟨z, (while_go h1 h2).trans h4, h5⟩
theorem exN {α : Type} {P Q : α → Prop} {a : α} (h : P a) (k : Q a) : ∃ a, P a ∧ Q a := ⟨a, h, k⟩
theorem fuel_big {n k : Nat} (h : n < 2 ^ k) (hk : k ≤ 20000) : n < fuel := Nat.lt_of_lt_of_le h (Nat.pow_le_pow_right (by decide) hk)
end UL
set_option Elab.async false
set_option linter.all false
set_option maxRecDepth 100000
set_option maxHeartbeats 4000000
/-! draws -/
namespace UL
open PySem L2 LM
@[simp] theorem addN_ii {i j : Int} : addN (.int i) (.int j) = some (.int (i + j)) := rfl
@[simp] theorem subN_ii {i j : Int} : subN (.int i) (.int j) = some (.int (i - j)) := rfl
@[simp] theorem ltN_ii {i j : Int} : ltN (.int i) (.int j) = some (.bl (decide (i < j))) := rfl
@[simp] theorem gtN_ii {i j : Int} : gtN (.int i) (.int j) = some (.bl (decide (j < i))) := rfl
@[simp] theorem geN_ii {i j : Int} : geN (.int i) (.int j) = some (.bl (decide (j ≤ i))) := rfl
@[simp] theorem eqDU_ii {i j : Int} : eqDU (.int i) (.int j) = some (.bl (decide (i = j))) := by
  simp only [eqDU, toD, Option.bind_some]
  rw [if_pos (by rfl)]
  rfl
theorem mulN_l {i j : Int} (h : i.natAbs < 2 ^ 64) : mulN (.int i) (.int j) = some (.int (i * j)) := mulU_l h
theorem mulN_r {i j : Int} (h : j.natAbs < 2 ^ 64) : mulN (.int i) (.int j) = some (.int (i * j)) := mulU_r h
end UL
namespace UL
open PySem L2 LM
def Ex (s : MS) (env : Env) (Q : Fl → Prop) : Prop := ∃ f, s env = some f ∧ Q f
theorem Ex.seq {s t : MS} {env e : Env} {Q : Fl → Prop} (h : s env = some (.nx e)) (k : Ex t e Q) : Ex (sSeq s t) env Q := by
  obtain ⟨f, h1, h2⟩ := k
  exact ⟨f, (sSeq_nx h).trans h1, h2⟩
theorem Ex.seq' {s t : MS} {env : Env} {P : Env → Prop} {Q : Fl → Prop} (h : ∃ e, s env = some (.nx e) ∧ P e) (k : ∀ e, P e → Ex t e Q) : Ex (sSeq s t) env Q := by
  obtain ⟨e, h1, h2⟩ := h
  exact Ex.seq h1 (k e h2)
theorem Ex.fnI {n nl : Nat} {s : MS} {w : Ow} {us : List U} {P : U → Ow → Prop} (hn : us.length + 1 = n) (h : Ex s (env0 (w :: us.map .p) nl) fun f => match f with
    | .rt r e => ∃ u w', r = .p u ∧ e[0]? = some (some w') ∧ P u w'
    | .nx e => ∃ w', e[0]? = some (some w') ∧ P .non w'
    | .bk _ => False) : ∃ u w', UL.fnI n nl s w us = some (u, w') ∧ P u w' := by
  obtain ⟨f, h1, h2⟩ := h
  cases f with
  | nx e =>
    obtain ⟨w', h3, h4⟩ := h2
    exact ⟨_, w', fnI_nx hn h1 h3, h4⟩
  | rt r e =>
    obtain ⟨u, w', rfl, h3, h4⟩ := h2
    exact ⟨u, w', fnI_rt hn h1 h3, h4⟩
  | bk e => exact h2.elim
end UL
namespace UM
open PySem L2 UL LM
def StA (ca : Addr) (w : Ow) : Prop := ∃ (ns : List Int) (n l : Int) (m : Bool), w = .l [.p (.atl ca (ns.map .int)), .p (.int n), .p (.int l), .p (.bl m)] ∧ ns.length ≤ 63
def prs : List (Int × Int) := [(0, 2147483647), (1, 2147483629), (2, 2147483587), (3, 2147483579), (4, 2147483563)]
theorem prs_ok : ∀ x ∈ prs, 0 ≤ x.1 ∧ x.1 ≤ 4 ∧ 0 < x.2 ∧ x.2 ≤ 2147483647 := by decide
theorem fill_spec {cs : List String} {ca : Addr} {w : Ow} (h : StA ca w) : ∃ u w', m__law_fill cs w [] = some (u, w') ∧ StA ca w' := by
  obtain ⟨ns, n, l, m, rfl, hl⟩ := h
  unfold m__law_fill b__law_fill
  refine Ex.fnI (P := fun _ w => StA ca w) rfl ?_
  apply Ex.seq
  · simp [env0]
    rfl
  apply Ex.seq
  · simp (disch := decide) [mulN_l]
    rfl
  refine Ex.seq' (P := fun e => ∃ x, e = [some (.l [.p (.atl ca (ns.map .int)), .p (.int n), .p (.int l), .p (.bl m)]), some (.p (.atl ca (ns.map .int))), some (.p (.int n)), some (.p (.int x)), none, none, none]) ?_ ?_
  · by_cases h0 : ns = []
    · subst h0
      simp
    · have hp : 0 < ns.length := List.length_pos_iff.mpr h0
      have hm : ∃ j : Nat, n.fmod ns.length = j ∧ j < ns.length := ⟨(n.fmod ns.length).toNat, by
        have := Int.fmod_nonneg_of_pos n (b := ns.length) (by omega)
        have := Int.fmod_lt_of_pos n (b := ns.length) (by omega)
        omega⟩
      obtain ⟨j, hj, hj2⟩ := hm
      have hb : (ns.length : Int).natAbs < 2 ^ 9000 := Nat.lt_of_le_of_lt (m := 63) (by omega) (by decide)
      have h1 : (ns.map U.int)[j]? = some (.int ns[j]) := by simp [hj2]
      simp (disch := first | decide | omega | assumption) [mulN_l, fdivU_ii, intU, modU_ii, hj, hp, atI_nat' h1]
  rintro e ⟨x, rfl⟩
  apply Ex.seq
  · simp [ixN]
    rfl
  refine Ex.seq' (P := fun e => ∃ b, e = [some (.l [.p (.atl ca (ns.map .int)), .p (.int (n + 1)), .p (.int l), .p (.bl b)]), some (.p (.atl ca (ns.map .int))), some (.p (.int n)), some (.p (.int x)), none, none, none]) ?_ ?_
  · by_cases hc : (ns.length : Int) ≤ n
    · simp [ixN, hc, powU]
    · simp [ixN, hc, powU]
      omega
  rintro e ⟨b, rfl⟩
  apply Ex.seq
  · simp [ixN, powU]
    rfl
  cases b
  · refine ⟨_, by simp []; rfl, ?_⟩
    exact ⟨_, rfl, ns, _, _, _, rfl, hl⟩
  · have key : ∃ e, (sSeq (sSetV 0 (mC (.int 2)) (mC (.int 0)))
    (sFor (mEnumS (mCons (mTup (mCons (mC (.int 2147483647)) (mCons (mC (.int 2147483629)) (mCons (mC (.int 2147483587)) (mCons (mC (.int 2147483579)) (mCons (mC (.int 2147483563)) mNil)))))) mNil)) (gT 2 (gsCons (gN 4) (gsCons (gN 5) gsNil))) (sSeq (sSet 6 (mP (m2 modU (mN intU (mCons (m2 mulN (m2 addN (m2 addN (mVar 3) (m2 mulN (m2 mulN (mC (.int 10007)) (mVar 4)) (mVar 4))) (m2 mulN (mC (.int 101)) (mVar 4))) (m2 addN (mC (.int 48271)) (m2 mulN (mC (.int 2)) (mVar 4)))) mNil)) (mVar 5))))
    (sSetV 0 (mC (.int 2)) (m2 addN (m2 mulN (mIxV 0 (mC (.int 2))) (mVar 5)) (m2 modU (mN intU (mCons (m2 powU (mVar 6) (mC (.int 5))) mNil)) (mVar 5))))))) [some (.l [.p (.atl ca (ns.map .int)), .p (.int (n + 1)), .p (.int (x - 1000000000000000000)), .p (.bl true)]), some (.p (.atl ca (ns.map .int))), some (.p (.int n)), some (.p (.int x)), none, none, none] = some (.nx e) ∧ ∃ w, e[0]? = some (some w) ∧ StA ca w := by
      obtain ⟨e, h1, h2⟩ := for_inv (fun p : Int × Int => .tup [.int p.1, .int p.2]) (fun _ e => ∃ l a b c, e = [some (.l [.p (.atl ca (ns.map .int)), .p (.int (n + 1)), .p (.int l), .p (.bl true)]), some (.p (.atl ca (ns.map .int))), some (.p (.int n)), some (.p (.int x)), a, b, c])
        (g := gT 2 (gsCons (gN 4) (gsCons (gN 5) gsNil))) (s := sSeq (sSet 6 (mP (m2 modU (mN intU (mCons (m2 mulN (m2 addN (m2 addN (mVar 3) (m2 mulN (m2 mulN (mC (.int 10007)) (mVar 4)) (mVar 4))) (m2 mulN (mC (.int 101)) (mVar 4))) (m2 addN (mC (.int 48271)) (m2 mulN (mC (.int 2)) (mVar 4)))) mNil)) (mVar 5))))
    (sSetV 0 (mC (.int 2)) (m2 addN (m2 mulN (mIxV 0 (mC (.int 2))) (mVar 5)) (m2 modU (mN intU (mCons (m2 powU (mVar 6) (mC (.int 5))) mNil)) (mVar 5)))))
        (xs := prs) (k := 0) (env := [some (.l [.p (.atl ca (ns.map .int)), .p (.int (n + 1)), .p (.int 0), .p (.bl true)]), some (.p (.atl ca (ns.map .int))), some (.p (.int n)), some (.p (.int x)), none, none, none]) ⟨_, _, _, _, rfl⟩ (by
          rintro j y e hj ⟨l, a, b, c, rfl⟩
          obtain ⟨h1, h2, h3, h4⟩ := prs_ok y (List.mem_of_getElem? hj)
          obtain ⟨k, p⟩ := y
          dsimp only at h1 h2 h3 h4
          refine ⟨[some (.l [.p (.atl ca (ns.map .int)), .p (.int (n + 1)), .p (.int l), .p (.bl true)]), some (.p (.atl ca (ns.map .int))), some (.p (.int n)), some (.p (.int x)), some (.p (.int k)), some (.p (.int p)), c], by simp, ?_⟩
          have hf := Int.fmod_nonneg_of_pos ((x + 10007 * k * k + 101 * k) * (48271 + 2 * k)) (b := p) (by omega)
          have hg := Int.fmod_lt_of_pos ((x + 10007 * k * k + 101 * k) * (48271 + 2 * k)) (b := p) (by omega)
          have hpw : powU (.int (((x + 10007 * k * k + 101 * k) * (48271 + 2 * k)).fmod p)) (.int 5) = some (.int ((((x + 10007 * k * k + 101 * k) * (48271 + 2 * k)).fmod p) ^ 5)) := by
            dsimp only [powU]
            rw [if_pos ⟨by decide, by decide, by omega⟩]
            rfl
          apply exN
          · simp (disch := first | decide | omega) [mulN_r, modU_ii, intU, hpw, ixN]
            rfl
          · exact ⟨_, _, _, _, rfl⟩)
      obtain ⟨l', a, b, c, rfl⟩ := h2
      refine ⟨[some (.l [.p (.atl ca (ns.map .int)), .p (.int (n + 1)), .p (.int l'), .p (.bl true)]), some (.p (.atl ca (ns.map .int))), some (.p (.int n)), some (.p (.int x)), a, b, c], ?_, _, rfl, ns, _, _, _, rfl, hl⟩
      have e5 : enumU [.int 2147483647, .int 2147483629, .int 2147483587, .int 2147483579, .int 2147483563] = prs.map fun p : Int × Int => .tup [.int p.1, .int p.2] := by simp [enumU, prs]
      rw [sSeq_nx (e := [some (.l [.p (.atl ca (ns.map .int)), .p (.int (n + 1)), .p (.int 0), .p (.bl true)]), some (.p (.atl ca (ns.map .int))), some (.p (.int n)), some (.p (.int x)), none, none, none]) (by simp [ixN])]
      simp only [sFor_d, mEnumS, mCons_d, mTup_d, mC_d, mNil_d, Option.bind_some, seq1, e5]
      exact h1
    obtain ⟨e, h1, w, h2, h3⟩ := key
    refine ⟨.nx e, ?_, w, h2, h3⟩
    simp only [sIf_d]
    simp []
    exact h1
theorem take_spec {cs : List String} {ca : Addr} {w : Ow} (h : StA ca w) {z : Int} (h0 : 0 < z) (h1 : z.natAbs < 2 ^ 9000) : ∃ u w', m__law_take cs w [.int z] = some (u, w') ∧ ∃ d, u = .int d ∧ 0 ≤ d ∧ d < z ∧ StA ca w' := by
  unfold m__law_take b__law_take
  refine Ex.fnI (P := fun u w' => ∃ d, u = .int d ∧ 0 ≤ d ∧ d < z ∧ StA ca w') rfl ?_
  apply Ex.seq
  · simp [env0]
    rfl
  refine Ex.seq' (P := fun e => ∃ w x y, e = [some w, some (.p (.int z)), x, y] ∧ StA ca w) (while_inv (fun n e => ∃ w x, e = [some w, some (.p (.int z)), some (.p (.int x)), none] ∧ StA ca w ∧ x + (n : Int) = 64) _ ?_ fuel 64 _ (fuel_big (k := 7) (by decide) (by decide)) ⟨w, 0, rfl, h, rfl⟩) ?_
  · rintro n e ⟨w, x, rfl, hw, hx⟩
    obtain ⟨u1, w1, f1, k1⟩ := fill_spec (cs := cs) hw
    obtain ⟨ns1, n1, l1, m1, rfl, q1⟩ := k1
    obtain ⟨ns, n0, l, m, rfl, hl⟩ := id hw
    have hc : (mAnd (mTest (m2 ltN (mVar 2) (mC (.int 64)))) (mOr (mTest (m2 eqDU (mIxV 0 (mC (.int 2))) (mC (.int 0)))) (mAnd (mTest (mIxV 0 (mC (.int 3)))) (mTest (m2 ltN (mIxV 0 (mC (.int 2))) (m2 mulN (mVar 1) (mC (.int 4096)))))))) [some (.l [.p (.atl ca (ns.map .int)), .p (.int n0), .p (.int l), .p (.bl m)]), some (.p (.int z)), some (.p (.int x)), none] = some (decide (x < 64) && (decide (l = 0) || (m && decide (l < z * 4096))), [some (.l [.p (.atl ca (ns.map .int)), .p (.int n0), .p (.int l), .p (.bl m)]), some (.p (.int z)), some (.p (.int x)), none]) := by
      by_cases c1 : x < 64 <;> by_cases c2 : l = 0 <;> cases m <;> simp (disch := decide) [c1, c2, mulN_r]
    cases hb : decide (x < 64) && (decide (l = 0) || (m && decide (l < z * 4096))) with
    | false =>
      left
      rw [hb] at hc
      exact ⟨_, hc, _, _, _, rfl, hw⟩
    | true =>
      right
      rw [hb] at hc
      refine ⟨_, hc, ?_⟩
      rw [Bool.and_eq_true] at hb
      have c1 := of_decide_eq_true hb.1
      have hm : ∃ k : Int, l1.fmod 4093 = k ∧ 0 ≤ k ∧ k < 4093 := ⟨_, rfl, Int.fmod_nonneg_of_pos l1 (by decide), Int.fmod_lt_of_pos l1 (by decide)⟩
      obtain ⟨k, hk, hk0, hk1⟩ := hm
      have hs : ∃ l2, (sIf (mAnd (mTest (mIxV 0 (mC (.int 3)))) (mTest (m2 ltN (mIxV 0 (mC (.int 2))) (m2 mulN (mVar 1) (mC (.int 4096)))))) (sSetV 0 (mC (.int 2)) (m2 addN (mIxV 0 (mC (.int 2))) (m2 mulN (m2 mulN (mVar 1) (mC (.int 4096))) (m2 addN (mC (.int 1)) (m2 modU (mN intU (mCons (mIxV 0 (mC (.int 2))) mNil)) (mC (.int 4093))))))) sNext) [some (.l [.p (.atl ca (ns1.map .int)), .p (.int n1), .p (.int l1), .p (.bl m1)]), some (.p (.int z)), some (.p (.int (x + 1))), none] = some (.nx [some (.l [.p (.atl ca (ns1.map .int)), .p (.int n1), .p (.int l2), .p (.bl m1)]), some (.p (.int z)), some (.p (.int (x + 1))), none]) := by
        cases m1
        · exact ⟨l1, by simp⟩
        · by_cases c4 : l1 < z * 4096
          · refine ⟨l1 + z * 4096 * (1 + k), ?_⟩
            simp (disch := first | decide | omega) [c4, mulN_r, modU_ii, intU, hk, ixN]
          · exact ⟨l1, by simp (disch := decide) [c4, mulN_r]⟩
      obtain ⟨l2, hs⟩ := hs
      refine ⟨_, ?_, n - 1, by omega, _, x + 1, rfl, ⟨ns1, n1, l2, m1, rfl, q1⟩, ?_⟩
      · rw [sSeq_nx (e := [some (.l [.p (.atl ca (ns1.map .int)), .p (.int n1), .p (.int l1), .p (.bl m1)]), some (.p (.int z)), some (.p (.int x)), none]) (by simp [f1])]
        rw [sSeq_nx (e := [some (.l [.p (.atl ca (ns1.map .int)), .p (.int n1), .p (.int l1), .p (.bl m1)]), some (.p (.int z)), some (.p (.int (x + 1))), none]) (by simp)]
        exact hs
      · omega
  · rintro e ⟨w, x, y, rfl, hw⟩
    obtain ⟨ns, n0, l, m, rfl, hl⟩ := hw
    refine ⟨_, by simp (disch := first | assumption | omega) [intU, modU_ii, ixN, fdivU_ii]; rfl, ?_⟩
    exact ⟨_, _, rfl, rfl, _, rfl, Int.fmod_nonneg_of_pos l h0, Int.fmod_lt_of_pos l h0, ns, _, _, _, rfl, hl⟩
end UM
set_option Elab.async false
set_option linter.all false
set_option maxRecDepth 100000
set_option maxHeartbeats 4000000
/-! the law over the mirrors: errors as things -/
namespace UM
open PySem L2 UL LM
theorem one_det {cs : List String} {ca : Addr} {w : Ow} (h : StA ca w) {n : Nat} (h0 : 0 < n) (h1 : n ≤ 1000) : ∃ j w', j < n ∧ StA ca w' ∧ ∀ (us : List U) (u : U), us.length = n → us[j]? = some u → m__law_one cs w [.lst us] = some (u, w') := by
  obtain ⟨u, w', h2, d, rfl, h3, h4, h5⟩ := take_spec (cs := cs) h (z := n) (by omega) (Nat.lt_of_le_of_lt (m := 1000) (by omega) (by decide))
  obtain ⟨j, rfl⟩ : ∃ j : Nat, d = j := ⟨d.toNat, by omega⟩
  refine ⟨j, w', by omega, h5, fun us u hl hu => ?_⟩
  unfold m__law_one b__law_one
  refine fnI_rt (e := [some w', some (.p (.lst us))]) rfl ?_ rfl
  simp [env0, hl, h2, atI_nat' hu]
abbrev CS : List String := []
abbrev EV (w x2 x3 x4 x5 x6 x7 x8 x9 : Option Ow) : UL.Env := [none, w, x2, x3, x4, x5, x6, x7, x8, x9]
noncomputable def qD (p : Addr) : MS := sSet 3 (mP (mCallI 1 (m__law_one CS) (mCons (mLst (mCons (mVar 2) (mCons (m2 mulSU (mC (.str "w")) (mVar 2)) (mCons (mAtL p (mCons (mVar 2) mNil)) (mCons (mTup (mCons (mVar 2) (mCons (mLst (mCons (mVar 2) mNil)) mNil))) (mCons (mC .non) (mCons (mC (.bl true)) (mCons (mF (mDisp ["w"] (mCons (mVar 2) mNil))) mNil)))))))) mNil)))
def qA : MS := (sSet 4 (mP (mLst (mCons (mN (m__law_with_one CS) (mCons (mFrz 3) mNil)) (mCons (mN (m__law_by_place CS) (mCons (mFrz 3) mNil)) mNil)))))
def qB (p : Addr) : MS := (sIf (mTest (m1 (isiUn "list") (mFrz 3))) (sApp p 3 (mC (.str "more"))) sNext)
def qC : MS := (sSeq (sFor (mSeq (mVar 4)) (gN 5) (sIf (mNot (mTest (mN allU (mCons (mLc [9] (mSeq (mN (m__law_held CS) (mCons (mVar 5) mNil))) (gN 9) mYes (mN (m__law_same CS 5) (mCons (mVar 9) (mCons (mFrz 3) mNil)))) mNil)))) (sRet (mP (mC (.bl false)))) sNext))
    (sSeq (sSet 5 (mP (m2 addN (m2 ixU (mVar 4) (mC (.int 0))) (mLst (mCons (mC (.er "BadFrame" [] [])) (mCons (mC (.er "Unfit" [] [])) (mCons (mC (.er "HasHistory" [] [])) mNil)))))))
    (sSeq (sFor (mEnumS (mCons (mVar 5) mNil)) (gT 2 (gsCons (gN 6) (gsCons (gN 7) gsNil))) (sSeq (sIf (mOr (mNot (mTest (m1 (isEr "LevelError") (mVar 7)))) (mNot (mTest (m1 isErV (mVar 7))))) (sRet (mP (mC (.bl false)))) sNext)
    (sIf (mTest (m2 neDU (mN (m__law_classes CS) (mCons (mVar 7) mNil)) (mLc [8] (mRng1 (mCons (mN lenU (mCons (mVar 5) mNil)) mNil)) (gN 8) mYes (m2 eqDU (mVar 8) (mVar 6))))) (sRet (mP (mC (.bl false)))) sNext)))
    (sIf (mTest (m2 inU (mC (.bl true)) (mN (m__law_classes CS) (mCons (mC (.er "LevelError" [] [])) mNil)))) (sRet (mP (mC (.bl false)))) sNext))))
noncomputable def qT : MS := sOrF [] qD (fun p => sSeq qA (sSeq (qB p) qC))
theorem b_law_q : b_law CS = sSeq (sFor (mRng1 (mCons (mC (.int 4)) mNil)) (gN 2) qT) (sRet (mP (m1 isErV (mC (.er "LevelError" [] []))))) := rfl
def errs (x : U) : List U := [.er "BadPart" ["part"] [x], .er "BadText" ["line"] [x], .er "BadLevel" ["index"] [x], .er "BadFact" ["index"] [x], .er "BadPlace" ["index"] [x], .er "BadPoint" ["index"] [x], .er "BadMoment" ["moment"] [x], .er "BadLine" ["line"] [x], .er "UnknownLevel" ["name"] [x], .er "BadHeight" ["height"] [x]]
def ones (x : U) : U := .lst [.lst (errs x), .lst (errs x)]
def made (x : U) : U := .lst (errs x ++ [.er "BadFrame" [] [], .er "Unfit" [] [], .er "HasHistory" [] []])
def thX (x : U) (t : Int) : List U := [.int t, .str (repS t "w"), x, .tup [.int t, .lst [.int t]], .non, .bl true, .dic ["w"] [.int t]]
def xA (p : Addr) (t : Int) : U := .atl p [.int t]
def xB (t : Int) : U := .lst [.int t, .str "more"]
section
variable {w x2 x3 x4 x5 x6 x7 x8 x9 : Option Ow} {x : U} {w0 w1 : Ow} {p : Addr} {t : Int}
theorem qA_eq : qA (EV w x2 (some (.p x)) x4 x5 x6 x7 x8 x9) = some (.nx (EV w x2 (some (.p x)) (some (.p (ones x))) x5 x6 x7 x8 x9)) := by kernel_rfl
def outC (w x2 : Option Ow) (x : U) : Option Fl := some (.nx (EV w x2 (some (.p x)) (some (.p (ones x))) (some (.p (made x))) (some (.p (.int 12))) (some (.p (.er "HasHistory" [] []))) none none))
def goC (w x2 x5 x6 x7 : Option Ow) (x : U) : Option Fl := qC (EV w x2 (some (.p x)) (some (.p (ones x))) x5 x6 x7 none none)
theorem qC_eq0 : (thX (xB 0) 0).map (goC w x2 x5 x6 x7) = (thX (xB 0) 0).map (outC w x2) := by kernel_rfl
theorem qC_eq1 : (thX (xB 1) 1).map (goC w x2 x5 x6 x7) = (thX (xB 1) 1).map (outC w x2) := by kernel_rfl
theorem qC_eq2 : (thX (xB 2) 2).map (goC w x2 x5 x6 x7) = (thX (xB 2) 2).map (outC w x2) := by kernel_rfl
theorem qC_eq3 : (thX (xB 3) 3).map (goC w x2 x5 x6 x7) = (thX (xB 3) 3).map (outC w x2) := by kernel_rfl
theorem mp {α β : Type} {l : List α} {f g : α → β} (h : l.map f = l.map g) {x : α} (hx : x ∈ l) : f x = g x := List.map_inj_left.mp h x hx
def up (p : Addr) (s : Int) (x : U) : Option U := updU p [.int s] [.int s, .str "more"] (made x)
theorem up_01 : ∀ (p : Addr), (thX (xB 0) 0).map (up p 1) = (thX (xB 0) 0).map fun x => some (made x) := fun p => by kernel_rfl
theorem up_02 : ∀ (p : Addr), (thX (xB 0) 0).map (up p 2) = (thX (xB 0) 0).map fun x => some (made x) := fun p => by kernel_rfl
theorem up_03 : ∀ (p : Addr), (thX (xB 0) 0).map (up p 3) = (thX (xB 0) 0).map fun x => some (made x) := fun p => by kernel_rfl
theorem up_12 : ∀ (p : Addr), (thX (xB 1) 1).map (up p 2) = (thX (xB 1) 1).map fun x => some (made x) := fun p => by kernel_rfl
theorem up_13 : ∀ (p : Addr), (thX (xB 1) 1).map (up p 3) = (thX (xB 1) 1).map fun x => some (made x) := fun p => by kernel_rfl
theorem up_23 : ∀ (p : Addr), (thX (xB 2) 2).map (up p 3) = (thX (xB 2) 2).map fun x => some (made x) := fun p => by kernel_rfl
theorem ins {P : Int → Prop} {t : Int} (h0 : 0 ≤ t) (h1 : t < 4) (a : P 0) (b : P 1) (c : P 2) (d : P 3) : P t := by
  have : t = 0 ∨ t = 1 ∨ t = 2 ∨ t = 3 := by omega
  rcases this with rfl | rfl | rfl | rfl <;> assumption
theorem qC_eq (h0 : 0 ≤ t) (h1 : t < 4) (hx : x ∈ thX (xB t) t) : goC w x2 x5 x6 x7 x = outC w x2 x := by
  revert hx
  exact ins (P := fun t => x ∈ thX (xB t) t → goC w x2 x5 x6 x7 x = outC w x2 x) h0 h1 (mp qC_eq0) (mp qC_eq1) (mp qC_eq2) (mp qC_eq3)
theorem up_eq {s : Int} (h0 : 0 ≤ t) (h1 : t < s) (h2 : s < 4) (hx : x ∈ thX (xB t) t) : updU p [.int s] [.int s, .str "more"] (made x) = some (made x) := by
  have : (t = 0 ∧ s = 1) ∨ (t = 0 ∧ s = 2) ∨ (t = 0 ∧ s = 3) ∨ (t = 1 ∧ s = 2) ∨ (t = 1 ∧ s = 3) ∨ (t = 2 ∧ s = 3) := by omega
  rcases this with ⟨rfl, rfl⟩ | ⟨rfl, rfl⟩ | ⟨rfl, rfl⟩ | ⟨rfl, rfl⟩ | ⟨rfl, rfl⟩ | ⟨rfl, rfl⟩
  · exact mp (up_01 p) hx
  · exact mp (up_02 p) hx
  · exact mp (up_03 p) hx
  · exact mp (up_12 p) hx
  · exact mp (up_13 p) hx
  · exact mp (up_23 p) hx
theorem mul_w (h0 : 0 ≤ t) (h1 : t < 4) : mulSU (.str "w") (.int t) = some (.str (repS t "w")) :=
  ins (P := fun t => mulSU (.str "w") (.int t) = some (.str (repS t "w"))) h0 h1 (by kernel_rfl) (by kernel_rfl) (by kernel_rfl) (by kernel_rfl)
theorem qD_eq {j : Nat} {u : U} (h0 : 0 ≤ t) (h1 : t < 4) (h : ∀ (us : List U) (u : U), us.length = 7 → us[j]? = some u → m__law_one CS w0 [.lst us] = some (u, w1)) (hu : (thX (xA p t) t)[j]? = some u) :
    qD p (EV (some w0) (some (.p (.int t))) x3 x4 x5 x6 x7 none none) = some (.nx (EV (some w1) (some (.p (.int t))) (some (.p u)) x4 x5 x6 x7 none none)) := by
  have a := h (thX (xA p t) t) u rfl hu
  unfold thX xA at a
  have m := mul_w h0 h1
  simp [qD, mAtL, m, mDisp, a, mF, frz, frzs]
theorem qB_no {z : Str} : ∀ p, ([.int t, .str z, .tup [.int t, .lst [.int t]], .non, .bl true, .dic ["w"] [.int t]] : List U).map (fun u => qB p (EV w x2 (some (.p u)) x4 x5 x6 x7 x8 x9)) = ([.int t, .str z, .tup [.int t, .lst [.int t]], .non, .bl true, .dic ["w"] [.int t]] : List U).map fun u => some (.nx (EV w x2 (some (.p u)) x4 x5 x6 x7 x8 x9)) := fun p => by kernel_rfl
theorem upW {ca : Addr} (st : StA ca w0) (hp : ca ≠ p) {us0 us1 : List U} : updO p us0 us1 w0 = some w0 := by
  obtain ⟨ns, i, k, z, rfl, _⟩ := st
  have e2 : ∀ ns : List Int, updUs p us0 us1 (ns.map .int) = some (ns.map .int) := by
    intro ns
    induction ns with
    | nil => rfl
    | cons n ns ih => simp [updUs, updU, ih]
  simp [updO, updOs, updU, hp, e2]
theorem sApp_d {i : Nat} {m : M U} {env e1 : UL.Env} {a : Addr} {us : List U} {y : U} (h : env[i]? = some (some (.p (.atl a us)))) (hm : m env = some (y, e1)) : sApp p i m env = if a = p ∧ us.all atm = true ∧ atm y = true ∧ us.length < sizeLine then (updE p us (us ++ [y]) env).map .nx else none := by
  unfold sApp
  rw [h]
  dsimp only
  rw [hm]
  rfl
theorem qB_yes {ca : Addr} (st : StA ca w0) (hp : ca ≠ p) (hx : updE p [.int t] [.int t, .str "more"] [x5, x6, x7] = some [x5, x6, x7]) :
    qB p (EV (some w0) (some (.p (.int t))) (some (.p (xA p t))) (some (.p (ones (xA p t)))) x5 x6 x7 none none) = some (.nx (EV (some w0) (some (.p (.int t))) (some (.p (xB t))) (some (.p (ones (xB t)))) x5 x6 x7 none none)) := by
  have hw := upW (us0 := [.int t]) (us1 := [.int t, .str "more"]) st hp
  have c : mTest (m1 (isiUn "list") (mFrz 3)) (EV (some w0) (some (.p (.int t))) (some (.p (xA p t))) (some (.p (ones (xA p t)))) x5 x6 x7 none none) = some (true, EV (some w0) (some (.p (.int t))) (some (.p (xA p t))) (some (.p (ones (xA p t)))) x5 x6 x7 none none) := by kernel_rfl
  have e5 : ∀ {e r : UL.Env}, updE p [.int t] [.int t, .str "more"] e = some r → updE p [.int t] [.int t, .str "more"] (e ++ [none, none]) = some (r ++ [none, none]) := by
    intro e
    induction e with
    | nil => intro r h; cases h; rfl
    | cons a e ih =>
      intro r h
      cases a with
      | none =>
        obtain ⟨r', h1, rfl⟩ := mapS h
        show (updE _ _ _ (e ++ _)).map _ = _
        rw [ih h1]
        rfl
      | some a =>
        obtain ⟨z, h1, h⟩ := bindS h
        obtain ⟨r', h2, h⟩ := bindS h
        cases h
        show (updO _ _ _ a).bind _ = _
        rw [h1, Option.bind_some]
        show (updE _ _ _ (e ++ _)).bind _ = _
        rw [ih h2]
        rfl
  have e6 := e5 hx
  have eo : updU p [.int t] [.int t, .str "more"] (ones (xA p t)) = some (ones (xB t)) := by
    simp [ones, errs, xA, xB, updU, updUs, eqA]
  have ex : updU p [.int t] [.int t, .str "more"] (xA p t) = some (xB t) := by
    simp [xA, xB, updU, updUs, eqA]
  have ee : updE p [.int t] [.int t, .str "more"] (EV (some w0) (some (.p (.int t))) (some (.p (xA p t))) (some (.p (ones (xA p t)))) x5 x6 x7 none none) = some (EV (some w0) (some (.p (.int t))) (some (.p (xB t))) (some (.p (ones (xB t)))) x5 x6 x7 none none) := by
    show Option.map _ _ = _
    simp only [updE, updO, hw, eo, ex, updU, Option.bind_some, Option.map_some]
    simp only [List.cons_append, List.nil_append, updE] at e6
    rw [e6]
    rfl
  unfold qB
  rw [sIf_d, c]
  simp only [Option.bind_some, if_true]
  rw [sApp_d (us := [.int t]) (a := p) rfl (mC_d), if_pos ⟨rfl, rfl, rfl, (by show 1 < sizeLine; decide)⟩]
  show Option.map _ (updE p [.int t] [.int t, .str "more"] _) = _
  rw [ee]
  rfl
end
end UM
set_option Elab.async false
set_option linter.all false
set_option maxRecDepth 100000
set_option maxHeartbeats 4000000
namespace UM
open PySem L2 UL LM
section
variable {w x2 x3 x4 x5 x6 x7 x8 x9 : Option Ow} {x : U} {w0 w1 : Ow} {p : Addr} {t : Int}
theorem turn {ca : Addr} (st : StA ca w0) (h0 : 0 ≤ t) (h1 : t < 4) (hx : ∀ p, updE p [.int t] [.int t, .str "more"] [x5, x6, x7] = some [x5, x6, x7]) :
    ∃ w' x, StA ca w' ∧ x ∈ thX (xB t) t ∧ qT (EV (some w0) (some (.p (.int t))) x3 x4 x5 x6 x7 none none) = outC (some w') (some (.p (.int t))) x := by
  obtain ⟨j, w', hj, st', hd⟩ := one_det (cs := CS) st (n := 7) (by decide) (by decide)
  have hu : ∀ p, ∃ u, (thX (xA p t) t)[j]? = some u := fun p => ⟨_, List.getElem?_eq_getElem (l := thX (xA p t) t) hj⟩
  obtain ⟨x, hxx⟩ : ∃ x, (thX (xB t) t)[j]? = some x := ⟨_, List.getElem?_eq_getElem (l := thX (xB t) t) hj⟩
  refine ⟨w', x, st', List.mem_of_getElem? hxx, ?_⟩
  obtain ⟨f, hf⟩ : ∃ f : Fl, outC (some w') (some (.p (.int t))) x = some f := ⟨_, rfl⟩
  rw [hf]
  refine sOrF_eq (fun p => ?_) fun p hp => ?_
  · obtain ⟨u, hu⟩ := hu p
    rw [qD_eq h0 h1 hd hu]
    rfl
  obtain ⟨u, hu⟩ := hu p
  have hc : ca ≠ p := by
    rintro rfl
    apply hp
    obtain ⟨ns, i, k, z, rfl, _⟩ := st
    simp [aaE, aaO, aaOs, aaU]
  rw [sSeq_nx (qD_eq h0 h1 hd hu), sSeq_nx qA_eq]
  have hb : qB p (EV (some w') (some (.p (.int t))) (some (.p u)) (some (.p (ones u))) x5 x6 x7 none none) = some (.nx (EV (some w') (some (.p (.int t))) (some (.p x)) (some (.p (ones x))) x5 x6 x7 none none)) := by
    by_cases h2 : j = 2
    · subst h2
      cases hu
      cases hxx
      exact qB_yes st' hc (hx p)
    · have e : u = x := by
        have : j = 0 ∨ j = 1 ∨ j = 3 ∨ j = 4 ∨ j = 5 ∨ j = 6 := by omega
        rcases this with rfl | rfl | rfl | rfl | rfl | rfl <;> cases hu <;> cases hxx <;> rfl
      subst e
      refine mp (qB_no (t := t) (z := repS t "w") p) ?_
      have : j = 0 ∨ j = 1 ∨ j = 3 ∨ j = 4 ∨ j = 5 ∨ j = 6 := by omega
      rcases this with rfl | rfl | rfl | rfl | rfl | rfl <;> cases hu <;> simp
  rw [sSeq_nx hb]
  show (goC (some w') (some (.p (.int t))) x5 x6 x7 x).map (dropFl []) = _
  rw [qC_eq h0 h1 (List.mem_of_getElem? hxx), hf]
  cases f <;> rfl
end
theorem law_true (c : Addr) (ns : List Int) (hl : ns.length ≤ 63) : ∃ e, b_law CS ((none :: List.replicate 9 none).set 1 (some (LW.st0 c ns))) = some (.rt (.p (.bl true)) e) := by
  have key := for_inv (fun k : Nat => .int (k : Nat)) (fun k e => ∃ w x2 x3 x4 x5 x6 x7, e = EV (some w) x2 x3 x4 x5 x6 x7 none none ∧ StA c w ∧ ∀ (s : Int), (k : Int) ≤ s → s < 4 → ∀ p, updE p [.int s] [.int s, .str "more"] [x5, x6, x7] = some [x5, x6, x7]) (xs := List.range 4) (k := 0) (g := gN 2) (s := qT) (env := EV (some (LW.st0 c ns)) none none none none none none none none) ⟨LW.st0 c ns, none, none, none, none, none, none, rfl, ⟨ns, 0, 0, false, rfl, hl⟩, fun _ _ _ _ => rfl⟩ (by
    rintro j k e hj ⟨w, x2, x3, x4, x5, x6, x7, rfl, hw, hs⟩
    obtain ⟨hj4, rfl⟩ : j < 4 ∧ k = j := by
      obtain ⟨h, e⟩ := List.getElem?_eq_some_iff.mp hj
      simp at h e
      exact ⟨h, e.symm⟩
    obtain ⟨w', x, st', hx, h⟩ := turn (x3 := x3) (x4 := x4) hw (t := (k : Int)) (by omega) (by omega) (hs k (by omega) (by omega))
    refine ⟨EV (some w) (some (.p (.int k))) x3 x4 x5 x6 x7 none none, by simp, _, h, w', _, _, _, _, _, _, rfl, st', fun s h1 h2 p => ?_⟩
    have u1 := up_eq (p := p) (s := s) (by omega : (0 : Int) ≤ k) (by omega) h2 hx
    simp only [updE, updO, u1, updU, updUs, Option.map_some, Option.bind_some])
  obtain ⟨e, h1, w, x2, x3, x4, x5, x6, x7, rfl, _⟩ := key
  refine ⟨EV (some w) x2 x3 x4 x5 x6 x7 none none, ?_⟩
  rw [b_law_q]
  show sSeq _ _ (EV (some (LW.st0 c ns)) none none none none none none none none) = _
  rw [sSeq_nx (e := EV (some w) x2 x3 x4 x5 x6 x7 none none)]
  · kernel_rfl
  · have r : mRng1 (mCons (mC (.int 4)) mNil) (EV (some (LW.st0 c ns)) none none none none none none none none) = some ((List.range 4).map fun k : Nat => U.int (k : Nat), EV (some (LW.st0 c ns)) none none none none none none none none) := by kernel_rfl
    rw [sFor_d, r, Option.bind_some]
    exact h1
end UM
namespace LW
open PySem L2 UL LM UM
theorem law_true (c : Addr) (ns : List Int) (hl : ns.length ≤ 63) : ∃ e, b_law [] ((none :: List.replicate 9 none).set 1 (some (LW.st0 c ns))) = some (.rt (.p (.bl true)) e) := UM.law_true c ns hl
end LW
set_option Elab.async false
set_option linter.all false
set_option maxRecDepth 100000
set_option maxHeartbeats 4000000
/-! what the head looks at: the errors' classes, tables -/
namespace LW
open PySem PySem.Spec PyProof.Rows L2 LV LM UL
open PySem.W (Frag findIn typeIn subIn nsIn keepIn hasDictIn mroIn kitOne exmOne specialIn takesIn excIn codeIn)
def eksL : List Ek := [.part, .text, .level, .fact, .place, .point, .moment, .line, .unknown, .height, .frame, .unfit, .history]
theorem eks_all (k : Ek) : k ∈ eksL := by cases k <;> decide
/-- the class's object -/
def clsE (K : Frag) (C : Addr) : Bool := match K.lookup C with
  | some ⟨.type t, _, .cls cd, sl⟩ => (match cd.mro, sl.toList with
    | .ref C' :: bm, [_, _, _, _, some (.builtin n), _] => ((decide (t = "type") && decide (C' = C)) && (decide (n = "ValueError.__new__") && !cd.hasDel)) && (PySem.HandSPX.refsVE bm && cd.hasDict)
    | _, _ => false)
  | _ => false
theorem clsE_ok {K : Frag} {C : Addr} (h : clsE K C = true) : ∃ nm qn N bs bm sn sub ab col dd k0 k1 k2 k3 k5, K.lookup C = some (excClassObj nm qn C N bs bm true sn sub ab col dd k0 k1 k2 k3 k5 "ValueError.__new__") ∧ PySem.HandSPX.refsVE bm = true := by
  unfold clsE at h
  split at h
  case h_2 => cases h
  rename_i t dd cd sl ho
  split at h
  case h_2 => cases h
  rename_i C' bm k0 k1 k2 k3 n k5 hm hs
  simp only [Bool.and_eq_true, decide_eq_true_eq, Bool.not_eq_true'] at h
  obtain ⟨⟨⟨rfl, rfl⟩, rfl, hdel⟩, hr, hd⟩ := h
  obtain ⟨nm, bs, mro, ns, qn, hdc, sn, sub, ab, col, del⟩ := cd
  dsimp only at hm hdel hd
  subst hm hdel hd
  obtain ⟨l⟩ := sl
  dsimp only at hs
  subst hs
  exact ⟨nm, qn, ns, bs, bm, sn, sub, ab, col, dd, k0, k1, k2, k3, k5, ho, hr⟩
/-- the __init__'s object, but for its text -/
def fnE (K : Frag) (C fI : Addr) (q file : Str) : Bool := match K.lookup fI with
  | some ⟨_, _, .func fd, _⟩ => (match fd.code, fd.closure, fd.defaults, fd.kwdefaults with
    | .ref cda, [(_, cc)], .none, .none => (codeIn K (.ref cda) q && (match K.lookup cda with
        | some ⟨_, _, .fields vs, _⟩ => (match (vs[2]? : Option Value) with
          | some (Value.str fl _) => (file == fl)
          | _ => false)
        | _ => false)) && (match K.lookup cc with
        | some ⟨_, _, .cell (some (.ref C')), _⟩ => decide (C' = C)
        | _ => false)
    | _, _, _, _ => false)
  | _ => false
/-- its text -/
abbrev ObE : Type := Option (Str × Str × Arguments × FuncBody × Scope × Addr × List Str × Addr)
def obsE (K : Frag) (fI : Addr) : ObE := match K.lookup fI with
  | some ⟨_, _, .func fd, _⟩ => some (fd.name, fd.qualname, fd.params, fd.body, fd.scope, fd.globals, fd.closure.map (·.1), fd.builtins)
  | _ => none
theorem fnE_ok {K : Frag} {C fI : Addr} {q file : Str} {pa : Arguments} {bo : List Stmt} {sc : Scope} (h : fnE K C fI q file = true) (ho : obsE K fI = (some (("__init__" : Str), q, pa, FuncBody.stmts bo, sc, mainGlobals, [("__class__" : Str)], builtinsNs) : ObE)) :
    ∃ (oc : Value) (od : Option Addr) (doc pm : Value) (an : Option Addr) (cda cc : Addr) (ct : Value) (osl : Array (Option Value)), K.lookup fI = some ⟨oc, od, .func (PySem.W.ksFn "__init__" q pa bo sc .none .none doc pm an (.ref cda) ct cc), osl⟩ ∧ codeIn K (.ref cda) q = true ∧
      (∃ (vs : Array Value) (fl : Str) (tf : Tok) (ccl : Value) (cdd : Option Addr) (ccs : Array (Option Value)), K.lookup cda = some ⟨ccl, cdd, .fields vs, ccs⟩ ∧ vs[2]? = some (.str fl tf) ∧ (file == fl) = true) ∧ ∃ (cl : Value) (cld : Option Addr) (csl : Array (Option Value)), K.lookup cc = some ⟨cl, cld, .cell (some (.ref C)), csl⟩ := by
  unfold fnE at h
  unfold obsE at ho
  split at h
  case h_2 => cases h
  rename_i oc od fd osl hl
  rw [hl] at ho
  dsimp only at ho
  split at h
  case h_2 => cases h
  rename_i cda nm cc h1 h2 h3 h4
  rw [Bool.and_eq_true, Bool.and_eq_true] at h
  obtain ⟨⟨c1, c2⟩, c3⟩ := h
  obtain ⟨fname, fqual, fpar, fbody, fscope, fglob, fclo, fdef, fkw, fdoc, fpm, fan, fcode, fct, fbl⟩ := fd
  dsimp only at h1 h2 h3 h4 ho
  subst h1 h2 h3 h4
  injection ho with ho
  simp only [Prod.mk.injEq, List.map_cons, List.map_nil, List.cons.injEq, and_true] at ho
  obtain ⟨rfl, rfl, rfl, rfl, rfl, rfl, rfl, rfl⟩ := ho
  refine ⟨oc, od, fdoc, fpm, fan, cda, cc, fct, osl, hl, c1, ?_, ?_⟩
  · split at c2
    case h_2 => cases c2
    rename_i a1 a2 vs a3 hk
    split at c2
    case h_2 => cases c2
    rename_i fl tf hv
    exact ⟨vs, fl, tf, _, _, _, hk, hv, c2⟩
  · split at c3
    case h_2 => cases c3
    rename_i a1 a2 C' a3 hk
    have := of_decide_eq_true c3
    subst this
    exact ⟨_, _, _, hk⟩
abbrev fIE (K : Frag) (k : Ek) : Addr := He.fAd K (Str.ofString k.c, some "__init__")
abbrev CE (K : Frag) (k : Ek) : Addr := He.ga K (Str.ofString k.c)
/-- a class with a field -/
def levB (K : Frag) (k : Ek) (f : String) (file : Str) : Bool :=
  (clsE K (CE K k) && (decide (findIn K (.ref (CE K k)) "__setattr__" = some (some (.builtin "object.__setattr__"))) && decide (findIn K (.ref (CE K k)) "__init__" = some (some (.ref (fIE K k)))))) &&
  ((decide (typeIn K (.ref (fIE K k)) = some (.type "function")) && decide (subIn K (.ref (CE K k)) (.type "ValueError") = some true)) &&
  ((decide (PySem.W.ks_superIn K (CE K k) (CE K k) "__init__" = some (some (.builtin "ValueError.__init__"))) && decide (nsIn K cStatics "thirdparty.any" = some none)) &&
  ((decide (mroIn K (CE K k) (.ref (CE K k)) = some true) && decide (findIn K (.ref (CE K k)) (Str.ofString f) = some none)) && fnE K (CE K k) (fIE K k) (Str.ofString (k.c ++ ".__init__")) file)))
/-- what all of them have -/
def anyB (K : Frag) (k : Ek) : Bool :=
  ((decide (findIn K (.ref (CE K k)) "__getattribute__" = some (some (.builtin "BaseException.__getattribute__"))) && decide (findIn K (.ref (CE K k)) "__getattr__" = some none)) &&
  (decide (subIn K (.ref (CE K k)) (.type "BaseException") = some true) && hasDictIn K (CE K k))) &&
  ((decide (findIn K (.ref (CE K k)) "__class__" = some (some (.builtin "object.__class__"))) && decide (mroIn K (CE K k) (.type "object") = some true)) &&
  ((keepIn K (.ref (CE K k)) && decide (typeIn K (.ref (CE K k)) = some (.type "type"))) && (decide (nsIn K mainGlobals (Str.ofString k.c) = some (some (.ref (CE K k)))) && decide (exmOne K (.ref (CE K k)) (.ref (He.ga K "LevelError")) = some true))))
def errB (K : Frag) (file : Str) : Bool :=
  (eksL.all fun k => anyB K k && (match k.f with
    | some f => levB K k f file
    | none => excIn K (CE K k) [.type "ValueError", .type "Exception", .type "BaseException", .type "object"] "ValueError.__new__")) &&
  ((eksL.all fun k => eksL.all fun k' => decide (kitOne K (.ref (CE K k)) (.ref (CE K k')) = some (decide (k = k')))) &&
  ((decide (specialIn K (.builtin "object.__class__") "__get__" = some (some (.builtin "getset_descriptor.__get__"))) && decide (takesIn K (.builtin "object.__class__") = some true)) && decide (nsIn K mainGlobals "LevelError" = some (some (.ref (He.ga K "LevelError"))))))
/-- the texts of the __init__s -/
def obsEs (K : Frag) : List ObE := [Ek.part, .text, .level, .fact, .place, .point, .moment, .line, .unknown, .height].map fun k => obsE K (fIE K k)
section
variable {P : Program} {K : Frag} {mg : Str → Option Value} {h : Heap}
theorem mg_at (X : K.In h) (G : h.Ns mainGlobals mg) {x : Str} {v : Value} (e : nsIn K mainGlobals x = some (some v)) : mg x = some v := PySem.W.mg_of X G e
theorem errT_of (X : K.In h) (G : h.Ns mainGlobals mg) (hB : errB K P.main.file = true) (hs : mg "super" = none) (ht : (P.main.scope.names.lookup ("super" : Str)).isSome = false)
    (hO : ∀ (k : Ek) (f : String), k.f = some f → ∃ (p1 p2 a1 a2 a3 a4 a5 a6 q1 q2 q3 q4 : Pos), obsE K (fIE K k) = (some (("__init__" : Str), Str.ofString (k.c ++ ".__init__"), PySem.LevX.iA (Str.ofString f) p1 p2, FuncBody.stmts (PySem.LevX.iB (Str.ofString f) a1 a2 a3 a4 a5 a6 q1 q2 q3 q4), PySem.LevX.iS (Str.ofString f), mainGlobals, [("__class__" : Str)], builtinsNs) : ObE) ∧ a3.endLine = a5.line)
    (κ : String → Addr) (hκ : ∀ k : Ek, κ k.c = CE K k) (hκL : κ "LevelError" = He.ga K "LevelError") : ErrT P K mg κ := by
  unfold errB at hB
  rw [Bool.and_eq_true, Bool.and_eq_true, Bool.and_eq_true, Bool.and_eq_true, List.all_eq_true, List.all_eq_true] at hB
  obtain ⟨h1, h2, ⟨h3, h4⟩, h5⟩ := hB
  have h3 := of_decide_eq_true h3
  have h4 := of_decide_eq_true h4
  have h5 := of_decide_eq_true h5
  have any : ∀ k : Ek, anyB K k = true := fun k => (Bool.and_eq_true _ _ ▸ h1 k (eks_all k)).1
  have rest := fun k : Ek => (Bool.and_eq_true _ _ ▸ h1 k (eks_all k)).2
  have A : ∀ k : Ek, findIn K (.ref (CE K k)) "__getattribute__" = some (some (.builtin "BaseException.__getattribute__")) ∧ findIn K (.ref (CE K k)) "__getattr__" = some none ∧ subIn K (.ref (CE K k)) (.type "BaseException") = some true ∧ hasDictIn K (CE K k) = true ∧
      findIn K (.ref (CE K k)) "__class__" = some (some (.builtin "object.__class__")) ∧ mroIn K (CE K k) (.type "object") = some true ∧ keepIn K (.ref (CE K k)) = true ∧ typeIn K (.ref (CE K k)) = some (.type "type") ∧ nsIn K mainGlobals (Str.ofString k.c) = some (some (.ref (CE K k))) ∧ exmOne K (.ref (CE K k)) (.ref (He.ga K "LevelError")) = some true := fun k => by
    have a := any k
    unfold anyB at a
    simp only [Bool.and_eq_true, decide_eq_true_eq] at a
    obtain ⟨⟨⟨b1, b2⟩, b3, b4⟩, ⟨b5, b6⟩, ⟨b7, b8⟩, b9, b10⟩ := a
    exact ⟨b1, b2, b3, b4, b5, b6, b7, b8, b9, b10⟩
  have LV : ∀ (k : Ek) (f : String), k.f = some f → levB K k f P.main.file = true := fun k f hf => by
    have q := rest k
    rw [hf] at q
    exact q
  constructor
  · intro k
    rw [hκ]
    exact mg_at X G (A k).2.2.2.2.2.2.2.2.1
  · intro k f hf
    obtain ⟨b1, b2, b3, b4, b5, b6, b7, b8, b9, b10⟩ := A k
    have l := LV k f hf
    unfold levB at l
    simp only [Bool.and_eq_true, decide_eq_true_eq] at l
    obtain ⟨⟨l1, l2, l3⟩, ⟨l4, l5⟩, ⟨l6, l7⟩, ⟨l8, l9⟩, l10⟩ := l
    obtain ⟨p1, p2, a1, a2, a3, a4, a5, a6, q1, q2, q3, q4, ho, hp⟩ := hO k f hf
    obtain ⟨oc, od, doc, pm, an, cda, cc, ct, osl, e1, e2, e3, e4⟩ := fnE_ok l10 ho
    rw [hκ]
    exact ⟨_, _, mg_at X G b9, clsE_ok l1, l2, b1, b2, l9, l3, l4, b7, b3, l5, b8, b4, l6, l7, l8, hs, ht, oc, od, doc, pm, an, cda, cc, ct, osl, p1, p2, a1, a2, a3, a4, a5, a6, q1, q2, q3, q4, e1, e2, e3, hp, e4⟩
  · intro k hf
    obtain ⟨b1, b2, b3, b4, b5, b6, b7, b8, b9, b10⟩ := A k
    have q := rest k
    rw [hf] at q
    rw [hκ]
    exact ⟨_, _, _, _, PySem.F.excBase_ValueError, q, b7, b3, b8⟩
  · intro k k'
    rw [hκ, hκ]
    exact of_decide_eq_true (List.all_eq_true.mp (h2 k (eks_all k)) k' (eks_all k'))
  · intro k
    obtain ⟨b1, b2, b3, b4, b5, b6, b7, b8, b9, b10⟩ := A k
    rw [hκ]
    exact ⟨b1, b2, b3, b4, b5, h3, h4, b6⟩
  · intro k
    obtain ⟨b1, b2, b3, b4, b5, b6, b7, b8, b9, b10⟩ := A k
    rw [hκ]
    exact ⟨b1, b2, b3, b4⟩
  · intro k f hf
    have l := LV k f hf
    unfold levB at l
    simp only [Bool.and_eq_true, decide_eq_true_eq] at l
    rw [hκ]
    exact l.2.2.2.1.2
  · rw [hκL]
    exact mg_at X G h5
  · intro k
    rw [hκ, hκL]
    exact (A k).2.2.2.2.2.2.2.2.2
end
end LW
set_option Elab.async false
set_option linter.all false
set_option maxRecDepth 100000
set_option maxHeartbeats 4000000
/-! the head's look with tables and the errors' texts -/
noncomputable section
namespace LW
open PySem PySem.Spec PyProof.Rows L2 LV LM UL
/-- what is followed: as before, and closures and cells -/
def refsZ (o : Obj) : List Addr := match o.data with
  | .dict es _ => es.toList.flatMap fun e => He.refV e.val
  | .func fd => (He.refV fd.code ++ He.refV fd.defaults) ++ fd.closure.map (·.2)
  | .cls cd => cd.ns :: cd.mro.flatMap He.refV
  | .seq its _ => its.toList.flatMap He.refV
  | .cell (some v) => He.refV v
  | _ => []
def outZ (g : Addr → Option Obj) (as : List Addr) : List Addr := as.flatMap fun a => match g a with
  | some o => refsZ o
  | none => []
def walkZ (g : Addr → Option Obj) (n : Nat) : Nat → List Addr → List Addr → List Addr :=
  Nat.rec (motive := fun _ => Nat → List Addr → List Addr → List Addr) (fun _ _ all => all) (fun _ ih m front all => pickB (outZ g front) m [] fun m' new => ih m' new (all ++ new)) n
def asZ (n : Nat) (g : Addr → Option Obj) : List Addr := walkZ g n (Nat.lor 9 (Nat.shiftLeft 1 cStatics)) [mainGlobals] [mainGlobals, cStatics]
abbrev KZ (n : Nat) (g : Addr → Option Obj) : PySem.W.Frag := He.frT g (asZ n g)
abbrev AlZ : Type := He.AlX × List ObE
def obsZ (n : Nat) (fa : List He.Fa) (fn : List He.DefD) (tf : List He.Defn) (ex : PySem.W.Frag → Bool) (g : Addr → Option Obj) : AlZ := ((He.obsT fa fn [] (KZ n g), ex (KZ n g) && He.tabsB g tf (KZ n g)), obsEs (KZ n g))
structure SaysZ (fa : List He.Fa) (fn : List He.DefD) (tf : List He.Defn) (ex : PySem.W.Frag → Bool) (oe : List ObE) (w : World) (h : Heap) (K : PySem.W.Frag) : Prop where
  x : He.SaysX fa fn [] tf ex w h K
  o : obsEs K = oe
theorem saysZ_of {n : Nat} {fa : List He.Fa} {fn : List He.DefD} {tf : List He.Defn} {ex : PySem.W.Frag → Bool} {oe : List ObE} {w : World} {h : Heap} (e : obsZ n fa fn tf ex h.get? = (He.valX fn [] w, oe)) : SaysZ fa fn tf ex oe w h (KZ n h.get?) := by
  have e1 := congrArg (fun z : AlZ => z.1.1) e
  have e2 : (ex (KZ n h.get?) && He.tabsB h.get? tf (KZ n h.get?)) = true := congrArg (fun z : AlZ => z.1.2) e
  have e3 := congrArg (fun z : AlZ => z.2) e
  rw [Bool.and_eq_true] at e2
  have tab : ∀ p ∈ tf, PySem.W.codeHdIn (KZ n h.get?) (He.cT (KZ n h.get?) p).1 (He.cT (KZ n h.get?) p).2 = true ∧ ∃ o, h.get? (He.cT (KZ n h.get?) p).2 = some o ∧ He.emptyTab o = true := by
    intro p hp
    have z := List.all_eq_true.mp e2.2 p hp
    rw [Bool.and_eq_true] at z
    refine ⟨z.1, ?_⟩
    rcases q : h.get? (He.cT (KZ n h.get?) p).2 with _ | o
    · rw [q] at z
      cases z.2
    · rw [q] at z
      exact ⟨o, rfl, z.2⟩
  refine ⟨⟨e1, e2.1, fun p hp => (tab p hp).1, fun p hp => ?_, fun p hp => ?_⟩, e3⟩
  · obtain ⟨o, q, z⟩ := (tab p hp).2
    exact He.frT_none q z
  · obtain ⟨o, q, z⟩ := (tab p hp).2
    rw [q, He.emptyTab_eq z]
def hookZ (n : Nat) (fa : List He.Fa) (fn : List He.DefD) (tf : List He.Defn) (ex : PySem.W.Frag → Bool) (oe : List ObE) : PySem.W.Hook where
  α := AlZ
  obs := fun s => obsZ n fa fn tf ex s.heap.get?
  val := fun w => (He.valX fn [] w, oe)
  says := fun w h => ∃ K : PySem.W.Frag, K.In h ∧ SaysZ fa fn tf ex oe w h K
  of := fun _ s e => ⟨_, He.frT_in, saysZ_of e⟩
  keeps := fun _ _ _ q k => q.elim fun K z => ⟨K, PySem.W.Frag.In.keeps z.1 k, ⟨⟨z.2.x.t, z.2.x.more, z.2.x.hd, z.2.x.out, fun p hp => k _ _ (z.2.x.empty p hp)⟩, z.2.o⟩⟩
theorem obsZ_eq {n : Nat} {fa : List He.Fa} {fn : List He.DefD} {tf : List He.Defn} {ex : PySem.W.Frag → Bool} {oe : List ObE} {g : Addr → Option Obj} {s : Shared} (h : ∀ a, g a = s.heap.get? a) : (obsZ n fa fn tf ex g : (hookZ n fa fn tf ex oe).α) = (hookZ n fa fn tf ex oe).obs s := by
  rw [funext h]
  rfl
/-- the head's look in parts -/
theorem obsZ_of {n : Nat} {fa : List He.Fa} {fn : List He.DefD} {tf : List He.Defn} {ex : PySem.W.Frag → Bool} {oe : List ObE} {σ : Type} {g : σ → Addr → Option Obj} {x : Option σ} (w : World)
    (h1 : (x.map fun s => (fa.all fun f => f.ok (KZ n (g s))) && (ex (KZ n (g s)) && He.tabsB (g s) tf (KZ n (g s)))) = some true)
    (h2 : (x.map fun s => ((fn.all fun d => d.ok (KZ n (g s))), fn.map fun d => He.fnW (KZ n (g s)) d.at_)) = some (true, fn.map He.DefD.val))
    (h3 : (x.map fun s => obsEs (KZ n (g s))) = some oe) : (x.map fun s => obsZ n fa fn tf ex (g s)) = some ((He.valX fn [] w, oe) : AlZ) := by
  cases x with
  | none => cases h1
  | some a =>
    have e1 := Option.some.inj h1
    have e2 := Option.some.inj h2
    have e3 : obsEs (KZ n (g a)) = oe := Option.some.inj h3
    rw [Bool.and_eq_true] at e1
    injection e2 with e4 e5
    show some (obsZ n fa fn tf ex (g a)) = _
    unfold obsZ He.obsT He.obsD
    rw [e1.1, e1.2, e4, e5, e3]
    rfl
end LW
end
set_option Elab.async false
set_option linter.all false
set_option maxRecDepth 100000
set_option maxHeartbeats 4000000
/-! what the head looks at for errors as things; the law's promise with no tables -/
namespace LW
open PySem PySem.Spec PyProof.Rows L2 LV LM UL
open PySem.W (Frag findIn typeIn subIn nsIn keepIn hasDictIn mroIn kitOne exmOne specialIn takesIn excIn codeIn)
abbrev gaE (K : Frag) (c : String) : Addr := He.ga K (Str.ofString c)
def oneB (K : Frag) (C : Addr) : Bool :=
  ((decide (findIn K (.ref C) "__getattribute__" = some (some (.builtin "BaseException.__getattribute__"))) && decide (findIn K (.ref C) "__getattr__" = some none)) && (decide (subIn K (.ref C) (.type "BaseException") = some true) && hasDictIn K C)) &&
  ((decide (findIn K (.ref C) "__class__" = some (some (.builtin "object.__class__"))) && decide (mroIn K C (.type "object") = some true)) && decide (kitOne K (.ref C) (.type "ValueError") = some true))
def erlB (K : Frag) : Bool :=
  ((erNs.all fun c => oneB K (gaE K c)) && (erTab.all fun p => match p.2 with
    | some f => decide (findIn K (.ref (gaE K p.1)) (Str.ofString f) = some none)
    | none => true)) &&
  ((erNs.all fun c => erNs.all fun d => decide (kitOne K (.ref (gaE K c)) (.ref (gaE K d)) = some (decide (c = d) || decide (d = "LevelError")))) &&
  ((decide (specialIn K (.builtin "object.__class__") "__get__" = some (some (.builtin "getset_descriptor.__get__"))) && decide (takesIn K (.builtin "object.__class__") = some true)) &&
  (excIn K (gaE K "LevelError") [.type "ValueError", .type "Exception", .type "BaseException", .type "object"] "ValueError.__new__" && keepIn K (.ref (gaE K "LevelError")))))
theorem errL_of {K : Frag} (h : erlB K = true) (κ : String → Addr) (hκ : ∀ c ∈ erNs, κ c = gaE K c) : ErrL K κ ∧ ErrLB K κ := by
  unfold erlB at h
  simp only [Bool.and_eq_true] at h
  obtain ⟨⟨h1, h2⟩, h3, ⟨h4, h5⟩, h6, h7⟩ := h
  have A : ∀ c ∈ erNs, _ := fun c hc => List.all_eq_true.mp h1 c hc
  have P : ∀ c ∈ erNs, (((findIn K (.ref (gaE K c)) "__getattribute__" = some (some (.builtin "BaseException.__getattribute__")) ∧ findIn K (.ref (gaE K c)) "__getattr__" = some none) ∧ subIn K (.ref (gaE K c)) (.type "BaseException") = some true ∧ hasDictIn K (gaE K c) = true) ∧
      (findIn K (.ref (gaE K c)) "__class__" = some (some (.builtin "object.__class__")) ∧ mroIn K (gaE K c) (.type "object") = some true) ∧ kitOne K (.ref (gaE K c)) (.type "ValueError") = some true) := fun c hc => by
    have a := A c hc
    unfold oneB at a
    simpa only [Bool.and_eq_true, decide_eq_true_eq] using a
  refine ⟨⟨fun c hc => ?_, fun c hc => ?_, fun p hp f hf => ?_, fun c hc d hd => ?_, fun c hc => ?_⟩, ⟨?_⟩⟩
  · obtain ⟨⟨⟨a1, a2⟩, a3, a4⟩, ⟨a5, a6⟩, a7⟩ := P c hc
    rw [hκ c hc]
    exact ⟨a1, a2, a3, a4, a5, of_decide_eq_true h4, of_decide_eq_true h5, a6⟩
  · obtain ⟨⟨⟨a1, a2⟩, a3, a4⟩, ⟨a5, a6⟩, a7⟩ := P c hc
    rw [hκ c hc]
    exact ⟨a1, a2, a3, a4⟩
  · have a := List.all_eq_true.mp h2 p hp
    rw [hf] at a
    rw [hκ p.1 (List.mem_map.mpr ⟨p, hp, rfl⟩)]
    exact of_decide_eq_true a
  · rw [hκ c hc, hκ d hd]
    exact of_decide_eq_true (List.all_eq_true.mp (List.all_eq_true.mp h3 c hc) d hd)
  · rw [hκ c hc]
    exact (P c hc).2.2
  · rw [hκ _ (by decide)]
    exact ⟨_, _, _, _, PySem.F.excBase_ValueError, h6, h7⟩
/-- the law's promise where tables are told, but there are none -/
def spLwT (K : PySem.W.Frag) (γ : Gh) (nl i : Nat) (b : MS) : Sp := fun vs H Q _ => ∃ (a : Addr) (ns : List Int), vs = [.ref a] ∧ SqL K H a (ns.map V.int) ∧ ns.length ≤ 63 ∧ (∀ p ∈ γ, H p.1 = some (.tbl #[])) ∧ (γ.map (·.1)).Nodup ∧ (∀ c, ∃ e, b ((none :: List.replicate nl none).set i (some (st0 c ns))) = some (.rt (.p (.bl true)) e)) ∧ ∀ H', Q (.bl true) H'
theorem spLw_of {K : PySem.W.Frag} {γ : Gh} {nl i : Nat} {b : MS} {vs : List V} {H : Hp} {Q : VK} {E : XK} (h : spLwT K γ nl i b vs H Q E) : spLw K nl i b vs H Q E := by
  obtain ⟨a, ns, h1, h2, h3, _, _, h4, h5⟩ := h
  exact ⟨a, ns, h1, h2, h3, h4, h5⟩
end LW
set_option Elab.async false
set_option linter.all false
set_option maxRecDepth 100000
set_option maxHeartbeats 0
namespace LW
open PySem PySem.Spec PyProof.Rows L2 LV LM UL UM
def dd__law_fresh : He.DefD := ⟨("_law_fresh", none), "_law_fresh", "_law_fresh", defArgs s__law_fresh, defBody s__law_fresh, defScope s__law_fresh, [], []⟩
def dd__law_fill : He.DefD := ⟨("_law_fill", none), "_law_fill", "_law_fill", defArgs s__law_fill, defBody s__law_fill, defScope s__law_fill, [], []⟩
def dd__law_take : He.DefD := ⟨("_law_take", none), "_law_take", "_law_take", defArgs s__law_take, defBody s__law_take, defScope s__law_take, [], []⟩
def dd__law_one : He.DefD := ⟨("_law_one", none), "_law_one", "_law_one", defArgs s__law_one, defBody s__law_one, defScope s__law_one, [], []⟩
def dd__law_same : He.DefD := ⟨("_law_same", none), "_law_same", "_law_same", defArgs s__law_same, defBody s__law_same, defScope s__law_same, [], []⟩
def dd__law_with_one : He.DefD := ⟨("_law_with_one", none), "_law_with_one", "_law_with_one", defArgs s__law_with_one, defBody s__law_with_one, defScope s__law_with_one, [], []⟩
def dd__law_by_place : He.DefD := ⟨("_law_by_place", none), "_law_by_place", "_law_by_place", defArgs s__law_by_place, defBody s__law_by_place, defScope s__law_by_place, [], []⟩
def dd__law_held : He.DefD := ⟨("_law_held", none), "_law_held", "_law_held", defArgs s__law_held, defBody s__law_held, defScope s__law_held, [], []⟩
def dd__law_classes : He.DefD := ⟨("_law_classes", none), "_law_classes", "_law_classes", defArgs s__law_classes, defBody s__law_classes, defScope s__law_classes, [], []⟩
def dd_law : He.DefD := ⟨("law", none), "law", "law", defArgs s_law, defBody s_law, defScope s_law, [], []⟩
def fnL : List He.DefD := [dd__law_fresh, dd__law_fill, dd__law_take, dd__law_one, dd__law_same, dd__law_with_one, dd__law_by_place, dd__law_held, dd__law_classes, dd_law]
def faL : List He.Fa := [.free "len", .free "int", .free "enumerate", .free "isinstance", .free "zip", .free "all", .free "range", .free "list", .free "tuple", .free "bool", .free "any", .free "sorted", .free "dict", .free "str", .free "reversed", .free "repr", .free "iter", .free "super", .free "ValueError", .glo "_law_fresh", .glo "_law_fill", .glo "_law_take", .glo "_law_one", .glo "_law_same", .glo "_law_with_one", .glo "_law_by_place", .glo "_law_held", .glo "_law_classes", .glo "law"]
def loose0 : List PySem.Str := ["LevelError", "BadPart", "BadText", "BadFrame", "BadLevel", "BadFact", "BadPlace", "BadPoint", "BadMoment", "BadLine", "Unfit", "HasHistory", "UnknownLevel", "BadHeight", "_law_fresh", "_law_fill", "_law_take", "_law_one", "_law_same", "_law_with_one", "_law_by_place", "_law_held", "_law_classes"]
abbrev looseL : List PySem.Str := loose0
abbrev lawI : Nat := 25
abbrev csL : List String := []
def exB (K : PySem.W.Frag) : Bool := (errB K (PySem.Challenge.pw_surelevels_k01_errors_made.main.file) && erlB K)
abbrev R : PySem.W.OpenRow := PySem.W.OpenLaw.row PySem.Challenge.rw_surelevels_k01_errors_made
abbrev si_BadPart : Stmt := inClass (top 2) 0
abbrev si_BadText : Stmt := inClass (top 3) 0
abbrev si_BadLevel : Stmt := inClass (top 5) 0
abbrev si_BadFact : Stmt := inClass (top 6) 0
abbrev si_BadPlace : Stmt := inClass (top 7) 0
abbrev si_BadPoint : Stmt := inClass (top 8) 0
abbrev si_BadMoment : Stmt := inClass (top 9) 0
abbrev si_BadLine : Stmt := inClass (top 10) 0
abbrev si_UnknownLevel : Stmt := inClass (top 13) 0
abbrev si_BadHeight : Stmt := inClass (top 14) 0
def oeL : List ObE := [some (("__init__" : Str), ("BadPart.__init__" : Str), defArgs si_BadPart, FuncBody.stmts (defBody si_BadPart), defScope si_BadPart, mainGlobals, [("__class__" : Str)], builtinsNs),
  some (("__init__" : Str), ("BadText.__init__" : Str), defArgs si_BadText, FuncBody.stmts (defBody si_BadText), defScope si_BadText, mainGlobals, [("__class__" : Str)], builtinsNs),
  some (("__init__" : Str), ("BadLevel.__init__" : Str), defArgs si_BadLevel, FuncBody.stmts (defBody si_BadLevel), defScope si_BadLevel, mainGlobals, [("__class__" : Str)], builtinsNs),
  some (("__init__" : Str), ("BadFact.__init__" : Str), defArgs si_BadFact, FuncBody.stmts (defBody si_BadFact), defScope si_BadFact, mainGlobals, [("__class__" : Str)], builtinsNs),
  some (("__init__" : Str), ("BadPlace.__init__" : Str), defArgs si_BadPlace, FuncBody.stmts (defBody si_BadPlace), defScope si_BadPlace, mainGlobals, [("__class__" : Str)], builtinsNs),
  some (("__init__" : Str), ("BadPoint.__init__" : Str), defArgs si_BadPoint, FuncBody.stmts (defBody si_BadPoint), defScope si_BadPoint, mainGlobals, [("__class__" : Str)], builtinsNs),
  some (("__init__" : Str), ("BadMoment.__init__" : Str), defArgs si_BadMoment, FuncBody.stmts (defBody si_BadMoment), defScope si_BadMoment, mainGlobals, [("__class__" : Str)], builtinsNs),
  some (("__init__" : Str), ("BadLine.__init__" : Str), defArgs si_BadLine, FuncBody.stmts (defBody si_BadLine), defScope si_BadLine, mainGlobals, [("__class__" : Str)], builtinsNs),
  some (("__init__" : Str), ("UnknownLevel.__init__" : Str), defArgs si_UnknownLevel, FuncBody.stmts (defBody si_UnknownLevel), defScope si_UnknownLevel, mainGlobals, [("__class__" : Str)], builtinsNs),
  some (("__init__" : Str), ("BadHeight.__init__" : Str), defArgs si_BadHeight, FuncBody.stmts (defBody si_BadHeight), defScope si_BadHeight, mainGlobals, [("__class__" : Str)], builtinsNs)]
def tfL : List He.Defn := []
noncomputable abbrev hk : PySem.W.Hook := hookZ 5 faL fnL tfL exB oeL
noncomputable def ob (s : PySem.W.SharedT) : AlZ := obsZ 5 faL fnL tfL exB (HandSHeadRun.getT s)
theorem ob_eq (s : PySem.W.SharedT) : ob s = hk.obs s.abs := obsZ_eq (HandSHeadRun.getT_eq s)
end LW
set_option Elab.async false
set_option linter.all false
set_option maxRecDepth 100000
set_option maxHeartbeats 0
namespace LW
open PySem PySem.Spec PyProof.Rows L2 LV LM UL UM
theorem facts {P : Program} {w : World} {K : PySem.W.Frag} {h : Heap} {mg : Str → Option Value} {fl : Addr} (hP : P = PySem.Challenge.pw_surelevels_k01_errors_made) (XK : K.In h) (G : h.Ns mainGlobals mg) (hfa : mg ("law" : Str) = some (.ref fl)) (cc : SaysZ faL fnL tfL exB oeL w h K) :
    ∃ fd : FuncData, (∀ (s : Shared) (v : Value), BindsTo s fd ⟨[v], []⟩ [("_law_script", v)]) ∧ ∀ base : Heap, K.In base → base.Ns mainGlobals mg → (∀ p ∈ tfL.map (He.cT K), LamX.TabB base mg p.1 p.2) → FnOk P w K mg base CX0 16 fl fd ["_law_script"] (spLwT K [] 9 1 (b_law csL)) := by
  have c := cc.x
  have dS := c.t.d
  have hex0 := c.more
  unfold exB at hex0
  obtain ⟨fd__law_fresh, F__law_fresh⟩ := dS.def_ 0 (d := dd__law_fresh) rfl
  have b__law_fresh := FunD.bindsN (ps := ["_law_script"]) F__law_fresh fun _ _ _ _ _ _ us hl => match us, hl with | [_], _ => rfl
  have g__law_fresh := He.glo_ok XK G (dS.fact 19 (f := .glo "_law_fresh") rfl)
  obtain ⟨fd__law_fill, F__law_fill⟩ := dS.def_ 1 (d := dd__law_fill) rfl
  have b__law_fill := FunD.bindsN (ps := ["_law_state"]) F__law_fill fun _ _ _ _ _ _ us hl => match us, hl with | [_], _ => rfl
  have g__law_fill := He.glo_ok XK G (dS.fact 20 (f := .glo "_law_fill") rfl)
  obtain ⟨fd__law_take, F__law_take⟩ := dS.def_ 2 (d := dd__law_take) rfl
  have b__law_take := FunD.bindsN (ps := ["_law_state", "_law_many"]) F__law_take fun _ _ _ _ _ _ us hl => match us, hl with | [_, _], _ => rfl
  have g__law_take := He.glo_ok XK G (dS.fact 21 (f := .glo "_law_take") rfl)
  obtain ⟨fd__law_one, F__law_one⟩ := dS.def_ 3 (d := dd__law_one) rfl
  have b__law_one := FunD.bindsN (ps := ["_law_state", "_law_things"]) F__law_one fun _ _ _ _ _ _ us hl => match us, hl with | [_, _], _ => rfl
  have g__law_one := He.glo_ok XK G (dS.fact 22 (f := .glo "_law_one") rfl)
  obtain ⟨fd__law_same, F__law_same⟩ := dS.def_ 4 (d := dd__law_same) rfl
  have b__law_same := FunD.bindsN (ps := ["_law_found", "_law_due"]) F__law_same fun _ _ _ _ _ _ us hl => match us, hl with | [_, _], _ => rfl
  have g__law_same := He.glo_ok XK G (dS.fact 23 (f := .glo "_law_same") rfl)
  obtain ⟨fd__law_with_one, F__law_with_one⟩ := dS.def_ 5 (d := dd__law_with_one) rfl
  have b__law_with_one := FunD.bindsN (ps := ["_law_x"]) F__law_with_one fun _ _ _ _ _ _ us hl => match us, hl with | [_], _ => rfl
  have g__law_with_one := He.glo_ok XK G (dS.fact 24 (f := .glo "_law_with_one") rfl)
  obtain ⟨fd__law_by_place, F__law_by_place⟩ := dS.def_ 6 (d := dd__law_by_place) rfl
  have b__law_by_place := FunD.bindsN (ps := ["_law_x"]) F__law_by_place fun _ _ _ _ _ _ us hl => match us, hl with | [_], _ => rfl
  have g__law_by_place := He.glo_ok XK G (dS.fact 25 (f := .glo "_law_by_place") rfl)
  obtain ⟨fd__law_held, F__law_held⟩ := dS.def_ 7 (d := dd__law_held) rfl
  have b__law_held := FunD.bindsN (ps := ["_law_made"]) F__law_held fun _ _ _ _ _ _ us hl => match us, hl with | [_], _ => rfl
  have g__law_held := He.glo_ok XK G (dS.fact 26 (f := .glo "_law_held") rfl)
  obtain ⟨fd__law_classes, F__law_classes⟩ := dS.def_ 8 (d := dd__law_classes) rfl
  have b__law_classes := FunD.bindsN (ps := ["_law_e"]) F__law_classes fun _ _ _ _ _ _ us hl => match us, hl with | [_], _ => rfl
  have g__law_classes := He.glo_ok XK G (dS.fact 27 (f := .glo "_law_classes") rfl)
  obtain ⟨fd_law, F_law⟩ := dS.def_ 9 (d := dd_law) rfl
  have b_law := FunD.bindsN (ps := ["_law_script"]) F_law fun _ _ _ _ _ _ us hl => match us, hl with | [_], _ => rfl
  have g_law := He.glo_ok XK G (dS.fact 28 (f := .glo "law") rfl)
  have free_len := He.free_ok XK G (dS.fact 0 (f := .free "len") rfl)
  have free_int := He.free_ok XK G (dS.fact 1 (f := .free "int") rfl)
  have free_enumerate := He.free_ok XK G (dS.fact 2 (f := .free "enumerate") rfl)
  have free_isinstance := He.free_ok XK G (dS.fact 3 (f := .free "isinstance") rfl)
  have free_zip := He.free_ok XK G (dS.fact 4 (f := .free "zip") rfl)
  have free_all := He.free_ok XK G (dS.fact 5 (f := .free "all") rfl)
  have free_range := He.free_ok XK G (dS.fact 6 (f := .free "range") rfl)
  have free_list := He.free_ok XK G (dS.fact 7 (f := .free "list") rfl)
  have free_tuple := He.free_ok XK G (dS.fact 8 (f := .free "tuple") rfl)
  have free_bool := He.free_ok XK G (dS.fact 9 (f := .free "bool") rfl)
  have free_any := He.free_ok XK G (dS.fact 10 (f := .free "any") rfl)
  have free_sorted := He.free_ok XK G (dS.fact 11 (f := .free "sorted") rfl)
  have free_dict := He.free_ok XK G (dS.fact 12 (f := .free "dict") rfl)
  have free_str := He.free_ok XK G (dS.fact 13 (f := .free "str") rfl)
  have free_reversed := He.free_ok XK G (dS.fact 14 (f := .free "reversed") rfl)
  have free_repr := He.free_ok XK G (dS.fact 15 (f := .free "repr") rfl)
  have free_iter := He.free_ok XK G (dS.fact 16 (f := .free "iter") rfl)
  have free_super := He.free_ok XK G (dS.fact 17 (f := .free "super") rfl)
  have free_ValueError := He.free_ok XK G (dS.fact 18 (f := .free "ValueError") rfl)
  obtain ⟨errb, erlb⟩ := He.ba hex0
  have e := hfa.symm.trans g_law
  cases e
  have bl := FunD.bindsA (ps := ["_law_script"]) F_law fun _ _ _ _ _ _ us hl => match us, hl with | [_], _ => rfl
  refine ⟨fd_law, fun s v => bl s [v] rfl, fun base _ _ tabs => ?_⟩
  have hfr : ∀ x ∈ bltN, mg x = none := by
    intro x hx
    simp only [bltN, List.mem_cons, List.not_mem_nil, or_false] at hx
    rcases hx with rfl | rfl | rfl | rfl | rfl | rfl | rfl | rfl | rfl | rfl | rfl | rfl | rfl | rfl | rfl | rfl | rfl
    · exact free_len
    · exact free_int
    · exact free_enumerate
    · exact free_isinstance
    · exact free_zip
    · exact free_all
    · exact free_range
    · exact free_list
    · exact free_tuple
    · exact free_bool
    · exact free_any
    · exact free_sorted
    · exact free_dict
    · exact free_str
    · exact free_reversed
    · exact free_repr
    · exact free_iter
  have T : EnN mg := ⟨hfr⟩
  have et : ErrT P K mg (kap K) := errT_of XK G (by rw [hP]; exact errb) free_super (by rw [hP]; decide +kernel) (fun k f hf => by
    have ho := cc.o
    simp only [obsEs, oeL, List.map_cons, List.map_nil, List.cons_append, List.nil_append, List.cons.injEq, and_true] at ho
    obtain ⟨o0, o1, o2, o3, o4, o5, o6, o7, o8, o9⟩ := ho
    cases k <;> cases hf
    · exact ⟨_, _, _, _, _, _, _, _, _, _, _, _, o0, rfl⟩
    · exact ⟨_, _, _, _, _, _, _, _, _, _, _, _, o1, rfl⟩
    · exact ⟨_, _, _, _, _, _, _, _, _, _, _, _, o2, rfl⟩
    · exact ⟨_, _, _, _, _, _, _, _, _, _, _, _, o3, rfl⟩
    · exact ⟨_, _, _, _, _, _, _, _, _, _, _, _, o4, rfl⟩
    · exact ⟨_, _, _, _, _, _, _, _, _, _, _, _, o5, rfl⟩
    · exact ⟨_, _, _, _, _, _, _, _, _, _, _, _, o6, rfl⟩
    · exact ⟨_, _, _, _, _, _, _, _, _, _, _, _, o7, rfl⟩
    · exact ⟨_, _, _, _, _, _, _, _, _, _, _, _, o8, rfl⟩
    · exact ⟨_, _, _, _, _, _, _, _, _, _, _, _, o9, rfl⟩
    ) (kap K) (fun k => by cases k <;> rfl) rfl
  obtain ⟨el, eb⟩ := errL_of erlb (kap K) (fun c hc => by
    simp only [erNs, erTab, List.map_cons, List.map_nil, List.mem_cons, List.not_mem_nil, or_false] at hc
    rcases hc with rfl | rfl | rfl | rfl | rfl | rfl | rfl | rfl | rfl | rfl | rfl | rfl | rfl | rfl <;> rfl)
  have fv : mg "ValueError" = none := free_ValueError
  have c__law_fresh : C8.Cal P w K mg base 1 "_law_fresh" (spFr K) [] := ⟨_, _, _, _, ok__law_fresh F__law_fresh, g__law_fresh, F__law_fresh.kp, b__law_fresh, .nil⟩
  have c__law_fill : C8.Cal P w K mg base 7 "_law_fill" (spI (kap K) (UM.m__law_fill csL)) [] := ⟨_, _, _, _, ok__law_fill F__law_fill T , g__law_fill, F__law_fill.kp, b__law_fill, .nil⟩
  have c__law_take : C8.Cal P w K mg base 8 "_law_take" (spI (kap K) (UM.m__law_take csL)) [] := ⟨_, _, _, _, ok__law_take F__law_take T c__law_fill, g__law_take, F__law_take.kp, b__law_take, .nil⟩
  have c__law_one : C8.Cal P w K mg base 9 "_law_one" (spI (kap K) (UM.m__law_one csL)) [] := ⟨_, _, _, _, ok__law_one F__law_one T c__law_take, g__law_one, F__law_one.kp, b__law_one, .nil⟩
  have c__law_same := ok__law_same (P := P) (w := w) (base := base) (κ := kap K) (cs := csL) F__law_same T g__law_same F__law_same.kp b__law_same  5
  have c__law_with_one : C8.Cal P w K mg base 7 "_law_with_one" (spP (kap K) (UM.m__law_with_one csL)) [] := ⟨_, _, _, _, ok__law_with_one F__law_with_one T et, g__law_with_one, F__law_with_one.kp, b__law_with_one, .nil⟩
  have c__law_by_place : C8.Cal P w K mg base 7 "_law_by_place" (spP (kap K) (UM.m__law_by_place csL)) [] := ⟨_, _, _, _, ok__law_by_place F__law_by_place T et, g__law_by_place, F__law_by_place.kp, b__law_by_place, .nil⟩
  have c__law_held : C8.Cal P w K mg base 7 "_law_held" (spP (kap K) (UM.m__law_held csL)) [] := ⟨_, _, _, _, ok__law_held F__law_held T el, g__law_held, F__law_held.kp, b__law_held, .nil⟩
  have c__law_classes : C8.Cal P w K mg base 7 "_law_classes" (spP (kap K) (UM.m__law_classes csL)) [] := ⟨_, _, _, _, ok__law_classes F__law_classes T el et, g__law_classes, F__law_classes.kp, b__law_classes, .nil⟩
  exact FnOk.imp (ok_law F_law T c__law_held c__law_same et el fv c__law_classes eb c__law_by_place c__law_with_one c__law_one c__law_fresh) fun _ _ _ _ h => spLw_of h
end LW
set_option Elab.async false
set_option linter.all false
set_option maxRecDepth 100000
set_option maxHeartbeats 0
namespace LW
open PySem PySem.Spec PyProof.Rows L2 LV LM UL UM
open HandSHeadRun PySem.W in
theorem run1 (w : World) (os : OsState) : ((endF (stepQ (denQ tabQ) R.prog w) 20000 R.prog w os).map fun s => (looksF R.prog (boot_heap w.params) s.abs, seenQ (PySem.W.view R.prog [lawI]) looseL (importedModules R.prog.main.body) (fun s => xlAt (PySem.W.view R.prog [lawI]) [] s && recOk R.toRowW.records s) s.abs)) = some (true, openGood (PySem.W.view R.prog [lawI]) looseL) := by kernel_rfl
open HandSHeadRun PySem.W in
theorem run2 (w : World) (os : OsState) : (((endF (stepQ (denQ tabQ) R.prog w) 20000 R.prog w os).map fun s => (faL.all fun f => f.ok (KZ 5 (getT s))) && (exB (KZ 5 (getT s)) && He.tabsB (getT s) tfL (KZ 5 (getT s))))) = some true := by kernel_rfl
open HandSHeadRun PySem.W in
theorem run3 (w : World) (os : OsState) : (((endF (stepQ (denQ tabQ) R.prog w) 20000 R.prog w os).map fun s => ((fnL.all fun d => d.ok (KZ 5 (getT s))), fnL.map fun d => He.fnW (KZ 5 (getT s)) d.at_))) = some (true, fnL.map He.DefD.val) := by kernel_rfl
open HandSHeadRun PySem.W in
theorem run4 (w : World) (os : OsState) : (((endF (stepQ (denQ tabQ) R.prog w) 20000 R.prog w os).map fun s => obsEs (KZ 5 (getT s)))) = some oeL := by kernel_rfl
theorem run (w : World) : HandSHeadRun.RunEq R (PySem.W.view R.prog [lawI]) hk ob 20000 looseL w := by
  intro os
  exact map_three (run1 w os) (obsZ_of w (run2 w os) (run3 w os) (run4 w os))
end LW
open PySem PySem.W PySem.Calls PyProof.Rows
theorem PySem.Challenge.cw_surelevels_k01_errors_made_holds : PySem.Challenge.rw_surelevels_k01_errors_made.Holds := by
  w_on; o_law
  refine HandSHeadRun.head_any (r := OpenLaw.row PySem.Challenge.rw_surelevels_k01_errors_made) (q := view (OpenLaw.row PySem.Challenge.rw_surelevels_k01_errors_made).prog [LW.lawI]) (H := LW.hk) (ob := LW.ob) (M := 20000) (loose := LW.looseL) (d := HandSHeadRun.topDef (OpenLaw.row PySem.Challenge.rw_surelevels_k01_errors_made).prog LW.lawI) (kwd := []) LW.ob_eq
    (by kernel_rfl) (fun s => by kernel_rfl) LW.run (by kernel_rfl) (by kernel_rfl) (by kernel_rfl) (by rfl) (by first | assumption | decide +kernel) (by decide +kernel) ⟨rfl, rfl, rfl, rfl, rfl, by decide +kernel⟩ ?hw ?hc
  case hw => w_witness2
  case hc =>
    refine LamX.walk_ofTsE (l := PySem.Challenge.rw_surelevels_k01_errors_made) (n := 63) (k := 16) (x := "_law_script") (CX := fun _ => L2.CX0) rfl (by decide) (by kernel_rfl) ⟨rfl, by decide, by decide⟩ ?F (fun _ _ _ _ _ z => z)
    intro w mg fa h Y G hmg0
    obtain ⟨K, KX, c⟩ := Y
    have hmg : mg ("law" : PySem.Str) = some (.ref fa) := by
      have e : (HandSHeadRun.topDef (OpenLaw.row PySem.Challenge.rw_surelevels_k01_errors_made).prog LW.lawI).name = ("law" : PySem.Str) := by kernel_rfl
      rw [← e]
      exact hmg0
    obtain ⟨fd, hb, hF⟩ := LW.facts (P := (PySem.Challenge.rw_surelevels_k01_errors_made).prog) (w := w) rfl KX G hmg c
    have mm : ∀ {p}, p ∈ LW.tfL.map (He.cT K) → ∃ d ∈ LW.tfL, He.cT K d = p := fun hp => List.mem_map.mp hp
    refine ⟨K, KX, fd, LW.tfL.map (He.cT K), LW.spLwT K _ _ _ _, fun p hp => ?_, fun p hp => ?_, fun p hp => ?_, hb, fun H a ns hl _ hT hS => ?_, hF⟩
    · obtain ⟨d, hd, rfl⟩ := mm hp
      exact c.x.empty d hd
    · obtain ⟨d, hd, rfl⟩ := mm hp
      exact c.x.out d hd
    · obtain ⟨d, hd, rfl⟩ := mm hp
      exact PySem.W.codeHd_of_K KX (c.x.hd d hd)
    · refine ⟨a, ns, rfl, hS, hl, fun p hp => ?_, by simp, fun c => LW.law_true c ns hl, fun _ => rfl⟩
      cases hp
#print axioms PySem.Challenge.cw_surelevels_k01_errors_made_holds

