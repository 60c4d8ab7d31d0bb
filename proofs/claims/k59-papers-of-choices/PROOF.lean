import PyProof.Rows.All
import Wide.All
import OpenK.AllK
import Wide.FinOn
import HandS.ForMost
import HandS.FStr
import HandS.IsInst
import HandS.TupAny
import HandS.TupLe
import HandS.Defaults
import HandS.ClsMeth
import HandS.Walk
import HandS.Strs
import HandS.Exc
import KE.GoesEnum
import HandS.HeadHook2
import HandS.Conv
import KE.KStateDown
import HandS.Head0
import HandS.Head1
import HandS.Head2
import HandS.HeadEnd
import HandS.HeadNt
import PySem.Challenge.RW_downpass_k59_papers_of_choices
set_option Elab.async false
set_option linter.all false
set_option maxRecDepth 100000
set_option maxHeartbeats 4000000
/-! Own rules over the hand layer: a field as a target among targets, enumerate over a tuple, zip of a list and a tuple, a staticmethod called by its class. -/
namespace K59
open PySem PySem.Spec PyProof.Rows L2

/-! ### self.a, self.b = .. -/
def gFld (K : PySem.W.Frag) (ta : TE) (f : Str) : TG := fun v σ H Q => ta σ H fun x H1 => ∃ a C dx fs, x = .ref a ∧ H1 a = some (.ins C dx fs) ∧ Cls K C ∧ NoAttr K C f ∧ fs.length < 1000 ∧
  Q σ (upd H1 a (.ins C dx (putF f v fs)))
theorem pg_fld {X : Cx} {o : Expr} {f : Str} {pos : Pos} {ta : TE} (ha : PE X o ta) : PG X (.Attribute o f pos) (gFld X.K ta f) := by
  refine ⟨fun pins s σ H v u Q I r h => ?_⟩
  rw [arm_assign_Attribute]
  refine wpAny_bind (wpAny_holding (thn (ha.run pins s σ H _ I h) fun ov s1 ⟨x, H1, I1, rx, a, C, dx, fs, ex, ea, c, n, l, q⟩ => ?_))
  subst ex
  obtain rfl : ov = Value.ref a := rx
  refine wpAny_bind (wpAny_standAt (wpAny_bind (wpAny_holding (setattr_ok I1 ea c n l r fun s3 I3 => ?_))))
  exact wpAny_release ⟨σ, _, I3, q⟩

/-! ### enumerate(tuple) -/
def IteT (K : PySem.W.Frag) (a : Addr) : It :=
  ⟨fun i H => ∃ (xs : List V) (x : V), SqT K H a xs ∧ xs[i]? = some x, fun i H v H' => ∃ T x, v = .ref T ∧ H T = none ∧ H' = upd H T (.tup [.int (i : Nat), x]) ∧ ∀ xs, SqT K H a xs → xs[i]? = some x, fun i H => ∃ xs : List V, SqT K H a xs ∧ xs.length = i⟩
theorem turn_enumT {P : Program} {w : World} {K : PySem.W.Frag} {elts : List Expr} {kk : Nat} {tpos : Pos} (a e it : Addr) :
    Turn P w K (.Tuple elts kk tpos) (IteT K a) [e, it] e (fun i h => (∃ old, IsEnum h e it ((i : Nat) : Int) old) ∧ h.IsTupleIter it a i ∧ e ≠ it) where
  mem := by simp
  obj := fun i h st b hb => by
    obtain ⟨⟨old, he⟩, ⟨o, ho, hc, hd⟩, _⟩ := st
    have e' : b = e ∨ b = it := by simpa using hb
    rcases e' with z | z
    · rw [z]; exact ⟨_, he, fun v q => nomatch q⟩
    · rw [z]; exact ⟨o, ho, fun v q => by rw [hd] at q; cases q⟩
  keep := fun i h h' st k => let ⟨⟨old, he⟩, hi, hne⟩ := st; ⟨⟨old, k e (by simp) _ he⟩, hi.at fun o q => k it (by simp) o q, hne⟩
  item := by
    intro X hP hw hK hc i pins s σ H E I hf st hg
    subst hP hw hK
    obtain ⟨⟨old, he⟩, hit, hne⟩ := st
    obtain ⟨xs, x, hq, hx⟩ := hg
    obtain ⟨its, rv, p, hz⟩ := I.tuple hq
    obtain ⟨u, hu, ru⟩ := rv.get hx
    have hel : e < s.heap.objs.size := Heap.lt_size he
    have hil : it < s.heap.objs.size := by obtain ⟨_, q, _⟩ := hit; exact Heap.lt_size q
    have nia : a ≠ it := by
      rintro rfl
      obtain ⟨o1, h1, c1, _⟩ := p
      obtain ⟨o2, h2, c2, _⟩ := hit
      rw [h1] at h2
      cases h2
      rw [c1] at c2
      exact absurd c2 (by decide)
    have nea : e ≠ a := by
      rintro rfl
      obtain ⟨o1, h1, c1, _⟩ := p
      have he2 := he
      unfold IsEnum at he2
      rw [h1] at he2
      cases he2
      have c2 : Value.type "enumerate" = Value.type "tuple" := c1
      exact absurd c2 (by decide)
    have D := Draws.tuple (prog := X.prog) (w := X.w) (A := X.A.in1) (show X.A.in1.handled = none from I.ok.hd hc) it a nia its.toArray
    have hlt : i < its.toArray.size := by
      have := (List.getElem?_eq_some_iff.mp hu).1
      simpa using this
    refine wpAny_pyNext_enum_itemC D he ⟨hit, p⟩ hlt hne (by simp [hne, nea]) fun y h' tk hy ho st' hT hsz hk => ?_
    have ey : y = u := by
      have hy2 : its[i]? = some y := by simpa using hy
      rw [hu] at hy2
      exact (Option.some.inj hy2).symm
    subst ey
    refine ⟨_, rfl, wpAny_letOwnedTupleGo_enum (s := { s with heap := h', toks := tk + 1 }) ho fun h'' he' sb => ?_⟩
    have hT2 : h''.get? s.heap.objs.size = some { cls := .type "tuple", data := .seq #[.int i tk, y] } := (sb.2 _ (Nat.ne_of_gt hel)).trans hT
    have new : ObjOk X.prog X.w (upd H s.heap.objs.size (.tup [.int (i : Nat), x])) h'' s.heap.objs.size (.tup [.int (i : Nat), x]) :=
      ⟨by show 2 ≤ sizeLine; decide, [.int i tk, y], .cons ⟨_, rfl⟩ (.cons ru .nil), ⟨_, hT2, rfl, _, rfl⟩⟩
    have I1 : Inv X pins σ (upd H s.heap.objs.size (.tup [.int (i : Nat), x])) { s with heap := h'', toks := tk + 1 } :=
      I.turnedNew (ch := [e, it]) (fun b ob hb q => (sb.2 b (fun z => hb (by simp [z]))).trans (hk b ob (fun z => hb (by simp [z])) (fun z => hb (by simp [z])) q)) hf (Nat.le_refl _) new
    refine ⟨.ref s.heap.objs.size, _, I1, rfl, ⟨_, x, rfl, I.hok.fresh (Nat.le_refl _), rfl, fun ys hy => by rw [I.tuple_inj hy hq]; exact hx⟩, ⟨⟨y, ?_⟩, st'.1.at fun o q => (sb.2 it (Ne.symm hne)).trans q, hne⟩, fun b hb => ?_⟩
    · have e1 : ((i + 1 : Nat) : Int) = (i : Int) + 1 := by omega
      rw [e1]; exact he'
    · have hb' : b < s.heap.objs.size := by
        have e' : b = e ∨ b = it := by simpa using hb
        rcases e' with z | z
        · rw [z]; exact hel
        · rw [z]; exact hil
      rw [upd_ne (Nat.ne_of_lt hb')]
      exact (hf b hb).1
  done := by
    intro X hP hw hK hc i pins s σ H E I hf st hg
    subst hP hw hK
    obtain ⟨⟨old, he⟩, hit, hne⟩ := st
    obtain ⟨xs, hq, hx⟩ := hg
    obtain ⟨its, rv, p, hz⟩ := I.tuple hq
    obtain ⟨f0, f1, f2, f3, f4, f5⟩ := hf it (by simp)
    have hl := rv.length
    have nia : a ≠ it := by
      rintro rfl
      obtain ⟨o1, h1, c1, _⟩ := p
      obtain ⟨o2, h2, c2, _⟩ := hit
      rw [h1] at h2
      cases h2
      rw [c1] at c2
      exact absurd c2 (by decide)
    have D := Draws.tuple (prog := X.prog) (w := X.w) (A := X.A.in1) (show X.A.in1.handled = none from I.ok.hd hc) it a nia its.toArray
    have en : i = its.toArray.size := by simp; omega
    subst en
    exact wpAny_pyNext_enum_endD D he ⟨hit, p⟩ fun h' eb => ⟨rfl, I.turned (t' := s.toks) (fun b o hb q => eb b o hb q) f0 f1 f3 f4 f5⟩
  self := fun A i s Q E st h => let ⟨⟨_, he⟩, _⟩ := st; wpAny_pyIter_enum he h
def iEnumT (K : PySem.W.Frag) (ta : TA) : TI := fun σ H R => ta σ H fun vs H1 => ∃ a xs, vs = [.ref a] ∧ SqT K H1 a xs ∧ R (IteT K a) H1

set_option maxHeartbeats 4000000 in
theorem meets_enumerate_newB1 {v : Value} {o : Obj} {H : Heap → Prop} (B : Begins v o H) :
    Meets (Builtin.«enumerate.__new__» ⟨[.type "enumerate", v], []⟩) (fun _ R s => H s.heap ∧
      R (.ok (.ret (.ref (s.heap.push o).objs.size))) { s with heap := (s.heap.push o).push { cls := .type "enumerate", data := .fields #[.none, .bool false, .ref s.heap.objs.size, rawInt 0, .none, .none] } }) :=
  .of_wp fun prog w A R s h => by
    obtain ⟨hp, g, d, tk, os⟩ := s; obtain ⟨h1, h⟩ := h
    have hsub := sub_enumerate
    have q1 : ∀ {A' : Around} {E : Value → Shared → Prop} {Q : Value → Shared → Prop}, Q (.ref hp.objs.size) ⟨hp.push o, g, d, tk, os⟩ → wpAny (model prog w) A' (pyIter v) Q E ⟨hp, g, d, tk, os⟩ :=
      fun q => B.iter prog w _ _ ⟨hp, g, d, tk, os⟩ _ h1 q
    wp_walk using q1
    refine wpAny_stack_any fun st => wpAny_pure ?_
    split
    · rename_i c _ _ _ _ _
      cases (c == Value.type "enumerate")
      · wp_walk using q1
        exact ⟨_, rfl, h⟩
      · wp_walk using q1
        exact ⟨_, rfl, h⟩
    · wp_walk using q1
      exact ⟨_, rfl, h⟩
theorem call_enumerate_B {prog : Program} {w : World} {A : Around} {E : Value → Shared → Prop} {s : Shared} {v : Value} {o : Obj} {H : Heap → Prop} {Q : Value → Shared → Prop} (B : Begins v o H) (h1 : H s.heap)
    (h : ∀ h', IsEnum h' (s.heap.objs.size + 1) s.heap.objs.size 0 .none → h'.get? s.heap.objs.size = some o → h'.objs.size = s.heap.objs.size + 2 →
      (∀ b o, s.heap.get? b = some o → h'.get? b = some o) → Q (.ref (s.heap.objs.size + 1)) { s with heap := h' }) :
    wpAny (model prog w) A (call (.type "enumerate") [v]) Q E s := by
  refine callType_new F.called_enumerate (by decide) (F.typeCall_enumerate_1 _) (F.newCall_enumerate_1 _) (fun obj => F.args_object_init_2 obj _) F.entry_enumerate_new
    (meets_enumerate_newB1 B) ⟨h1, ?_⟩
  have hz : (s.heap.push o).objs.size = s.heap.objs.size + 1 := Heap.size_push ..
  show _ ∧ _
  rw [hz]
  have he : IsEnum ((s.heap.push o).push { cls := .type "enumerate", data := .fields #[.none, .bool false, .ref s.heap.objs.size, rawInt 0, .none, .none] }) (s.heap.objs.size + 1) s.heap.objs.size 0 .none := by
    have := Heap.get?_push_size (s.heap.push o) (o := { cls := .type "enumerate", data := .fields #[.none, .bool false, .ref s.heap.objs.size, rawInt 0, .none, .none] }) rfl
    rw [hz] at this; exact this
  refine ⟨⟨_, he, rfl⟩, h _ he (Heap.get?_push_of_some _ (Heap.get?_push_size _ B.free)) (by rw [Heap.size_push, hz]) fun b o x => Heap.get?_push_of_some _ (Heap.get?_push_of_some _ x)⟩
theorem pi_enumT {X : Cx} {e : Expr} {ta : TA} {p pos tpos : Pos} {elts : List Expr} {kk : Nat} (hg : Gl X "enumerate") (hm : X.mg "enumerate" = none) (ha : PA X [e] ta) (hs : starEach [e] X.env = [(false, eval e X.env)] := by rfl) :
    PI X (.Tuple elts kk tpos) (.Call (.Name "enumerate" p) [e] [] pos) (iEnumT X.K ta) := by
  refine ⟨fun pins s σ H R I h => ?_⟩
  refine Call_ (ld_blt I hg hm boot_enumerate (PyProof.Rows.callWith_type1 (thn (ha.run pos pins s σ H _ I h) fun us s1 ⟨vs, H1, I1, r1, q1⟩ => ?_) hs rfl))
  obtain ⟨a, xs, ex, hq, q⟩ := q1
  subst ex
  cases r1 with
  | cons r rr =>
    cases rr
    cases r
    obtain ⟨its, rv, p', hz⟩ := I1.tuple hq
    refine call_enumerate_B (begins_tuple a its.toArray) (show s1.heap.IsTuple a its.toArray from p') fun h' he hit hsz hk => wpAny_pyIter_enum he ?_
    have I2 : Inv X pins σ H1 { s1 with heap := h' } := I1.kept (t' := s1.toks) hk
    refine ⟨s1.heap.objs.size + 1, [s1.heap.objs.size + 1, s1.heap.objs.size], _, _, H1, rfl, I2, turn_enumT a (s1.heap.objs.size + 1) s1.heap.objs.size, ⟨⟨.none, he⟩, ⟨_, hit, rfl, rfl⟩, Nat.succ_ne_self _⟩, fun b hb => ?_, q⟩
    have e' : b = s1.heap.objs.size + 1 ∨ b = s1.heap.objs.size := by simpa using hb
    have hle : s1.heap.objs.size ≤ b := by
      rcases e' with z | z
      · rw [z]; exact Nat.le_add_right _ _
      · rw [z]; exact Nat.le_refl _
    exact I1.fpOk hle (I1.hok.fresh hle)
theorem walk_enumT {K : PySem.W.Frag} {a : Addr} {xs : List V} : Walk (IteT K a) xs.length (fun H => SqT K H a xs) (YPair (fun i => some (.int (i : Nat))) (fun i => xs[i]?)) := by
  refine ⟨fun i _ hi q => ⟨xs, xs[i], q, by simp [hi]⟩, fun _ q => ⟨xs, q, rfl⟩, fun i H v H' _ q y => ?_⟩
  obtain ⟨T, x, h1, h2, h3, h4⟩ := y
  exact ⟨T, .int (i : Nat), x, h1, h2, h3, rfl, h4 xs q⟩

/-! ### zip(list, tuple) -/
def ItzM (K : PySem.W.Frag) (a b : Addr) : It :=
  ⟨fun i H => ∃ (xs ys : List V) (x y : V), SqL K H a xs ∧ SqT K H b ys ∧ xs[i]? = some x ∧ ys[i]? = some y,
    fun i H v H' => ∃ T x y, v = .ref T ∧ H T = none ∧ H' = upd H T (.tup [x, y]) ∧ (∀ xs, SqL K H a xs → xs[i]? = some x) ∧ ∀ ys, SqT K H b ys → ys[i]? = some y,
    fun i H => ∃ xs ys : List V, SqL K H a xs ∧ SqT K H b ys ∧ min xs.length ys.length = i⟩
theorem in5 {c z TI TO i1 i2 : Addr} (h : c ∈ [z, TO, i1, i2]) : c ∈ [z, TI, TO, i1, i2] := by
  have h' : c = z ∨ c = TO ∨ c = i1 ∨ c = i2 := by simpa using h
  rcases h' with e | e | e | e <;> simp [e]
/-- own cells of the zip -/
def ZmSt (z TI TO i1 i2 a b : Addr) (i : Nat) (h : Heap) : Prop := IsZip h z TI TO .none ∧ IsTupOf2 h TI (.ref i1) (.ref i2) ∧ (∃ x y, IsTupOf2 h TO x y) ∧ h.IsListIter i1 a i ∧ h.IsTupleIter i2 b i
theorem turn_zipM {P : Program} {w : World} {K : PySem.W.Frag} {elts : List Expr} {kk : Nat} {tpos : Pos} {a b z TI TO i1 i2 : Addr} (S : ZipSep2 z TI TO i1 i2 [i1, a] [i2, b]) :
    Turn P w K (.Tuple elts kk tpos) (ItzM K a b) [z, TI, TO, i1, i2] z (ZmSt z TI TO i1 i2 a b) where
  mem := by simp
  obj := fun i h st c hc => by
    obtain ⟨hz, hTI, ⟨x, y, hTO⟩, ⟨o1, e1, _, d1⟩, ⟨o2, e2, _, d2⟩⟩ := st
    have e' : c = z ∨ c = TI ∨ c = TO ∨ c = i1 ∨ c = i2 := by simpa using hc
    rcases e' with q | q | q | q | q
    · rw [q]; exact ⟨_, hz, fun v q => nomatch q⟩
    · rw [q]; exact ⟨_, hTI, fun v q => nomatch q⟩
    · rw [q]; exact ⟨_, hTO, fun v q => nomatch q⟩
    · rw [q]; exact ⟨o1, e1, fun v q => by rw [d1] at q; cases q⟩
    · rw [q]; exact ⟨o2, e2, fun v q => by rw [d2] at q; cases q⟩
  keep := fun i h h' st k => by
    obtain ⟨hz, hTI, ⟨x, y, hTO⟩, h1, h2⟩ := st
    exact ⟨k z (by simp) _ hz, k TI (by simp) _ hTI, ⟨x, y, k TO (by simp) _ hTO⟩, h1.at fun o q => k i1 (by simp) o q, h2.at fun o q => k i2 (by simp) o q⟩
  item := by
    intro X hP hw hK hc i pins s σ H E I hf st hg
    subst hP hw hK
    obtain ⟨hz, hTI, hTO, h1, h2⟩ := st
    obtain ⟨xs, ys, x, y, hqx, hqy, hx, hy⟩ := hg
    obtain ⟨its, rv, p, _⟩ := I.list hqx
    obtain ⟨its2, rv2, p2, _⟩ := I.tuple hqy
    obtain ⟨u, hu, ru⟩ := rv.get hx
    obtain ⟨u2, hu2, ru2⟩ := rv2.get hy
    have hzl : z < s.heap.objs.size := Heap.lt_size hz
    have ne1 : a ≠ i1 := by
      rintro rfl
      obtain ⟨o1, n1, e1, c1, _⟩ := p
      obtain ⟨o2, e2, c2, _⟩ := h1
      rw [e1] at e2
      cases e2
      rw [c1] at c2
      exact absurd c2 (by decide)
    have ne2 : b ≠ i2 := by
      rintro rfl
      obtain ⟨o1, e1, c1, _⟩ := p2
      obtain ⟨o2, e2, c2, _⟩ := h2
      rw [e1] at e2
      cases e2
      rw [c1] at c2
      exact absurd c2 (by decide)
    have hh : X.A.in1.handled = none := I.ok.hd hc
    have W := WalksT.zipD2 (A := X.A) S (Draws.list (prog := X.prog) (w := X.w) (A := X.A.in1) hh i1 a ne1 its.toArray) (Draws.tuple (prog := X.prog) (w := X.w) (A := X.A.in1) hh i2 b ne2 its2.toArray)
    have l1 := (List.getElem?_eq_some_iff.mp hu).1
    have l2 := (List.getElem?_eq_some_iff.mp hu2).1
    refine wpAny_with_toks (n := s.toks) (Nat.le_refl _) ?_
    refine W.item i s _ _ (by simp; omega) ⟨hz, hTI, hTO, ⟨h1, p.isList⟩, ⟨h2, p2⟩⟩ fun T vals h' tk hP hnew hT hm hk htk => ?_
    obtain ⟨x1, x2, g1, g2, rfl⟩ := hP
    have e1 : x1 = u := by
      have g1' : its[i]? = some x1 := by simpa using g1
      rw [hu] at g1'
      exact (Option.some.inj g1').symm
    have e2 : x2 = u2 := by
      have g2' : its2[i]? = some x2 := by simpa using g2
      rw [hu2] at g2'
      exact (Option.some.inj g2').symm
    subst e1 e2
    refine ⟨_, rfl, W.go elts kk tpos i T { s with heap := h', toks := tk } _ _ hm fun h2' st2 hk2 => ?_⟩
    have hTn : T ∉ [z, TO, i1, i2] := W.apart i T h' hm
    have hT2 : h2'.IsTuple T #[x1, x2] := hT.at fun o q => hk2 T o hTn q
    have new : ObjOk X.prog X.w (upd H T (.tup [x, y])) h2' T (.tup [x, y]) := ⟨by show 2 ≤ sizeLine; decide, [x1, x2], .cons ru (.cons ru2 .nil), hT2⟩
    have I1 : Inv X pins σ (upd H T (.tup [x, y])) { s with heap := h2', toks := tk } :=
      I.turnedNew (ch := [z, TI, TO, i1, i2]) (fun c o hb q => hk2 c o (fun q' => hb (in5 q')) (hk c o (fun q' => hb (in5 q')) q)) hf hnew new
    refine ⟨.ref T, _, I1, rfl, ⟨T, x, y, rfl, I.hok.fresh hnew, rfl, fun l hl => by rw [I.list_inj hl hqx]; exact hx, fun l hl => by rw [I.tuple_inj hl hqy]; exact hy⟩, ⟨st2.1, st2.2.1, st2.2.2.1, st2.2.2.2.1.1, st2.2.2.2.2.1⟩, fun c hcm => ?_⟩
    have hlt : c < s.heap.objs.size := by
      have e' : c = z ∨ c = TI ∨ c = TO ∨ c = i1 ∨ c = i2 := by simpa using hcm
      obtain ⟨_, _, hTO'⟩ := hTO
      rcases e' with q | q | q | q | q
      · rw [q]; exact hzl
      · rw [q]; exact Heap.lt_size hTI
      · rw [q]; exact Heap.lt_size hTO'
      · rw [q]; obtain ⟨_, e1, _⟩ := h1; exact Heap.lt_size e1
      · rw [q]; obtain ⟨_, e2, _⟩ := h2; exact Heap.lt_size e2
    rw [upd_ne (Nat.ne_of_lt (Nat.lt_of_lt_of_le hlt hnew))]
    exact (hf c hcm).1
  done := by
    intro X hP hw hK hc i pins s σ H E I hf st hg
    subst hP hw hK
    obtain ⟨hz, hTI, hTO, h1, h2⟩ := st
    obtain ⟨xs, ys, hqx, hqy, hend⟩ := hg
    obtain ⟨its, rv, p, _⟩ := I.list hqx
    obtain ⟨its2, rv2, p2, _⟩ := I.tuple hqy
    have l1 := rv.length
    have l2 := rv2.length
    have ne1 : a ≠ i1 := by
      rintro rfl
      obtain ⟨o1, n1, e1, c1, _⟩ := p
      obtain ⟨o2, e2, c2, _⟩ := h1
      rw [e1] at e2
      cases e2
      rw [c1] at c2
      exact absurd c2 (by decide)
    have ne2 : b ≠ i2 := by
      rintro rfl
      obtain ⟨o1, e1, c1, _⟩ := p2
      obtain ⟨o2, e2, c2, _⟩ := h2
      rw [e1] at e2
      cases e2
      rw [c1] at c2
      exact absurd c2 (by decide)
    have hh : X.A.in1.handled = none := I.ok.hd hc
    have W := WalksT.zipD2 (A := X.A) S (Draws.list (prog := X.prog) (w := X.w) (A := X.A.in1) hh i1 a ne1 its.toArray) (Draws.tuple (prog := X.prog) (w := X.w) (A := X.A.in1) hh i2 b ne2 its2.toArray)
    have en : i = min its.toArray.size its2.toArray.size := by simp; omega
    subst en
    exact W.done s _ _ ⟨hz, hTI, hTO, ⟨h1, p.isList⟩, ⟨h2, p2⟩⟩ fun h' tk hk => ⟨rfl, I.turnedL (t' := tk) (ch := [z, TI, TO, i1, i2]) (fun c o hb q => hk c o (fun q' => hb (in5 q')) q) hf⟩
  self := fun A i s Q E st h => wpAny_pyIter_zip st.1 h
def iZipM (K : PySem.W.Frag) (ta : TA) : TI := fun σ H R => ta σ H fun vs H1 => ∃ a b xs ys, vs = [.ref a, .ref b] ∧ SqL K H1 a xs ∧ SqT K H1 b ys ∧ R (ItzM K a b) H1
theorem pi_zipM {X : Cx} {e e2 : Expr} {ta : TA} {p pos tpos : Pos} {elts : List Expr} {kk : Nat} (hg : Gl X "zip") (hm : X.mg "zip" = none) (ha : PA X [e, e2] ta)
    (hs : starEach [e, e2] X.env = (false, eval e X.env) :: starEach [e2] X.env := by rfl) (hpl : (backTo pos (starEach [e2] X.env)).any (·.1) = false := by rfl) :
    PI X (.Tuple elts kk tpos) (.Call (.Name "zip" p) [e, e2] [] pos) (iZipM X.K ta) := by
  refine ⟨fun pins s σ H R I h => ?_⟩
  refine Call_ (ld_blt I hg hm PyProof.Rows.boot_zip (PyProof.Rows.callWith_type1 (thn (ha.run pos pins s σ H _ I h) fun us s1 ⟨vs, H1, I1, r1, q1⟩ => ?_) hs hpl))
  obtain ⟨a, b, xs, ys, ex, hqx, hqy, q⟩ := q1
  subst ex
  cases r1 with
  | cons r rr =>
    cases rr with
    | cons r' rr =>
      cases rr
      cases r
      cases r'
      obtain ⟨its, rv, p1, _⟩ := I1.list hqx
      obtain ⟨its2, rv2, p2, _⟩ := I1.tuple hqy
      have la : a < s1.heap.objs.size := p1.lt
      have lb : b < s1.heap.objs.size := by obtain ⟨_, e, _⟩ := p2; exact Heap.lt_size e
      refine zip_begins2 (begins_list a its.toArray) (begins_tuple b its2.toArray) p1.isList p2 fun h' hz hTI hTO h1 h2 hsz hk => wpAny_pyIter_zip hz ?_
      have I2 : Inv X pins σ H1 { s1 with heap := h' } := I1.kept (t' := s1.toks) hk
      refine ⟨s1.heap.objs.size + 4, [s1.heap.objs.size + 4, s1.heap.objs.size + 2, s1.heap.objs.size + 3, s1.heap.objs.size, s1.heap.objs.size + 1], _, _, H1, rfl, I2, turn_zipM (zip_sep2 (N := s1.heap.objs.size) (fp1 := [a]) (fp2 := [b]) (by simpa using la) (by simpa using lb)), ⟨hz, hTI, ⟨_, _, hTO⟩, ⟨_, h1, rfl, rfl⟩, ⟨_, h2, rfl, rfl⟩⟩, fun c hcm => ?_, q⟩
      have e' : c = s1.heap.objs.size + 4 ∨ c = s1.heap.objs.size + 2 ∨ c = s1.heap.objs.size + 3 ∨ c = s1.heap.objs.size ∨ c = s1.heap.objs.size + 1 := by simpa using hcm
      have hle : s1.heap.objs.size ≤ c := by
        rcases e' with z | z | z | z | z
        · rw [z]; exact Nat.le_add_right _ _
        · rw [z]; exact Nat.le_add_right _ _
        · rw [z]; exact Nat.le_add_right _ _
        · rw [z]; exact Nat.le_refl _
        · rw [z]; exact Nat.le_add_right _ _
      exact I1.fpOk hle (I1.hok.fresh hle)
theorem walk_zipM {K : PySem.W.Frag} {a b : Addr} {xs ys : List V} {n : Nat} (hn : n = min xs.length ys.length) : Walk (ItzM K a b) n (fun H => SqL K H a xs ∧ SqT K H b ys) (YPair (fun i => xs[i]?) (fun i => ys[i]?)) := by
  subst hn
  refine ⟨fun i _ hi q => ?_, fun _ q => ⟨xs, ys, q.1, q.2, rfl⟩, fun i H v H' _ q y => ?_⟩
  · have h1 : i < xs.length := by omega
    have h2 : i < ys.length := by omega
    exact ⟨xs, ys, xs[i], ys[i], q.1, q.2, by simp [h1], by simp [h2]⟩
  · obtain ⟨T, x, z, h1, h2, h3, h4, h5⟩ := y
    exact ⟨T, x, z, h1, h2, h3, h4 xs q.1, h5 ys q.2⟩

/-! ### C.m(..), m a staticmethod of the class at C -/
/-- C.m is a staticmethod: its record at p, its def at g -/
structure SMet (K : PySem.W.Frag) (C : Addr) (mc : Value) (m : Str) (p g : Addr) : Prop where
  at_ : PySem.W.findCls K (.ref C) mc m = some (.get (.builtin "staticmethod.__get__") (.ref p) .none (.ref C))
  rc : ∃ rest, PySem.W.recIn K p "staticmethod" = some (.ref g :: rest)
  kp : PySem.W.keepIn K (.ref g) = true
def tSMeth (C : Addr) (sp : Sp) (E : XK) (ta : TE) (t : TA) : TE := fun σ H Q => ta σ H fun x H1 => x = .ref C ∧ t σ H1 fun vs H2 => sp vs H2 Q E
theorem pe_smeth {X : Cx} {CX : CXT} {k : Nat} {C p g : Addr} {fd : FuncData} {ps : List Str} {mc : Value} {sp : Sp} {E : XK} {o e : Expr} {es : List Expr} {m : Str} {pos apos : Pos} {ta : TE} {t : TA} {pl : Sem Bool}
    (he : PE X o ta) (r : ClX.CRead X.K C mc) (c : SMet X.K C mc m p g) (F : FnOk X.prog X.w X.K X.mg X.base CX k g fd ps sp) (hr : Room k X.A) (hb : Binds X.K fd ps []) (hx : Passes CX X E) (ha : PA X (e :: es) t)
    (hst : starEach (e :: es) X.env = (false, eval e X.env) :: starEach es X.env := by rfl) (hpl : (backTo pos (starEach es X.env)).any (·.1) = false := by rfl)
    (ht : eval (.Call (.Attribute o m apos) (e :: es) [] pos) X.env = (do
      let ov ← eval o X.env
      standAt apos.atName
      let (f, first) ← holding [ov] (getMethod ov m pl)
      callWith pos f first (backTo pos (starEach (e :: es) X.env)) (backToKw pos (keywordEach [] X.env))) := by rfl) :
    PE X (.Call (.Attribute o m apos) (e :: es) [] pos) (tSMeth C sp E ta t) := by
  refine ⟨fun pins s σ H Q I h => ?_⟩
  refine PySem.W.methodCall_KW (pl := pl) (thn (he.run pins s σ H _ I h) fun u s1 ⟨x, H1, I1, rx, ex, q⟩ => ?_) ht
  subst ex
  obtain rfl : u = Value.ref C := rx
  obtain ⟨rest, hp⟩ := c.rc
  refine PySem.W.method_cls I1.kIn r.ga (PySem.W.cls_bind I1.kIn r.rd c.at_ ?_)
  refine wpAny_call (PySem.W.sm_get (s := { s1 with toks := s1.toks + 1 }) I1.kIn hp (PySem.W.handed_on rfl ?_))
  have I2 := I1.tok (s1.toks + 1)
  refine PySem.W.callWith_K (first := []) (h₀ := X.base) I.ok.mod.kin c.kp (thn (ha.run pos pins _ σ H1 _ I2 q) fun us s2 ⟨vs, H2, I3, rv, q2⟩ => ⟨I3.kIn, ?_⟩) hst hpl
  exact run_fn (dvs := []) (ds := []) F hr hb .nil hx I3 rv (by rw [List.append_nil]; exact q2)
end K59
set_option maxHeartbeats 4000000
/-! The places of the defs and their slots. Printed by gen_text.py. -/
namespace K59
open PySem PySem.Spec PyProof.Rows L2
def top (i : Nat) : Stmt := PySem.Challenge.pw_downpass_k59_papers_of_choices.main.body.getD i (.Pass ⟨0, 0, 0, 0⟩)
/-- is_number: 0 word 1 char -/
abbrev sIsNumber : Stmt := top 11
theorem scIsNumber : FnScope ["word", "char"] ["word"] (defScope sIsNumber) := ⟨rfl, rfl, rfl, by decide +kernel, rfl, by decide +kernel, by decide +kernel⟩
/-- is_name: 0 word 1 char -/
abbrev sIsName : Stmt := top 13
theorem scIsName : FnScope ["word", "char"] ["word"] (defScope sIsName) := ⟨rfl, rfl, rfl, by decide +kernel, rfl, by decide +kernel, by decide +kernel⟩
/-- Line.__init__: 0 self 1 number 2 text -/
abbrev sLineInit : Stmt := inClass (top 14) 0
theorem scLineInit : FnScope ["self", "number", "text"] ["self", "number", "text"] (defScope sLineInit) := ⟨rfl, rfl, rfl, by decide +kernel, rfl, by decide +kernel, by decide +kernel⟩
/-- Line.at_end: 0 self -/
abbrev sLineAtEnd : Stmt := inClass (top 14) 2
theorem scLineAtEnd : FnScope ["self"] ["self"] (defScope sLineAtEnd) := ⟨rfl, rfl, rfl, by decide +kernel, rfl, by decide +kernel, by decide +kernel⟩
/-- Line.peek: 0 self -/
abbrev sLinePeek : Stmt := inClass (top 14) 3
theorem scLinePeek : FnScope ["self"] ["self"] (defScope sLinePeek) := ⟨rfl, rfl, rfl, by decide +kernel, rfl, by decide +kernel, by decide +kernel⟩
/-- Line.skip: 0 self -/
abbrev sLineSkip : Stmt := inClass (top 14) 4
theorem scLineSkip : FnScope ["self"] ["self"] (defScope sLineSkip) := ⟨rfl, rfl, rfl, by decide +kernel, rfl, by decide +kernel, by decide +kernel⟩
/-- Line.expect: 0 self 1 word -/
abbrev sLineExpect : Stmt := inClass (top 14) 5
theorem scLineExpect : FnScope ["self", "word"] ["self", "word"] (defScope sLineExpect) := ⟨rfl, rfl, rfl, by decide +kernel, rfl, by decide +kernel, by decide +kernel⟩
/-- Line.take_number: 0 self 1 least 2 most 3 word -/
abbrev sLineTakeNumber : Stmt := inClass (top 14) 6
theorem scLineTakeNumber : FnScope ["self", "least", "most", "word"] ["self", "least", "most"] (defScope sLineTakeNumber) := ⟨rfl, rfl, rfl, by decide +kernel, rfl, by decide +kernel, by decide +kernel⟩
/-- Line.take_field: 0 self 1 word 2 least 3 most -/
abbrev sLineTakeField : Stmt := inClass (top 14) 7
theorem scLineTakeField : FnScope ["self", "word", "least", "most"] ["self", "word", "least", "most"] (defScope sLineTakeField) := ⟨rfl, rfl, rfl, by decide +kernel, rfl, by decide +kernel, by decide +kernel⟩
/-- Line.take_new: 0 self 1 taken 2 word -/
abbrev sLineTakeNew : Stmt := inClass (top 14) 8
theorem scLineTakeNew : FnScope ["self", "taken", "word"] ["self", "taken"] (defScope sLineTakeNew) := ⟨rfl, rfl, rfl, by decide +kernel, rfl, by decide +kernel, by decide +kernel⟩
/-- Line.take_known: 0 self 1 names 2 least 3 word -/
abbrev sLineTakeKnown : Stmt := inClass (top 14) 9
theorem scLineTakeKnown : FnScope ["self", "names", "least", "word"] ["self", "names", "least"] (defScope sLineTakeKnown) := ⟨rfl, rfl, rfl, by decide +kernel, rfl, by decide +kernel, by decide +kernel⟩
/-- Line.finish: 0 self -/
abbrev sLineFinish : Stmt := inClass (top 14) 10
theorem scLineFinish : FnScope ["self"] ["self"] (defScope sLineFinish) := ⟨rfl, rfl, rfl, by decide +kernel, rfl, by decide +kernel, by decide +kernel⟩
/-- lines_of: 0 text 1 rows 2 index 3 row -/
abbrev sLinesOf : Stmt := top 15
theorem scLinesOf : FnScope ["text", "rows", "index", "row"] ["text"] (defScope sLinesOf) := ⟨rfl, rfl, rfl, by decide +kernel, rfl, by decide +kernel, by decide +kernel⟩
/-- with_made: 0 case 1 number 2 entry -/
abbrev sWithMade : Stmt := top 19
theorem scWithMade : FnScope ["case", "number", "entry"] ["case", "number", "entry"] (defScope sWithMade) := ⟨rfl, rfl, rfl, by decide +kernel, rfl, by decide +kernel, by decide +kernel⟩
/-- with_taken: 0 case 1 number 2 entry -/
abbrev sWithTaken : Stmt := top 20
theorem scWithTaken : FnScope ["case", "number", "entry"] ["case", "number", "entry"] (defScope sWithTaken) := ⟨rfl, rfl, rfl, by decide +kernel, rfl, by decide +kernel, by decide +kernel⟩
/-- Satellite.__init__: 0 self 1 name 2 store 3 power 4 charge 5 settle 6 light -/
abbrev sSatelliteInit : Stmt := inClass (top 28) 0
theorem scSatelliteInit : FnScope ["self", "name", "store", "power", "charge", "settle", "light"] ["self", "name", "store", "power", "charge", "settle", "light"] (defScope sSatelliteInit) := ⟨rfl, rfl, rfl, by decide +kernel, rfl, by decide +kernel, by decide +kernel⟩
/-- Satellite.line: 0 self 1 words 2 first 3 end -/
abbrev sSatelliteLine : Stmt := inClass (top 28) 1
theorem scSatelliteLine : FnScope ["self", "words", "first", "end"] ["self"] (defScope sSatelliteLine) := ⟨rfl, rfl, rfl, by decide +kernel, rfl, by decide +kernel, by decide +kernel⟩
/-- Station.__init__: 0 self 1 name 2 antennas 3 turn -/
abbrev sStationInit : Stmt := inClass (top 29) 0
theorem scStationInit : FnScope ["self", "name", "antennas", "turn"] ["self", "name", "antennas", "turn"] (defScope sStationInit) := ⟨rfl, rfl, rfl, by decide +kernel, rfl, by decide +kernel, by decide +kernel⟩
/-- Station.line: 0 self -/
abbrev sStationLine : Stmt := inClass (top 29) 1
theorem scStationLine : FnScope ["self"] ["self"] (defScope sStationLine) := ⟨rfl, rfl, rfl, by decide +kernel, rfl, by decide +kernel, by decide +kernel⟩
/-- Recording.__init__: 0 self 1 name 2 satellite 3 window 4 amounts 5 urgency -/
abbrev sRecordingInit : Stmt := inClass (top 30) 0
theorem scRecordingInit : FnScope ["self", "name", "satellite", "window", "amounts", "urgency"] ["self", "name", "satellite", "window", "amounts", "urgency"] (defScope sRecordingInit) := ⟨rfl, rfl, rfl, by decide +kernel, rfl, by decide +kernel, by decide +kernel⟩
/-- Recording.line: 0 self 1 world 2 words -/
abbrev sRecordingLine : Stmt := inClass (top 30) 1
theorem scRecordingLine : FnScope ["self", "world", "words"] ["self", "world"] (defScope sRecordingLine) := ⟨rfl, rfl, rfl, by decide +kernel, rfl, by decide +kernel, by decide +kernel⟩
/-- Pass.__init__: 0 self 1 name 2 satellite 3 station 4 span 5 amounts -/
abbrev sPassInit : Stmt := inClass (top 31) 0
theorem scPassInit : FnScope ["self", "name", "satellite", "station", "span", "amounts"] ["self", "name", "satellite", "station", "span", "amounts"] (defScope sPassInit) := ⟨rfl, rfl, rfl, by decide +kernel, rfl, by decide +kernel, by decide +kernel⟩
/-- Pass.line: 0 self 1 world 2 words -/
abbrev sPassLine : Stmt := inClass (top 31) 1
theorem scPassLine : FnScope ["self", "world", "words"] ["self", "world"] (defScope sPassLine) := ⟨rfl, rfl, rfl, by decide +kernel, rfl, by decide +kernel, by decide +kernel⟩
/-- names_of: 0 things 1 thing -/
abbrev sNamesOf : Stmt := top 32
theorem scNamesOf : FnScope ["things", "thing"] ["things"] (defScope sNamesOf) := ⟨rfl, rfl, rfl, by decide +kernel, rfl, by decide +kernel, by decide +kernel⟩
/-- Draft.__init__: 0 self 1 horizon -/
abbrev sDraftInit : Stmt := inClass (top 33) 0
theorem scDraftInit : FnScope ["self", "horizon"] ["self", "horizon"] (defScope sDraftInit) := ⟨rfl, rfl, rfl, by decide +kernel, rfl, by decide +kernel, by decide +kernel⟩
/-- World.__init__: 0 self 1 draft 2 number -/
abbrev sWorldInit : Stmt := inClass (top 34) 6
theorem scWorldInit : FnScope ["self", "draft", "number"] ["self", "draft"] (defScope sWorldInit) := ⟨rfl, rfl, rfl, by decide +kernel, rfl, by decide +kernel, by decide +kernel⟩
/-- World.parse: 0 text 1 lines 2 draft 3 stage 4 line -/
abbrev sWorldParse : Stmt := inClass (top 34) 8
theorem scWorldParse : FnScope ["text", "lines", "draft", "stage", "line"] ["text"] (defScope sWorldParse) := ⟨rfl, rfl, rfl, by decide +kernel, rfl, by decide +kernel, by decide +kernel⟩
/-- read_line: 0 world 1 line 2 stage 3 word 4 kind 5 listed 6 most 7 name -/
abbrev sReadLine : Stmt := top 36
theorem scReadLine : FnScope ["world", "line", "stage", "word", "kind", "listed", "most", "name"] ["world", "line", "stage"] (defScope sReadLine) := ⟨rfl, rfl, rfl, by decide +kernel, rfl, by decide +kernel, by decide +kernel⟩
/-- read_satellite: 0 world 1 line 2 name 3 store 4 battery 5 level 6 reserve 7 charge 8 settle 9 light 10 least 11 first -/
abbrev sReadSatellite : Stmt := top 37
theorem scReadSatellite : FnScope ["world", "line", "name", "store", "battery", "level", "reserve", "charge", "settle", "light", "least", "first"] ["world", "line", "name"] (defScope sReadSatellite) := ⟨rfl, rfl, rfl, by decide +kernel, rfl, by decide +kernel, by decide +kernel⟩
/-- read_recording: 0 world 1 line 2 name 3 satellite 4 earliest 5 latest 6 length 7 size 8 energy 9 worth 10 rank 11 deadline -/
abbrev sReadRecording : Stmt := top 38
theorem scReadRecording : FnScope ["world", "line", "name", "satellite", "earliest", "latest", "length", "size", "energy", "worth", "rank", "deadline"] ["world", "line", "name"] (defScope sReadRecording) := ⟨rfl, rfl, rfl, by decide +kernel, rfl, by decide +kernel, by decide +kernel⟩
/-- read_pass: 0 world 1 line 2 name 3 satellite 4 station 5 first 6 end 7 room 8 energy 9 fee -/
abbrev sReadPass : Stmt := top 39
theorem scReadPass : FnScope ["world", "line", "name", "satellite", "station", "first", "end", "room", "energy", "fee"] ["world", "line", "name"] (defScope sReadPass) := ⟨rfl, rfl, rfl, by decide +kernel, rfl, by decide +kernel, by decide +kernel⟩
/-- world_text: 0 world 1 lines 2 satellite 3 station 4 recording 5 chance 6 line -/
abbrev sWorldText : Stmt := top 40
theorem scWorldText : FnScope ["world", "lines", "satellite", "station", "recording", "chance", "line"] ["world"] (defScope sWorldText) := ⟨rfl, rfl, rfl, by decide +kernel, rfl, by decide +kernel, by decide +kernel⟩
/-- found_options: 0 world 1 number 2 recording 3 found 4 start 5 index 6 chance -/
abbrev sFoundOptions : Stmt := top 41
theorem scFoundOptions : FnScope ["world", "number", "recording", "found", "start", "index", "chance"] ["world", "number"] (defScope sFoundOptions) := ⟨rfl, rfl, rfl, by decide +kernel, rfl, by decide +kernel, by decide +kernel⟩
/-- options: 0 world 1 number -/
abbrev sOptions : Stmt := top 42
theorem scOptions : FnScope ["world", "number"] ["world", "number"] (defScope sOptions) := ⟨rfl, rfl, rfl, by decide +kernel, rfl, by decide +kernel, by decide +kernel⟩
/-- base_of: 0 world 1 worths 2 fees 3 recording 4 chance -/
abbrev sBaseOf : Stmt := top 55
theorem scBaseOf : FnScope ["world", "worths", "fees", "recording", "chance"] ["world"] (defScope sBaseOf) := ⟨rfl, rfl, rfl, by decide +kernel, rfl, by decide +kernel, by decide +kernel⟩
/-- recording_weight: 0 world 1 r 2 recording 3 weight 4 _ -/
abbrev sRecordingWeight : Stmt := top 56
theorem scRecordingWeight : FnScope ["world", "r", "recording", "weight", "_"] ["world", "r"] (defScope sRecordingWeight) := ⟨rfl, rfl, rfl, by decide +kernel, rfl, by decide +kernel, by decide +kernel⟩
/-- is_amount: 0 value 1 least -/
abbrev sIsAmount : Stmt := top 58
theorem scIsAmount : FnScope ["value", "least"] ["value", "least"] (defScope sIsAmount) := ⟨rfl, rfl, rfl, by decide +kernel, rfl, by decide +kernel, by decide +kernel⟩
/-- check_prices: 0 world 1 divisor 2 prices 3 row 4 price -/
abbrev sCheckPrices : Stmt := top 59
theorem scCheckPrices : FnScope ["world", "divisor", "prices", "row", "price"] ["world", "divisor", "prices"] (defScope sCheckPrices) := ⟨rfl, rfl, rfl, by decide +kernel, rfl, by decide +kernel, by decide +kernel⟩
/-- recording_gain: 0 world 1 divisor 2 prices 3 r 4 option 5 cost 6 row 7 price -/
abbrev sRecordingGain : Stmt := top 60
theorem scRecordingGain : FnScope ["world", "divisor", "prices", "r", "option", "cost", "row", "price"] ["world", "divisor", "prices", "r", "option"] (defScope sRecordingGain) := ⟨rfl, rfl, rfl, by decide +kernel, rfl, by decide +kernel, by decide +kernel⟩
/-- pass_gain: 0 world 1 divisor 2 prices 3 p 4 cost 5 row 6 price -/
abbrev sPassGain : Stmt := top 61
theorem scPassGain : FnScope ["world", "divisor", "prices", "p", "cost", "row", "price"] ["world", "divisor", "prices", "p"] (defScope sPassGain) := ⟨rfl, rfl, rfl, by decide +kernel, rfl, by decide +kernel, by decide +kernel⟩
/-- best_recording: 0 world 1 divisor 2 prices 3 r 4 best 5 option 6 gain -/
abbrev sBestRecording : Stmt := top 62
theorem scBestRecording : FnScope ["world", "divisor", "prices", "r", "best", "option", "gain"] ["world", "divisor", "prices", "r"] (defScope sBestRecording) := ⟨rfl, rfl, rfl, by decide +kernel, rfl, by decide +kernel, by decide +kernel⟩
/-- recording_term: 0 world 1 divisor 2 prices 3 r 4 entry -/
abbrev sRecordingTerm : Stmt := top 63
theorem scRecordingTerm : FnScope ["world", "divisor", "prices", "r", "entry"] ["world", "divisor", "prices", "r", "entry"] (defScope sRecordingTerm) := ⟨rfl, rfl, rfl, by decide +kernel, rfl, by decide +kernel, by decide +kernel⟩
/-- pass_term: 0 world 1 divisor 2 prices 3 p 4 entry 5 gain -/
abbrev sPassTerm : Stmt := top 64
theorem scPassTerm : FnScope ["world", "divisor", "prices", "p", "entry", "gain"] ["world", "divisor", "prices", "p", "entry"] (defScope sPassTerm) := ⟨rfl, rfl, rfl, by decide +kernel, rfl, by decide +kernel, by decide +kernel⟩
/-- bound: 0 world 1 case 2 divisor 3 prices 4 total 5 r 6 entry 7 p 8 row 9 price -/
abbrev sBound : Stmt := top 65
theorem scBound : FnScope ["world", "case", "divisor", "prices", "total", "r", "entry", "p", "row", "price"] ["world", "case", "divisor", "prices"] (defScope sBound) := ⟨rfl, rfl, rfl, by decide +kernel, rfl, by decide +kernel, by decide +kernel⟩
/-- is_index: 0 value 1 count -/
abbrev sIsIndex : Stmt := top 84
theorem scIsIndex : FnScope ["value", "count"] ["value", "count"] (defScope sIsIndex) := ⟨rfl, rfl, rfl, by decide +kernel, rfl, by decide +kernel, by decide +kernel⟩
/-- are_prices: 0 prices 1 pair -/
abbrev sArePrices : Stmt := top 85
theorem scArePrices : FnScope ["prices", "pair"] ["prices"] (defScope sArePrices) := ⟨rfl, rfl, rfl, by decide +kernel, rfl, by decide +kernel, by decide +kernel⟩
/-- closes_by_prices: 0 world 1 case 2 weight 3 divisor 4 prices -/
abbrev sClosesByPrices : Stmt := top 86
theorem scClosesByPrices : FnScope ["world", "case", "weight", "divisor", "prices"] ["world", "case", "weight", "divisor", "prices"] (defScope sClosesByPrices) := ⟨rfl, rfl, rfl, by decide +kernel, rfl, by decide +kernel, by decide +kernel⟩
/-- recording_cases: 0 world 1 case 2 r 3 entry -/
abbrev sRecordingCases : Stmt := top 87
theorem scRecordingCases : FnScope ["world", "case", "r", "entry"] ["world", "case", "r"] (defScope sRecordingCases) := ⟨rfl, rfl, rfl, by decide +kernel, rfl, by decide +kernel, by decide +kernel⟩
/-- pass_cases: 0 world 1 case 2 p 3 antennas 4 entry -/
abbrev sPassCases : Stmt := top 88
theorem scPassCases : FnScope ["world", "case", "p", "antennas", "entry"] ["world", "case", "p"] (defScope sPassCases) := ⟨rfl, rfl, rfl, by decide +kernel, rfl, by decide +kernel, by decide +kernel⟩
/-- split_cases: 0 world 1 case 2 kind 3 index -/
abbrev sSplitCases : Stmt := top 89
theorem scSplitCases : FnScope ["world", "case", "kind", "index"] ["world", "case", "kind", "index"] (defScope sSplitCases) := ⟨rfl, rfl, rfl, by decide +kernel, rfl, by decide +kernel, by decide +kernel⟩
/-- closes_all: 0 world 1 cases 2 weight 3 papers 4 case 5 paper -/
abbrev sClosesAll : Stmt := top 90
theorem scClosesAll : FnScope ["world", "cases", "weight", "papers", "case", "paper"] ["world", "cases", "weight", "papers"] (defScope sClosesAll) := ⟨rfl, rfl, rfl, by decide +kernel, rfl, by decide +kernel, by decide +kernel⟩
/-- closes: 0 world 1 case 2 weight 3 paper 4 cases -/
abbrev sCloses : Stmt := top 91
theorem scCloses : FnScope ["world", "case", "weight", "paper", "cases"] ["world", "case", "weight", "paper"] (defScope sCloses) := ⟨rfl, rfl, rfl, by decide +kernel, rfl, by decide +kernel, by decide +kernel⟩
/-- _law_cell: 0 _law_script 1 _law_k -/
abbrev sLCell : Stmt := top 93
theorem scLCell : FnScope ["_law_script", "_law_k"] ["_law_script", "_law_k"] (defScope sLCell) := ⟨rfl, rfl, rfl, by decide +kernel, rfl, by decide +kernel, by decide +kernel⟩
/-- _law_draws: 0 _law_cell_here 1 _law_count 2 _law_result 3 _law_rest 4 _law_k 5 _law_mixed -/
abbrev sLDraws : Stmt := top 94
theorem scLDraws : FnScope ["_law_cell_here", "_law_count", "_law_result", "_law_rest", "_law_k", "_law_mixed"] ["_law_cell_here", "_law_count"] (defScope sLDraws) := ⟨rfl, rfl, rfl, by decide +kernel, rfl, by decide +kernel, by decide +kernel⟩
/-- _law_satellite: 0 _law_cell_here 1 _law_k 2 _law_n 3 _law_battery 4 _law_level 5 _law_reserve 6 _law_text_here 7 _law_first -/
abbrev sLSatellite : Stmt := top 95
theorem scLSatellite : FnScope ["_law_cell_here", "_law_k", "_law_n", "_law_battery", "_law_level", "_law_reserve", "_law_text_here", "_law_first"] ["_law_cell_here", "_law_k"] (defScope sLSatellite) := ⟨rfl, rfl, rfl, by decide +kernel, rfl, by decide +kernel, by decide +kernel⟩
/-- _law_recording: 0 _law_cell_here 1 _law_k 2 _law_satellites 3 _law_n 4 _law_earliest 5 _law_text_here -/
abbrev sLRecording : Stmt := top 96
theorem scLRecording : FnScope ["_law_cell_here", "_law_k", "_law_satellites", "_law_n", "_law_earliest", "_law_text_here"] ["_law_cell_here", "_law_k", "_law_satellites"] (defScope sLRecording) := ⟨rfl, rfl, rfl, by decide +kernel, rfl, by decide +kernel, by decide +kernel⟩
/-- _law_pass: 0 _law_cell_here 1 _law_k 2 _law_satellites 3 _law_stations 4 _law_n 5 _law_first 6 _law_text_here -/
abbrev sLPass : Stmt := top 97
theorem scLPass : FnScope ["_law_cell_here", "_law_k", "_law_satellites", "_law_stations", "_law_n", "_law_first", "_law_text_here"] ["_law_cell_here", "_law_k", "_law_satellites", "_law_stations"] (defScope sLPass) := ⟨rfl, rfl, rfl, by decide +kernel, rfl, by decide +kernel, by decide +kernel⟩
/-- _law_text: 0 _law_script 1 _law_recordings 2 _law_passes 3 _law_satellites 4 _law_stations 5 _law_text_here 6 _law_k 7 _law_n -/
abbrev sLText : Stmt := top 98
theorem scLText : FnScope ["_law_script", "_law_recordings", "_law_passes", "_law_satellites", "_law_stations", "_law_text_here", "_law_k", "_law_n"] ["_law_script", "_law_recordings", "_law_passes"] (defScope sLText) := ⟨rfl, rfl, rfl, by decide +kernel, rfl, by decide +kernel, by decide +kernel⟩
/-- _law_world: 0 _law_script 1 _law_size -/
abbrev sLWorld : Stmt := top 99
theorem scLWorld : FnScope ["_law_script", "_law_size"] ["_law_script"] (defScope sLWorld) := ⟨rfl, rfl, rfl, by decide +kernel, rfl, by decide +kernel, by decide +kernel⟩
/-- _law_options: 0 _law_world_here 1 _law_r 2 _law_recording_here 3 _law_found 4 _law_start 5 _law_p 6 _law_chance -/
abbrev sLOptions : Stmt := top 100
theorem scLOptions : FnScope ["_law_world_here", "_law_r", "_law_recording_here", "_law_found", "_law_start", "_law_p", "_law_chance"] ["_law_world_here", "_law_r"] (defScope sLOptions) := ⟨rfl, rfl, rfl, by decide +kernel, rfl, by decide +kernel, by decide +kernel⟩
/-- _law_drawn: 0 _law_world_here 1 _law_cell_here 2 _law_numbers 3 _law_made 4 _law_r 5 _law_options_here 6 _law_taken 7 _law_p 8 _law_chance 9 _law_number -/
abbrev sLDrawn : Stmt := top 101
theorem scLDrawn : FnScope ["_law_world_here", "_law_cell_here", "_law_numbers", "_law_made", "_law_r", "_law_options_here", "_law_taken", "_law_p", "_law_chance", "_law_number"] ["_law_world_here", "_law_cell_here"] (defScope sLDrawn) := ⟨rfl, rfl, rfl, by decide +kernel, rfl, by decide +kernel, by decide +kernel⟩
/-- _law_recording_weight: 0 _law_world_here 1 _law_r 2 _law_recording_here 3 _law_base 4 _law_weight 5 _law_k 6 _law_x -/
abbrev sLRecordingWeight : Stmt := top 102
theorem scLRecordingWeight : FnScope ["_law_world_here", "_law_r", "_law_recording_here", "_law_base", "_law_weight", "_law_k", "_law_x"] ["_law_world_here", "_law_r"] (defScope sLRecordingWeight) := ⟨rfl, rfl, rfl, by decide +kernel, rfl, by decide +kernel, by decide +kernel⟩
/-- _law_gain: 0 _law_world_here 1 _law_divisor 2 _law_prices 3 _law_r 4 _law_option 5 _law_cost 6 _law_row 7 _law_price -/
abbrev sLGain : Stmt := top 106
theorem scLGain : FnScope ["_law_world_here", "_law_divisor", "_law_prices", "_law_r", "_law_option", "_law_cost", "_law_row", "_law_price"] ["_law_world_here", "_law_divisor", "_law_prices", "_law_r", "_law_option"] (defScope sLGain) := ⟨rfl, rfl, rfl, by decide +kernel, rfl, by decide +kernel, by decide +kernel⟩
/-- _law_bound: 0 _law_world_here 1 _law_case_here 2 _law_divisor 3 _law_prices 4 _law_total 5 _law_r 6 _law_entry 7 _law_p 8 _law_gain_here 9 _law_row 10 _law_price 11 _law_option -/
abbrev sLBound : Stmt := top 107
theorem scLBound : FnScope ["_law_world_here", "_law_case_here", "_law_divisor", "_law_prices", "_law_total", "_law_r", "_law_entry", "_law_p", "_law_gain_here", "_law_row", "_law_price", "_law_option"] ["_law_world_here", "_law_case_here", "_law_divisor", "_law_prices"] (defScope sLBound) := ⟨rfl, rfl, rfl, by decide +kernel, rfl, by decide +kernel, by decide +kernel⟩
/-- _law_case: 0 _law_plan 1 _law_cell_here 2 _law_numbers 3 _law_made 4 _law_r 5 _law_taken 6 _law_p -/
abbrev sLCase : Stmt := top 108
theorem scLCase : FnScope ["_law_plan", "_law_cell_here", "_law_numbers", "_law_made", "_law_r", "_law_taken", "_law_p"] ["_law_plan", "_law_cell_here"] (defScope sLCase) := ⟨rfl, rfl, rfl, by decide +kernel, rfl, by decide +kernel, by decide +kernel⟩
/-- _law_ways: 0 _law_world_here 1 _law_case_here 2 _law_kind 3 _law_at 4 _law_ways_here 5 _law_way -/
abbrev sLWays : Stmt := top 109
theorem scLWays : FnScope ["_law_world_here", "_law_case_here", "_law_kind", "_law_at", "_law_ways_here", "_law_way"] ["_law_world_here", "_law_case_here", "_law_kind", "_law_at"] (defScope sLWays) := ⟨rfl, rfl, rfl, by decide +kernel, rfl, by decide +kernel, by decide +kernel⟩
/-- law: 0 _law_script 1 _law_world_here 2 _law_case_here 3 _law_choices 4 _law_kind 5 _law_at 6 _law_ways_here 7 _law_most 8 _law_papers 9 _law_r 10 _law_entry 11 _law_p 12 _law_way -/
abbrev sLaw : Stmt := top 110
theorem scLaw : FnScope ["_law_script", "_law_world_here", "_law_case_here", "_law_choices", "_law_kind", "_law_at", "_law_ways_here", "_law_most", "_law_papers", "_law_r", "_law_entry", "_law_p", "_law_way"] ["_law_script"] (defScope sLaw) := ⟨rfl, rfl, rfl, by decide +kernel, rfl, by decide +kernel, by decide +kernel⟩
end K59
set_option maxHeartbeats 4000000
/-! Plain law: numbers, names, lines as texts; the data of a world and when it is fit. -/
namespace K59
open PySem PySem.Spec PyProof.Rows L2 TL

/-! ### numbers below 64 and names as texts -/
def numS (n : Int) : Str := Str.ofString (toString n)
def nm (c : String) (k : Int) : Str := Str.ofString c ++ numS k
def digs : List Nat := [48, 49, 50, 51, 52, 53, 54, 55, 56, 57]
def lets : List Nat := [97, 98, 99, 100, 101, 102, 103, 104, 105, 106, 107, 108, 109, 110, 111, 112, 113, 114, 115, 116, 117, 118, 119, 120, 121, 122,
  65, 66, 67, 68, 69, 70, 71, 72, 73, 74, 75, 76, 77, 78, 79, 80, 81, 82, 83, 84, 85, 86, 87, 88, 89, 90]
/-- what is_number asks of a word -/
structure NumW (z : Str) : Prop where
  ne : z ≠ Str.ofString ""
  le : z.length ≤ 7
  hd : ∀ c, z.cps[0]? = some c → c = 48 → z.length = 1
  all : ∀ c ∈ z.cps.toList, c ∈ digs
/-- what is_name asks of a word -/
structure NameW (z : Str) : Prop where
  ne : z ≠ Str.ofString ""
  le : z.length ≤ 15
  hd : ∀ c, z.cps[0]? = some c → c ∈ lets
  all : ∀ c ∈ z.cps.toList, c ∈ lets ∨ c ∈ digs
def numB (m : Nat) (z : Str) : Bool := !decide (z = Str.ofString "") && (decide (z.length ≤ 2) && ((z.cps.toList.all fun c => decide (c ∈ digs)) && ((match z.cps[0]? with
  | some c => !decide (c = 48) || decide (z.length = 1)
  | none => true) && decide (PySem.intText? z = some (m : Int)))))
theorem numB_all : ((List.range 64).all fun m => numB m (numS (m : Int))) = true := by decide +kernel
theorem numB_of {n : Int} (h0 : 0 ≤ n) (h1 : n < 64) : numB n.toNat (numS n) = true := by
  have h := List.all_eq_true.mp numB_all n.toNat (List.mem_range.mpr (by omega))
  have e : ((n.toNat : Nat) : Int) = n := by omega
  rw [e] at h
  exact h
theorem num_facts {n : Int} (h0 : 0 ≤ n) (h1 : n < 64) : NumW (numS n) ∧ (numS n).length ≤ 2 ∧ PySem.intText? (numS n) = some n := by
  have h := numB_of h0 h1
  unfold numB at h
  simp only [Bool.and_eq_true, decide_eq_true_eq, Bool.not_eq_true', decide_eq_false_iff_not] at h
  obtain ⟨a, b, c, d, e⟩ := h
  have en : ((n.toNat : Nat) : Int) = n := by omega
  rw [en] at e
  refine ⟨⟨a, by omega, fun x hx hx2 => ?_, fun x hx => ?_⟩, b, e⟩
  · rw [hx] at d
    simp only [Bool.or_eq_true, Bool.not_eq_true', decide_eq_false_iff_not, decide_eq_true_eq] at d
    rcases d with d | d
    · exact absurd hx2 d
    · exact d
  · have := List.all_eq_true.mp c x hx
    exact of_decide_eq_true this
theorem numW {n : Int} (h0 : 0 ≤ n) (h1 : n < 64) : NumW (numS n) := (num_facts h0 h1).1
theorem num_len {n : Int} (h0 : 0 ≤ n) (h1 : n < 64) : (numS n).length ≤ 2 := (num_facts h0 h1).2.1
theorem num_int {n : Int} (h0 : 0 ≤ n) (h1 : n < 64) : PySem.intText? (numS n) = some n := (num_facts h0 h1).2.2
theorem num_log {n : Int} (h0 : 0 ≤ n) (h1 : n < 64) : n.natAbs.log2 < 1920 := by
  have h : n.natAbs < 64 := by omega
  have h2 : n.natAbs.log2 ≤ n.natAbs := Nat.log2_le_self _
  omega
def nameB (z : Str) : Bool := !decide (z = Str.ofString "") && (decide (z.length ≤ 4) && ((z.cps.toList.all fun c => decide (c ∈ lets) || decide (c ∈ digs)) && (match z.cps[0]? with
  | some c => decide (c ∈ lets)
  | none => true)))
theorem name_of {z : Str} (h : nameB z = true) : NameW z ∧ z.length ≤ 4 := by
  unfold nameB at h
  simp only [Bool.and_eq_true, decide_eq_true_eq, Bool.not_eq_true', decide_eq_false_iff_not] at h
  obtain ⟨a, b, c, d⟩ := h
  refine ⟨⟨a, by omega, fun x hx => ?_, fun x hx => ?_⟩, b⟩
  · rw [hx] at d
    exact of_decide_eq_true d
  · have := List.all_eq_true.mp c x hx
    simpa using this
theorem nameB_all : ((List.range 8).all fun m => nameB (nm "s" (m : Int)) && (nameB (nm "t" (m : Int)) && (nameB (nm "r" (m : Int)) && nameB (nm "p" (m : Int))))) = true := by decide +kernel
theorem nm_ok {k : Int} (h0 : 0 ≤ k) (h1 : k < 8) : (NameW (nm "s" k) ∧ (nm "s" k).length ≤ 4) ∧ (NameW (nm "t" k) ∧ (nm "t" k).length ≤ 4) ∧ (NameW (nm "r" k) ∧ (nm "r" k).length ≤ 4) ∧ (NameW (nm "p" k) ∧ (nm "p" k).length ≤ 4) := by
  have h := List.all_eq_true.mp nameB_all k.toNat (List.mem_range.mpr (by omega))
  have e : ((k.toNat : Nat) : Int) = k := by omega
  rw [e] at h
  simp only [Bool.and_eq_true] at h
  exact ⟨name_of h.1, name_of h.2.1, name_of h.2.2.1, name_of h.2.2.2⟩
/-- names of one letter are told apart by their numbers -/
def injB (c : String) : Bool := (List.range 8).all fun i => (List.range 8).all fun j => decide (i = j) || !decide (nm c (i : Int) = nm c (j : Int))
theorem inj_all : (injB "s" && (injB "t" && (injB "r" && injB "p"))) = true := by decide +kernel
theorem inj_of {c : String} (h : injB c = true) {i j : Nat} (hi : i < 8) (hj : j < 8) (e : nm c (i : Int) = nm c (j : Int)) : i = j := by
  have h1 := List.all_eq_true.mp (List.all_eq_true.mp h i (List.mem_range.mpr hi)) j (List.mem_range.mpr hj)
  simp only [Bool.or_eq_true, decide_eq_true_eq, Bool.not_eq_true', decide_eq_false_iff_not] at h1
  rcases h1 with h1 | h1
  · exact h1
  · exact absurd e h1
theorem injS : injB "s" = true := (Bool.and_eq_true_iff.mp inj_all).1
theorem injT : injB "t" = true := (Bool.and_eq_true_iff.mp (Bool.and_eq_true_iff.mp inj_all).2).1
theorem injR : injB "r" = true := (Bool.and_eq_true_iff.mp (Bool.and_eq_true_iff.mp (Bool.and_eq_true_iff.mp inj_all).2).2).1
theorem injP : injB "p" = true := (Bool.and_eq_true_iff.mp (Bool.and_eq_true_iff.mp (Bool.and_eq_true_iff.mp inj_all).2).2).2

/-! ### words: no blank, no newline -/
def Wrd (z : Str) : Prop := ∀ c ∈ tl z, c ≠ 32 ∧ c ≠ 10
def wrdB (z : Str) : Bool := (tl z).all fun c => !decide (c = 32) && !decide (c = 10)
theorem wrd_of {z : Str} (h : wrdB z = true) : Wrd z := fun c hc => by
  have := List.all_eq_true.mp h c hc
  simpa using this
theorem NumW.wrd {z : Str} (h : NumW z) : Wrd z := fun c hc => by
  have := h.all c hc
  constructor <;> (rintro rfl; revert this; decide)
theorem NameW.wrd {z : Str} (h : NameW z) : Wrd z := fun c hc => by
  have := h.all c hc
  constructor <;> (rintro rfl; revert this; decide)

/-! ### rows, texts -/
def sp : Str := Str.ofString " "
def nl : Str := Str.ofString "\n"
def rowT (ws : List Str) : Str := Str.join sp ws
theorem tl_sp : tl sp = [32] := by decide +kernel
theorem tl_nl : tl nl = [10] := by decide +kernel
/-- the whole text of some rows, each with its newline -/
def textL (rows : List (List Str)) : List Nat := rows.flatMap fun r => tl (rowT r) ++ [10]
theorem join_rows : ∀ rows : List (List Str), tl (Str.join nl (rows.map rowT ++ [Str.ofString ""])) = textL rows
  | [] => by decide +kernel
  | [r] => by
    show tl (rowT r ++ nl ++ Str.ofString "") = _
    rw [tl_append, tl_append, tl_nl]
    show tl (rowT r) ++ [10] ++ tl (Str.ofString "") = (tl (rowT r) ++ [10]) ++ []
    rw [show tl (Str.ofString "") = [] by decide +kernel]
  | r :: q :: rest => by
    show tl (rowT r ++ nl ++ Str.join nl ((q :: rest).map rowT ++ [Str.ofString ""])) = _
    rw [tl_append, tl_append, tl_nl, join_rows (q :: rest)]
    show _ = (tl (rowT r) ++ [10]) ++ textL (q :: rest)
    rw [List.append_assoc]
theorem text_eq {z : Str} {rows : List (List Str)} (h : tl z = textL rows) : z = Str.join nl (rows.map rowT ++ [Str.ofString ""]) := ext_tl (h.trans (join_rows rows).symm)
/-- the rows read back -/
theorem split_rows {z : Str} {rows : List (List Str)} (h : tl z = textL rows) (hr : ∀ r ∈ rows, ∀ w ∈ r, Wrd w) : Txt.split z nl = rows.map rowT ++ [Str.ofString ""] := by
  rw [text_eq h, ← join_eq]
  refine split_join (s := 10) (S := []) tl_nl (by decide +kernel) (by simp) fun p hp => ?_
  rcases List.mem_append.mp hp with hp | hp
  · obtain ⟨r, hr1, rfl⟩ := List.mem_map.mp hp
    have hj : ∀ ws : List Str, (∀ w ∈ ws, Wrd w) → 10 ∉ tl (rowT ws) := by
      intro ws hw hm
      unfold rowT at hm
      rw [tl_join, tl_sp] at hm
      have : ∀ ps : List (List Nat), (∀ p ∈ ps, 10 ∉ p) → 10 ∉ joinL [32] ps := by
        intro ps
        induction ps with
        | nil => intro _ h; simp [joinL] at h
        | cons p r ih =>
          intro h1 h2
          cases r with
          | nil => exact h1 p (List.mem_singleton.mpr rfl) h2
          | cons q r =>
            have h3 : 10 ∈ p ++ ([32] ++ joinL [32] (q :: r)) := h2
            rcases List.mem_append.mp h3 with h4 | h4
            · exact h1 p (List.mem_cons_self ..) h4
            · rcases List.mem_append.mp h4 with h5 | h5
              · simp at h5
              · exact ih (fun x hx => h1 x (List.mem_cons_of_mem _ hx)) h5
      refine this _ (fun p hp => ?_) hm
      obtain ⟨w, hw1, rfl⟩ := List.mem_map.mp hp
      exact fun hc => (hw w hw1 10 hc).2 rfl
    exact hj r (hr r hr1)
  · rw [List.mem_singleton.mp hp]
    decide +kernel
/-- the words of a row read back -/
theorem split_words {ws : List Str} (hne : ws ≠ []) (hw : ∀ w ∈ ws, Wrd w) : Txt.split (rowT ws) sp = ws := by
  unfold rowT
  rw [← join_eq]
  exact split_join (s := 32) (S := []) tl_sp (by decide +kernel) hne fun p hp hc => (hw p hp 32 hc).1 rfl

/-! ### the data of a world -/
structure Sat where
  name : Str
  store : Int
  battery : Int
  level : Int
  reserve : Int
  charge : Int
  settle : Int
  light : List (Int × Int)
structure Sta where
  name : Str
  antennas : Int
  turn : Int
structure Rcd where
  name : Str
  sat : Nat
  earliest : Int
  latest : Int
  length : Int
  size : Int
  energy : Int
  worth : Int
  rank : Int
  deadline : Int
structure Pas where
  name : Str
  sat : Nat
  sta : Nat
  first : Int
  last : Int
  room : Int
  energy : Int
  fee : Int
structure Wld where
  sats : List Sat
  stas : List Sta
  recs : List Rcd
  pass : List Pas

/-- spans within 0 to 40, from least on -/
def LightOk : Int → List (Int × Int) → Prop
  | _, [] => True
  | least, (a, b) :: r => least ≤ a ∧ a < b ∧ b ≤ 40 ∧ LightOk b r
structure SatOk (k : Nat) (s : Sat) : Prop where
  name : s.name = nm "s" (k : Int)
  store : 0 ≤ s.store ∧ s.store < 64
  battery : s.level ≤ s.battery ∧ s.battery < 64
  level : s.reserve ≤ s.level
  reserve : 0 ≤ s.reserve
  charge : 0 ≤ s.charge ∧ s.charge < 64
  settle : 0 ≤ s.settle ∧ s.settle < 60
  light : LightOk 0 s.light
  few : s.light.length ≤ 2
structure StaOk (k : Nat) (s : Sta) : Prop where
  name : s.name = nm "t" (k : Int)
  antennas : 1 ≤ s.antennas ∧ s.antennas ≤ 3
  turn : 0 ≤ s.turn ∧ s.turn < 60
structure RcdOk (ns k : Nat) (r : Rcd) : Prop where
  name : r.name = nm "r" (k : Int)
  sat : r.sat < ns
  earliest : 0 ≤ r.earliest ∧ r.earliest ≤ 39
  latest : r.earliest ≤ r.latest ∧ r.latest ≤ r.earliest + 20 ∧ r.latest ≤ 39
  length : 1 ≤ r.length ∧ r.length ≤ 40 - r.latest
  size : 0 ≤ r.size ∧ r.size < 64
  energy : 0 ≤ r.energy ∧ r.energy < 64
  worth : 1 ≤ r.worth ∧ r.worth < 64
  rank : 1 ≤ r.rank ∧ r.rank ≤ 3
  deadline : 0 ≤ r.deadline ∧ r.deadline ≤ 40
structure PasOk (ns nt k : Nat) (p : Pas) : Prop where
  name : p.name = nm "p" (k : Int)
  sat : p.sat < ns
  sta : p.sta < nt
  span : 0 ≤ p.first ∧ p.first + 1 ≤ p.last ∧ p.last ≤ 40
  room : 0 ≤ p.room ∧ p.room < 64
  energy : 0 ≤ p.energy ∧ p.energy < 64
  fee : 0 ≤ p.fee ∧ p.fee < 64
structure WldOk (w : Wld) : Prop where
  sats : ∀ i s, w.sats[i]? = some s → SatOk i s
  stas : ∀ i s, w.stas[i]? = some s → StaOk i s
  recs : ∀ i r, w.recs[i]? = some r → RcdOk w.sats.length i r
  pass : ∀ i p, w.pass[i]? = some p → PasOk w.sats.length w.stas.length i p
  nsats : w.sats.length ≤ 2
  nstas : w.stas.length ≤ 2
  nrecs : w.recs.length ≤ 5
  npass : w.pass.length ≤ 4

def spansW (l : List (Int × Int)) : List Str := l.flatMap fun q => [numS q.1, numS q.2]
def satW (s : Sat) : List Str := ((["satellite", s.name, "store", numS s.store, "battery", numS s.battery, "level", numS s.level, "reserve", numS s.reserve, "charge", numS s.charge, "settle", numS s.settle, "light"] : List Str) ++ spansW s.light)
def staW (s : Sta) : List Str := ["station", s.name, "antennas", numS s.antennas, "turn", numS s.turn]
def rcdW (r : Rcd) : List Str := ["recording", r.name, "by", nm "s" (r.sat : Int), "from", numS r.earliest, "to", numS r.latest, "length", numS r.length, "size", numS r.size, "energy", numS r.energy, "worth", numS r.worth, "rank", numS r.rank, "until", numS r.deadline]
def pasW (p : Pas) : List Str := ["pass", p.name, "by", nm "s" (p.sat : Int), "over", nm "t" (p.sta : Int), "from", numS p.first, "to", numS p.last, "room", numS p.room, "energy", numS p.energy, "fee", numS p.fee]
def horW : List Str := ["horizon", numS 40]
def rowsOf (w : Wld) : List (List Str) := horW :: (w.sats.map satW ++ (w.stas.map staW ++ (w.recs.map rcdW ++ w.pass.map pasW)))
end K59
set_option maxHeartbeats 4000000
/-! The heap: what stands where; fields by places; what the top has written (Tx); callees (Cal, CalM, CalI). -/
namespace K59
open PySem PySem.Spec PyProof.Rows L2 TL

/-! ### fields by places -/
theorem mem_at {α : Type} {l : List α} {f : α} (i : Nat) (h : l[i]? = some f := by rfl) : f ∈ l := List.mem_of_getElem? h
/-- names and values in pairs -/
abbrev Fs := List (Str × V)
theorem lookup_zip : ∀ {ns : List Str} {vs : List V} {f : Str} {v : V} {i : Nat}, ns.Nodup → ns[i]? = some f → vs[i]? = some v → (ns.zip vs).lookup f = some v
  | [], _, _, _, _, _, h, _ => by simp at h
  | n :: ns, [], _, _, _, _, _, h => by simp at h
  | n :: ns, w :: vs, f, v, 0, _, h1, h2 => by
    have e1 : n = f := Option.some.inj h1
    have e2 : w = v := Option.some.inj h2
    subst e1 e2
    show ((n, w) :: ns.zip vs).lookup n = some w
    rw [List.lookup_cons, beq_self_eq_true]
  | n :: ns, w :: vs, f, v, i + 1, hN, h1, h2 => by
    have hN2 := List.nodup_cons.mp hN
    have hm : f ∈ ns := List.mem_of_getElem? (show ns[i]? = some f from h1)
    have ne : ¬ f = n := fun e => hN2.1 (e ▸ hm)
    show ((n, w) :: ns.zip vs).lookup f = some v
    rw [List.lookup_cons, show (f == n) = false from beq_eq_false_iff_ne.mpr ne]
    exact lookup_zip hN2.2 h1 h2
theorem lookup_out : ∀ {ns : List Str} {vs : List V} {f : Str}, f ∉ ns → (ns.zip vs).lookup f = none
  | [], _, _, _ => by simp
  | n :: ns, [], _, _ => by simp
  | n :: ns, w :: vs, f, h => by
    have ne : ¬ f = n := fun e => h (e ▸ List.mem_cons_self ..)
    show ((n, w) :: ns.zip vs).lookup f = none
    rw [List.lookup_cons, show (f == n) = false from beq_eq_false_iff_ne.mpr ne]
    exact lookup_out fun z => h (List.mem_cons_of_mem _ z)
theorem putF_zip : ∀ {ns : List Str} {vs : List V} {f : Str} {v : V} {i : Nat}, ns.Nodup → ns[i]? = some f → i < vs.length → putF f v (ns.zip vs) = ns.zip (vs.set i v)
  | [], _, _, _, _, _, h, _ => by simp at h
  | n :: ns, [], _, _, _, _, _, h => absurd h (Nat.not_lt_zero _)
  | n :: ns, w :: vs, f, v, 0, _, h1, h2 => by
    have e1 : n = f := Option.some.inj h1
    subst e1
    show (if n = n then (n, v) :: ns.zip vs else _) = _
    rw [if_pos rfl]
    rfl
  | n :: ns, w :: vs, f, v, i + 1, hN, h1, h2 => by
    have hN2 := List.nodup_cons.mp hN
    have hm : f ∈ ns := List.mem_of_getElem? (show ns[i]? = some f from h1)
    have ne : ¬ n = f := fun e => hN2.1 (e ▸ hm)
    show (if n = f then _ else (n, w) :: putF f v (ns.zip vs)) = _
    rw [if_neg ne, putF_zip hN2.2 h1 (Nat.lt_of_succ_lt_succ h2)]
    rfl
theorem putF_end : ∀ {fs : Fs} {f : Str} {v : V}, f ∉ fs.map (·.1) → putF f v fs = fs ++ [(f, v)]
  | [], _, _, _ => rfl
  | (n, w) :: fs, f, v, h => by
    have ne : ¬ n = f := fun e => h (by rw [← e]; exact List.mem_cons_self ..)
    show (if n = f then _ else (n, w) :: putF f v fs) = _
    rw [if_neg ne, putF_end fun z => h (List.mem_cons_of_mem _ z)]
    rfl
def puts (l : Fs) : Fs := l.foldl (fun acc q => putF q.1 q.2 acc) []
theorem puts_on : ∀ (l acc : Fs), ((acc ++ l).map (·.1)).Nodup → l.foldl (fun acc q => putF q.1 q.2 acc) acc = acc ++ l
  | [], acc, _ => by simp
  | (f, v) :: l, acc, h => by
    show l.foldl (fun acc q => putF q.1 q.2 acc) (putF f v acc) = _
    have h2 : (((acc ++ [(f, v)]) ++ l).map (·.1)).Nodup := by rw [List.append_assoc]; exact h
    have hn : f ∉ acc.map (·.1) := by
      intro hm
      rw [List.map_append, List.nodup_append] at h
      exact h.2.2 _ hm _ (List.mem_cons_self ..) rfl
    rw [putF_end hn, puts_on l _ h2, List.append_assoc]
    rfl
theorem puts_zip {ns : List Str} {vs : List V} (hN : ns.Nodup) (hl : ns.length = vs.length) : puts (ns.zip vs) = ns.zip vs := by
  have e : (ns.zip vs).map (·.1) = ns := by
    rw [← List.unzip_fst, List.unzip_zip hl]
  have h := puts_on (ns.zip vs) [] (by rw [List.nil_append, e]; exact hN)
  rw [List.nil_append] at h
  exact h
theorem putF_le {fs : Fs} {f : Str} {v : V} {k : Nat} (h : fs.length ≤ k) : (putF f v fs).length ≤ k + 1 := Nat.le_trans (length_putF f v fs) (Nat.succ_le_succ h)
theorem lt1000 {n k : Nat} (h : n ≤ k) (hk : k < 1000 := by decide) : n < 1000 := Nat.lt_of_le_of_lt h hk

/-! ### the attributes of the classes, in the order in which they are stored -/
def nLine : List Str := ["number", "words", "place", "column"]
def nSat : List Str := ["name", "store", "battery", "start_level", "reserve", "charge", "settle", "light"]
def nSta : List Str := ["name", "antennas", "turn"]
def nRcd : List Str := ["name", "satellite", "earliest", "latest", "length", "size", "energy", "worth", "rank", "deadline"]
def nPas : List Str := ["name", "satellite", "station", "span", "room", "energy", "fee"]
def nDraft : List Str := ["horizon", "satellites", "stations", "recordings", "passes"]
def nWld : List Str := ["horizon", "satellites", "stations", "recordings", "passes", "choices", "text"]
theorem ndLine : nLine.Nodup := by decide +kernel
theorem ndSat : nSat.Nodup := by decide +kernel
theorem ndSta : nSta.Nodup := by decide +kernel
theorem ndRcd : nRcd.Nodup := by decide +kernel
theorem ndPas : nPas.Nodup := by decide +kernel
theorem ndDraft : nDraft.Nodup := by decide +kernel
theorem ndWld : nWld.Nodup := by decide +kernel

/-! ### heaps -/
/-- all that was tracked is as it was but at S -/
def Off (S : List Addr) (H H' : Hp) : Prop := ∀ b o, H b = some o → b ∉ S → H' b = some o
theorem _root_.L2.Same.off {S : List Addr} {H H' : Hp} (h : Same H H') : Off S H H' := fun b o e _ => h b o e
theorem Off.refl {S : List Addr} {H : Hp} : Off S H H := fun _ _ e _ => e
theorem Off.trans {S : List Addr} {H H1 H2 : Hp} (a : Off S H H1) (b : Off S H1 H2) : Off S H H2 := fun c o e n => b c o (a c o e n) n
theorem Off.mono {S T : List Addr} {H H' : Hp} (a : Off S H H') (h : ∀ b ∈ S, b ∈ T) : Off T H H' := fun c o e n => a c o e fun z => n (h c z)
theorem Off.wr {S : List Addr} {H : Hp} {p : Addr} {o : HO} (h : p ∈ S) : Off S H (upd H p o) := fun b u e n => by
  rw [upd_ne (fun z => n (by rw [z]; exact h))]
  exact e
theorem same_upd {H : Hp} {p : Addr} {o : HO} (h : H p = none) : Same H (upd H p o) := fun b x e => by
  rw [upd_ne (ne_of_none e h)]
  exact e
theorem _root_.L2.Same.to {H H1 : Hp} {p : Addr} {o : HO} (s : Same H H1) (h : H1 p = none) : Same H (upd H1 p o) := s.trans (same_upd h)
theorem Off.to {S : List Addr} {H H1 : Hp} {p : Addr} {o : HO} (s : Off S H H1) (h : H1 p = none) : Off S H (upd H1 p o) := s.trans (same_upd h).off
/-- a new address stays new behind -/
theorem off_none {S : List Addr} {H H' : Hp} {p : Addr} (s : Off S H H') (h : H' p = none) (hp : p ∉ S) : H p = none := by
  cases q : H p with
  | none => rfl
  | some o =>
    rw [s p o q hp] at h
    cases h
/-- tuples and objects other than lines and lists are kept -/
structure Kp (H H' : Hp) : Prop where
  tup : ∀ t xs, H t = some (.tup xs) → H' t = some (.tup xs)
  ins : ∀ a C dx fs f v, H a = some (.ins C dx fs) → fs.lookup f = some v → f ∉ nLine → H' a = some (.ins C dx fs)
theorem _root_.L2.Same.kp {H H' : Hp} (h : Same H H') : Kp H H' := ⟨fun t xs e => h t _ e, fun a C dx fs f v e _ _ => h a _ e⟩
theorem Kp.refl {H : Hp} : Kp H H := ⟨fun _ _ e => e, fun _ _ _ _ _ _ e _ _ => e⟩
theorem Kp.trans {H H1 H2 : Hp} (a : Kp H H1) (b : Kp H1 H2) : Kp H H2 := ⟨fun t xs e => b.tup t xs (a.tup t xs e), fun p C dx fs f v e l n => b.ins p C dx fs f v (a.ins p C dx fs f v e l n) l n⟩
/-- what may change -/
def Soft (H : Hp) (s : Addr) : Prop := (∃ C dx vs, H s = some (.ins C dx (nLine.zip vs))) ∨ ∃ xs, H s = some (.lst xs)
theorem Off.kp {S : List Addr} {H H' : Hp} (h : Off S H H') (hs : ∀ s ∈ S, Soft H s) : Kp H H' := by
  refine ⟨fun t xs e => h t _ e fun z => ?_, fun a C dx fs f v e l n => h a _ e fun z => ?_⟩
  · rcases hs t z with ⟨C, dx, vs, q⟩ | ⟨ys, q⟩
    · rw [e] at q; cases q
    · rw [e] at q; cases q
  · rcases hs a z with ⟨C', dx', vs, q⟩ | ⟨ys, q⟩
    · rw [e] at q
      cases q
      rw [lookup_out n] at l
      cases l
    · rw [e] at q; cases q

/-! ### lists of things, one by one -/
/-- as and bs are of one length, F holds of each two -/
structure All2 {α β : Type} (F : α → β → Prop) (as : List α) (bs : List β) : Prop where
  len : as.length = bs.length
  at_ : ∀ (i : Nat) (a : α) (b : β), as[i]? = some a → bs[i]? = some b → F a b
section
variable {α β : Type} {F G : α → β → Prop} {as : List α} {bs : List β}
theorem All2.nil : All2 F [] [] := ⟨rfl, fun i a b h => by simp at h⟩
theorem All2.mono (h : All2 F as bs) (m : ∀ a b, F a b → G a b) : All2 G as bs := ⟨h.len, fun i a b x y => m a b (h.at_ i a b x y)⟩
theorem All2.snoc {a : α} {b : β} (h : All2 F as bs) (q : F a b) : All2 F (as ++ [a]) (bs ++ [b]) := by
  refine ⟨by simp [h.len], fun i x y hx hy => ?_⟩
  rw [List.getElem?_append] at hx hy
  by_cases hi : i < as.length
  · rw [if_pos hi] at hx
    rw [if_pos (by rw [← h.len]; exact hi)] at hy
    exact h.at_ i x y hx hy
  · rw [if_neg hi] at hx
    rw [if_neg (by rw [← h.len]; exact hi)] at hy
    have e : i - as.length = i - bs.length := by rw [h.len]
    have z : i - as.length = 0 := by
      have := (List.getElem?_eq_some_iff.mp hx).1
      simp at this
      omega
    rw [z] at hx
    rw [← e, z] at hy
    simp at hx hy
    rw [← hx, ← hy]
    exact q
theorem All2.get (h : All2 F as bs) {i : Nat} {b : β} (e : bs[i]? = some b) : ∃ a, as[i]? = some a ∧ F a b := by
  have hi : i < bs.length := (List.getElem?_eq_some_iff.mp e).1
  have hi2 : i < as.length := by rw [h.len]; exact hi
  exact ⟨as[i], List.getElem?_eq_getElem hi2, h.at_ i _ _ (List.getElem?_eq_getElem hi2) e⟩
theorem All2.getL (h : All2 F as bs) {i : Nat} {a : α} (e : as[i]? = some a) : ∃ b, bs[i]? = some b ∧ F a b := by
  have hi : i < as.length := (List.getElem?_eq_some_iff.mp e).1
  have hi2 : i < bs.length := by rw [← h.len]; exact hi
  exact ⟨bs[i], List.getElem?_eq_getElem hi2, h.at_ i _ _ e (List.getElem?_eq_getElem hi2)⟩
theorem All2.set {a : α} {b : β} {j : Nat} (h : All2 F as bs) (q : F a b) : All2 F (as.set j a) (bs.set j b) := by
  refine ⟨by simp [h.len], fun i x y hx hy => ?_⟩
  rw [List.getElem?_set] at hx hy
  by_cases hij : j = i
  · rw [if_pos hij] at hx hy
    by_cases hl : j < as.length
    · have hl2 : j < bs.length := by rw [← h.len]; exact hl
      subst hij
      rw [if_pos hl] at hx
      rw [if_pos hl2] at hy
      cases hx
      cases hy
      exact q
    · subst hij
      rw [if_neg hl] at hx
      cases hx
  · rw [if_neg hij] at hx hy
    exact h.at_ i x y hx hy
end

/-! ### a line that is read -/
abbrev cl (K : PySem.W.Frag) (x : Str) : Addr := He.ga K x
structure Ln where
  p : Addr
  wl : Addr
  ws : List Str
structure LineAt (K : PySem.W.Frag) (H : Hp) (L : Ln) (i : Nat) : Prop where
  ob : ∃ (dx : Addr) (n col : Int), H L.p = some (.ins (cl K "Line") dx (nLine.zip [.int n, .ref L.wl, .int (i : Nat), .int col]))
  wl : H L.wl = some (.lst (L.ws.map V.str))
  few : L.ws.length ≤ 100
  short : ∀ w ∈ L.ws, w.length ≤ 20
section
variable {K : PySem.W.Frag} {H H' : Hp} {L : Ln} {i : Nat} {S : List Addr}
theorem LineAt.off (h : LineAt K H L i) (s : Off S H H') (h1 : L.p ∉ S) (h2 : L.wl ∉ S) : LineAt K H' L i := by
  obtain ⟨dx, n, col, e⟩ := h.ob
  exact ⟨⟨dx, n, col, s _ _ e h1⟩, s _ _ h.wl h2, h.few, h.short⟩
theorem LineAt.same (h : LineAt K H L i) (s : Same H H') : LineAt K H' L i := h.off (S := []) s.off (by simp) (by simp)
theorem LineAt.soft (h : LineAt K H L i) : Soft H L.p := by
  obtain ⟨dx, n, col, e⟩ := h.ob
  exact .inl ⟨_, _, _, e⟩
theorem LineAt.kp (h : LineAt K H L i) (s : Off [L.p] H H') : Kp H H' := s.kp fun x hx => by
  rw [List.mem_singleton.mp hx]
  exact h.soft
theorem LineAt.ne_lst {a : Addr} {xs : List V} (h : LineAt K H L i) (e : H a = some (.lst xs)) : a ≠ L.p := by
  obtain ⟨dx, n, col, q⟩ := h.ob
  exact ne_of e q (by intro z; cases z)
end

/-! ### the objects of a world -/
def PairAt (H : Hp) (t : Addr) (q : Int × Int) : Prop := H t = some (.tup [.int q.1, .int q.2])
structure SatAt (K : PySem.W.Frag) (H : Hp) (a : Addr) (s : Sat) : Prop where
  ex : ∃ (dx t : Addr) (ts : List Addr), H a = some (.ins (cl K "Satellite") dx (nSat.zip [.str s.name, .int s.store, .int s.battery, .int s.level, .int s.reserve, .int s.charge, .int s.settle, .ref t])) ∧
    H t = some (.tup (ts.map V.ref)) ∧ All2 (PairAt H) ts s.light
structure StaAt (K : PySem.W.Frag) (H : Hp) (a : Addr) (s : Sta) : Prop where
  ex : ∃ dx : Addr, H a = some (.ins (cl K "Station") dx (nSta.zip [.str s.name, .int s.antennas, .int s.turn]))
structure RcdAt (K : PySem.W.Frag) (H : Hp) (a : Addr) (r : Rcd) : Prop where
  ex : ∃ dx : Addr, H a = some (.ins (cl K "Recording") dx (nRcd.zip [.str r.name, .int (r.sat : Int), .int r.earliest, .int r.latest, .int r.length, .int r.size, .int r.energy, .int r.worth, .int r.rank, .int r.deadline]))
structure PasAt (K : PySem.W.Frag) (H : Hp) (a : Addr) (p : Pas) : Prop where
  ex : ∃ dx t : Addr, H a = some (.ins (cl K "Pass") dx (nPas.zip [.str p.name, .int (p.sat : Int), .int (p.sta : Int), .ref t, .int p.room, .int p.energy, .int p.fee])) ∧ PairAt H t (p.first, p.last)
section
variable {K : PySem.W.Frag} {H H' : Hp} {a : Addr}
theorem PairAt.kp {q : Int × Int} (h : PairAt H a q) (k : Kp H H') : PairAt H' a q := k.tup _ _ h
theorem SatAt.kp {s : Sat} (h : SatAt K H a s) (k : Kp H H') : SatAt K H' a s := by
  obtain ⟨dx, t, ts, e, et, al⟩ := h.ex
  exact ⟨dx, t, ts, k.ins _ _ _ _ _ _ e (lookup_zip ndSat (i := 0) rfl rfl) (by decide +kernel), k.tup _ _ et, al.mono fun _ _ z => z.kp k⟩
theorem StaAt.kp {s : Sta} (h : StaAt K H a s) (k : Kp H H') : StaAt K H' a s := by
  obtain ⟨dx, e⟩ := h.ex
  exact ⟨dx, k.ins _ _ _ _ _ _ e (lookup_zip ndSta (i := 0) rfl rfl) (by decide +kernel)⟩
theorem RcdAt.kp {s : Rcd} (h : RcdAt K H a s) (k : Kp H H') : RcdAt K H' a s := by
  obtain ⟨dx, e⟩ := h.ex
  exact ⟨dx, k.ins _ _ _ _ _ _ e (lookup_zip ndRcd (i := 0) rfl rfl) (by decide +kernel)⟩
theorem PasAt.kp {s : Pas} (h : PasAt K H a s) (k : Kp H H') : PasAt K H' a s := by
  obtain ⟨dx, t, e, et⟩ := h.ex
  exact ⟨dx, t, k.ins _ _ _ _ _ _ e (lookup_zip ndPas (i := 0) rfl rfl) (by decide +kernel), et.kp k⟩
end

/-! ### a draft -/
structure Dr where
  d : Addr
  a1 : Addr
  a2 : Addr
  a3 : Addr
  a4 : Addr
  q1 : List Addr
  q2 : List Addr
  q3 : List Addr
  q4 : List Addr
structure DraftAt (K : PySem.W.Frag) (H : Hp) (D : Dr) (w : Wld) : Prop where
  ob : ∃ dx : Addr, H D.d = some (.ins (cl K "Draft") dx (nDraft.zip [.int 40, .ref D.a1, .ref D.a2, .ref D.a3, .ref D.a4]))
  l1 : H D.a1 = some (.lst (D.q1.map V.ref))
  l2 : H D.a2 = some (.lst (D.q2.map V.ref))
  l3 : H D.a3 = some (.lst (D.q3.map V.ref))
  l4 : H D.a4 = some (.lst (D.q4.map V.ref))
  s1 : All2 (SatAt K H) D.q1 w.sats
  s2 : All2 (StaAt K H) D.q2 w.stas
  s3 : All2 (RcdAt K H) D.q3 w.recs
  s4 : All2 (PasAt K H) D.q4 w.pass
  nd : [D.a1, D.a2, D.a3, D.a4].Nodup
theorem DraftAt.off {K : PySem.W.Frag} {H H' : Hp} {D : Dr} {w : Wld} {S : List Addr} (h : DraftAt K H D w) (s : Off S H H') (k : Kp H H') (hs : ∀ b ∈ [D.a1, D.a2, D.a3, D.a4], b ∉ S) : DraftAt K H' D w := by
  obtain ⟨dx, e⟩ := h.ob
  exact ⟨⟨dx, k.ins _ _ _ _ _ _ e (lookup_zip ndDraft (i := 0) rfl rfl) (by decide +kernel)⟩, s _ _ h.l1 (hs _ (by simp)), s _ _ h.l2 (hs _ (by simp)), s _ _ h.l3 (hs _ (by simp)), s _ _ h.l4 (hs _ (by simp)),
    h.s1.mono fun _ _ z => z.kp k, h.s2.mono fun _ _ z => z.kp k, h.s3.mono fun _ _ z => z.kp k, h.s4.mono fun _ _ z => z.kp k, h.nd⟩
theorem DraftAt.line {K : PySem.W.Frag} {H H' : Hp} {D : Dr} {w : Wld} {L : Ln} {i : Nat} (h : DraftAt K H D w) (l : LineAt K H L i) (s : Off [L.p] H H') : DraftAt K H' D w := by
  refine h.off s (l.kp s) fun b hb hc => ?_
  rw [List.mem_singleton.mp hc] at hb
  have hb' : L.p = D.a1 ∨ L.p = D.a2 ∨ L.p = D.a3 ∨ L.p = D.a4 := by simpa using hb
  rcases hb' with e | e | e | e
  · exact l.ne_lst h.l1 e.symm
  · exact l.ne_lst h.l2 e.symm
  · exact l.ne_lst h.l3 e.symm
  · exact l.ne_lst h.l4 e.symm

/-! ### options, a world -/
def isOpt (r : Rcd) (start : Int) (p : Pas) : Bool := decide (p.sat = r.sat) && (decide (start + r.length ≤ p.first) && decide (p.last ≤ r.deadline))
/-- the options with one start, the first n passes looked at -/
def optRow (w : Wld) (r : Rcd) (start : Int) (n : Nat) : List (Int × Int) := (List.range n).filterMap fun (i : Nat) => match w.pass[i]? with
  | some p => if isOpt r start p = true then some (start, (i : Int)) else none
  | none => none
def starts (r : Rcd) : Nat := (r.latest + 1 - r.earliest).toNat
/-- the options of the first n starts -/
def optTo (w : Wld) (r : Rcd) (n : Nat) : List (Int × Int) := (List.range n).flatMap fun (j : Nat) => optRow w r (r.earliest + (j : Int)) w.pass.length
def optsOf (w : Wld) (r : Rcd) : List (Int × Int) := optTo w r (starts r)
structure OptsAt (H : Hp) (c : Addr) (os : List (Int × Int)) : Prop where
  ex : ∃ ps : List Addr, H c = some (.tup (ps.map V.ref)) ∧ All2 (PairAt H) ps os
structure Wd where
  a : Addr
  t1 : Addr
  t2 : Addr
  t3 : Addr
  t4 : Addr
  q1 : List Addr
  q2 : List Addr
  q3 : List Addr
  q4 : List Addr
/-- a world without its choices -/
structure WAt (K : PySem.W.Frag) (H : Hp) (W : Wd) (w : Wld) : Prop where
  ob : ∃ (dx : Addr) (fs : Fs), H W.a = some (.ins (cl K "World") dx fs) ∧ fs.lookup ("horizon" : Str) = some (.int 40) ∧ fs.lookup ("satellites" : Str) = some (.ref W.t1) ∧ fs.lookup ("stations" : Str) = some (.ref W.t2) ∧ fs.lookup ("recordings" : Str) = some (.ref W.t3) ∧ fs.lookup ("passes" : Str) = some (.ref W.t4)
  l1 : H W.t1 = some (.tup (W.q1.map V.ref))
  l2 : H W.t2 = some (.tup (W.q2.map V.ref))
  l3 : H W.t3 = some (.tup (W.q3.map V.ref))
  l4 : H W.t4 = some (.tup (W.q4.map V.ref))
  s1 : All2 (SatAt K H) W.q1 w.sats
  s2 : All2 (StaAt K H) W.q2 w.stas
  s3 : All2 (RcdAt K H) W.q3 w.recs
  s4 : All2 (PasAt K H) W.q4 w.pass
theorem WAt.same {K : PySem.W.Frag} {H H' : Hp} {W : Wd} {w : Wld} (h : WAt K H W w) (s : Same H H') : WAt K H' W w := by
  obtain ⟨dx, fs, e, z⟩ := h.ob
  exact ⟨⟨dx, fs, s _ _ e, z⟩, s _ _ h.l1, s _ _ h.l2, s _ _ h.l3, s _ _ h.l4, h.s1.mono fun _ _ z => z.kp s.kp, h.s2.mono fun _ _ z => z.kp s.kp, h.s3.mono fun _ _ z => z.kp s.kp, h.s4.mono fun _ _ z => z.kp s.kp⟩
/-- .. with its choices: the tuple at t5 of the options -/
structure ChAt (K : PySem.W.Frag) (H : Hp) (a : Addr) (w : Wld) : Prop where
  ex : ∃ (dx t5 : Addr) (fs : Fs) (cs : List Addr), H a = some (.ins (cl K "World") dx fs) ∧ fs.lookup ("choices" : Str) = some (.ref t5) ∧ H t5 = some (.tup (cs.map V.ref)) ∧ All2 (fun c r => OptsAt H c (optsOf w r)) cs w.recs
structure WldAt (K : PySem.W.Frag) (H : Hp) (W : Wd) (w : Wld) : Prop where
  wa : WAt K H W w
  ch : ChAt K H W.a w
  ok : WldOk w
theorem OptsAt.same {H H' : Hp} {c : Addr} {os : List (Int × Int)} (h : OptsAt H c os) (s : Same H H') : OptsAt H' c os := by
  obtain ⟨ps, e, al⟩ := h.ex
  exact ⟨ps, s _ _ e, al.mono fun _ _ z => z.kp s.kp⟩
theorem WldAt.same {K : PySem.W.Frag} {H H' : Hp} {W : Wd} {w : Wld} (h : WldAt K H W w) (s : Same H H') : WldAt K H' W w := by
  obtain ⟨dx, t5, fs, cs, e, l, e5, al⟩ := h.ch.ex
  exact ⟨h.wa.same s, ⟨dx, t5, fs, cs, s _ _ e, l, s _ _ e5, al.mono fun _ _ z => z.same s⟩, h.ok⟩

/-! ### entries, cases -/
inductive REnt where
  | none
  | op
  | opt (s p : Int)
inductive PEnt where
  | none
  | op
  | ant (k : Int)
def RV (H : Hp) (v : V) : REnt → Prop
  | .none => v = .non
  | .op => v = .str "open"
  | .opt s p => ∃ t, v = .ref t ∧ PairAt H t (s, p)
def PV (v : V) : PEnt → Prop
  | .none => v = .non
  | .op => v = .str "open"
  | .ant k => v = .int k
theorem RV.same {H H' : Hp} {v : V} {e : REnt} (h : RV H v e) (s : Same H H') : RV H' v e := by
  cases e with
  | none => exact h
  | op => exact h
  | opt a b =>
    obtain ⟨t, e, p⟩ := h
    exact ⟨t, e, p.kp s.kp⟩
structure Cs where
  ms : List REnt
  ts : List PEnt
structure CaseAt (H : Hp) (c : Addr) (C : Cs) : Prop where
  ex : ∃ (m t : Addr) (vs us : List V), H c = some (.tup [.ref m, .ref t]) ∧ H m = some (.tup vs) ∧ H t = some (.tup us) ∧ All2 (RV H) vs C.ms ∧ All2 PV us C.ts
theorem CaseAt.same {H H' : Hp} {c : Addr} {C : Cs} (h : CaseAt H c C) (s : Same H H') : CaseAt H' c C := by
  obtain ⟨m, t, vs, us, e1, e2, e3, a1, a2⟩ := h.ex
  exact ⟨m, t, vs, us, s _ _ e1, s _ _ e2, s _ _ e3, a1.mono fun _ _ z => z.same s, a2⟩
/-- a case has an entry for each recording and each pass -/
structure Fit (w : Wld) (C : Cs) : Prop where
  m : C.ms.length = w.recs.length
  t : C.ts.length = w.pass.length

/-! ### weights, bounds -/
def baseOf (w : Wld) : Int := 1 + (if (w.pass.map (·.fee)).sum > (w.recs.map (·.worth)).sum then (w.pass.map (·.fee)).sum else (w.recs.map (·.worth)).sum)
def wtN (w : Wld) (r : Rcd) : Nat → Int
  | 0 => r.worth
  | n + 1 => wtN w r n * baseOf w
def wt (w : Wld) (r : Rcd) : Int := wtN w r (4 - r.rank).toNat
def openT (w : Wld) (r : Rcd) : Int := if optsOf w r = [] then 0 else if wt w r > 0 then wt w r else 0
def rT (w : Wld) (r : Rcd) : REnt → Int
  | .none => 0
  | .op => openT w r
  | .opt _ _ => wt w r
def pT (p : Pas) : PEnt → Int
  | .none => 0
  | .op => if -p.fee > 0 then -p.fee else 0
  | .ant _ => -p.fee
def rTs (w : Wld) (C : Cs) : List Int := List.zipWith (rT w) w.recs C.ms
def pTs (w : Wld) (C : Cs) : List Int := List.zipWith pT w.pass C.ts
def bnd (w : Wld) (C : Cs) : Int := (rTs w C).sum + (pTs w C).sum
end K59
set_option maxHeartbeats 4000000
/-! What the top has written (Tx), callees (Cal, CalM, CalI), the promises of the defs. -/
namespace K59
open PySem PySem.Spec PyProof.Rows L2 TL

/-! ### what the top has written -/
structure Tx (K : PySem.W.Frag) (mg : Str → Option Value) : Prop where
  len : mg "len" = none
  all : mg "all" = none
  list : mg "list" = none
  int : mg "int" = none
  str : mg "str" = none
  range : mg "range" = none
  enumerate : mg "enumerate" = none
  tuple : mg "tuple" = none
  min : mg "min" = none
  max : mg "max" = none
  sum : mg "sum" = none
  zip : mg "zip" = none
  bool : mg "bool" = none
  isinstance : mg "isinstance" = none
  digits : ∃ t, mg "DIGITS" = some (.str "0123456789" t)
  letters : ∃ t, mg "LETTERS" = some (.str "abcdefghijklmnopqrstuvwxyzABCDEFGHIJKLMNOPQRSTUVWXYZ" t)
  mostDigits : ∃ t, mg "MOST_DIGITS" = some (.int 7 t)
  mostName : ∃ t, mg "MOST_NAME" = some (.int 15 t)
  most : ∃ t, mg "MOST" = some (.int 1000000 t)
  open_ : ∃ t, mg "OPEN" = some (.str "open" t)
  kinds : mg "KINDS" = some (.ref (cl K "KINDS"))
  kindsT : ∀ H : Hp, SqT K H (cl K "KINDS") [.str "satellite", .str "station", .str "recording", .str "pass"]
  kindsO : ∃ o : Obj, K.lookup (cl K "KINDS") = some o ∧ o.cls = Value.type "tuple" ∧ o.dict = none
  gWorld : mg "World" = some (.ref (cl K "World"))
  cLine : Cls K (cl K "Line")
  cSat : Cls K (cl K "Satellite")
  cSta : Cls K (cl K "Station")
  cRcd : Cls K (cl K "Recording")
  cPas : Cls K (cl K "Pass")
  cDraft : Cls K (cl K "Draft")
  cWld : Cls K (cl K "World")
  aLine : ∀ f ∈ nLine, NoAttr K (cl K "Line") f
  aSat : ∀ f ∈ nSat, NoAttr K (cl K "Satellite") f
  aSta : ∀ f ∈ nSta, NoAttr K (cl K "Station") f
  aRcd : ∀ f ∈ nRcd, NoAttr K (cl K "Recording") f
  aPas : ∀ f ∈ nPas, NoAttr K (cl K "Pass") f
  aDraft : ∀ f ∈ nDraft, NoAttr K (cl K "Draft") f
  aWld : ∀ f ∈ nWld, NoAttr K (cl K "World") f
  rWld : ClX.CRead K (cl K "World") (.type "type")
  vHor : ∃ u, ClX.CVal K (cl K "World") (.type "type") "MOST_HORIZON" (.int 500) u
  vSat : ∃ u, ClX.CVal K (cl K "World") (.type "type") "MOST_SATELLITES" (.int 3) u
  vSta : ∃ u, ClX.CVal K (cl K "World") (.type "type") "MOST_STATIONS" (.int 3) u
  vRcd : ∃ u, ClX.CVal K (cl K "World") (.type "type") "MOST_RECORDINGS" (.int 10) u
  vPas : ∃ u, ClX.CVal K (cl K "World") (.type "type") "MOST_PASSES" (.int 10) u
  vShift : ∃ u, ClX.CVal K (cl K "World") (.type "type") "MOST_SHIFT" (.int 20) u

/-! ### callees -/
section
variable (P : Program) (w : World) (K : PySem.W.Frag) (mg : Str → Option Value) (base : Heap)
/-- a def called by its name -/
structure Cal (k : Nat) (x : Str) (ps : List Str) (sp : Sp) : Prop where
  ex : ∃ (f : Addr) (fd : FuncData), FnOk P w K mg base CX0 k f fd ps sp ∧ Binds K fd ps [] ∧ PySem.W.keepIn K (.ref f) = true ∧ mg x = some (.ref f)
/-- a method of the class at C, dvs the defaults that fill up -/
structure CalM (k : Nat) (C : Addr) (m : Str) (ps : List Str) (dvs : List V) (sp : Sp) : Prop where
  ex : ∃ (f : Addr) (fd : FuncData) (ds : List Value), Meth K C m f ∧ FnOk P w K mg base CX0 k f fd ps sp ∧ Binds K fd ps ds ∧ Vals dvs ds
/-- a class by its __init__ -/
structure CalI (k : Nat) (x : Str) (ps : List Str) (sp : Sp) : Prop where
  ex : ∃ (f : Addr) (fd : FuncData), Mk K (cl K x) f ∧ FnOk P w K mg base CX0 k f fd ps sp ∧ Binds K fd ps [] ∧ mg x = some (.ref (cl K x))
end
section
variable {X : Cx} {k : Nat} {x m : Str} {ps : List Str} {sp : Sp} {p pos apos : Pos} {e o : Expr} {es : List Expr} {t : TA} {ta : TE} {C : Addr} {dvs : List V}
theorem pe_f (c : Cal X.prog X.w X.K X.mg X.base k x ps sp) (hr : Room k X.A) (ha : PA X (e :: es) t) (hg : Gl X x := by rfl) (hdb : (x == ("__debug__" : Str)) = false := by decide) (he : starEach (e :: es) X.env = (false, eval e X.env) :: starEach es X.env := by rfl)
    (hpl : (backTo pos (starEach es X.env)).any (·.1) = false := by rfl) : PE X (.Call (.Name x p) (e :: es) [] pos) (tCall sp [] E0 t) := by
  obtain ⟨f, fd, F, b, kp, g⟩ := c.ex
  exact pe_call F hr hg g kp b .nil pass0 ha hdb he hpl
theorem pe_mk (c : CalI X.prog X.w X.K X.mg X.base k x ps sp) (hr : Room (k + 1) X.A) (ha : PA X (e :: es) t) (hg : Gl X x := by rfl) (hdb : (x == ("__debug__" : Str)) = false := by decide) (he : starEach (e :: es) X.env = (false, eval e X.env) :: starEach es X.env := by rfl)
    (hpl : (backTo pos (starEach es X.env)).any (·.1) = false := by rfl) : PE X (.Call (.Name x p) (e :: es) [] pos) (tMake (cl X.K x) sp [] E0 t) := by
  obtain ⟨f, fd, M, F, b, g⟩ := c.ex
  exact pe_make M F hr hg g b .nil pass0 ha hdb he hpl
theorem pe_m {pl : Sem Bool} (he : PE X o ta) (cc : Cls X.K C) (c : CalM X.prog X.w X.K X.mg X.base k C m ps dvs sp) (hr : Room k X.A) (ha : PA X (e :: es) t)
    (hst : starEach (e :: es) X.env = (false, eval e X.env) :: starEach es X.env := by rfl) (hpl : (backTo pos (starEach es X.env)).any (·.1) = false := by rfl)
    (ht : eval (.Call (.Attribute o m apos) (e :: es) [] pos) X.env = (do
      let ov ← eval o X.env
      standAt apos.atName
      let (f, first) ← holding [ov] (getMethod ov m pl)
      callWith pos f first (backTo pos (starEach (e :: es) X.env)) (backToKw pos (keywordEach [] X.env))) := by rfl) :
    PE X (.Call (.Attribute o m apos) (e :: es) [] pos) (tMeth C m sp dvs E0 ta t) := by
  obtain ⟨f, fd, ds, M, F, b, v⟩ := c.ex
  exact pe_meth he cc M F hr b v pass0 ha hst hpl ht
theorem pe_m00 {pl : Sem Bool} (he : PE X o ta) (cc : Cls X.K C) (c : CalM X.prog X.w X.K X.mg X.base k C m ps dvs sp) (hr : Room k X.A)
    (ht : eval (.Call (.Attribute o m apos) [] [] pos) X.env = (do
      let ov ← eval o X.env
      standAt apos.atName
      let (f, first) ← holding [ov] (getMethod ov m pl)
      callWith pos f first (backTo pos (starEach [] X.env)) (backToKw pos (keywordEach [] X.env))) := by rfl) :
    PE X (.Call (.Attribute o m apos) [] [] pos) (tMeth C m sp dvs E0 ta tNil) := by
  obtain ⟨f, fd, ds, M, F, b, v⟩ := c.ex
  exact pe_meth0 he cc M F hr b v pass0 ht
end

/-! ### the promises: words -/
def spIsNumber : Sp := fun vs H Q _ => ∃ z, vs = [.str z] ∧ NumW z ∧ ∀ H', Same H H' → Q (.bl true) H'
def spIsName : Sp := fun vs H Q _ => ∃ z, vs = [.str z] ∧ NameW z ∧ ∀ H', Same H H' → Q (.bl true) H'
def spLineInit (K : PySem.W.Frag) : Sp := fun vs H Q _ => ∃ (a dx : Addr) (n : Int) (ws : List Str), vs = [.ref a, .int n, .str (rowT ws)] ∧ H a = some (.ins (cl K "Line") dx []) ∧ ws ≠ [] ∧ (∀ u ∈ ws, Wrd u ∧ u.length ≤ 20) ∧ ws.length ≤ 100 ∧ (rowT ws).length ≤ 5000 ∧
  ∀ H' wl, Off [a] H H' → H wl = none → LineAt K H' ⟨a, wl, ws⟩ 0 → H' a = some (.ins (cl K "Line") dx (nLine.zip [.int n, .ref wl, .int 0, .int 1])) → Q .non H'
def spAtEnd (K : PySem.W.Frag) : Sp := fun vs H Q _ => ∃ (L : Ln) (i : Nat), vs = [.ref L.p] ∧ LineAt K H L i ∧ Q (.bl (decide ((i : Int) = (L.ws.length : Int)))) H
def spPeek (K : PySem.W.Frag) : Sp := fun vs H Q _ => ∃ (L : Ln) (i : Nat) (z : Str), vs = [.ref L.p] ∧ LineAt K H L i ∧ L.ws[i]? = some z ∧ z ≠ Str.ofString "" ∧ Q (.str z) H
def spSkip (K : PySem.W.Frag) : Sp := fun vs H Q _ => ∃ (L : Ln) (i : Nat) (z : Str), vs = [.ref L.p] ∧ LineAt K H L i ∧ L.ws[i]? = some z ∧ ∀ H', Off [L.p] H H' → LineAt K H' L (i + 1) → Q .non H'
def spExpect (K : PySem.W.Frag) : Sp := fun vs H Q _ => ∃ (L : Ln) (i : Nat) (z : Str), vs = [.ref L.p, .str z] ∧ LineAt K H L i ∧ L.ws[i]? = some z ∧ z ≠ Str.ofString "" ∧ ∀ H', Off [L.p] H H' → LineAt K H' L (i + 1) → Q .non H'
def spTakeNumber (K : PySem.W.Frag) : Sp := fun vs H Q _ => ∃ (L : Ln) (i : Nat) (n lo hi : Int), vs = [.ref L.p, .int lo, .int hi] ∧ LineAt K H L i ∧ L.ws[i]? = some (numS n) ∧ (0 ≤ n ∧ n < 64 ∧ lo ≤ n ∧ n ≤ hi) ∧
  ∀ H', Off [L.p] H H' → LineAt K H' L (i + 1) → Q (.int n) H'
def spTakeField (K : PySem.W.Frag) : Sp := fun vs H Q _ => ∃ (L : Ln) (i : Nat) (f : Str) (n lo hi : Int), vs = [.ref L.p, .str f, .int lo, .int hi] ∧ LineAt K H L i ∧ L.ws[i]? = some f ∧ f ≠ Str.ofString "" ∧ L.ws[i + 1]? = some (numS n) ∧ (0 ≤ n ∧ n < 64 ∧ lo ≤ n ∧ n ≤ hi) ∧
  ∀ H', Off [L.p] H H' → LineAt K H' L (i + 2) → Q (.int n) H'
def spTakeNew (K : PySem.W.Frag) : Sp := fun vs H Q _ => ∃ (L : Ln) (i : Nat) (t : Addr) (ns : List Str) (z : Str), vs = [.ref L.p, .ref t] ∧ LineAt K H L i ∧ H t = some (.lst (ns.map V.str)) ∧ z ∉ ns ∧ NameW z ∧ L.ws[i]? = some z ∧
  ∀ H', Off [L.p] H H' → LineAt K H' L (i + 1) → Q (.str z) H'
def spTakeKnown (K : PySem.W.Frag) : Sp := fun vs H Q _ => ∃ (L : Ln) (i j : Nat) (t : Addr) (ns : List Str) (z : Str), vs = [.ref L.p, .ref t, .int 0] ∧ LineAt K H L i ∧ H t = some (.lst (ns.map V.str)) ∧ ns[j]? = some z ∧ (∀ m, m < j → ns[m]? ≠ some z) ∧ ns.length ≤ 100 ∧ NameW z ∧ L.ws[i]? = some z ∧
  ∀ H', Off [L.p] H H' → LineAt K H' L (i + 1) → Q (.int (j : Int)) H'
def spFinish (K : PySem.W.Frag) : Sp := fun vs H Q _ => ∃ (L : Ln), vs = [.ref L.p] ∧ LineAt K H L L.ws.length ∧ Q .non H
/-- the rows that lines_of reads -/
structure RowsOk (rows : List (List Str)) : Prop where
  ne : rows ≠ []
  few : rows.length ≤ 60
  each : ∀ r ∈ rows, r ≠ [] ∧ r.length ≤ 100 ∧ (∀ u ∈ r, Wrd u ∧ u.length ≤ 20) ∧ (rowT r).length ≤ 5000
def spLinesOf (K : PySem.W.Frag) : Sp := fun vs H Q _ => ∃ (z : Str) (rows : List (List Str)), vs = [.str z] ∧ tl z = textL rows ∧ RowsOk rows ∧ z.length ≤ 1000000 ∧
  ∀ H' l (Ls : List Ln), Same H H' → H l = none → H' l = some (.lst (Ls.map fun L => V.ref L.p)) → Ls.map (·.ws) = rows → (∀ L ∈ Ls, LineAt K H' L 0 ∧ H L.p = none ∧ H L.wl = none) → (Ls.map (·.p)).Nodup → Q (.ref l) H'

/-! ### worlds -/
def NamedAt (K : PySem.W.Frag) (H : Hp) (a : Addr) (n : Str) : Prop := ∃ (C dx : Addr) (fs : Fs), H a = some (.ins C dx fs) ∧ Cls K C ∧ NoAttr K C "name" ∧ fs.lookup ("name" : Str) = some (.str n)
def spNamesOf (K : PySem.W.Frag) : Sp := fun vs H Q _ => ∃ (t : Addr) (as : List Addr) (ns : List Str), vs = [.ref t] ∧ H t = some (.lst (as.map V.ref)) ∧ All2 (NamedAt K H) as ns ∧ as.length ≤ 100 ∧ ∀ H' l, Same H H' → H l = none → H' l = some (.lst (ns.map V.str)) → Q (.ref l) H'
def spSatInit (K : PySem.W.Frag) : Sp := fun vs H Q _ => ∃ (a dx p t : Addr) (ts : List Addr) (s : Sat), vs = [.ref a, .str s.name, .int s.store, .ref p, .int s.charge, .int s.settle, .ref t] ∧ H a = some (.ins (cl K "Satellite") dx []) ∧ H p = some (.tup [.int s.battery, .int s.level, .int s.reserve]) ∧ H t = some (.tup (ts.map V.ref)) ∧ All2 (PairAt H) ts s.light ∧
  ∀ H', Off [a] H H' → SatAt K H' a s → Q .non H'
def spStaInit (K : PySem.W.Frag) : Sp := fun vs H Q _ => ∃ (a dx : Addr) (s : Sta), vs = [.ref a, .str s.name, .int s.antennas, .int s.turn] ∧ H a = some (.ins (cl K "Station") dx []) ∧ ∀ H', Off [a] H H' → StaAt K H' a s → Q .non H'
def spRcdInit (K : PySem.W.Frag) : Sp := fun vs H Q _ => ∃ (a dx p1 p2 p3 : Addr) (r : Rcd), vs = [.ref a, .str r.name, .int (r.sat : Int), .ref p1, .ref p2, .ref p3] ∧ H a = some (.ins (cl K "Recording") dx []) ∧ H p1 = some (.tup [.int r.earliest, .int r.latest, .int r.length]) ∧ H p2 = some (.tup [.int r.size, .int r.energy]) ∧ H p3 = some (.tup [.int r.worth, .int r.rank, .int r.deadline]) ∧
  ∀ H', Off [a] H H' → RcdAt K H' a r → Q .non H'
def spPasInit (K : PySem.W.Frag) : Sp := fun vs H Q _ => ∃ (a dx p1 p2 : Addr) (s : Pas), vs = [.ref a, .str s.name, .int (s.sat : Int), .int (s.sta : Int), .ref p1, .ref p2] ∧ H a = some (.ins (cl K "Pass") dx []) ∧ PairAt H p1 (s.first, s.last) ∧ H p2 = some (.tup [.int s.room, .int s.energy, .int s.fee]) ∧
  ∀ H', Off [a] H H' → PasAt K H' a s → Q .non H'
def spDraftInit (K : PySem.W.Frag) : Sp := fun vs H Q _ => ∃ (a dx : Addr), vs = [.ref a, .int 40] ∧ H a = some (.ins (cl K "Draft") dx []) ∧ ∀ H' (D : Dr), Off [a] H H' → D.d = a → D.q1 = [] → D.q2 = [] → D.q3 = [] → D.q4 = [] → H D.a1 = none → H D.a2 = none → H D.a3 = none → H D.a4 = none → DraftAt K H' D ⟨[], [], [], []⟩ → Q .non H'
/-- line(): some short text, the heap as it was -/
def spSatLine (K : PySem.W.Frag) : Sp := fun vs H Q _ => ∃ (a : Addr) (s : Sat) (k : Nat), vs = [.ref a] ∧ SatAt K H a s ∧ SatOk k s ∧ k < 8 ∧ ∀ z : Str, z.length ≤ 1000 → Q (.str z) H
def spStaLine (K : PySem.W.Frag) : Sp := fun vs H Q _ => ∃ (a : Addr) (s : Sta) (k : Nat), vs = [.ref a] ∧ StaAt K H a s ∧ StaOk k s ∧ k < 8 ∧ ∀ z : Str, z.length ≤ 1000 → Q (.str z) H
def spRcdLine (K : PySem.W.Frag) : Sp := fun vs H Q _ => ∃ (W : Wd) (w : Wld) (a : Addr) (r : Rcd) (k : Nat), vs = [.ref a, .ref W.a] ∧ WAt K H W w ∧ WldOk w ∧ RcdAt K H a r ∧ RcdOk w.sats.length k r ∧ k < 8 ∧ ∀ z : Str, z.length ≤ 1000 → Q (.str z) H
def spPasLine (K : PySem.W.Frag) : Sp := fun vs H Q _ => ∃ (W : Wd) (w : Wld) (a : Addr) (p : Pas) (k : Nat), vs = [.ref a, .ref W.a] ∧ WAt K H W w ∧ WldOk w ∧ PasAt K H a p ∧ PasOk w.sats.length w.stas.length k p ∧ k < 8 ∧ ∀ z : Str, z.length ≤ 1000 → Q (.str z) H
def spWorldText (K : PySem.W.Frag) : Sp := fun vs H Q _ => ∃ (W : Wd) (w : Wld), vs = [.ref W.a] ∧ WAt K H W w ∧ WldOk w ∧ ∀ (z : Str) H', Same H H' → Q (.str z) H'
def spFoundOptions (K : PySem.W.Frag) : Sp := fun vs H Q _ => ∃ (W : Wd) (w : Wld) (i : Nat) (r : Rcd), vs = [.ref W.a, .int (i : Int)] ∧ WAt K H W w ∧ WldOk w ∧ w.recs[i]? = some r ∧ ∀ H' c, Same H H' → OptsAt H' c (optsOf w r) → Q (.ref c) H'
def spOptions (K : PySem.W.Frag) : Sp := fun vs H Q _ => ∃ (W : Wd) (w : Wld) (i : Nat) (r : Rcd), vs = [.ref W.a, .int (i : Int)] ∧ WldAt K H W w ∧ w.recs[i]? = some r ∧ ∀ c, OptsAt H c (optsOf w r) → Q (.ref c) H
def spReadSat (K : PySem.W.Frag) : Sp := fun vs H Q _ => ∃ (D : Dr) (w : Wld) (L : Ln) (s : Sat) (k : Nat), vs = [.ref D.d, .ref L.p, .str s.name] ∧ DraftAt K H D w ∧ L.ws = satW s ∧ LineAt K H L 2 ∧ SatOk k s ∧ ∀ H' q, Off [L.p] H H' → LineAt K H' L L.ws.length → SatAt K H' q s → Q (.ref q) H'
def spReadRcd (K : PySem.W.Frag) : Sp := fun vs H Q _ => ∃ (D : Dr) (w : Wld) (L : Ln) (r : Rcd) (k : Nat), vs = [.ref D.d, .ref L.p, .str r.name] ∧ DraftAt K H D w ∧ WldOk w ∧ L.ws = rcdW r ∧ LineAt K H L 2 ∧ RcdOk w.sats.length k r ∧ ∀ H' q, Off [L.p] H H' → LineAt K H' L L.ws.length → RcdAt K H' q r → Q (.ref q) H'
def spReadPas (K : PySem.W.Frag) : Sp := fun vs H Q _ => ∃ (D : Dr) (w : Wld) (L : Ln) (p : Pas) (k : Nat), vs = [.ref D.d, .ref L.p, .str p.name] ∧ DraftAt K H D w ∧ WldOk w ∧ L.ws = pasW p ∧ LineAt K H L 2 ∧ PasOk w.sats.length w.stas.length k p ∧ ∀ H' q, Off [L.p] H H' → LineAt K H' L L.ws.length → PasAt K H' q p → Q (.ref q) H'
/-- one row of a text behind the first -/
inductive Item where
  | sat (s : Sat)
  | sta (s : Sta)
  | rcd (r : Rcd)
  | pas (p : Pas)
def Item.kind : Item → Nat
  | .sat _ => 0
  | .sta _ => 1
  | .rcd _ => 2
  | .pas _ => 3
def Item.ws : Item → List Str
  | .sat s => satW s
  | .sta s => staW s
  | .rcd r => rcdW r
  | .pas p => pasW p
def Wld.add (w : Wld) : Item → Wld
  | .sat s => { w with sats := w.sats ++ [s] }
  | .sta s => { w with stas := w.stas ++ [s] }
  | .rcd r => { w with recs := w.recs ++ [r] }
  | .pas p => { w with pass := w.pass ++ [p] }
def Item.Ok (w : Wld) : Item → Prop
  | .sat s => SatOk w.sats.length s ∧ w.sats.length < 2
  | .sta s => StaOk w.stas.length s ∧ w.stas.length < 2
  | .rcd r => RcdOk w.sats.length w.recs.length r ∧ w.recs.length < 5
  | .pas p => PasOk w.sats.length w.stas.length w.pass.length p ∧ w.pass.length < 4
/-- the draft's parts that a row may change -/
def Dr.as (D : Dr) : List Addr := [D.a1, D.a2, D.a3, D.a4]
def spReadLine (K : PySem.W.Frag) : Sp := fun vs H Q _ => ∃ (D : Dr) (w : Wld) (L : Ln) (st : Int) (it : Item), vs = [.ref D.d, .ref L.p, .int st] ∧ DraftAt K H D w ∧ WldOk w ∧ LineAt K H L 0 ∧ L.ws = it.ws ∧ it.Ok w ∧ st ≤ (it.kind : Int) ∧ L.wl ∉ D.as ∧
  ∀ H' (D' : Dr), Off (L.p :: D.as) H H' → D'.d = D.d → D'.as = D.as → DraftAt K H' D' (w.add it) → Q (.int (it.kind : Int)) H'
def spWorldInit (K : PySem.W.Frag) : Sp := fun vs H Q _ => ∃ (a dx : Addr) (D : Dr) (w : Wld), vs = [.ref a, .ref D.d] ∧ H a = some (.ins (cl K "World") dx []) ∧ DraftAt K H D w ∧ WldOk w ∧ ∀ H' (W : Wd), Off [a] H H' → W.a = a → WldAt K H' W w → Q .non H'
def spParse (K : PySem.W.Frag) : Sp := fun vs H Q _ => ∃ (z : Str) (w : Wld), vs = [.str z] ∧ tl z = textL (rowsOf w) ∧ z.length ≤ 1000000 ∧ WldOk w ∧ ∀ H' (W : Wd), Same H H' → WldAt K H' W w → Q (.ref W.a) H'

/-! ### worth, prices, plans, papers -/
def spBaseOf (K : PySem.W.Frag) : Sp := fun vs H Q _ => ∃ (W : Wd) (w : Wld), vs = [.ref W.a] ∧ WldAt K H W w ∧ ∀ H', Same H H' → Q (.int (baseOf w)) H'
def spRecordingWeight (K : PySem.W.Frag) : Sp := fun vs H Q _ => ∃ (W : Wd) (w : Wld) (i : Nat) (r : Rcd), vs = [.ref W.a, .int (i : Int)] ∧ WldAt K H W w ∧ w.recs[i]? = some r ∧ ∀ H', Same H H' → Q (.int (wt w r)) H'
def spIsAmount : Sp := fun vs H Q _ => vs = [.int 1, .int 1] ∧ Q (.bl true) H
def spCheckPrices : Sp := fun vs H Q _ => ∃ (x : V) (e : Addr), vs = [x, .int 1, .ref e] ∧ H e = some (.tup []) ∧ Q .non H
def spRecordingGain (K : PySem.W.Frag) : Sp := fun vs H Q _ => ∃ (W : Wd) (w : Wld) (e : Addr) (i : Nat) (r : Rcd) (o : V), vs = [.ref W.a, .int 1, .ref e, .int (i : Int), o] ∧ WldAt K H W w ∧ H e = some (.tup []) ∧ w.recs[i]? = some r ∧ ∀ H', Same H H' → Q (.int (wt w r)) H'
def spPassGain (K : PySem.W.Frag) : Sp := fun vs H Q _ => ∃ (W : Wd) (w : Wld) (e : Addr) (i : Nat) (p : Pas), vs = [.ref W.a, .int 1, .ref e, .int (i : Int)] ∧ WldAt K H W w ∧ H e = some (.tup []) ∧ w.pass[i]? = some p ∧ ∀ H', Same H H' → Q (.int (-p.fee)) H'
def spBestRecording (K : PySem.W.Frag) : Sp := fun vs H Q _ => ∃ (W : Wd) (w : Wld) (e : Addr) (i : Nat) (r : Rcd), vs = [.ref W.a, .int 1, .ref e, .int (i : Int)] ∧ WldAt K H W w ∧ H e = some (.tup []) ∧ w.recs[i]? = some r ∧ ∀ H' t x, Same H H' → H' t = some (.tup [.int (openT w r), x]) → Q (.ref t) H'
def spRecordingTerm (K : PySem.W.Frag) : Sp := fun vs H Q _ => ∃ (W : Wd) (w : Wld) (e : Addr) (i : Nat) (r : Rcd) (v : V) (en : REnt), vs = [.ref W.a, .int 1, .ref e, .int (i : Int), v] ∧ WldAt K H W w ∧ H e = some (.tup []) ∧ w.recs[i]? = some r ∧ RV H v en ∧ ∀ H', Same H H' → Q (.int (rT w r en)) H'
def spPassTerm (K : PySem.W.Frag) : Sp := fun vs H Q _ => ∃ (W : Wd) (w : Wld) (e : Addr) (i : Nat) (p : Pas) (v : V) (en : PEnt), vs = [.ref W.a, .int 1, .ref e, .int (i : Int), v] ∧ WldAt K H W w ∧ H e = some (.tup []) ∧ w.pass[i]? = some p ∧ PV v en ∧ ∀ H', Same H H' → Q (.int (pT p en)) H'
def spBound (K : PySem.W.Frag) : Sp := fun vs H Q _ => ∃ (W : Wd) (w : Wld) (c e : Addr) (C : Cs), vs = [.ref W.a, .ref c, .int 1, .ref e] ∧ WldAt K H W w ∧ CaseAt H c C ∧ Fit w C ∧ H e = some (.tup []) ∧ ∀ H', Same H H' → Q (.int (bnd w C)) H'
def spIsIndex : Sp := fun vs H Q _ => ∃ i n : Int, vs = [.int i, .int n] ∧ 0 ≤ i ∧ i < n ∧ Q (.bl true) H
def spArePrices : Sp := fun vs H Q _ => ∃ e : Addr, vs = [.ref e] ∧ H e = some (.tup []) ∧ ∀ H', Same H H' → Q (.bl true) H'
def spClosesByPrices (K : PySem.W.Frag) : Sp := fun vs H Q _ => ∃ (W : Wd) (w : Wld) (c e : Addr) (C : Cs) (m : Int), vs = [.ref W.a, .ref c, .int m, .int 1, .ref e] ∧ WldAt K H W w ∧ CaseAt H c C ∧ Fit w C ∧ H e = some (.tup []) ∧ ∀ H', Same H H' → Q (.bl (decide (bnd w C ≤ m))) H'
def spWithMade : Sp := fun vs H Q _ => ∃ (c : Addr) (C : Cs) (i : Nat) (v : V) (en : REnt), vs = [.ref c, .int (i : Int), v] ∧ CaseAt H c C ∧ i < C.ms.length ∧ C.ms.length ≤ 100 ∧ RV H v en ∧ ∀ H' c', Same H H' → CaseAt H' c' ⟨C.ms.set i en, C.ts⟩ → Q (.ref c') H'
def spWithTaken : Sp := fun vs H Q _ => ∃ (c : Addr) (C : Cs) (i : Nat) (v : V) (en : PEnt), vs = [.ref c, .int (i : Int), v] ∧ CaseAt H c C ∧ i < C.ts.length ∧ C.ts.length ≤ 100 ∧ PV v en ∧ ∀ H' c', Same H H' → CaseAt H' c' ⟨C.ms, C.ts.set i en⟩ → Q (.ref c') H'
/-- the ways to decide what is open -/
inductive Ch where
  | rcd (i : Nat)
  | pas (i : Nat)
def waysR (w : Wld) (r : Rcd) : List REnt := .none :: (optsOf w r).map fun q => .opt q.1 q.2
def waysP (n : Int) : List PEnt := .none :: (List.range n.toNat).map fun (k : Nat) => .ant (k : Int)
def ways (w : Wld) (C : Cs) : Ch → List Cs
  | .rcd i => match w.recs[i]? with
    | some r => (waysR w r).map fun en => ⟨C.ms.set i en, C.ts⟩
    | none => []
  | .pas i => match w.pass[i]? with
    | some p => match w.stas[p.sta]? with
      | some s => (waysP s.antennas).map fun en => ⟨C.ms, C.ts.set i en⟩
      | none => []
    | none => []
def spRecordingCases (K : PySem.W.Frag) : Sp := fun vs H Q _ => ∃ (W : Wd) (w : Wld) (c : Addr) (C : Cs) (i : Nat) (r : Rcd), vs = [.ref W.a, .ref c, .int (i : Int)] ∧ WldAt K H W w ∧ CaseAt H c C ∧ Fit w C ∧ w.recs[i]? = some r ∧
  ∀ H' l ls, Same H H' → H' l = some (.lst (ls.map V.ref)) → All2 (CaseAt H') ls (ways w C (.rcd i)) → Q (.ref l) H'
def spPassCases (K : PySem.W.Frag) : Sp := fun vs H Q _ => ∃ (W : Wd) (w : Wld) (c : Addr) (C : Cs) (i : Nat) (p : Pas), vs = [.ref W.a, .ref c, .int (i : Int)] ∧ WldAt K H W w ∧ CaseAt H c C ∧ Fit w C ∧ w.pass[i]? = some p ∧
  ∀ H' l ls, Same H H' → H' l = some (.lst (ls.map V.ref)) → All2 (CaseAt H') ls (ways w C (.pas i)) → Q (.ref l) H'
def Ch.word : Ch → Str
  | .rcd _ => "recording"
  | .pas _ => "pass"
def Ch.at_ : Ch → Nat
  | .rcd i => i
  | .pas i => i
/-- open in the case -/
def Ch.IsOpen (C : Cs) : Ch → Prop
  | .rcd i => C.ms[i]? = some .op
  | .pas i => C.ts[i]? = some .op
def spSplitCases (K : PySem.W.Frag) : Sp := fun vs H Q _ => ∃ (W : Wd) (w : Wld) (c : Addr) (C : Cs) (ch : Ch), vs = [.ref W.a, .ref c, .str ch.word, .int (ch.at_ : Int)] ∧ WldAt K H W w ∧ CaseAt H c C ∧ Fit w C ∧ ch.IsOpen C ∧
  ∀ H' l ls, Same H H' → H' l = some (.lst (ls.map V.ref)) → All2 (CaseAt H') ls (ways w C ch) → Q (.ref l) H'
/-- ("bound", 1, ()) at b -/
def BndAt (H : Hp) (b : Addr) : Prop := ∃ e, H b = some (.tup [.str "bound", .int 1, .ref e]) ∧ H e = some (.tup [])
def spClosesB (K : PySem.W.Frag) : Sp := fun vs H Q _ => ∃ (W : Wd) (w : Wld) (c b : Addr) (C : Cs) (m : Int), vs = [.ref W.a, .ref c, .int m, .ref b] ∧ WldAt K H W w ∧ CaseAt H c C ∧ Fit w C ∧ BndAt H b ∧ ∀ H', Same H H' → Q (.bl (decide (bnd w C ≤ m))) H'
/-- papers at t: n bounds in a tuple (k true), or in a list (k false) -/
def PapAt (H : Hp) (t : Addr) (k : Bool) (n : Nat) : Prop := ∃ bs : List Addr, bs.length = n ∧ (∀ b ∈ bs, BndAt H b) ∧ H t = some (if k = true then .tup (bs.map V.ref) else .lst (bs.map V.ref))
def allB (w : Wld) (Cs' : List Cs) (m : Int) (k : Bool) (n : Nat) : Bool := k && (decide (n = Cs'.length) && Cs'.all fun C => decide (bnd w C ≤ m))
def spClosesAll (K : PySem.W.Frag) : Sp := fun vs H Q _ => ∃ (W : Wd) (w : Wld) (l t : Addr) (ls : List Addr) (Cs' : List Cs) (m : Int) (k : Bool) (n : Nat), vs = [.ref W.a, .ref l, .int m, .ref t] ∧ WldAt K H W w ∧ H l = some (.lst (ls.map V.ref)) ∧ All2 (CaseAt H) ls Cs' ∧ (∀ C ∈ Cs', Fit w C) ∧ PapAt H t k n ∧
  ∀ H', Same H H' → Q (.bl (allB w Cs' m k n)) H'
def spCloses (K : PySem.W.Frag) : Sp := fun vs H Q _ => ∃ (W : Wd) (w : Wld) (c b t : Addr) (C : Cs) (ch : Ch) (m : Int) (k : Bool) (n : Nat), vs = [.ref W.a, .ref c, .int m, .ref b] ∧ WldAt K H W w ∧ CaseAt H c C ∧ Fit w C ∧ ch.IsOpen C ∧ H b = some (.tup [.str ch.word, .int (ch.at_ : Int), .ref t]) ∧ PapAt H t k n ∧
  ∀ H', Same H H' → Q (.bl (allB w (ways w C ch) m k n)) H'

/-! ### the law's own -/
def spLCell (K : PySem.W.Frag) : Sp := fun vs H Q _ => ∃ (a : Addr) (ns : List Int) (i : Int), vs = [.ref a, .int i] ∧ SqL K H a (ns.map V.int) ∧ 0 ≤ i ∧ ∀ c : Int, Q (.int c) H
def spLDraws : Sp := fun vs H Q _ => ∃ (c : Int) (n : Nat), vs = [.int c, .int (n : Int)] ∧ n ≤ 100 ∧ ∀ H' l (ns : List Int), Same H H' → ns.length = n → H' l = some (.lst (ns.map V.int)) → Q (.ref l) H'
def spLSat : Sp := fun vs H Q _ => ∃ (c : Int) (k : Nat), vs = [.int c, .int (k : Int)] ∧ k < 2 ∧ ∀ H' (s : Sat) (z : Str), Same H H' → SatOk k s → tl z = tl (rowT (satW s)) ++ [10] → z.length ≤ 1000 → Q (.str z) H'
def spLRcd : Sp := fun vs H Q _ => ∃ (c : Int) (k ns : Nat), vs = [.int c, .int (k : Int), .int (ns : Int)] ∧ k < 5 ∧ 1 ≤ ns ∧ ns ≤ 2 ∧ ∀ H' (r : Rcd) (z : Str), Same H H' → RcdOk ns k r → tl z = tl (rowT (rcdW r)) ++ [10] → z.length ≤ 1000 → Q (.str z) H'
def spLPas : Sp := fun vs H Q _ => ∃ (c : Int) (k ns nt : Nat), vs = [.int c, .int (k : Int), .int (ns : Int), .int (nt : Int)] ∧ k < 4 ∧ 1 ≤ ns ∧ ns ≤ 2 ∧ 1 ≤ nt ∧ nt ≤ 2 ∧ ∀ H' (p : Pas) (z : Str), Same H H' → PasOk ns nt k p → tl z = tl (rowT (pasW p)) ++ [10] → z.length ≤ 1000 → Q (.str z) H'
def spLText (K : PySem.W.Frag) : Sp := fun vs H Q _ => ∃ (a : Addr) (ns : List Int) (nr np : Nat), vs = [.ref a, .int (nr : Int), .int (np : Int)] ∧ SqL K H a (ns.map V.int) ∧ nr ≤ 5 ∧ np ≤ 4 ∧ ∀ H' (w : Wld) (z : Str), Same H H' → WldOk w → tl z = textL (rowsOf w) → z.length ≤ 1000000 → Q (.str z) H'
def spLWorld (K : PySem.W.Frag) : Sp := fun vs H Q _ => ∃ (a : Addr) (ns : List Int), vs = [.ref a] ∧ SqL K H a (ns.map V.int) ∧ ∀ H' (W : Wd) (w : Wld), Same H H' → WldAt K H' W w → Q (.ref W.a) H'
def spLOptions (K : PySem.W.Frag) : Sp := fun vs H Q _ => ∃ (W : Wd) (w : Wld) (i : Nat) (r : Rcd), vs = [.ref W.a, .int (i : Int)] ∧ WldAt K H W w ∧ w.recs[i]? = some r ∧ ∀ H' l ps, Same H H' → H' l = some (.lst (ps.map V.ref)) → All2 (PairAt H') ps (optsOf w r) → Q (.ref l) H'
def spLDrawn (K : PySem.W.Frag) : Sp := fun vs H Q _ => ∃ (W : Wd) (w : Wld) (c : Int), vs = [.ref W.a, .int c] ∧ WldAt K H W w ∧ ∀ H' t (C : Cs), Same H H' → CaseAt H' t C → Fit w C → Q (.ref t) H'
def spLWeight (K : PySem.W.Frag) : Sp := fun vs H Q _ => ∃ (W : Wd) (w : Wld) (i : Nat) (r : Rcd), vs = [.ref W.a, .int (i : Int)] ∧ WldAt K H W w ∧ w.recs[i]? = some r ∧ ∀ H', Same H H' → Q (.int (wt w r)) H'
def spLGain (K : PySem.W.Frag) : Sp := fun vs H Q _ => ∃ (W : Wd) (w : Wld) (e : Addr) (i : Nat) (r : Rcd) (o : V), vs = [.ref W.a, .int 1, .ref e, .int (i : Int), o] ∧ WldAt K H W w ∧ H e = some (.tup []) ∧ w.recs[i]? = some r ∧ ∀ H', Same H H' → Q (.int (wt w r)) H'
def spLBound (K : PySem.W.Frag) : Sp := spBound K
def spLCase (K : PySem.W.Frag) : Sp := fun vs H Q _ => ∃ (w : Wld) (t : Addr) (C : Cs) (c : Int), vs = [.ref t, .int c] ∧ CaseAt H t C ∧ Fit w C ∧ WldOk w ∧ ∀ H' t' (C' : Cs), Same H H' → CaseAt H' t' C' → Fit w C' → Q (.ref t') H'
def spLWays (K : PySem.W.Frag) : Sp := fun vs H Q _ => ∃ (W : Wd) (w : Wld) (c : Addr) (C : Cs) (ch : Ch), vs = [.ref W.a, .ref c, .str ch.word, .int (ch.at_ : Int)] ∧ WldAt K H W w ∧ CaseAt H c C ∧ Fit w C ∧ ch.IsOpen C ∧
  ∀ H' l ls, Same H H' → H' l = some (.lst (ls.map V.ref)) → All2 (CaseAt H') ls (ways w C ch) → Q (.ref l) H'
def spLaw (K : PySem.W.Frag) : Sp := fun vs H Q _ => ∃ (a : Addr) (ns : List Int), vs = [.ref a] ∧ SqL K H a (ns.map V.int) ∧ ns.length ≤ 63 ∧ ∀ H', Q (.bl true) H'
end K59
set_option maxHeartbeats 4000000
/-! Short words for the readings. -/
namespace K59
open PySem PySem.Spec PyProof.Rows L2 TL
theorem dF {c A B : Prop} [Decidable c] (h : ¬ c) (b : B) : if decide c = true then A else B := by
  rw [decide_eq_false h]
  exact iteF b
theorem dT {c A B : Prop} [Decidable c] (h : c) (a : A) : if decide c = true then A else B := by
  rw [decide_eq_true h]
  exact iteT a
theorem nT {c A B : Prop} [Decidable c] (h : ¬ c) (a : A) : if (!decide c) = true then A else B := by
  rw [decide_eq_false h]
  exact iteT a
theorem bF {b : Bool} {A B : Prop} (h : b = false) (q : B) : if b = true then A else B := by
  rw [h]
  exact iteF q
theorem bT {b : Bool} {A B : Prop} (h : b = true) (q : A) : if b = true then A else B := by
  rw [h]
  exact iteT q
theorem yesI {A B : Hp → Prop} {σ : L2.St} {H : Hp} (h : A H) : tYes σ H (fun b H3 => if b = true then A H3 else B H3) := by
  show if true = true then A H else B H
  exact iteT h
theorem small5 {n : Nat} (h : n ≤ 1000000) : n ≤ sizeLine := Nat.le_trans h (by decide)
theorem lt_line {n : Nat} (h : n ≤ 1000000) : n < sizeLine := Nat.lt_of_le_of_lt h (by decide)
theorem digs_eq : (Str.ofString "0123456789").cps.toList = digs := by decide +kernel
theorem lets_eq : (Str.ofString "abcdefghijklmnopqrstuvwxyzABCDEFGHIJKLMNOPQRSTUVWXYZ").cps.toList = lets := by decide +kernel
theorem all_true (n : Nat) : (List.replicate n true).all id = true := by simp
/-- a text that is not empty begins with a sign -/
theorem first_of {z : Str} (h : z ≠ Str.ofString "") : ∃ c, z.cps[0]? = some c := by
  have e : z.cps.size ≠ 0 := by
    intro e
    apply h
    have e2 : z.cps = #[] := Array.eq_empty_of_size_eq_zero e
    have e3 : (Str.ofString "").cps = #[] := by decide +kernel
    cases z
    simp only at e2
    rw [e2]
    exact (show (⟨#[]⟩ : Str) = Str.ofString "" by decide +kernel)
  exact ⟨z.cps[0], by simp [Nat.pos_of_ne_zero e]⟩
theorem at_first {z : Str} {c : Nat} (h : z.cps[0]? = some c) : atI z.cps.toList 0 = some c := atI_nat (j := 0) (by simpa using h)
theorem pe_gI {X : Cx} {x : Str} {i : Int} {t : Tok} {pos : Pos} (hm : X.mg x = some (.int i t)) (hg : Gl X x := by rfl) (hd : (x == ("__debug__" : Str)) = false := by decide) : PE X (.Name x pos) (tC (.int i)) := pe_glob hg hm ⟨t, rfl⟩ hd
theorem pe_gS {X : Cx} {x z : Str} {t : Tok} {pos : Pos} (hm : X.mg x = some (.str z t)) (hg : Gl X x := by rfl) (hd : (x == ("__debug__" : Str)) = false := by decide) : PE X (.Name x pos) (tC (.str z)) := pe_glob hg hm ⟨t, rfl⟩ hd
theorem pe_gR {X : Cx} {x : Str} {a : Addr} {pos : Pos} (hm : X.mg x = some (.ref a)) (hg : Gl X x := by rfl) (hd : (x == ("__debug__" : Str)) = false := by decide) : PE X (.Name x pos) (tC (.ref a)) := pe_glob hg hm rfl hd
end K59
set_option maxHeartbeats 4000000
/-! Comprehensions that make one item a turn; lists of things. -/
namespace K59
open PySem PySem.Spec PyProof.Rows L2 TL
theorem lc_map {J : It} {n : Nat} {G : Hp → Prop} {Y : Nat → Hp → V → Hp → Prop} (wk : Walk J n G Y) {g : TG} {tt : TT} {te : TE} {vs : List Nat} {σ : L2.St} {H1 : Hp} {D : Addr} {Qd : Hp → Prop} {β : Type} (bs : List β) (F : Hp → V → β → Prop)
    (hD : H1 D = none) (hn : bs.length = n) (hsz : n ≤ 1000000) (hG : ∀ H', Same H1 H' → G H') (hF : ∀ H H' v b, (∃ acc, H D = some (.lst acc)) → Off [D] H H' → F H v b → F H' v b)
    (hs : ∀ (i : Nat) (b : β) (x : V) (H2 H3 : Hp) (C : V → Hp → Prop) (Z : Hp → Prop), bs[i]? = some b → Same H1 H2 → (∃ acc, H2 D = some (.lst acc)) → Y i H2 x H3 → (∀ y H5, Same H2 H5 → F H5 y b → C y H5) →
      g x (wipe σ vs) H3 fun σ2 H4 => wipe σ2 vs = wipe σ vs ∧ tt σ2 H4 fun k H5 => if k = true then te σ2 H5 C else Z H5)
    (hd : ∀ (H' : Hp) (ys : List V), Same H1 H' → H' D = some (.lst ys) → All2 (F H') ys bs → Qd H') :
    ∃ W : Nat → Nat → Hp → Prop, (∃ m, W 0 m (upd H1 D (HO.lst []))) ∧ ∀ (i m : Nat) (H : Hp), W i m H → J.stop i H ∧ Qd H ∨ J.go i H ∧ ∃ Nx : Hp → Prop, (∀ (H' : Hp), Nx H' → ∃ m', m' < m ∧ W (i + 1) m' H') ∧ ∀ (x : V) (H' : Hp), J.yld i H x H' →
      g x (wipe σ vs) H' fun σ2 H2 => wipe σ2 vs = wipe σ vs ∧ tt σ2 H2 fun b H3 => if b = true then te σ2 H3 fun y H4 => ∃ acc, H4 D = some (HO.lst acc) ∧ acc.length < sizeLine ∧ Nx (upd H4 D (HO.lst (acc ++ [y]))) else Nx H3 := by
  refine lc_it wk (fun i H' => Same H1 H' ∧ ∃ acc, H' D = some (.lst acc) ∧ All2 (F H') acc (bs.take i)) ⟨same_upd hD, [], upd_same, by rw [List.take_zero]; exact All2.nil⟩ (fun i H' _ h => hG H' h.1) ?_ ?_
  · rintro i x H2 H3 hi ⟨s1, acc, e1, al⟩ y
    have hb : bs[i]? = some (bs[i]'(by omega)) := List.getElem?_eq_getElem (by omega)
    have hal : acc.length = i := by
      have h1 := al.len
      rw [List.length_take] at h1
      omega
    refine hs i _ x H2 H3 _ _ hb s1 ⟨acc, e1⟩ y fun v H5 s5 f => ?_
    have o6 : Off [D] H5 (upd H5 D (.lst (acc ++ [v]))) := Off.wr (by simp)
    refine ⟨acc, s5 _ _ e1, lt_line (by omega), fun b o e => by rw [upd_ne (ne_of_none e hD)]; exact s5 _ _ (s1 _ _ e), acc ++ [v], upd_same, ?_⟩
    rw [List.take_succ, hb]
    exact (al.mono fun a b z => hF _ _ _ _ ⟨acc, s5 _ _ e1⟩ o6 (hF _ _ _ _ ⟨acc, e1⟩ s5.off z)).snoc (hF _ _ _ _ ⟨acc, s5 _ _ e1⟩ o6 f)
  · rintro H' ⟨s1, acc, e1, al⟩
    rw [← hn, List.take_length] at al
    exact hd H' acc s1 e1 al
theorem all2_map {α : Type} {as : List V} {bs : List α} {f : α → V} (h : All2 (fun v b => v = f b) as bs) : as = bs.map f := by
  refine List.ext_getElem? fun i => ?_
  rw [List.getElem?_map]
  cases q : bs[i]? with
  | none =>
    have := h.len
    have h2 := List.getElem?_eq_none_iff.mp q
    rw [List.getElem?_eq_none_iff.mpr (by omega)]
    rfl
  | some b =>
    obtain ⟨a, ha, rfl⟩ := h.get q
    rw [ha]
    rfl
theorem all2_ref {α : Type} {bs : List α} {F : Addr → α → Prop} : ∀ {as : List V}, All2 (fun v b => ∃ a, v = V.ref a ∧ F a b) as bs → ∃ qs : List Addr, as = qs.map V.ref ∧ All2 F qs bs := by
  induction bs with
  | nil =>
    intro as h
    have := h.len
    refine ⟨[], ?_, All2.nil⟩
    exact List.eq_nil_of_length_eq_zero (by simpa using this)
  | cons b r ih =>
    intro as h
    cases as with
    | nil => exact absurd h.len (by simp)
    | cons v vs =>
      obtain ⟨a, rfl, fa⟩ := h.at_ 0 v b rfl rfl
      obtain ⟨qs, rfl, al⟩ := ih ⟨by have := h.len; simpa using this, fun i x y hx hy => h.at_ (i + 1) x y (by simpa using hx) (by simpa using hy)⟩
      refine ⟨a :: qs, rfl, ⟨by simp [al.len], fun i x y hx hy => ?_⟩⟩
      cases i with
      | zero =>
        simp at hx hy
        rw [← hx, ← hy]
        exact fa
      | succ i => exact al.at_ i x y (by simpa using hx) (by simpa using hy)
theorem All2.cons {α β : Type} {F : α → β → Prop} {a : α} {b : β} {as : List α} {bs : List β} (q : F a b) (h : All2 F as bs) : All2 F (a :: as) (b :: bs) := by
  refine ⟨by simp [h.len], fun i x y hx hy => ?_⟩
  cases i with
  | zero =>
    simp at hx hy
    rw [← hx, ← hy]
    exact q
  | succ i => exact h.at_ i x y (by simpa using hx) (by simpa using hy)
theorem All2.tail {α β : Type} {F : α → β → Prop} {a : α} {b : β} {as : List α} {bs : List β} (h : All2 F (a :: as) (b :: bs)) : F a b ∧ All2 F as bs :=
  ⟨h.at_ 0 a b rfl rfl, ⟨by have := h.len; simpa using this, fun i x y hx hy => h.at_ (i + 1) x y (by simpa using hx) (by simpa using hy)⟩⟩
theorem same_none {H H' : Hp} {p : Addr} (s : Same H H') (h : H' p = none) : H p = none := off_none (S := []) s.off h (by simp)
theorem made0 {H : Hp} {x dx : Addr} {o1 o2 : HO} (hx : H x = none) (hd : H dx = none) : Same H (upd (upd H dx o1) x o2) := fun b u e => by
  rw [upd_ne (ne_of_none e hx), upd_ne (ne_of_none e hd)]
  exact e
theorem made_same {H H' : Hp} {x dx : Addr} {o1 o2 : HO} (hx : H x = none) (hd : H dx = none) (o : Off [x] (upd (upd H dx o1) x o2) H') : Same H H' := fun b u e => o b u (made0 hx hd b u e) (by simpa using ne_of_none e hx)
/-! tuples that are tracked: slices, sums -/
theorem cat_tr {K : PySem.W.Frag} {H : Hp} {Q : VK} {a b : Addr} {xs ys : List V} (ha : H a = some (.tup xs)) (hb : H b = some (.tup ys)) (hl : xs.length + ys.length ≤ 1000000) (k : ∀ p H', Same H H' → H' p = some (.tup (xs ++ ys)) → Q (.ref p) H') : rCatA K (.ref a) (.ref b) H Q :=
  ⟨a, b, xs, ys, rfl, rfl, SqT.of ha, SqT.of hb, small5 hl, fun e => k b H (fun _ _ z => z) (by subst e; exact hb), fun _ e => k a H (fun _ _ z => z) (by subst e; rw [List.append_nil]; exact ha), fun _ _ p hp => k p _ (same_upd hp) upd_same⟩
theorem sl_tr {K : PySem.W.Frag} {H : Hp} {Q : VK} {a : Addr} {xs : List V} {lo hi : Option Int} (ha : H a = some (.tup xs)) (k : ∀ p H', Same H H' → H' p = some (.tup (cutV xs lo hi)) → Q (.ref p) H') : rSlA K (.ref a) lo hi H Q :=
  ⟨a, xs, rfl, SqT.of ha, fun e => k a H (fun _ _ z => z) (by unfold cutV; rw [e.1, e.2]; simpa using ha), fun _ p hp => k p _ (same_upd hp) upd_same⟩
theorem cut_take {xs : List V} {i : Nat} : cutV xs none (some (i : Int)) = xs.take i := by
  unfold cutV HT.sIx
  simp
  rw [if_neg (by omega)]
  omega
theorem cut_drop {xs : List V} {i : Nat} : cutV xs (some (i : Int)) none = xs.drop i := by
  unfold cutV HT.sIx
  simp
  rw [if_neg (by omega)]
  by_cases h : i ≤ xs.length
  · rw [Nat.min_eq_left h]
    exact List.take_of_length_le (by simp)
  · rw [Nat.min_eq_right (by omega)]
    rw [List.drop_eq_nil_of_le (by omega), List.drop_eq_nil_of_le (by omega)]
    simp
theorem set_cut {xs : List V} {i : Nat} {x : V} (h : i < xs.length) : (xs.take i ++ [x]) ++ xs.drop (i + 1) = xs.set i x := by
  rw [List.set_eq_take_append_cons_drop, if_pos h]
  simp
/-- what stays by its own kind stays off a list's change -/
theorem kp_off {H H' : Hp} {D : Addr} {acc : List V} (h : H D = some (.lst acc)) (s : Off [D] H H') : Kp H H' := s.kp fun x hx => by
  rw [List.mem_singleton.mp hx]
  exact .inr ⟨acc, h⟩
end K59
set_option maxHeartbeats 4000000
/-! is_number, is_name -/
namespace K59
open PySem PySem.Spec PyProof.Rows L2 TL
section
variable {P : Program} {w : World} {K : PySem.W.Frag} {mg : Str → Option Value} {base : Heap}
theorem ok_isNumber {f : Addr} {fd : FuncData} (F : Fun K "is_number" "is_number" sIsNumber f fd) (T : Tx K mg) : FnOk P w K mg base CX0 1 f fd ["word"] spIsNumber := by
  refine F.ok scIsNumber (fun vs H Q E h => ?_) (fun cdv A outer s H vs Q E hr h => ?_)
  · obtain ⟨z, rfl, _⟩ := h
    rfl
  · obtain ⟨z, rfl, hz, k⟩ := h
    obtain ⟨td, gd⟩ := T.digits
    obtain ⟨tm, gm⟩ := T.mostDigits
    refine ⟨_, pss_cons (ps_if (PW.pt (pw_or (pt_cmpR op_eq (pv 0) pe_str (nomark _)) (pw_or (pt_cmpR op_gt (pe_callB call_len_str (by rfl) T.len PySem.boot_len (pa_cons (pv 0) pa_nil)) (pe_gI gm) (nomark _))
        (pw_or1 (PW.pt (pw_and (pt_cmpR op_eq (pe_ix ix_str (pv 0) pe_int (fun _ _ => rfl)) pe_str (nomark _)) (pw_and1 (pt_cmpR op_gt (pe_callB call_len_str (by rfl) T.len PySem.boot_len (pa_cons (pv 0) pa_nil)) pe_int (nomark _))))))))) (pss_one (ps_ret pe_bl)) pss_nil)
      (pss_one (ps_ret (pe_callB (cr_all rfl) (by rfl) T.all (by decide +kernel) (pa_cons (pe_lc (own := [("char", 1)]) (g := gName 1) (tt := tYes) rfl scIsNumber.nd (pi_str (pv 0)) (blkOk_by (own := [("char", 1)]) (N := ["word", "char"]) (sc := defScope sIsNumber) (by decide +kernel))
        (fun _ _ _ _ _ => pg_name (i := 1) scIsNumber.nd rfl (Or.inl rfl)) (fun _ _ _ _ _ => pts_nil) (fun _ _ _ _ _ => pe_cmpR op_in_sign (pv 1) (pe_gS gd) rfl)) pa_nil)))), ?_⟩
    have l1 : z.length ≤ sizeLine := small5 (by have := hz.le; omega)
    obtain ⟨c, hc⟩ := first_of hz.ne
    -- word == ''
    refine ⟨_, rfl, rfl, _, rfl, dF (fun e => hz.ne (V.str.inj e)) ?_⟩
    -- len(word) > 7
    refine ⟨_, rfl, z, rfl, l1, _, _, rfl, rfl, _, rfl, dF (by have := hz.le; omega) ?_⟩
    -- word[0] == '0' and len(word) > 1
    refine ⟨_, rfl, z, _, c, rfl, rfl, l1, at_first hc, rfl, _, rfl, ?_⟩
    have rest : tRet (tCB (rAll K) (tCons (tLc (iStr (tVar 0)) (gName 1) tYes (tOp (fun x y H Q => ∃ (c : Nat) (z : Str), x = .str ⟨#[c]⟩ ∧ y = .str z ∧ Q (.bl (decide (c ∈ z.cps.toList))) H) (tVar 1) (tC (.str "0123456789"))) [1]) tNil)) ⟨fun _ H' => Q .non H', Q, fun _ _ => False, fun _ _ => False⟩ [some (.str z), none] H := by
      refine ⟨_, rfl, z, rfl, fun D hD => lc_it walk_str (fun i H' => Same H H' ∧ H' D = some (.lst ((List.replicate i true).map V.bl))) ⟨same_upd hD, upd_same⟩ (fun _ _ _ _ => trivial) ?_ ?_⟩
      · rintro i x H1 H2 hi ⟨s1, e1⟩ ⟨rfl, d, hd, rfl⟩
        refine ⟨rfl, yesI ?_⟩
        refine ⟨_, rfl, d, _, rfl, rfl, _, e1, ?_, ?_, ?_⟩
        · rw [List.length_map, List.length_replicate]
          exact lt_line (by have := hz.le; have : i < z.length := hi; omega)
        · exact fun b o e => by rw [upd_ne (ne_of_none e hD)]; exact s1 b o e
        · have hm : d ∈ (Str.ofString "0123456789").cps.toList := by
            rw [digs_eq]
            exact hz.all d (by
              have := Array.mem_of_getElem? hd
              simpa using this)
          rw [upd_same, decide_eq_true hm, List.replicate_succ', List.map_append]
          rfl
      · rintro H1 ⟨s1, e1⟩
        refine ⟨D, _, rfl, SqL.of e1, ?_⟩
        rw [all_true]
        exact k H1 s1
    by_cases e0 : c = 48
    · have l2 : z.length = 1 := hz.hd c hc e0
      refine dT (by rw [e0]; exact (show V.str ⟨#[48]⟩ = V.str (Str.ofString "0") by decide +kernel)) ?_
      refine ⟨_, rfl, z, rfl, l1, _, _, rfl, rfl, _, rfl, dF (by omega) ?_⟩
      exact rest
    · refine dF (fun e => e0 ?_) ?_
      rotate_left
      · refine iteF ?_
        exact rest
      have e2 : (⟨#[c]⟩ : Str) = Str.ofString "0" := V.str.inj e
      have e3 : (Str.ofString "0") = ⟨#[48]⟩ := by decide +kernel
      rw [e3] at e2
      injection e2 with e4
      simpa using e4

theorem ok_isName {f : Addr} {fd : FuncData} (F : Fun K "is_name" "is_name" sIsName f fd) (T : Tx K mg) : FnOk P w K mg base CX0 1 f fd ["word"] spIsName := by
  refine F.ok scIsName (fun vs H Q E h => ?_) (fun cdv A outer s H vs Q E hr h => ?_)
  · obtain ⟨z, rfl, _⟩ := h
    rfl
  · obtain ⟨z, rfl, hz, k⟩ := h
    obtain ⟨td, gd⟩ := T.digits
    obtain ⟨tl, gl⟩ := T.letters
    obtain ⟨tm, gm⟩ := T.mostName
    refine ⟨_, pss_cons (ps_if (PW.pt (pw_or (pt_cmpR op_eq (pv 0) pe_str (nomark _)) (pw_or (pt_cmpR op_gt (pe_callB call_len_str (by rfl) T.len PySem.boot_len (pa_cons (pv 0) pa_nil)) (pe_gI gm) (nomark _))
        (pw_or1 (pt_cmpR op_notIn_sign (pe_ix ix_str (pv 0) pe_int (fun _ _ => rfl)) (pe_gS gl) rfl))))) (pss_one (ps_ret pe_bl)) pss_nil)
      (pss_one (ps_ret (pe_callB (cr_all rfl) (by rfl) T.all (by decide +kernel) (pa_cons (pe_lc (own := [("char", 1)]) (g := gName 1) (tt := tYes) rfl scIsName.nd (pi_str (pv 0)) (blkOk_by (own := [("char", 1)]) (N := ["word", "char"]) (sc := defScope sIsName) (by decide +kernel))
        (fun _ _ _ _ _ => pg_name (i := 1) scIsName.nd rfl (Or.inl rfl)) (fun _ _ _ _ _ => pts_nil) (fun _ _ _ _ _ => pe_or (pe_cmpR op_in_sign (pv 1) (pe_gS gl) rfl) (pe_one (pe_cmpR op_in_sign (pv 1) (pe_gS gd) rfl)))) pa_nil)))), ?_⟩
    have l1 : z.length ≤ sizeLine := small5 (by have := hz.le; omega)
    obtain ⟨c, hc⟩ := first_of hz.ne
    -- word == ''
    refine ⟨_, rfl, rfl, _, rfl, dF (fun e => hz.ne (V.str.inj e)) ?_⟩
    -- len(word) > 15
    refine ⟨_, rfl, z, rfl, l1, _, _, rfl, rfl, _, rfl, dF (by have := hz.le; omega) ?_⟩
    -- word[0] not in LETTERS
    have hm : c ∈ (Str.ofString "abcdefghijklmnopqrstuvwxyzABCDEFGHIJKLMNOPQRSTUVWXYZ").cps.toList := by
      rw [lets_eq]
      exact hz.hd c hc
    refine ⟨_, rfl, z, _, c, rfl, rfl, l1, at_first hc, c, _, rfl, rfl, _, rfl, iteNS hm ?_⟩
    -- all([..])
    refine ⟨_, rfl, z, rfl, fun D hD => lc_it walk_str (fun i H' => Same H H' ∧ H' D = some (.lst ((List.replicate i true).map V.bl))) ⟨same_upd hD, upd_same⟩ (fun _ _ _ _ => trivial) ?_ ?_⟩
    · rintro i x H1 H2 hi ⟨s1, e1⟩ ⟨rfl, d, hd, rfl⟩
      have ld : d ∈ z.cps.toList := by
        have := Array.mem_of_getElem? hd
        simpa using this
      have lacc : ((List.replicate i true).map V.bl).length < sizeLine := by
        rw [List.length_map, List.length_replicate]
        exact lt_line (by have := hz.le; have : i < z.length := hi; omega)
      have fin : Same H (upd H2 D (.lst ((List.replicate i true).map V.bl ++ [V.bl true]))) ∧ (upd H2 D (.lst ((List.replicate i true).map V.bl ++ [V.bl true]))) D = some (.lst ((List.replicate (i + 1) true).map V.bl)) :=
        ⟨fun b o e => by rw [upd_ne (ne_of_none e hD)]; exact s1 b o e, by rw [upd_same, List.replicate_succ', List.map_append]; rfl⟩
      refine ⟨rfl, yesI ?_⟩
      refine ⟨_, rfl, d, _, rfl, rfl, _, rfl, ?_⟩
      rcases hz.all d ld with h | h
      · refine dT (by rw [lets_eq]; exact h) ?_
        exact ⟨_, e1, lacc, fin⟩
      · by_cases h2 : d ∈ lets
        · refine dT (by rw [lets_eq]; exact h2) ?_
          exact ⟨_, e1, lacc, fin⟩
        · refine dF (by rw [lets_eq]; exact h2) ?_
          refine ⟨_, rfl, d, _, rfl, rfl, _, e1, lacc, ?_⟩
          rw [decide_eq_true (by rw [digs_eq]; exact h)]
          exact fin
    · rintro H1 ⟨s1, e1⟩
      refine ⟨D, _, rfl, SqL.of e1, ?_⟩
      rw [all_true]
      exact k H1 s1
end
end K59
set_option maxHeartbeats 4000000
/-! Line: __init__, at_end, peek, skip, expect, take_number, take_field, take_new, take_known, finish -/
namespace K59
open PySem PySem.Spec PyProof.Rows L2 TL
section
variable {P : Program} {w : World} {K : PySem.W.Frag} {mg : Str → Option Value} {base : Heap}
theorem ok_lineInit {f : Addr} {fd : FuncData} (F : Fun K "__init__" "Line.__init__" sLineInit f fd) (T : Tx K mg) : FnOk P w K mg base CX0 1 f fd ["self", "number", "text"] (spLineInit K) := by
  refine F.ok scLineInit (fun vs H Q E h => ?_) (fun cdv A outer s H vs Q E hr h => ?_)
  · obtain ⟨a, dx, n, ws, rfl, _⟩ := h
    rfl
  · obtain ⟨a, dx, n, ws, rfl, ha, hne, hw, hl, hz, k⟩ := h
    refine ⟨_, pss_cons (ps_fld (pv 0) (pv 1) rfl) (pss_cons (ps_fld (pv 0) (pe_split (pv 2) pe_str) rfl) (pss_cons (ps_fld (pv 0) pe_int rfl) (pss_one (ps_fld (pv 0) pe_int rfl)))), ?_⟩
    refine ⟨_, rfl, _, rfl, a, _, dx, [], rfl, ha, T.cLine, T.aLine _ (mem_at 0), (by decide), ?_⟩
    have es : Txt.split (rowT ws) (Str.ofString " ") = ws := split_words hne fun u hu => (hw u hu).1
    refine ⟨_, rfl, ⟨_, rfl⟩, _, _, rfl, rfl, (by decide +kernel), small5 (by omega), ?_⟩
    rw [es]
    intro wl hwl
    have nwa : a ≠ wl := ne_of_none upd_same hwl
    have hwl0 : H wl = none := off_none (S := [a]) (Off.wr (by simp)) hwl (by simpa using nwa.symm)
    refine ⟨_, rfl, a, _, dx, _, rfl, (by rw [upd_ne nwa]; exact upd_same), T.cLine, T.aLine _ (mem_at 1), lt1000 (putF_le (Nat.le_refl 0)), ?_⟩
    refine ⟨_, rfl, a, _, dx, _, rfl, upd_same, T.cLine, T.aLine _ (mem_at 2), lt1000 (putF_le (putF_le (Nat.le_refl 0))), ?_⟩
    refine ⟨_, rfl, a, _, dx, _, rfl, upd_same, T.cLine, T.aLine _ (mem_at 3), lt1000 (putF_le (putF_le (putF_le (Nat.le_refl 0)))), ?_⟩
    rw [upd_upd, upd_upd]
    have e9 := congrArg (fun l => some (HO.ins (cl K "Line") dx l)) (puts_zip (ns := nLine) (vs := [.int n, .ref wl, .int 0, .int 1]) ndLine rfl)
    refine k _ wl (fun b o e hb => ?_) hwl0 ⟨⟨dx, n, 1, ?_⟩, ?_, hl, fun u hu => (hw u hu).2⟩ ?_
    · have nb : b ≠ a := by simpa using hb
      rw [upd_ne nb, upd_ne (ne_of_none e hwl0), upd_ne nb]
      exact e
    · rw [upd_same]
      exact e9
    · rw [upd_ne nwa.symm, upd_same]
    · rw [upd_same]
      exact e9
theorem ok_atEnd {f : Addr} {fd : FuncData} (F : Fun K "at_end" "Line.at_end" sLineAtEnd f fd) (T : Tx K mg) : FnOk P w K mg base CX0 1 f fd ["self"] (spAtEnd K) := by
  refine F.ok scLineAtEnd (fun vs H Q E h => ?_) (fun cdv A outer s H vs Q E hr h => ?_)
  · obtain ⟨L, i, rfl, _⟩ := h
    rfl
  · obtain ⟨L, i, rfl, hL, k⟩ := h
    obtain ⟨dx, n, col, e⟩ := hL.ob
    refine ⟨_, pss_one (ps_ret (pe_cmpR op_eq (pe_fld (pv 0) rfl) (pe_callB call_len_seq (by rfl) T.len PySem.boot_len (pa_cons (pe_fld (pv 0) rfl) pa_nil)) (nomark _))), ?_⟩
    refine ⟨_, rfl, L.p, _, dx, _, _, rfl, e, T.cLine, T.aLine _ (mem_at 2), lookup_zip ndLine (i := 2) rfl rfl, ?_⟩
    refine ⟨_, rfl, L.p, _, dx, _, _, rfl, e, T.cLine, T.aLine _ (mem_at 1), lookup_zip ndLine (i := 1) rfl rfl, L.wl, _, rfl, .inl (SqL.of hL.wl), rfl, ?_⟩
    have e1 : decide (V.int (i : Int) = V.int (((L.ws.map V.str).length : Nat) : Int)) = decide ((i : Int) = (L.ws.length : Int)) := by
      rw [List.length_map]
      by_cases h : (i : Int) = (L.ws.length : Int)
      · rw [decide_eq_true h, decide_eq_true (by rw [h])]
      · rw [decide_eq_false h, decide_eq_false (fun q => h (V.int.inj q))]
    show Q (.bl (decide (V.int (i : Int) = V.int (((L.ws.map V.str).length : Nat) : Int)))) H
    rw [e1]
    exact k
end
end K59
set_option maxHeartbeats 4000000
/-! Line: peek, skip, expect, take_number, take_field, take_new, take_known, finish -/
namespace K59
open PySem PySem.Spec PyProof.Rows L2 TL
section
variable {P : Program} {w : World} {K : PySem.W.Frag} {mg : Str → Option Value} {base : Heap}
theorem flat_strs : ∀ ns : List Str, (ns.map V.str).all flatV = true
  | [] => rfl
  | _ :: r => by
    show (true && (r.map V.str).all flatV) = true
    rw [flat_strs r]
    rfl
theorem eqV_str (z : Str) : eqV (V.str z) (V.str z) = true := by
  simp [eqV]
theorem eqV_str_ne {a b : Str} (h : a ≠ b) : eqV (V.str a) (V.str b) = false := by
  simp [eqV, h]
theorem inV_strs_no {z : Str} {ns : List Str} (h : z ∉ ns) : inV (V.str z) (ns.map V.str) = false := by
  unfold inV
  rw [List.any_eq_false]
  intro y hy
  obtain ⟨u, hu, rfl⟩ := List.mem_map.mp hy
  have hne : u ≠ z := fun e => h (by rw [← e]; exact hu)
  rw [eqV_str_ne hne]
  decide
theorem inV_strs_yes {z : Str} {ns : List Str} (h : z ∈ ns) : inV (V.str z) (ns.map V.str) = true := by
  unfold inV
  rw [List.any_eq_true]
  exact ⟨V.str z, List.mem_map.mpr ⟨z, h, rfl⟩, eqV_str z⟩
theorem ok_peek {f : Addr} {fd : FuncData} (F : Fun K "peek" "Line.peek" sLinePeek f fd) (T : Tx K mg) (cE : CalM P w K mg base 1 (cl K "Line") "at_end" ["self"] [] (spAtEnd K)) : FnOk P w K mg base CX0 2 f fd ["self"] (spPeek K) := by
  refine F.ok scLinePeek (fun vs H Q E h => ?_) (fun cdv A outer s H vs Q E hr h => ?_)
  · obtain ⟨L, i, z, rfl, _⟩ := h
    rfl
  · obtain ⟨L, i, z, rfl, hL, hz, hne, k⟩ := h
    obtain ⟨dx, n, col, e⟩ := hL.ob
    have hi : i < L.ws.length := (List.getElem?_eq_some_iff.mp hz).1
    have hat : atI (L.ws.map V.str) (i : Int) = some (V.str z) := atI_nat (by rw [List.getElem?_map, hz]; rfl)
    refine ⟨_, pss_cons (ps_if (pt_val (pe_m00 (pv 0) T.cLine cE hr)) (pss_one ps_never) pss_nil)
      (pss_cons (ps_if (pt_cmpR op_eq (pe_ix ix_list (pe_fld (pv 0) rfl) (pe_fld (pv 0) rfl) (fun _ _ => rfl)) pe_str (nomark _)) (pss_one ps_never) pss_nil)
      (pss_one (ps_ret (pe_ix ix_list (pe_fld (pv 0) rfl) (pe_fld (pv 0) rfl) (fun _ _ => rfl))))), ?_⟩
    refine ⟨_, rfl, L.p, dx, _, rfl, e, lookup_out (by decide +kernel), L, i, rfl, hL, _, rfl, dF (by omega) ?_⟩
    refine ⟨_, rfl, L.p, _, dx, _, _, rfl, e, T.cLine, T.aLine _ (mem_at 1), lookup_zip ndLine (i := 1) rfl rfl, ?_⟩
    refine ⟨_, rfl, L.p, _, dx, _, _, rfl, e, T.cLine, T.aLine _ (mem_at 2), lookup_zip ndLine (i := 2) rfl rfl, ?_⟩
    refine ⟨L.wl, _, _, _, rfl, rfl, SqL.of hL.wl, hat, rfl, _, rfl, dF (fun q => hne (V.str.inj q)) ?_⟩
    refine ⟨_, rfl, L.p, _, dx, _, _, rfl, e, T.cLine, T.aLine _ (mem_at 1), lookup_zip ndLine (i := 1) rfl rfl, ?_⟩
    refine ⟨_, rfl, L.p, _, dx, _, _, rfl, e, T.cLine, T.aLine _ (mem_at 2), lookup_zip ndLine (i := 2) rfl rfl, ?_⟩
    exact ⟨L.wl, _, _, _, rfl, rfl, SqL.of hL.wl, hat, k⟩
theorem ok_skip {f : Addr} {fd : FuncData} (F : Fun K "skip" "Line.skip" sLineSkip f fd) (T : Tx K mg) : FnOk P w K mg base CX0 1 f fd ["self"] (spSkip K) := by
  refine F.ok scLineSkip (fun vs H Q E h => ?_) (fun cdv A outer s H vs Q E hr h => ?_)
  · obtain ⟨L, i, z, rfl, _⟩ := h
    rfl
  · obtain ⟨L, i, z, rfl, hL, hz, k⟩ := h
    obtain ⟨dx, n, col, e⟩ := hL.ob
    have hat : atI (L.ws.map V.str) (i : Int) = some (V.str z) := atI_nat (by rw [List.getElem?_map, hz]; rfl)
    have nwl : L.wl ≠ L.p := hL.ne_lst hL.wl
    have lz : z.length ≤ sizeLine := small5 (by have := hL.short z (List.mem_of_getElem? hz); omega)
    refine ⟨_, pss_cons (ps_fldaug (pv 0) (pe_op op_add (pe_callB call_len_str (by rfl) T.len PySem.boot_len (pa_cons (pe_ix ix_list (pe_fld (pv 0) rfl) (pe_fld (pv 0) rfl) (fun _ _ => rfl)) pa_nil)) pe_int) in_add)
      (pss_one (ps_fldaug (pv 0) pe_int in_add)), ?_⟩
    refine ⟨_, rfl, L.p, _, dx, _, _, rfl, e, T.cLine, T.aLine _ (mem_at 3), lookup_zip ndLine (i := 3) rfl rfl, ?_⟩
    refine ⟨_, rfl, L.p, _, dx, _, _, rfl, e, T.cLine, T.aLine _ (mem_at 1), lookup_zip ndLine (i := 1) rfl rfl, ?_⟩
    refine ⟨_, rfl, L.p, _, dx, _, _, rfl, e, T.cLine, T.aLine _ (mem_at 2), lookup_zip ndLine (i := 2) rfl rfl, ?_⟩
    refine ⟨L.wl, _, _, _, rfl, rfl, SqL.of hL.wl, hat, z, rfl, lz, _, _, rfl, rfl, _, _, rfl, rfl, dx, _, e, (by show 4 < 1000; decide), ?_⟩
    rw [putF_zip ndLine (i := 3) rfl (by show 3 < 4; decide)]
    refine ⟨_, rfl, L.p, _, dx, _, _, rfl, upd_same, T.cLine, T.aLine _ (mem_at 2), lookup_zip ndLine (i := 2) rfl rfl, ?_⟩
    refine ⟨_, _, rfl, rfl, dx, _, upd_same, (by show 4 < 1000; decide), ?_⟩
    rw [putF_zip ndLine (i := 2) rfl (by show 2 < 4; decide), upd_upd]
    exact k _ (Off.wr (by simp)) ⟨⟨dx, n, _, upd_same⟩, (by rw [upd_ne nwl]; exact hL.wl), hL.few, hL.short⟩
theorem ok_expect {f : Addr} {fd : FuncData} (F : Fun K "expect" "Line.expect" sLineExpect f fd) (T : Tx K mg) (cP : CalM P w K mg base 2 (cl K "Line") "peek" ["self"] [] (spPeek K)) (cS : CalM P w K mg base 1 (cl K "Line") "skip" ["self"] [] (spSkip K)) :
    FnOk P w K mg base CX0 3 f fd ["self", "word"] (spExpect K) := by
  refine F.ok scLineExpect (fun vs H Q E h => ?_) (fun cdv A outer s H vs Q E hr h => ?_)
  · obtain ⟨L, i, z, rfl, _⟩ := h
    rfl
  · obtain ⟨L, i, z, rfl, hL, hz, hne, k⟩ := h
    obtain ⟨dx, n, col, e⟩ := hL.ob
    refine ⟨_, pss_cons (ps_if (pt_cmpR op_ne (pe_m00 (pv 0) T.cLine cP hr) (pv 1) (nomark _)) (pss_one ps_never) pss_nil)
      (pss_one (ps_expr (pe_m00 (pv 0) T.cLine cS (hr.mono (by decide))))), ?_⟩
    refine ⟨_, rfl, L.p, dx, _, rfl, e, lookup_out (by decide +kernel), L, i, z, rfl, hL, hz, hne, _, rfl, rfl, _, rfl, ?_⟩
    refine bF (by rw [decide_eq_true rfl]; rfl) ?_
    exact ⟨_, rfl, L.p, dx, _, rfl, e, lookup_out (by decide +kernel), L, i, z, rfl, hL, hz, k⟩
theorem ok_takeNumber {f : Addr} {fd : FuncData} (F : Fun K "take_number" "Line.take_number" sLineTakeNumber f fd) (T : Tx K mg) (cP : CalM P w K mg base 2 (cl K "Line") "peek" ["self"] [] (spPeek K)) (cS : CalM P w K mg base 1 (cl K "Line") "skip" ["self"] [] (spSkip K))
    (cN : Cal P w K mg base 1 "is_number_words" ["word"] spIsNumber) :
    FnOk P w K mg base CX0 3 f fd ["self", "least", "most"] (spTakeNumber K) := by
  refine F.ok scLineTakeNumber (fun vs H Q E h => ?_) (fun cdv A outer s H vs Q E hr h => ?_)
  · obtain ⟨L, i, n, lo, hi, rfl, _⟩ := h
    rfl
  · obtain ⟨L, i, n, lo, hi, rfl, hL, hz, ⟨h0, h64, hlo, hhi⟩, k⟩ := h
    obtain ⟨dx, n', col, e⟩ := hL.ob
    have hw := numW h0 h64
    have hle : (numS n).length ≤ 640 := by have := num_len h0 h64; omega
    refine ⟨_, pss_cons (ps_set (i := 3) scLineTakeNumber.nd rfl (Or.inl rfl) (pe_m00 (pv 0) T.cLine cP hr))
      (pss_cons (ps_if (pt_not (pt_val (pe_f cN (hr.mono (by decide)) (pa_cons (pv 3) pa_nil)))) (pss_one ps_never) pss_nil)
      (pss_cons (ps_if (pt_not (pt_chain op_le op_le (pv 1) (pe_callTy call_int_str (by rfl) T.int (by decide +kernel) (pa_cons (pv 3) pa_nil)) (pv 2))) (pss_one ps_never) pss_nil)
      (pss_cons (ps_expr (pe_m00 (pv 0) T.cLine cS (hr.mono (by decide))))
      (pss_one (ps_ret (pe_callTy call_int_str (by rfl) T.int (by decide +kernel) (pa_cons (pv 3) pa_nil))))))), ?_⟩
    refine ⟨_, rfl, L.p, dx, _, rfl, e, lookup_out (by decide +kernel), L, i, numS n, rfl, hL, hz, hw.ne, ?_⟩
    refine ⟨_, rfl, numS n, rfl, hw, fun H1 s1 => ⟨_, rfl, bF rfl ?_⟩⟩
    refine ⟨_, rfl, _, rfl, _, n, rfl, num_int h0 h64, hle, _, _, rfl, rfl, _, rfl, dT hlo ?_⟩
    refine ⟨_, rfl, _, _, rfl, rfl, _, rfl, bF (by rw [decide_eq_true hhi]; rfl) ?_⟩
    refine ⟨_, rfl, L.p, dx, _, rfl, s1 _ _ e, lookup_out (by decide +kernel), L, i, numS n, rfl, hL.same s1, hz, fun H2 o2 l2 => ?_⟩
    exact ⟨_, rfl, _, n, rfl, num_int h0 h64, hle, k H2 (s1.off.trans o2) l2⟩
theorem ok_takeField {f : Addr} {fd : FuncData} (F : Fun K "take_field" "Line.take_field" sLineTakeField f fd) (T : Tx K mg) (cE : CalM P w K mg base 3 (cl K "Line") "expect" ["self", "word"] [] (spExpect K)) (cN : CalM P w K mg base 3 (cl K "Line") "take_number" ["self", "least", "most"] [] (spTakeNumber K)) :
    FnOk P w K mg base CX0 4 f fd ["self", "word", "least", "most"] (spTakeField K) := by
  refine F.ok scLineTakeField (fun vs H Q E h => ?_) (fun cdv A outer s H vs Q E hr h => ?_)
  · obtain ⟨L, i, g, n, lo, hi, rfl, _⟩ := h
    rfl
  · obtain ⟨L, i, g, n, lo, hi, rfl, hL, hg, hne, hz, hb, k⟩ := h
    obtain ⟨dx, n', col, e⟩ := hL.ob
    refine ⟨_, pss_cons (ps_expr (pe_m (pv 0) T.cLine cE hr (pa_cons (pv 1) pa_nil))) (pss_one (ps_ret (pe_m (pv 0) T.cLine cN hr (pa_cons (pv 2) (pa_cons (pv 3) pa_nil))))), ?_⟩
    refine ⟨_, rfl, L.p, dx, _, rfl, e, lookup_out (by decide +kernel), _, rfl, L, i, g, rfl, hL, hg, hne, fun H1 o1 l1 => ?_⟩
    obtain ⟨dx, n', col, e⟩ := l1.ob
    exact ⟨_, rfl, L.p, dx, _, rfl, e, lookup_out (by decide +kernel), _, rfl, _, rfl, L, i + 1, n, lo, hi, rfl, l1, hz, hb, fun H2 o2 l2 => k H2 (o1.trans o2) l2⟩
theorem ok_takeNew {f : Addr} {fd : FuncData} (F : Fun K "take_new" "Line.take_new" sLineTakeNew f fd) (T : Tx K mg) (cP : CalM P w K mg base 2 (cl K "Line") "peek" ["self"] [] (spPeek K)) (cS : CalM P w K mg base 1 (cl K "Line") "skip" ["self"] [] (spSkip K))
    (cN : Cal P w K mg base 1 "is_name" ["word"] spIsName) :
    FnOk P w K mg base CX0 3 f fd ["self", "taken"] (spTakeNew K) := by
  refine F.ok scLineTakeNew (fun vs H Q E h => ?_) (fun cdv A outer s H vs Q E hr h => ?_)
  · obtain ⟨L, i, t, ns, z, rfl, _⟩ := h
    rfl
  · obtain ⟨L, i, t, ns, z, rfl, hL, ht, hn, hw, hz, k⟩ := h
    obtain ⟨dx, n', col, e⟩ := hL.ob
    refine ⟨_, pss_cons (ps_set (i := 2) scLineTakeNew.nd rfl (Or.inl rfl) (pe_m00 (pv 0) T.cLine cP hr))
      (pss_cons (ps_if (pt_not (pt_val (pe_f cN (hr.mono (by decide)) (pa_cons (pv 2) pa_nil)))) (pss_one ps_never) pss_nil)
      (pss_cons (ps_if (pt_cmpR op_in_seq (pv 2) (pv 1) rfl) (pss_one ps_never) pss_nil)
      (pss_cons (ps_expr (pe_m00 (pv 0) T.cLine cS (hr.mono (by decide))))
      (pss_one (ps_ret (pv 2)))))), ?_⟩
    refine ⟨_, rfl, L.p, dx, _, rfl, e, lookup_out (by decide +kernel), L, i, z, rfl, hL, hz, hw.ne, ?_⟩
    refine ⟨_, rfl, z, rfl, hw, fun H1 s1 => ⟨_, rfl, bF rfl ?_⟩⟩
    refine ⟨_, rfl, _, rfl, t, _, rfl, .inl (SqL.of (s1 _ _ ht)), rfl, flat_strs ns, _, rfl, bF (inV_strs_no hn) ?_⟩
    refine ⟨_, rfl, L.p, dx, _, rfl, s1 _ _ e, lookup_out (by decide +kernel), L, i, z, rfl, hL.same s1, hz, fun H2 o2 l2 => ?_⟩
    exact ⟨_, rfl, k H2 (s1.off.trans o2) l2⟩
theorem ok_takeKnown {f : Addr} {fd : FuncData} (F : FunD K "take_known" "Line.take_known" (defArgs sLineTakeKnown) (defBody sLineTakeKnown) (defScope sLineTakeKnown) [.int 0] [] f fd) (T : Tx K mg) (cP : CalM P w K mg base 2 (cl K "Line") "peek" ["self"] [] (spPeek K)) (cS : CalM P w K mg base 1 (cl K "Line") "skip" ["self"] [] (spSkip K))
    (cN : Cal P w K mg base 1 "is_name" ["word"] spIsName) :
    FnOk P w K mg base CX0 3 f fd ["self", "names", "least"] (spTakeKnown K) := by
  refine F.ok scLineTakeKnown (fun vs H Q E h => ?_) (fun cdv A outer s H vs Q E hr h => ?_)
  · obtain ⟨L, i, j, t, ns, z, rfl, _⟩ := h
    rfl
  · obtain ⟨L, i, j, t, ns, z, rfl, hL, ht, hj, hf, hl, hw, hz, k⟩ := h
    obtain ⟨dx, n', col, e⟩ := hL.ob
    refine ⟨_, PSs.nox (pss_cons (ps_set (i := 3) scLineTakeKnown.nd rfl (Or.inl rfl) (pe_m00 (pv 0) T.cLine cP hr))
      (pss_cons (ps_if (pt_not (pt_val (pe_f cN (hr.mono (by decide)) (pa_cons (pv 3) pa_nil)))) (pss_one ps_never) pss_nil)
      (pss_cons (ps_if (pt_cmpR op_notIn_seq (pv 3) (pv 1) rfl) (pss_one ps_never) pss_nil)
      (pss_cons (ps_if (pt_cmpR op_lt (pe_bm PySem.F.plainAttrs_list PySem.F.slot_list_index PySem.F.type_list_index mt_index (pe_callTy call_list_of (by rfl) T.list (by decide +kernel) (pa_cons (pv 1) pa_nil)) (pa_cons (pv 3) pa_nil)) (pv 2) (nomark _)) (pss_one ps_never) pss_nil)
      (pss_cons (ps_expr (pe_m00 (pv 0) T.cLine cS (hr.mono (by decide))))
      (pss_one (ps_ret (pe_bm PySem.F.plainAttrs_list PySem.F.slot_list_index PySem.F.type_list_index mt_index (pe_callTy call_list_of (by rfl) T.list (by decide +kernel) (pa_cons (pv 1) pa_nil)) (pa_cons (pv 3) pa_nil))))))))), ?_⟩
    refine ⟨_, rfl, L.p, dx, _, rfl, e, lookup_out (by decide +kernel), L, i, z, rfl, hL, hz, hw.ne, ?_⟩
    refine ⟨_, rfl, z, rfl, hw, fun H1 s1 => ⟨_, rfl, bF rfl ?_⟩⟩
    have hm : z ∈ ns := List.mem_of_getElem? hj
    refine ⟨_, rfl, _, rfl, t, _, rfl, .inl (SqL.of (s1 _ _ ht)), rfl, flat_strs ns, _, rfl, bF (by rw [inV_strs_yes hm]; rfl) ?_⟩
    have hix : (ns.map V.str)[j]? = some (V.str z) := by rw [List.getElem?_map, hj]; rfl
    have hno : ∀ (m : Nat) (z' : V), m < j → (ns.map V.str)[m]? = some z' → eqV z' (V.str z) = false := by
      intro m z' hm' hz'
      rw [List.getElem?_map] at hz'
      cases q : ns[m]? with
      | none => rw [q] at hz'; cases hz'
      | some y =>
        rw [q] at hz'
        cases hz'
        have : y ≠ z := fun e => hf m hm' (by rw [q, e])
        exact eqV_str_ne this
    refine ⟨_, rfl, t, _, rfl, .inl (SqL.of (s1 _ _ ht)), fun l hl => ⟨.inl ⟨rfl, _, SqL.of upd_same⟩, ?_⟩⟩
    refine ⟨_, rfl, l, _, _, j, _, rfl, rfl, SqL.of upd_same, rfl, flat_strs ns, hix, eqV_str z, hno, _, rfl, _, _, rfl, rfl, _, rfl, dF (by omega) ?_⟩
    have s2 : Same H (upd H1 l (.lst (ns.map V.str))) := s1.to hl
    refine ⟨_, rfl, L.p, dx, _, rfl, s2 _ _ e, lookup_out (by decide +kernel), L, i, z, rfl, hL.same s2, hz, fun H2 o2 l2 => ?_⟩
    have ht2 : H2 t = some (.lst (ns.map V.str)) := o2 _ _ (s2 _ _ ht) (by simpa using hL.ne_lst ht)
    refine ⟨_, rfl, t, _, rfl, .inl (SqL.of ht2), fun l' hl' => ⟨.inl ⟨rfl, _, SqL.of upd_same⟩, ?_⟩⟩
    refine ⟨_, rfl, l', _, _, j, _, rfl, rfl, SqL.of upd_same, rfl, flat_strs ns, hix, eqV_str z, hno, ?_⟩
    have o3 : Off [L.p] H (upd H2 l' (.lst (ns.map V.str))) := (s2.off.trans o2).to hl'
    refine k _ o3 (l2.same (same_upd hl'))
theorem ok_finish {f : Addr} {fd : FuncData} (F : Fun K "finish" "Line.finish" sLineFinish f fd) (T : Tx K mg) (cE : CalM P w K mg base 1 (cl K "Line") "at_end" ["self"] [] (spAtEnd K)) : FnOk P w K mg base CX0 2 f fd ["self"] (spFinish K) := by
  refine F.ok scLineFinish (fun vs H Q E h => ?_) (fun cdv A outer s H vs Q E hr h => ?_)
  · obtain ⟨L, rfl, _⟩ := h
    rfl
  · obtain ⟨L, rfl, hL, k⟩ := h
    obtain ⟨dx, n', col, e⟩ := hL.ob
    refine ⟨_, pss_one (ps_if (pt_not (pt_val (pe_m00 (pv 0) T.cLine cE hr))) pss_never pss_nil), ?_⟩
    exact ⟨_, rfl, L.p, dx, _, rfl, e, lookup_out (by decide +kernel), L, _, rfl, hL, _, rfl, bF (by rw [decide_eq_true rfl]; rfl) k⟩
end
end K59
set_option maxHeartbeats 4000000
/-! lines_of, names_of -/
namespace K59
open PySem PySem.Spec PyProof.Rows L2 TL
section
variable {P : Program} {w : World} {K : PySem.W.Frag} {mg : Str → Option Value} {base : Heap}
/-- a line made for the row b.1, with its number b.2 + 1; D is the list that takes it -/
def LnF (K : PySem.W.Frag) (H0 : Hp) (D : Addr) (H : Hp) (v : V) (b : List Str × Nat) : Prop := ∃ (L : Ln) (dx : Addr), v = V.ref L.p ∧ L.ws = b.1 ∧ LineAt K H L 0 ∧ H0 L.p = none ∧ H0 L.wl = none ∧ L.p ≠ D ∧ L.wl ≠ D ∧
  H L.p = some (.ins (cl K "Line") dx (nLine.zip [.int ((b.2 : Int) + 1), .ref L.wl, .int 0, .int 1]))
theorem at_last {α : Type} {xs : List α} {x : α} : atI (xs ++ [x]) (-1) = some x := by
  have e : ixN (xs ++ [x]).length (-1) = some xs.length := by
    rw [List.length_append, List.length_singleton]
    unfold ixN
    rw [if_neg (by decide), if_pos (by omega)]
    congr 1
    omega
  unfold atI
  rw [e]
  show (xs ++ [x])[xs.length]? = some x
  simp
theorem cut_last {xs : List V} {x : V} : cutV (xs ++ [x]) none (some (-1)) = xs := by
  unfold cutV
  have h1 : HT.sIx (xs ++ [x]).length 0 none = 0 := rfl
  have h2 : HT.sIx (xs ++ [x]).length (xs ++ [x]).length (some (-1)) = xs.length := by
    unfold HT.sIx
    simp
    omega
  rw [h1, h2]
  simp
theorem all2_ln {K : PySem.W.Frag} {H0 H : Hp} {D : Addr} {bs : List (List Str × Nat)} {ys : List V} (h : All2 (LnF K H0 D H) ys bs) : ∃ Ls : List Ln, ys = Ls.map (fun L => V.ref L.p) ∧ All2 (fun (L : Ln) b => ∃ dx : Addr, L.ws = b.1 ∧ LineAt K H L 0 ∧ H0 L.p = none ∧ H0 L.wl = none ∧ L.p ≠ D ∧ L.wl ≠ D ∧
    H L.p = some (.ins (cl K "Line") dx (nLine.zip [.int ((b.2 : Int) + 1), .ref L.wl, .int 0, .int 1]))) Ls bs := by
  induction bs generalizing ys with
  | nil =>
    have := h.len
    exact ⟨[], List.eq_nil_of_length_eq_zero (by simpa using this), All2.nil⟩
  | cons b r ih =>
    cases ys with
    | nil => exact absurd h.len (by simp)
    | cons v vs =>
      obtain ⟨⟨L, dx, rfl, q⟩, t⟩ := h.tail
      obtain ⟨Ls, rfl, al⟩ := ih t
      exact ⟨L :: Ls, rfl, All2.cons ⟨dx, q⟩ al⟩
theorem ok_linesOf {f : Addr} {fd : FuncData} (F : Fun K "lines_of" "lines_of" sLinesOf f fd) (T : Tx K mg) (cI : CalI P w K mg base 1 "Line" ["self", "number", "text"] (spLineInit K)) : FnOk P w K mg base CX0 3 f fd ["text"] (spLinesOf K) := by
  refine F.ok scLinesOf (fun vs H Q E h => ?_) (fun cdv A outer s H vs Q E hr h => ?_)
  · obtain ⟨z, rows, rfl, _⟩ := h
    rfl
  · obtain ⟨z, rows, rfl, hz, hok, hzl, k⟩ := h
    refine ⟨_, pss_cons (ps_if (pt_cmpR op_eq (pv 0) pe_str (nomark _)) pss_never pss_nil)
      (pss_cons (ps_set (i := 1) scLinesOf.nd rfl (Or.inl rfl) (pe_split (pv 0) pe_str))
      (pss_cons (ps_if (pt_cmpR op_ne (pe_ix ix_list (pv 1) (pe_un un_neg pe_int) (fun _ _ => rfl)) pe_str (nomark _)) (pss_one ps_never) pss_nil)
      (pss_one (ps_ret (pe_lc (own := [("index", 2), ("row", 3)]) (g := gTup K 2 (gCons (gName 2) (gCons (gName 3) gNil))) (tt := tYes) (te := tMake (cl K "Line") (spLineInit K) [] E0 (tCons (tOp rAdd (tVar 2) (tC (.int 1))) (tCons (tVar 3) tNil))) rfl scLinesOf.nd
        (pi_enum (by rfl) T.enumerate (pa_cons (pe_slice sl_list (pv 1) po_none (po_some (pe_un un_neg pe_int))) pa_nil))
        (blkOk_by (own := [("index", 2), ("row", 3)]) (N := ["text", "rows", "index", "row"]) (sc := defScope sLinesOf) (by decide +kernel))
        (fun _ _ _ _ _ => pg_tup rfl (pgs_cons (pg_name (i := 2) scLinesOf.nd rfl (Or.inl rfl)) (pgs_cons (pg_name (i := 3) scLinesOf.nd rfl (Or.inl rfl)) pgs_nil)))
        (fun _ _ _ _ _ => pts_nil)
        (fun _ _ _ _ _ => pe_mk cI hr (pa_cons (pe_op op_add (pv 2) pe_int) (pa_cons (pv 3) pa_nil)))))))), ?_⟩
    have hsp : Txt.split z nl = rows.map rowT ++ [Str.ofString ""] := split_rows hz fun r hr u hu => ((hok.each r hr).2.2.1 u hu).1
    have hne : z ≠ Str.ofString "" := by
      intro e
      have h1 : textL rows = [] := by
        rw [← hz, e]
        decide +kernel
      cases hrows : rows with
      | nil => exact hok.ne hrows
      | cons r rs =>
        rw [hrows] at h1
        have h2 : (tl (rowT r) ++ [10]) ++ textL rs = [] := h1
        simp at h2
    refine ⟨_, rfl, rfl, _, rfl, dF (fun e => hne (V.str.inj e)) ?_⟩
    refine ⟨_, rfl, ⟨_, rfl⟩, _, _, rfl, rfl, (by decide +kernel), Nat.le_trans (Nat.add_le_add_right hzl 2) (by decide), ?_⟩
    rw [show Txt.split z (Str.ofString "\n") = rows.map rowT ++ [Str.ofString ""] from hsp]
    intro p hp
    rw [List.map_append]
    refine ⟨_, rfl, 1, rfl, p, _, _, _, rfl, rfl, SqL.of upd_same, at_last, rfl, _, rfl, bF (by decide) ?_⟩
    refine ⟨_, rfl, 1, rfl, _, rfl, p, _, rfl, SqL.of upd_same, ?_⟩
    have ecut : cutV ((rows.map rowT).map V.str ++ List.map V.str [Str.ofString ""]) none (some (-1)) = (rows.map rowT).map V.str := cut_last
    rw [ecut]
    intro p2 hp2
    have np2 : p2 ≠ p := (ne_of_none upd_same hp2).symm
    refine ⟨p2, _, rfl, SqL.of upd_same, fun D hD => ?_⟩
    have nD2 : D ≠ p2 := (ne_of_none upd_same hD).symm
    have hD0 : H D = none := by
      have h1 : (upd H p (.lst ((rows.map rowT).map V.str ++ List.map V.str [Str.ofString ""]))) D = none := by rw [upd_ne nD2] at hD; exact hD
      exact off_none (S := [p]) (Off.wr (by simp)) h1 (by simpa using (ne_of_none upd_same h1).symm)
    have s0 : Same H (upd (upd H p (.lst ((rows.map rowT).map V.str ++ List.map V.str [Str.ofString ""]))) p2 (.lst ((rows.map rowT).map V.str))) := (same_upd hp).to hp2
    refine lc_map walk_enum rows.zipIdx (LnF K H D) hD (by simp) (by have := hok.few; simp; omega) (fun H' s => SqL.of (s _ _ upd_same)) ?_ ?_ ?_
    · rintro H1 H2 v b _ o ⟨L, dx, h1, h2, h3, h4, h5, h6, h7, h8⟩
      exact ⟨L, dx, h1, h2, h3.off o (by simpa using h6) (by simpa using h7), h4, h5, h6, h7, o _ _ h8 (by simpa using h6)⟩
    · rintro i ⟨r, j⟩ x H2 H3 C Z hb s2 ⟨acc, hacc⟩ ⟨T', x', y', rfl, hT, rfl, hx, hy⟩ hC
      obtain rfl : x' = V.int (i : Int) := (Option.some.inj hx).symm
      rw [List.getElem?_zipIdx] at hb
      obtain ⟨hr0, hij⟩ : rows[i]? = some r ∧ i = j := by
        cases q : rows[i]? with
        | none => rw [q] at hb; cases hb
        | some r' => rw [q] at hb; simp at hb; exact ⟨by rw [hb.1], hb.2⟩
      subst hij
      obtain rfl : y' = V.str (rowT r) := by
        have hy' : (List.map V.str (List.map rowT rows))[i]? = some y' := hy
        rw [List.getElem?_map, List.getElem?_map, hr0] at hy'
        exact (Option.some.inj hy').symm
      have hrok := hok.each r (List.mem_of_getElem? hr0)
      refine ⟨T', _, rfl, SqT.of upd_same, rfl, _, _, rfl, _, _, rfl, rfl, rfl, yesI ?_⟩
      refine ⟨_, rfl, _, _, rfl, rfl, _, rfl, fun xa dx hxa hdx hne' => ⟨xa, dx, _, r, rfl, upd_same, hrok.1, hrok.2.2.1, hrok.2.1, hrok.2.2.2, fun H' wl o hwl hL hE => ⟨rfl, ?_⟩⟩⟩
      have sT : Same H2 (upd H2 T' (.tup [V.int (i : Int), V.str (rowT r)])) := same_upd hT
      have s5 : Same H2 H' := sT.trans (made_same hxa hdx o)
      have sH2 : Same H H2 := s0.trans s2
      have hxa0 : H2 xa = none := same_none sT hxa
      have hwl0 : H2 wl = none := same_none (sT.trans (made0 hxa hdx)) hwl
      exact hC _ _ s5 ⟨⟨xa, wl, r⟩, dx, rfl, rfl, hL, same_none sH2 hxa0, same_none sH2 hwl0, (ne_of_none hacc hxa0).symm, (ne_of_none hacc hwl0).symm, hE⟩
    · intro H' ys s al hal
      obtain ⟨Ls, e1, al2⟩ := all2_ln hal
      subst e1
      refine k H' D Ls (s0.trans s) hD0 al ?_ ?_ ?_
      · refine List.ext_getElem? fun i => ?_
        rw [List.getElem?_map]
        cases q : rows[i]? with
        | none =>
          have h1 := al2.len
          rw [List.length_zipIdx] at h1
          rw [List.getElem?_eq_none_iff.mpr (by have := List.getElem?_eq_none_iff.mp q; omega)]
          rfl
        | some r =>
          have hq : rows.zipIdx[i]? = some (r, i) := by rw [List.getElem?_zipIdx, q]; simp
          obtain ⟨L, hL, _, hr, _⟩ := al2.get hq
          rw [hL]
          exact congrArg some hr
      · intro L hL
        obtain ⟨i, hi⟩ := List.mem_iff_getElem?.mp hL
        obtain ⟨b, hb, dx, _, h2, h3, h4, _⟩ := al2.getL hi
        exact ⟨h2, h3, h4⟩
      · refine List.pairwise_iff_getElem.mpr fun i j hi' hj' hij => ?_
        rw [List.length_map] at hi' hj'
        have hj : j < Ls.length := hj'
        rw [List.getElem_map, List.getElem_map]
        intro e
        have e' : Ls[i].p = Ls[j].p := e
        obtain ⟨b, hb, dx, _, _, _, _, _, _, h1⟩ := al2.getL (List.getElem?_eq_getElem (by omega : i < Ls.length))
        obtain ⟨b2, hb2, dx2, _, _, _, _, _, _, h2⟩ := al2.getL (List.getElem?_eq_getElem hj)
        rw [List.getElem?_zipIdx] at hb hb2
        have i1 : b.2 = i := by
          cases q : rows[i]? with
          | none => rw [q] at hb; cases hb
          | some r => rw [q] at hb; cases hb; simp
        have i2 : b2.2 = j := by
          cases q : rows[j]? with
          | none => rw [q] at hb2; cases hb2
          | some r => rw [q] at hb2; cases hb2; simp
        rw [e', h2, i1, i2] at h1
        have h3 : (V.int ((j : Int) + 1)) = V.int ((i : Int) + 1) := by
          injection h1 with h1
          injection h1 with _ _ h1
          injection h1 with h1 _
          exact (Prod.mk.inj h1).2
        have h4 := V.int.inj h3
        omega
end
end K59
set_option maxHeartbeats 4000000
/-! names_of, with_made, with_taken -/
namespace K59
open PySem PySem.Spec PyProof.Rows L2 TL
section
variable {P : Program} {w : World} {K : PySem.W.Frag} {mg : Str → Option Value} {base : Heap}
theorem ok_namesOf {f : Addr} {fd : FuncData} (F : Fun K "names_of" "names_of" sNamesOf f fd) (T : Tx K mg) : FnOk P w K mg base CX0 1 f fd ["things"] (spNamesOf K) := by
  refine F.ok scNamesOf (fun vs H Q E h => ?_) (fun cdv A outer s H vs Q E hr h => ?_)
  · obtain ⟨t, as, ns, rfl, _⟩ := h
    rfl
  · obtain ⟨t, as, ns, rfl, ht, al, hl, k⟩ := h
    refine ⟨_, pss_one (ps_ret (pe_lc (own := [("thing", 1)]) (g := gName 1) (tt := tYes) (te := tFld K (tVar 1) "name") rfl scNamesOf.nd (pi_list (pv 0))
      (blkOk_by (own := [("thing", 1)]) (N := ["things", "thing"]) (sc := defScope sNamesOf) (by decide +kernel))
      (fun _ _ _ _ _ => pg_name (i := 1) scNamesOf.nd rfl (Or.inl rfl)) (fun _ _ _ _ _ => pts_nil) (fun _ _ _ _ _ => pe_fld (pv 1) rfl))), ?_⟩
    refine ⟨_, rfl, t, rfl, ⟨_, SqL.of ht⟩, fun D hD => ?_⟩
    refine lc_map walk_list ns (fun H v n => v = V.str n) hD (by rw [List.length_map, al.len]) (by rw [List.length_map]; omega) (fun H' s => SqL.of (s _ _ ht)) (fun _ _ _ _ _ _ z => z) ?_ ?_
    · rintro i n x H2 H3 C Z hn s2 _ ⟨rfl, hx⟩ hC
      obtain ⟨a, ha, C', dx, fs, e, c, na, l⟩ := al.get hn
      rw [List.getElem?_map, ha] at hx
      cases hx
      exact ⟨rfl, yesI ⟨_, rfl, a, C', dx, _, _, rfl, s2 _ _ e, c, na, l, hC _ _ (fun _ _ z => z) rfl⟩⟩
    · intro H' ys s e h
      rw [all2_map h] at e
      exact k H' D s hD e
theorem ok_withMade {f : Addr} {fd : FuncData} (F : Fun K "with_made" "with_made" sWithMade f fd) (T : Tx K mg) : FnOk P w K mg base CX0 1 f fd ["case", "number", "entry"] spWithMade := by
  refine F.ok scWithMade (fun vs H Q E h => ?_) (fun cdv A outer s H vs Q E hr h => ?_)
  · obtain ⟨c, C, i, v, en, rfl, _⟩ := h
    rfl
  · obtain ⟨c, C, i, v, en, rfl, hc, hi, hl, hv, k⟩ := h
    obtain ⟨m, t, vs, us, e1, e2, e3, a1, a2⟩ := hc.ex
    refine ⟨_, pss_one (ps_ret (pe_tup (pa_cons (pe_op op_catA (pe_op op_catA (pe_slice sl_tupA (pe_ix ix_tup (pv 0) pe_int (fun _ _ => rfl)) po_none (po_some (pv 1))) (pe_tup (pa_cons (pv 2) pa_nil)))
      (pe_slice sl_tupA (pe_ix ix_tup (pv 0) pe_int (fun _ _ => rfl)) (po_some (pe_op op_add (pv 1) pe_int)) po_none)) (pa_cons (pe_ix ix_tup (pv 0) pe_int (fun _ _ => rfl)) pa_nil)))), ?_⟩
    have hvl : vs.length = C.ms.length := a1.len
    refine ⟨_, rfl, c, _, _, _, rfl, rfl, SqT.of e1, rfl, _, rfl, _, rfl, sl_tr e2 fun p1 H1 s1 q1 => ?_⟩
    rw [cut_take] at q1
    refine ⟨_, rfl, (by show 1 ≤ sizeLine; decide), fun p2 hp2 => cat_tr (same_upd hp2 _ _ q1) upd_same (by rw [List.length_take]; show _ + 1 ≤ _; omega) fun p3 H3 s3 q3 => ?_⟩
    have s13 : Same H1 H3 := (same_upd hp2).trans s3
    have s03 : Same H H3 := s1.trans s13
    refine ⟨_, rfl, c, _, _, _, rfl, rfl, SqT.of (s03 _ _ e1), rfl, _, rfl, _, _, rfl, rfl, _, rfl, ?_⟩
    unfold tNoPart
    show rSlA _ _ _ _ _ _
    refine sl_tr (s03 _ _ e2) fun p4 H4 s4 q4 => ?_
    rw [show ((i : Int) + 1) = ((i + 1 : Nat) : Int) from rfl, cut_drop] at q4
    refine cat_tr (s4 _ _ q3) q4 (by rw [List.length_append, List.length_take, List.length_drop]; show _ + 1 + _ ≤ _; omega) fun p5 H5 s5 q5 => ?_
    rw [set_cut (by omega)] at q5
    have s05 : Same H H5 := (s03.trans s4).trans s5
    refine ⟨_, rfl, c, _, _, _, rfl, rfl, SqT.of (s05 _ _ e1), rfl, by show 2 ≤ sizeLine; decide, fun p6 hp6 => ?_⟩
    have s06 : Same H5 _ := same_upd (o := .tup [.ref p5, .ref t]) hp6
    have s6 := s05.trans s06
    refine k _ p6 s6 ⟨p5, t, _, us, upd_same, s06 _ _ q5, s6 _ _ e3, (a1.mono fun _ _ z => z.same s6).set (hv.same s6), a2⟩
theorem ok_withTaken {f : Addr} {fd : FuncData} (F : Fun K "with_taken" "with_taken" sWithTaken f fd) (T : Tx K mg) : FnOk P w K mg base CX0 1 f fd ["case", "number", "entry"] spWithTaken := by
  refine F.ok scWithTaken (fun vs H Q E h => ?_) (fun cdv A outer s H vs Q E hr h => ?_)
  · obtain ⟨c, C, i, v, en, rfl, _⟩ := h
    rfl
  · obtain ⟨c, C, i, v, en, rfl, hc, hi, hl, hv, k⟩ := h
    obtain ⟨m, t, vs, us, e1, e2, e3, a1, a2⟩ := hc.ex
    refine ⟨_, pss_one (ps_ret (pe_tup (pa_cons (pe_ix ix_tup (pv 0) pe_int (fun _ _ => rfl)) (pa_cons (pe_op op_catA (pe_op op_catA (pe_slice sl_tupA (pe_ix ix_tup (pv 0) pe_int (fun _ _ => rfl)) po_none (po_some (pv 1))) (pe_tup (pa_cons (pv 2) pa_nil)))
      (pe_slice sl_tupA (pe_ix ix_tup (pv 0) pe_int (fun _ _ => rfl)) (po_some (pe_op op_add (pv 1) pe_int)) po_none)) pa_nil)))), ?_⟩
    have hvl : us.length = C.ts.length := a2.len
    refine ⟨_, rfl, c, _, _, _, rfl, rfl, SqT.of e1, rfl, ?_⟩
    refine ⟨_, rfl, c, _, _, _, rfl, rfl, SqT.of e1, rfl, _, rfl, _, rfl, sl_tr e3 fun p1 H1 s1 q1 => ?_⟩
    rw [cut_take] at q1
    refine ⟨_, rfl, (by show 1 ≤ sizeLine; decide), fun p2 hp2 => cat_tr (same_upd hp2 _ _ q1) upd_same (by rw [List.length_take]; show _ + 1 ≤ _; omega) fun p3 H3 s3 q3 => ?_⟩
    have s13 : Same H1 H3 := (same_upd hp2).trans s3
    have s03 : Same H H3 := s1.trans s13
    refine ⟨_, rfl, c, _, _, _, rfl, rfl, SqT.of (s03 _ _ e1), rfl, _, rfl, _, _, rfl, rfl, _, rfl, ?_⟩
    unfold tNoPart
    show rSlA _ _ _ _ _ _
    refine sl_tr (s03 _ _ e3) fun p4 H4 s4 q4 => ?_
    rw [show ((i : Int) + 1) = ((i + 1 : Nat) : Int) from rfl, cut_drop] at q4
    refine cat_tr (s4 _ _ q3) q4 (by rw [List.length_append, List.length_take, List.length_drop]; show _ + 1 + _ ≤ _; omega) fun p5 H5 s5 q5 => ?_
    rw [set_cut (by omega)] at q5
    have s05 : Same H H5 := (s03.trans s4).trans s5
    refine ⟨by show 2 ≤ sizeLine; decide, fun p6 hp6 => ?_⟩
    have s06 : Same H5 _ := same_upd (o := .tup [.ref m, .ref p5]) hp6
    have s6 := s05.trans s06
    refine k _ p6 s6 ⟨m, p5, vs, _, upd_same, s6 _ _ e2, s06 _ _ q5, a1.mono fun _ _ z => z.same s6, a2.set hv⟩
end
end K59
set_option maxHeartbeats 4000000
/-! the __init__ of Satellite, Station, Recording, Pass, Draft (printed by gen_init.py) -/
namespace K59
open PySem PySem.Spec PyProof.Rows L2 TL
section
variable {P : Program} {w : World} {K : PySem.W.Frag} {mg : Str → Option Value} {base : Heap}
theorem kp_new {H : Hp} {a C dx : Addr} {o : HO} (h : H a = some (.ins C dx [])) : Kp H (upd H a o) := (Off.wr (S := [a]) (by simp)).kp fun s hs => by
  rw [List.mem_singleton.mp hs]
  exact .inl ⟨C, dx, [], h⟩

theorem ok_satInit {f : Addr} {fd : FuncData} (F : Fun K "__init__" "Satellite.__init__" sSatelliteInit f fd) (T : Tx K mg) : FnOk P w K mg base CX0 1 f fd ["self", "name", "store", "power", "charge", "settle", "light"] (spSatInit K) := by
  refine F.ok scSatelliteInit (fun vs H Q E h => ?_) (fun cdv A outer s H vs Q E hr h => ?_)
  · obtain ⟨a, dx, p, t, ts, s, rfl, _⟩ := h
    rfl
  · obtain ⟨a, dx, p, t, ts, s, rfl, ha, hp, ht, al, k⟩ := h
    have np : p ≠ a := ne_of hp ha (by intro z; cases z)
    refine ⟨_, pss_cons (ps_fld (pv 0) (pv 1) rfl) (pss_cons (ps_fld (pv 0) (pv 2) rfl) (pss_cons (ps_asg (pv 3) (pg_tup rfl (pgs_cons (pg_fld (pv 0)) (pgs_cons (pg_fld (pv 0)) (pgs_cons (pg_fld (pv 0)) pgs_nil))))) (pss_cons (ps_fld (pv 0) (pv 4) rfl) (pss_cons (ps_fld (pv 0) (pv 5) rfl) (pss_one (ps_fld (pv 0) (pv 6) rfl)))))), ?_⟩
    refine ⟨_, rfl, _, rfl, a, _, dx, _, rfl, ha, T.cSat, T.aSat _ (mem_at 0), (by decide), ?_⟩
    refine ⟨_, rfl, _, rfl, a, _, dx, _, rfl, upd_same, T.cSat, T.aSat _ (mem_at 1), (lt1000 (putF_le (Nat.le_refl 0))), ?_⟩
    refine ⟨_, rfl, p, _, rfl, SqT.of (by simp only [upd_ne np]; exact hp), rfl, ?_⟩
    refine ⟨_, _, rfl, _, rfl, a, _, dx, _, rfl, upd_same, T.cSat, T.aSat _ (mem_at 2), (lt1000 (putF_le (putF_le (Nat.le_refl 0)))), ?_⟩
    refine ⟨_, _, rfl, _, rfl, a, _, dx, _, rfl, upd_same, T.cSat, T.aSat _ (mem_at 3), (lt1000 (putF_le (putF_le (putF_le (Nat.le_refl 0))))), ?_⟩
    refine ⟨_, _, rfl, _, rfl, a, _, dx, _, rfl, upd_same, T.cSat, T.aSat _ (mem_at 4), (lt1000 (putF_le (putF_le (putF_le (putF_le (Nat.le_refl 0)))))), ?_⟩
    refine ⟨rfl, ?_⟩
    refine ⟨_, rfl, _, rfl, a, _, dx, _, rfl, upd_same, T.cSat, T.aSat _ (mem_at 5), (lt1000 (putF_le (putF_le (putF_le (putF_le (putF_le (Nat.le_refl 0))))))), ?_⟩
    refine ⟨_, rfl, _, rfl, a, _, dx, _, rfl, upd_same, T.cSat, T.aSat _ (mem_at 6), (lt1000 (putF_le (putF_le (putF_le (putF_le (putF_le (putF_le (Nat.le_refl 0)))))))), ?_⟩
    refine ⟨_, rfl, _, rfl, a, _, dx, _, rfl, upd_same, T.cSat, T.aSat _ (mem_at 7), (lt1000 (putF_le (putF_le (putF_le (putF_le (putF_le (putF_le (putF_le (Nat.le_refl 0))))))))), ?_⟩
    simp only [upd_upd]
    have e9 := congrArg (fun l => some (HO.ins (cl K "Satellite") dx l)) (puts_zip (ns := nSat) (vs := [.str s.name, .int s.store, .int s.battery, .int s.level, .int s.reserve, .int s.charge, .int s.settle, .ref t]) ndSat rfl)
    have nt : t ≠ a := ne_of ht ha (by intro z; cases z)
    exact k _ (Off.wr (by simp)) ⟨dx, t, ts, by rw [upd_same]; exact e9, by rw [upd_ne nt]; exact ht, al.mono fun _ _ z => z.kp (kp_new ha)⟩

theorem ok_staInit {f : Addr} {fd : FuncData} (F : Fun K "__init__" "Station.__init__" sStationInit f fd) (T : Tx K mg) : FnOk P w K mg base CX0 1 f fd ["self", "name", "antennas", "turn"] (spStaInit K) := by
  refine F.ok scStationInit (fun vs H Q E h => ?_) (fun cdv A outer s H vs Q E hr h => ?_)
  · obtain ⟨a, dx, s, rfl, _⟩ := h
    rfl
  · obtain ⟨a, dx, s, rfl, ha, k⟩ := h
    refine ⟨_, pss_cons (ps_fld (pv 0) (pv 1) rfl) (pss_cons (ps_fld (pv 0) (pv 2) rfl) (pss_one (ps_fld (pv 0) (pv 3) rfl))), ?_⟩
    refine ⟨_, rfl, _, rfl, a, _, dx, _, rfl, ha, T.cSta, T.aSta _ (mem_at 0), (by decide), ?_⟩
    refine ⟨_, rfl, _, rfl, a, _, dx, _, rfl, upd_same, T.cSta, T.aSta _ (mem_at 1), (lt1000 (putF_le (Nat.le_refl 0))), ?_⟩
    refine ⟨_, rfl, _, rfl, a, _, dx, _, rfl, upd_same, T.cSta, T.aSta _ (mem_at 2), (lt1000 (putF_le (putF_le (Nat.le_refl 0)))), ?_⟩
    simp only [upd_upd]
    have e9 := congrArg (fun l => some (HO.ins (cl K "Station") dx l)) (puts_zip (ns := nSta) (vs := [.str s.name, .int s.antennas, .int s.turn]) ndSta rfl)
    exact k _ (Off.wr (by simp)) ⟨dx, by rw [upd_same]; exact e9⟩

theorem ok_rcdInit {f : Addr} {fd : FuncData} (F : Fun K "__init__" "Recording.__init__" sRecordingInit f fd) (T : Tx K mg) : FnOk P w K mg base CX0 1 f fd ["self", "name", "satellite", "window", "amounts", "urgency"] (spRcdInit K) := by
  refine F.ok scRecordingInit (fun vs H Q E h => ?_) (fun cdv A outer s H vs Q E hr h => ?_)
  · obtain ⟨a, dx, p1, p2, p3, r, rfl, _⟩ := h
    rfl
  · obtain ⟨a, dx, p1, p2, p3, r, rfl, ha, hp1, hp2, hp3, k⟩ := h
    have np1 : p1 ≠ a := ne_of hp1 ha (by intro z; cases z)
    have np2 : p2 ≠ a := ne_of hp2 ha (by intro z; cases z)
    have np3 : p3 ≠ a := ne_of hp3 ha (by intro z; cases z)
    refine ⟨_, pss_cons (ps_fld (pv 0) (pv 1) rfl) (pss_cons (ps_fld (pv 0) (pv 2) rfl) (pss_cons (ps_asg (pv 3) (pg_tup rfl (pgs_cons (pg_fld (pv 0)) (pgs_cons (pg_fld (pv 0)) (pgs_cons (pg_fld (pv 0)) pgs_nil))))) (pss_cons (ps_asg (pv 4) (pg_tup rfl (pgs_cons (pg_fld (pv 0)) (pgs_cons (pg_fld (pv 0)) pgs_nil)))) (pss_one (ps_asg (pv 5) (pg_tup rfl (pgs_cons (pg_fld (pv 0)) (pgs_cons (pg_fld (pv 0)) (pgs_cons (pg_fld (pv 0)) pgs_nil))))))))), ?_⟩
    refine ⟨_, rfl, _, rfl, a, _, dx, _, rfl, ha, T.cRcd, T.aRcd _ (mem_at 0), (by decide), ?_⟩
    refine ⟨_, rfl, _, rfl, a, _, dx, _, rfl, upd_same, T.cRcd, T.aRcd _ (mem_at 1), (lt1000 (putF_le (Nat.le_refl 0))), ?_⟩
    refine ⟨_, rfl, p1, _, rfl, SqT.of (by simp only [upd_ne np1]; exact hp1), rfl, ?_⟩
    refine ⟨_, _, rfl, _, rfl, a, _, dx, _, rfl, upd_same, T.cRcd, T.aRcd _ (mem_at 2), (lt1000 (putF_le (putF_le (Nat.le_refl 0)))), ?_⟩
    refine ⟨_, _, rfl, _, rfl, a, _, dx, _, rfl, upd_same, T.cRcd, T.aRcd _ (mem_at 3), (lt1000 (putF_le (putF_le (putF_le (Nat.le_refl 0))))), ?_⟩
    refine ⟨_, _, rfl, _, rfl, a, _, dx, _, rfl, upd_same, T.cRcd, T.aRcd _ (mem_at 4), (lt1000 (putF_le (putF_le (putF_le (putF_le (Nat.le_refl 0)))))), ?_⟩
    refine ⟨rfl, ?_⟩
    refine ⟨_, rfl, p2, _, rfl, SqT.of (by simp only [upd_ne np2]; exact hp2), rfl, ?_⟩
    refine ⟨_, _, rfl, _, rfl, a, _, dx, _, rfl, upd_same, T.cRcd, T.aRcd _ (mem_at 5), (lt1000 (putF_le (putF_le (putF_le (putF_le (putF_le (Nat.le_refl 0))))))), ?_⟩
    refine ⟨_, _, rfl, _, rfl, a, _, dx, _, rfl, upd_same, T.cRcd, T.aRcd _ (mem_at 6), (lt1000 (putF_le (putF_le (putF_le (putF_le (putF_le (putF_le (Nat.le_refl 0)))))))), ?_⟩
    refine ⟨rfl, ?_⟩
    refine ⟨_, rfl, p3, _, rfl, SqT.of (by simp only [upd_ne np3]; exact hp3), rfl, ?_⟩
    refine ⟨_, _, rfl, _, rfl, a, _, dx, _, rfl, upd_same, T.cRcd, T.aRcd _ (mem_at 7), (lt1000 (putF_le (putF_le (putF_le (putF_le (putF_le (putF_le (putF_le (Nat.le_refl 0))))))))), ?_⟩
    refine ⟨_, _, rfl, _, rfl, a, _, dx, _, rfl, upd_same, T.cRcd, T.aRcd _ (mem_at 8), (lt1000 (putF_le (putF_le (putF_le (putF_le (putF_le (putF_le (putF_le (putF_le (Nat.le_refl 0)))))))))), ?_⟩
    refine ⟨_, _, rfl, _, rfl, a, _, dx, _, rfl, upd_same, T.cRcd, T.aRcd _ (mem_at 9), (lt1000 (putF_le (putF_le (putF_le (putF_le (putF_le (putF_le (putF_le (putF_le (putF_le (Nat.le_refl 0))))))))))), ?_⟩
    refine ⟨rfl, ?_⟩
    simp only [upd_upd]
    have e9 := congrArg (fun l => some (HO.ins (cl K "Recording") dx l)) (puts_zip (ns := nRcd) (vs := [.str r.name, .int (r.sat : Int), .int r.earliest, .int r.latest, .int r.length, .int r.size, .int r.energy, .int r.worth, .int r.rank, .int r.deadline]) ndRcd rfl)
    exact k _ (Off.wr (by simp)) ⟨dx, by rw [upd_same]; exact e9⟩

theorem ok_pasInit {f : Addr} {fd : FuncData} (F : Fun K "__init__" "Pass.__init__" sPassInit f fd) (T : Tx K mg) : FnOk P w K mg base CX0 1 f fd ["self", "name", "satellite", "station", "span", "amounts"] (spPasInit K) := by
  refine F.ok scPassInit (fun vs H Q E h => ?_) (fun cdv A outer s H vs Q E hr h => ?_)
  · obtain ⟨a, dx, p1, p2, s, rfl, _⟩ := h
    rfl
  · obtain ⟨a, dx, p1, p2, s, rfl, ha, hp1, hp2, k⟩ := h
    have np2 : p2 ≠ a := ne_of hp2 ha (by intro z; cases z)
    refine ⟨_, pss_cons (ps_fld (pv 0) (pv 1) rfl) (pss_cons (ps_fld (pv 0) (pv 2) rfl) (pss_cons (ps_fld (pv 0) (pv 3) rfl) (pss_cons (ps_fld (pv 0) (pv 4) rfl) (pss_one (ps_asg (pv 5) (pg_tup rfl (pgs_cons (pg_fld (pv 0)) (pgs_cons (pg_fld (pv 0)) (pgs_cons (pg_fld (pv 0)) pgs_nil))))))))), ?_⟩
    refine ⟨_, rfl, _, rfl, a, _, dx, _, rfl, ha, T.cPas, T.aPas _ (mem_at 0), (by decide), ?_⟩
    refine ⟨_, rfl, _, rfl, a, _, dx, _, rfl, upd_same, T.cPas, T.aPas _ (mem_at 1), (lt1000 (putF_le (Nat.le_refl 0))), ?_⟩
    refine ⟨_, rfl, _, rfl, a, _, dx, _, rfl, upd_same, T.cPas, T.aPas _ (mem_at 2), (lt1000 (putF_le (putF_le (Nat.le_refl 0)))), ?_⟩
    refine ⟨_, rfl, _, rfl, a, _, dx, _, rfl, upd_same, T.cPas, T.aPas _ (mem_at 3), (lt1000 (putF_le (putF_le (putF_le (Nat.le_refl 0))))), ?_⟩
    refine ⟨_, rfl, p2, _, rfl, SqT.of (by simp only [upd_ne np2]; exact hp2), rfl, ?_⟩
    refine ⟨_, _, rfl, _, rfl, a, _, dx, _, rfl, upd_same, T.cPas, T.aPas _ (mem_at 4), (lt1000 (putF_le (putF_le (putF_le (putF_le (Nat.le_refl 0)))))), ?_⟩
    refine ⟨_, _, rfl, _, rfl, a, _, dx, _, rfl, upd_same, T.cPas, T.aPas _ (mem_at 5), (lt1000 (putF_le (putF_le (putF_le (putF_le (putF_le (Nat.le_refl 0))))))), ?_⟩
    refine ⟨_, _, rfl, _, rfl, a, _, dx, _, rfl, upd_same, T.cPas, T.aPas _ (mem_at 6), (lt1000 (putF_le (putF_le (putF_le (putF_le (putF_le (putF_le (Nat.le_refl 0)))))))), ?_⟩
    refine ⟨rfl, ?_⟩
    simp only [upd_upd]
    have e9 := congrArg (fun l => some (HO.ins (cl K "Pass") dx l)) (puts_zip (ns := nPas) (vs := [.str s.name, .int (s.sat : Int), .int (s.sta : Int), .ref p1, .int s.room, .int s.energy, .int s.fee]) ndPas rfl)
    have np1 : p1 ≠ a := ne_of hp1 ha (by intro z; cases z)
    exact k _ (Off.wr (by simp)) ⟨dx, p1, by rw [upd_same]; exact e9, hp1.kp (kp_new ha)⟩

theorem ok_draftInit {f : Addr} {fd : FuncData} (F : Fun K "__init__" "Draft.__init__" sDraftInit f fd) (T : Tx K mg) : FnOk P w K mg base CX0 1 f fd ["self", "horizon"] (spDraftInit K) := by
  refine F.ok scDraftInit (fun vs H Q E h => ?_) (fun cdv A outer s H vs Q E hr h => ?_)
  · obtain ⟨a, dx, rfl, _⟩ := h
    rfl
  · obtain ⟨a, dx, rfl, ha, k⟩ := h
    refine ⟨_, pss_cons (ps_fld (pv 0) (pv 1) rfl) (pss_cons (ps_fld (pv 0) (pe_lst pa_nil) rfl) (pss_cons (ps_fld (pv 0) (pe_lst pa_nil) rfl) (pss_cons (ps_fld (pv 0) (pe_lst pa_nil) rfl) (pss_one (ps_fld (pv 0) (pe_lst pa_nil) rfl))))), ?_⟩
    have hna : ∀ {H2 : Hp} {x : Addr} {C d : Addr} {fs : Fs}, H2 a = some (.ins C d fs) → H2 x = none → a ≠ x := fun e h => ne_of_none e h
    refine ⟨_, rfl, _, rfl, a, _, dx, _, rfl, ha, T.cDraft, T.aDraft _ (mem_at 0), (by decide), ?_⟩
    refine ⟨by decide, fun x1 h1 => ?_⟩
    have n1 : a ≠ x1 := hna upd_same h1
    have h10 : H x1 = none := by rw [upd_ne n1.symm] at h1; exact h1
    refine ⟨_, rfl, a, _, dx, _, rfl, (by rw [upd_ne n1]; exact upd_same), T.cDraft, T.aDraft _ (mem_at 1), lt1000 (putF_le (Nat.le_refl 0)), ?_⟩
    refine ⟨by decide, fun x2 h2 => ?_⟩
    have n2 : a ≠ x2 := hna upd_same h2
    rw [upd_ne n2.symm] at h2
    have n12 : x1 ≠ x2 := ne_of_none upd_same h2
    have h20 : H x2 = none := by rw [upd_ne n12.symm, upd_ne n2.symm] at h2; exact h2
    refine ⟨_, rfl, a, _, dx, _, rfl, (by rw [upd_ne n2]; exact upd_same), T.cDraft, T.aDraft _ (mem_at 2), lt1000 (putF_le (putF_le (Nat.le_refl 0))), ?_⟩
    refine ⟨by decide, fun x3 h3 => ?_⟩
    have n3 : a ≠ x3 := hna upd_same h3
    rw [upd_ne n3.symm] at h3
    have n23 : x2 ≠ x3 := ne_of_none upd_same h3
    rw [upd_ne n23.symm, upd_ne n3.symm] at h3
    have n13 : x1 ≠ x3 := ne_of_none upd_same h3
    have h30 : H x3 = none := by rw [upd_ne n13.symm, upd_ne n3.symm] at h3; exact h3
    refine ⟨_, rfl, a, _, dx, _, rfl, (by rw [upd_ne n3]; exact upd_same), T.cDraft, T.aDraft _ (mem_at 3), lt1000 (putF_le (putF_le (putF_le (Nat.le_refl 0)))), ?_⟩
    refine ⟨by decide, fun x4 h4 => ?_⟩
    have n4 : a ≠ x4 := hna upd_same h4
    rw [upd_ne n4.symm] at h4
    have n34 : x3 ≠ x4 := ne_of_none upd_same h4
    rw [upd_ne n34.symm, upd_ne n4.symm] at h4
    have n24 : x2 ≠ x4 := ne_of_none upd_same h4
    rw [upd_ne n24.symm, upd_ne n4.symm] at h4
    have n14 : x1 ≠ x4 := ne_of_none upd_same h4
    have h40 : H x4 = none := by rw [upd_ne n14.symm, upd_ne n4.symm] at h4; exact h4
    refine ⟨_, rfl, a, _, dx, _, rfl, (by rw [upd_ne n4]; exact upd_same), T.cDraft, T.aDraft _ (mem_at 4), lt1000 (putF_le (putF_le (putF_le (putF_le (Nat.le_refl 0))))), ?_⟩
    have e9 := congrArg (fun l => some (HO.ins (cl K "Draft") dx l)) (puts_zip (ns := nDraft) (vs := [.int 40, .ref x1, .ref x2, .ref x3, .ref x4]) ndDraft rfl)
    refine k _ ⟨a, x1, x2, x3, x4, [], [], [], []⟩ (fun b o e hb => ?_) rfl rfl rfl rfl rfl h10 h20 h30 h40 ⟨⟨dx, by rw [upd_same]; exact e9⟩, ?_, ?_, ?_, ?_, All2.nil, All2.nil, All2.nil, All2.nil, ?_⟩
    · have nb : b ≠ a := by simpa using hb
      simp only [upd_ne nb, upd_ne (ne_of_none e h10), upd_ne (ne_of_none e h20), upd_ne (ne_of_none e h30), upd_ne (ne_of_none e h40)]
      exact e
    · simp only [upd_ne n1.symm, upd_ne n12, upd_ne n13, upd_ne n14]
      exact upd_same
    · simp only [upd_ne n2.symm, upd_ne n23, upd_ne n24]
      exact upd_same
    · simp only [upd_ne n3.symm, upd_ne n34]
      exact upd_same
    · simp only [upd_ne n4.symm]
      exact upd_same
    · simp [n12, n13, n14, n23, n24, n34]
end
end K59
set_option maxHeartbeats 4000000
/-! the line() of Satellite, Station, Recording, Pass (printed by gen_line.py) -/
namespace K59
open PySem PySem.Spec PyProof.Rows L2 TL
section
variable {P : Program} {w : World} {K : PySem.W.Frag} {mg : Str → Option Value} {base : Heap}
theorem bd_app {a b : Str} {m n : Nat} (h1 : a.length ≤ m) (h2 : b.length ≤ n) : (a ++ b).length ≤ m + n := by
  rw [Str.length_append]
  omega
theorem bd_le {a : Str} {m : Nat} (h : a.length ≤ m) (hm : m ≤ 1000000 := by decide) : a.length ≤ sizeLine := small5 (Nat.le_trans h hm)
theorem light_mem : ∀ {l : List (Int × Int)} {least : Int} {q : Int × Int}, LightOk least l → 0 ≤ least → q ∈ l → 0 ≤ q.1 ∧ q.1 < q.2 ∧ q.2 ≤ 40
  | [], _, _, _, _, h => absurd h (by simp)
  | (a, b) :: r, least, q, h, h0, hm => by
    obtain ⟨h1, h2, h3, h4⟩ := h
    rcases List.mem_cons.mp hm with e | e
    · subst e
      exact ⟨by omega, h2, h3⟩
    · exact light_mem h4 (by omega) e

theorem ok_satLine {f : Addr} {fd : FuncData} (F : Fun K "line" "Satellite.line" sSatelliteLine f fd) (T : Tx K mg) : FnOk P w K mg base CX0 1 f fd ["self"] (spSatLine K) := by
  refine F.ok scSatelliteLine (fun vs H Q E h => ?_) (fun cdv A outer s H vs Q E hr h => ?_)
  · obtain ⟨a, s, k, rfl, _⟩ := h
    rfl
  · obtain ⟨a, s, j, rfl, hs, ok, hj, k⟩ := h
    obtain ⟨dx, t, ts, e, et, al⟩ := hs.ex
    have b0 : Str.empty.length ≤ 0 := Nat.le_refl 0
    have hn : s.name.length ≤ 4 := by rw [ok.name]; exact (nm_ok (by omega) (by omega)).1.2
    refine ⟨_, pss_cons (ps_set (i := 1) scSatelliteLine.nd rfl (Or.inl rfl) (pe_joined (PJ.cons pe_str (PJ.cons (pe_fmt (pe_fld (pv 0) rfl)) (PJ.cons pe_str (PJ.cons (pe_fmt (pe_fld (pv 0) rfl)) (PJ.cons pe_str (PJ.cons (pe_fmt (pe_fld (pv 0) rfl)) (PJ.cons pe_str (PJ.cons (pe_fmt (pe_fld (pv 0) rfl)) PJ.nil))))))))))
      (pss_cons (ps_set (i := 1) scSatelliteLine.nd rfl (Or.inl rfl) (pe_op op_add_str (pv 1) (pe_joined (PJ.cons pe_str (PJ.cons (pe_fmt (pe_fld (pv 0) rfl)) (PJ.cons pe_str (PJ.cons (pe_fmt (pe_fld (pv 0) rfl)) (PJ.cons pe_str (PJ.cons (pe_fmt (pe_fld (pv 0) rfl)) (PJ.cons pe_str PJ.nil))))))))))
      (pss_cons (ps_for PassesOwn.never rfl (pi_tup (pe_fld (pv 0) rfl)) (pg_tup rfl (pgs_cons (pg_name (i := 2) scSatelliteLine.nd rfl (Or.inl rfl)) (pgs_cons (pg_name (i := 3) scSatelliteLine.nd rfl (Or.inl rfl)) pgs_nil)))
        (pss_one (ps_set (i := 1) scSatelliteLine.nd rfl (Or.inl rfl) (pe_op op_add_str (pv 1) (pe_joined (PJ.cons pe_str (PJ.cons (pe_fmt (pv 2)) (PJ.cons pe_str (PJ.cons (pe_fmt (pv 3)) PJ.nil)))))))))
      (pss_one (ps_ret (pv 1))))), ?_⟩
    have b1 := bd_app b0 (show (Str.ofString "satellite ").length ≤ 10 by decide +kernel)
    refine ⟨_, rfl, bd_le b1, ?_⟩
    have b2 := bd_app b1 (hn)
    refine ⟨_, rfl, a, _, dx, _, _, rfl, e, T.cSat, T.aSat _ (mem_at 0), lookup_zip ndSat (i := 0) rfl rfl, .inl ⟨_, rfl, bd_le (hn), _, rfl, bd_le b2, ?_⟩⟩
    have b3 := bd_app b2 (show (Str.ofString " store ").length ≤ 7 by decide +kernel)
    refine ⟨_, rfl, bd_le b3, ?_⟩
    have b4 := bd_app b3 (num_len (n := s.store) ok.store.1 ok.store.2)
    refine ⟨_, rfl, a, _, dx, _, _, rfl, e, T.cSat, T.aSat _ (mem_at 1), lookup_zip ndSat (i := 1) rfl rfl, .inr ⟨_, rfl, num_log (n := s.store) ok.store.1 ok.store.2, _, rfl, bd_le b4, ?_⟩⟩
    have b5 := bd_app b4 (show (Str.ofString " battery ").length ≤ 9 by decide +kernel)
    refine ⟨_, rfl, bd_le b5, ?_⟩
    have b6 := bd_app b5 (num_len (n := s.battery) (by have := ok.battery; have := ok.level; have := ok.reserve; omega) ok.battery.2)
    refine ⟨_, rfl, a, _, dx, _, _, rfl, e, T.cSat, T.aSat _ (mem_at 2), lookup_zip ndSat (i := 2) rfl rfl, .inr ⟨_, rfl, num_log (n := s.battery) (by have := ok.battery; have := ok.level; have := ok.reserve; omega) ok.battery.2, _, rfl, bd_le b6, ?_⟩⟩
    have b7 := bd_app b6 (show (Str.ofString " level ").length ≤ 7 by decide +kernel)
    refine ⟨_, rfl, bd_le b7, ?_⟩
    have b8 := bd_app b7 (num_len (n := s.level) (by have := ok.level; have := ok.reserve; omega) (by have := ok.battery; omega))
    refine ⟨_, rfl, a, _, dx, _, _, rfl, e, T.cSat, T.aSat _ (mem_at 3), lookup_zip ndSat (i := 3) rfl rfl, .inr ⟨_, rfl, num_log (n := s.level) (by have := ok.level; have := ok.reserve; omega) (by have := ok.battery; omega), _, rfl, bd_le b8, ?_⟩⟩
    refine ⟨_, rfl, ?_⟩
    have b9 := bd_app b0 (show (Str.ofString " reserve ").length ≤ 9 by decide +kernel)
    refine ⟨_, rfl, bd_le b9, ?_⟩
    have b10 := bd_app b9 (num_len (n := s.reserve) ok.reserve (by have := ok.level; have := ok.battery; omega))
    refine ⟨_, rfl, a, _, dx, _, _, rfl, e, T.cSat, T.aSat _ (mem_at 4), lookup_zip ndSat (i := 4) rfl rfl, .inr ⟨_, rfl, num_log (n := s.reserve) ok.reserve (by have := ok.level; have := ok.battery; omega), _, rfl, bd_le b10, ?_⟩⟩
    have b11 := bd_app b10 (show (Str.ofString " charge ").length ≤ 8 by decide +kernel)
    refine ⟨_, rfl, bd_le b11, ?_⟩
    have b12 := bd_app b11 (num_len (n := s.charge) ok.charge.1 ok.charge.2)
    refine ⟨_, rfl, a, _, dx, _, _, rfl, e, T.cSat, T.aSat _ (mem_at 5), lookup_zip ndSat (i := 5) rfl rfl, .inr ⟨_, rfl, num_log (n := s.charge) ok.charge.1 ok.charge.2, _, rfl, bd_le b12, ?_⟩⟩
    have b13 := bd_app b12 (show (Str.ofString " settle ").length ≤ 8 by decide +kernel)
    refine ⟨_, rfl, bd_le b13, ?_⟩
    have b14 := bd_app b13 (num_len (n := s.settle) ok.settle.1 (by have := ok.settle; omega))
    refine ⟨_, rfl, a, _, dx, _, _, rfl, e, T.cSat, T.aSat _ (mem_at 6), lookup_zip ndSat (i := 6) rfl rfl, .inr ⟨_, rfl, num_log (n := s.settle) ok.settle.1 (by have := ok.settle; omega), _, rfl, bd_le b14, ?_⟩⟩
    have b15 := bd_app b14 (show (Str.ofString " light").length ≤ 6 by decide +kernel)
    refine ⟨_, rfl, bd_le b15, ?_⟩
    have c2 := bd_app b8 b15
    refine ⟨_, _, rfl, rfl, by rw [← Str.length_append]; exact bd_le c2, ?_⟩
    refine ⟨_, rfl, a, _, dx, _, _, rfl, e, T.cSat, T.aSat _ (mem_at 7), lookup_zip ndSat (i := 7) rfl rfl, t, rfl, ⟨_, SqT.of et⟩, ?_⟩
    refine for_it (walk_tup (K := K) (a := t) (xs := ts.map V.ref)) (fun i σ H' => H' = H ∧ ∃ (z : Str) (x y : Option V), σ = [some (.ref a), some (.str z), x, y] ∧ z.length ≤ 150 + i * 20) ⟨rfl, _, none, none, rfl, Nat.le_trans c2 (by decide)⟩ (fun i σ H' _ h => by rw [h.1]; exact SqT.of et) ?_ ?_
    · rintro i v σ H' H2 hi ⟨rfl, z, x, y, rfl, hz⟩ ⟨rfl, hv⟩
      rw [List.getElem?_map] at hv
      have hi2 : i < ts.length := by simpa using hi
      rw [List.getElem?_eq_getElem hi2] at hv
      cases hv
      obtain ⟨q, hq, hp⟩ := al.getL (List.getElem?_eq_getElem hi2)
      have hlm := light_mem ok.light (Int.le_refl 0) (List.mem_of_getElem? hq)
      have hil : i < 2 := by have := ok.few; have := al.len; omega
      refine ⟨_, _, rfl, SqT.of hp, rfl, _, _, rfl, _, _, rfl, rfl, ?_⟩
      refine ⟨_, rfl, ?_⟩
      have b16 := bd_app b0 (show (Str.ofString " ").length ≤ 1 by decide +kernel)
      refine ⟨_, rfl, bd_le b16, ?_⟩
      have b17 := bd_app b16 (num_len (n := q.1) hlm.1 (by omega))
      refine ⟨_, rfl, .inr ⟨_, rfl, num_log (n := q.1) hlm.1 (by omega), _, rfl, bd_le b17, ?_⟩⟩
      have b18 := bd_app b17 (show (Str.ofString " ").length ≤ 1 by decide +kernel)
      refine ⟨_, rfl, bd_le b18, ?_⟩
      have b19 := bd_app b18 (num_len (n := q.2) (by omega) (by omega))
      refine ⟨_, rfl, .inr ⟨_, rfl, num_log (n := q.2) (by omega) (by omega), _, rfl, bd_le b19, ?_⟩⟩
      have c4 := bd_app hz b19
      refine ⟨_, _, rfl, rfl, by rw [← Str.length_append]; exact small5 (Nat.le_trans c4 (by omega)), ?_⟩
      exact ⟨rfl, _, _, _, rfl, Nat.le_trans c4 (by omega)⟩
    · rintro σ H' ⟨rfl, z, x, y, rfl, hz⟩
      have hl : (ts.map V.ref).length ≤ 2 := by rw [List.length_map, al.len]; exact ok.few
      exact ⟨_, rfl, k z (by omega)⟩

theorem ok_staLine {f : Addr} {fd : FuncData} (F : Fun K "line" "Station.line" sStationLine f fd) (T : Tx K mg) : FnOk P w K mg base CX0 1 f fd ["self"] (spStaLine K) := by
  refine F.ok scStationLine (fun vs H Q E h => ?_) (fun cdv A outer s H vs Q E hr h => ?_)
  · obtain ⟨a, s, k, rfl, _⟩ := h
    rfl
  · obtain ⟨a, s, j, rfl, hs, ok, hj, k⟩ := h
    obtain ⟨dx, e⟩ := hs.ex
    have b0 : Str.empty.length ≤ 0 := Nat.le_refl 0
    have hn : s.name.length ≤ 4 := by rw [ok.name]; exact (nm_ok (by omega) (by omega)).2.1.2
    refine ⟨_, pss_one (ps_ret (pe_joined (PJ.cons pe_str (PJ.cons (pe_fmt (pe_fld (pv 0) rfl)) (PJ.cons pe_str (PJ.cons (pe_fmt (pe_fld (pv 0) rfl)) (PJ.cons pe_str (PJ.cons (pe_fmt (pe_fld (pv 0) rfl)) PJ.nil)))))))), ?_⟩
    have b20 := bd_app b0 (show (Str.ofString "station ").length ≤ 8 by decide +kernel)
    refine ⟨_, rfl, bd_le b20, ?_⟩
    have b21 := bd_app b20 (hn)
    refine ⟨_, rfl, a, _, dx, _, _, rfl, e, T.cSta, T.aSta _ (mem_at 0), lookup_zip ndSta (i := 0) rfl rfl, .inl ⟨_, rfl, bd_le (hn), _, rfl, bd_le b21, ?_⟩⟩
    have b22 := bd_app b21 (show (Str.ofString " antennas ").length ≤ 10 by decide +kernel)
    refine ⟨_, rfl, bd_le b22, ?_⟩
    have b23 := bd_app b22 (num_len (n := s.antennas) (by have := ok.antennas; omega) (by have := ok.antennas; omega))
    refine ⟨_, rfl, a, _, dx, _, _, rfl, e, T.cSta, T.aSta _ (mem_at 1), lookup_zip ndSta (i := 1) rfl rfl, .inr ⟨_, rfl, num_log (n := s.antennas) (by have := ok.antennas; omega) (by have := ok.antennas; omega), _, rfl, bd_le b23, ?_⟩⟩
    have b24 := bd_app b23 (show (Str.ofString " turn ").length ≤ 6 by decide +kernel)
    refine ⟨_, rfl, bd_le b24, ?_⟩
    have b25 := bd_app b24 (num_len (n := s.turn) ok.turn.1 (by have := ok.turn; omega))
    refine ⟨_, rfl, a, _, dx, _, _, rfl, e, T.cSta, T.aSta _ (mem_at 2), lookup_zip ndSta (i := 2) rfl rfl, .inr ⟨_, rfl, num_log (n := s.turn) ok.turn.1 (by have := ok.turn; omega), _, rfl, bd_le b25, ?_⟩⟩
    exact k _ (Nat.le_trans b25 (by decide))

theorem ok_rcdLine {f : Addr} {fd : FuncData} (F : Fun K "line" "Recording.line" sRecordingLine f fd) (T : Tx K mg) : FnOk P w K mg base CX0 1 f fd ["self", "world"] (spRcdLine K) := by
  refine F.ok scRecordingLine (fun vs H Q E h => ?_) (fun cdv A outer s H vs Q E hr h => ?_)
  · obtain ⟨W, w', a, r, k, rfl, _⟩ := h
    rfl
  · obtain ⟨W, w', a, r, j, rfl, hw, hwo, hs, ok, hj, k⟩ := h
    obtain ⟨dx, e⟩ := hs.ex
    obtain ⟨dw, fw, ew, lw0, lw1, lw2, lw3, lw4⟩ := hw.ob
    have b0 : Str.empty.length ≤ 0 := Nat.le_refl 0
    have hn : r.name.length ≤ 4 := by rw [ok.name]; exact (nm_ok (by omega) (by omega)).2.2.1.2
    have hsl : r.sat < w'.sats.length := ok.sat
    have hsat : w'.sats[r.sat]? = some w'.sats[r.sat] := List.getElem?_eq_getElem hsl
    obtain ⟨qs, hqs, dxs, ts1, ts2, es, _⟩ := hw.s1.get hsat
    have hsn : (w'.sats[r.sat]).name.length ≤ 4 := by rw [(hwo.sats _ _ hsat).name]; exact (nm_ok (by omega) (by have := hwo.nsats; omega)).1.2
    have hats : atI (W.q1.map V.ref) (r.sat : Int) = some (V.ref qs) := atI_nat (by rw [List.getElem?_map, hqs]; rfl)
    refine ⟨_, pss_cons (ps_set (i := 2) scRecordingLine.nd rfl (Or.inl rfl) (pe_joined (PJ.cons pe_str (PJ.cons (pe_fmt (pe_fld (pv 0) rfl)) (PJ.cons pe_str (PJ.cons (pe_fmt (pe_fld (pe_ix ix_tup (pe_fld (pv 1) rfl) (pe_fld (pv 0) rfl) (fun _ _ => rfl)) rfl)) (PJ.cons pe_str (PJ.cons (pe_fmt (pe_fld (pv 0) rfl)) PJ.nil)))))))) (pss_cons (ps_set (i := 2) scRecordingLine.nd rfl (Or.inl rfl) (pe_op op_add_str (pv 2) (pe_joined (PJ.cons pe_str (PJ.cons (pe_fmt (pe_fld (pv 0) rfl)) (PJ.cons pe_str (PJ.cons (pe_fmt (pe_fld (pv 0) rfl)) (PJ.cons pe_str (PJ.cons (pe_fmt (pe_fld (pv 0) rfl)) (PJ.cons pe_str (PJ.cons (pe_fmt (pe_fld (pv 0) rfl)) PJ.nil))))))))))) (pss_one (ps_ret (pe_op op_add_str (pv 2) (pe_joined (PJ.cons pe_str (PJ.cons (pe_fmt (pe_fld (pv 0) rfl)) (PJ.cons pe_str (PJ.cons (pe_fmt (pe_fld (pv 0) rfl)) (PJ.cons pe_str (PJ.cons (pe_fmt (pe_fld (pv 0) rfl)) PJ.nil))))))))))), ?_⟩
    have b26 := bd_app b0 (show (Str.ofString "recording ").length ≤ 10 by decide +kernel)
    refine ⟨_, rfl, bd_le b26, ?_⟩
    have b27 := bd_app b26 (hn)
    refine ⟨_, rfl, a, _, dx, _, _, rfl, e, T.cRcd, T.aRcd _ (mem_at 0), lookup_zip ndRcd (i := 0) rfl rfl, .inl ⟨_, rfl, bd_le (hn), _, rfl, bd_le b27, ?_⟩⟩
    have b28 := bd_app b27 (show (Str.ofString " by ").length ≤ 4 by decide +kernel)
    refine ⟨_, rfl, bd_le b28, ?_⟩
    have b29 := bd_app b28 (hsn)
    refine ⟨_, rfl, W.a, _, dw, _, _, rfl, ew, T.cWld, T.aWld _ (mem_at 1), lw1, _, rfl, a, _, dx, _, _, rfl, e, T.cRcd, T.aRcd _ (mem_at 1), lookup_zip ndRcd (i := 1) rfl rfl, W.t1, _, _, _, rfl, rfl, SqT.of hw.l1, hats, qs, _, dxs, _, _, rfl, es, T.cSat, T.aSat _ (mem_at 0), lookup_zip ndSat (i := 0) rfl rfl, .inl ⟨_, rfl, bd_le (hsn), _, rfl, bd_le b29, ?_⟩⟩
    have b30 := bd_app b29 (show (Str.ofString " from ").length ≤ 6 by decide +kernel)
    refine ⟨_, rfl, bd_le b30, ?_⟩
    have b31 := bd_app b30 (num_len (n := r.earliest) ok.earliest.1 (by have := ok.earliest; omega))
    refine ⟨_, rfl, a, _, dx, _, _, rfl, e, T.cRcd, T.aRcd _ (mem_at 2), lookup_zip ndRcd (i := 2) rfl rfl, .inr ⟨_, rfl, num_log (n := r.earliest) ok.earliest.1 (by have := ok.earliest; omega), _, rfl, bd_le b31, ?_⟩⟩
    refine ⟨_, rfl, ?_⟩
    have b32 := bd_app b0 (show (Str.ofString " to ").length ≤ 4 by decide +kernel)
    refine ⟨_, rfl, bd_le b32, ?_⟩
    have b33 := bd_app b32 (num_len (n := r.latest) (by have := ok.latest; have := ok.earliest; omega) (by have := ok.latest; omega))
    refine ⟨_, rfl, a, _, dx, _, _, rfl, e, T.cRcd, T.aRcd _ (mem_at 3), lookup_zip ndRcd (i := 3) rfl rfl, .inr ⟨_, rfl, num_log (n := r.latest) (by have := ok.latest; have := ok.earliest; omega) (by have := ok.latest; omega), _, rfl, bd_le b33, ?_⟩⟩
    have b34 := bd_app b33 (show (Str.ofString " length ").length ≤ 8 by decide +kernel)
    refine ⟨_, rfl, bd_le b34, ?_⟩
    have b35 := bd_app b34 (num_len (n := r.length) (by have := ok.length; omega) (by have := ok.length; have := ok.latest; have := ok.earliest; omega))
    refine ⟨_, rfl, a, _, dx, _, _, rfl, e, T.cRcd, T.aRcd _ (mem_at 4), lookup_zip ndRcd (i := 4) rfl rfl, .inr ⟨_, rfl, num_log (n := r.length) (by have := ok.length; omega) (by have := ok.length; have := ok.latest; have := ok.earliest; omega), _, rfl, bd_le b35, ?_⟩⟩
    have b36 := bd_app b35 (show (Str.ofString " size ").length ≤ 6 by decide +kernel)
    refine ⟨_, rfl, bd_le b36, ?_⟩
    have b37 := bd_app b36 (num_len (n := r.size) ok.size.1 ok.size.2)
    refine ⟨_, rfl, a, _, dx, _, _, rfl, e, T.cRcd, T.aRcd _ (mem_at 5), lookup_zip ndRcd (i := 5) rfl rfl, .inr ⟨_, rfl, num_log (n := r.size) ok.size.1 ok.size.2, _, rfl, bd_le b37, ?_⟩⟩
    have b38 := bd_app b37 (show (Str.ofString " energy ").length ≤ 8 by decide +kernel)
    refine ⟨_, rfl, bd_le b38, ?_⟩
    have b39 := bd_app b38 (num_len (n := r.energy) ok.energy.1 ok.energy.2)
    refine ⟨_, rfl, a, _, dx, _, _, rfl, e, T.cRcd, T.aRcd _ (mem_at 6), lookup_zip ndRcd (i := 6) rfl rfl, .inr ⟨_, rfl, num_log (n := r.energy) ok.energy.1 ok.energy.2, _, rfl, bd_le b39, ?_⟩⟩
    have b39x := bd_app b31 b39
    refine ⟨_, _, rfl, rfl, by rw [← Str.length_append]; exact bd_le b39x, ?_⟩
    refine ⟨_, rfl, ?_⟩
    have b40 := bd_app b0 (show (Str.ofString " worth ").length ≤ 7 by decide +kernel)
    refine ⟨_, rfl, bd_le b40, ?_⟩
    have b41 := bd_app b40 (num_len (n := r.worth) (by have := ok.worth; omega) ok.worth.2)
    refine ⟨_, rfl, a, _, dx, _, _, rfl, e, T.cRcd, T.aRcd _ (mem_at 7), lookup_zip ndRcd (i := 7) rfl rfl, .inr ⟨_, rfl, num_log (n := r.worth) (by have := ok.worth; omega) ok.worth.2, _, rfl, bd_le b41, ?_⟩⟩
    have b42 := bd_app b41 (show (Str.ofString " rank ").length ≤ 6 by decide +kernel)
    refine ⟨_, rfl, bd_le b42, ?_⟩
    have b43 := bd_app b42 (num_len (n := r.rank) (by have := ok.rank; omega) (by have := ok.rank; omega))
    refine ⟨_, rfl, a, _, dx, _, _, rfl, e, T.cRcd, T.aRcd _ (mem_at 8), lookup_zip ndRcd (i := 8) rfl rfl, .inr ⟨_, rfl, num_log (n := r.rank) (by have := ok.rank; omega) (by have := ok.rank; omega), _, rfl, bd_le b43, ?_⟩⟩
    have b44 := bd_app b43 (show (Str.ofString " until ").length ≤ 7 by decide +kernel)
    refine ⟨_, rfl, bd_le b44, ?_⟩
    have b45 := bd_app b44 (num_len (n := r.deadline) ok.deadline.1 (by have := ok.deadline; omega))
    refine ⟨_, rfl, a, _, dx, _, _, rfl, e, T.cRcd, T.aRcd _ (mem_at 9), lookup_zip ndRcd (i := 9) rfl rfl, .inr ⟨_, rfl, num_log (n := r.deadline) ok.deadline.1 (by have := ok.deadline; omega), _, rfl, bd_le b45, ?_⟩⟩
    have b45x := bd_app b39x b45
    refine ⟨_, _, rfl, rfl, by rw [← Str.length_append]; exact bd_le b45x, ?_⟩
    exact k _ (Nat.le_trans b45x (by decide))

theorem ok_pasLine {f : Addr} {fd : FuncData} (F : Fun K "line" "Pass.line" sPassLine f fd) (T : Tx K mg) : FnOk P w K mg base CX0 1 f fd ["self", "world"] (spPasLine K) := by
  refine F.ok scPassLine (fun vs H Q E h => ?_) (fun cdv A outer s H vs Q E hr h => ?_)
  · obtain ⟨W, w', a, r, k, rfl, _⟩ := h
    rfl
  · obtain ⟨W, w', a, r, j, rfl, hw, hwo, hs, ok, hj, k⟩ := h
    obtain ⟨dx, t, e, et⟩ := hs.ex
    obtain ⟨dw, fw, ew, lw0, lw1, lw2, lw3, lw4⟩ := hw.ob
    have b0 : Str.empty.length ≤ 0 := Nat.le_refl 0
    have hn : r.name.length ≤ 4 := by rw [ok.name]; exact (nm_ok (by omega) (by omega)).2.2.2.2
    have hsl : r.sat < w'.sats.length := ok.sat
    have hsat : w'.sats[r.sat]? = some w'.sats[r.sat] := List.getElem?_eq_getElem hsl
    obtain ⟨qs, hqs, dxs, ts1, ts2, es, _⟩ := hw.s1.get hsat
    have hsn : (w'.sats[r.sat]).name.length ≤ 4 := by rw [(hwo.sats _ _ hsat).name]; exact (nm_ok (by omega) (by have := hwo.nsats; omega)).1.2
    have hats : atI (W.q1.map V.ref) (r.sat : Int) = some (V.ref qs) := atI_nat (by rw [List.getElem?_map, hqs]; rfl)
    have htl : r.sta < w'.stas.length := ok.sta
    have hsta : w'.stas[r.sta]? = some w'.stas[r.sta] := List.getElem?_eq_getElem htl
    obtain ⟨qt, hqt, dxt, et2⟩ := hw.s2.get hsta
    have htn : (w'.stas[r.sta]).name.length ≤ 4 := by rw [(hwo.stas _ _ hsta).name]; exact (nm_ok (by omega) (by have := hwo.nstas; omega)).2.1.2
    have hatt : atI (W.q2.map V.ref) (r.sta : Int) = some (V.ref qt) := atI_nat (by rw [List.getElem?_map, hqt]; rfl)
    refine ⟨_, pss_cons (ps_set (i := 2) scPassLine.nd rfl (Or.inl rfl) (pe_joined (PJ.cons pe_str (PJ.cons (pe_fmt (pe_fld (pv 0) rfl)) (PJ.cons pe_str (PJ.cons (pe_fmt (pe_fld (pe_ix ix_tup (pe_fld (pv 1) rfl) (pe_fld (pv 0) rfl) (fun _ _ => rfl)) rfl)) PJ.nil)))))) (pss_cons (ps_set (i := 2) scPassLine.nd rfl (Or.inl rfl) (pe_op op_add_str (pv 2) (pe_joined (PJ.cons pe_str (PJ.cons (pe_fmt (pe_fld (pe_ix ix_tup (pe_fld (pv 1) rfl) (pe_fld (pv 0) rfl) (fun _ _ => rfl)) rfl)) (PJ.cons pe_str (PJ.cons (pe_fmt (pe_ix ix_tup (pe_fld (pv 0) rfl) pe_int (fun _ _ => rfl))) (PJ.cons pe_str (PJ.cons (pe_fmt (pe_ix ix_tup (pe_fld (pv 0) rfl) pe_int (fun _ _ => rfl))) PJ.nil))))))))) (pss_one (ps_ret (pe_op op_add_str (pv 2) (pe_joined (PJ.cons pe_str (PJ.cons (pe_fmt (pe_fld (pv 0) rfl)) (PJ.cons pe_str (PJ.cons (pe_fmt (pe_fld (pv 0) rfl)) (PJ.cons pe_str (PJ.cons (pe_fmt (pe_fld (pv 0) rfl)) PJ.nil))))))))))), ?_⟩
    have b46 := bd_app b0 (show (Str.ofString "pass ").length ≤ 5 by decide +kernel)
    refine ⟨_, rfl, bd_le b46, ?_⟩
    have b47 := bd_app b46 (hn)
    refine ⟨_, rfl, a, _, dx, _, _, rfl, e, T.cPas, T.aPas _ (mem_at 0), lookup_zip ndPas (i := 0) rfl rfl, .inl ⟨_, rfl, bd_le (hn), _, rfl, bd_le b47, ?_⟩⟩
    have b48 := bd_app b47 (show (Str.ofString " by ").length ≤ 4 by decide +kernel)
    refine ⟨_, rfl, bd_le b48, ?_⟩
    have b49 := bd_app b48 (hsn)
    refine ⟨_, rfl, W.a, _, dw, _, _, rfl, ew, T.cWld, T.aWld _ (mem_at 1), lw1, _, rfl, a, _, dx, _, _, rfl, e, T.cPas, T.aPas _ (mem_at 1), lookup_zip ndPas (i := 1) rfl rfl, W.t1, _, _, _, rfl, rfl, SqT.of hw.l1, hats, qs, _, dxs, _, _, rfl, es, T.cSat, T.aSat _ (mem_at 0), lookup_zip ndSat (i := 0) rfl rfl, .inl ⟨_, rfl, bd_le (hsn), _, rfl, bd_le b49, ?_⟩⟩
    refine ⟨_, rfl, ?_⟩
    have b50 := bd_app b0 (show (Str.ofString " over ").length ≤ 6 by decide +kernel)
    refine ⟨_, rfl, bd_le b50, ?_⟩
    have b51 := bd_app b50 (htn)
    refine ⟨_, rfl, W.a, _, dw, _, _, rfl, ew, T.cWld, T.aWld _ (mem_at 2), lw2, _, rfl, a, _, dx, _, _, rfl, e, T.cPas, T.aPas _ (mem_at 2), lookup_zip ndPas (i := 2) rfl rfl, W.t2, _, _, _, rfl, rfl, SqT.of hw.l2, hatt, qt, _, dxt, _, _, rfl, et2, T.cSta, T.aSta _ (mem_at 0), lookup_zip ndSta (i := 0) rfl rfl, .inl ⟨_, rfl, bd_le (htn), _, rfl, bd_le b51, ?_⟩⟩
    have b52 := bd_app b51 (show (Str.ofString " from ").length ≤ 6 by decide +kernel)
    refine ⟨_, rfl, bd_le b52, ?_⟩
    have b53 := bd_app b52 (num_len (n := r.first) ok.span.1 (by have := ok.span; omega))
    refine ⟨_, rfl, a, _, dx, _, _, rfl, e, T.cPas, T.aPas _ (mem_at 3), lookup_zip ndPas (i := 3) rfl rfl, t, _, _, _, rfl, rfl, SqT.of et, rfl, .inr ⟨_, rfl, num_log (n := r.first) ok.span.1 (by have := ok.span; omega), _, rfl, bd_le b53, ?_⟩⟩
    have b54 := bd_app b53 (show (Str.ofString " to ").length ≤ 4 by decide +kernel)
    refine ⟨_, rfl, bd_le b54, ?_⟩
    have b55 := bd_app b54 (num_len (n := r.last) (by have := ok.span; omega) (by have := ok.span; omega))
    refine ⟨_, rfl, a, _, dx, _, _, rfl, e, T.cPas, T.aPas _ (mem_at 3), lookup_zip ndPas (i := 3) rfl rfl, t, _, _, _, rfl, rfl, SqT.of et, rfl, .inr ⟨_, rfl, num_log (n := r.last) (by have := ok.span; omega) (by have := ok.span; omega), _, rfl, bd_le b55, ?_⟩⟩
    have b55x := bd_app b49 b55
    refine ⟨_, _, rfl, rfl, by rw [← Str.length_append]; exact bd_le b55x, ?_⟩
    refine ⟨_, rfl, ?_⟩
    have b56 := bd_app b0 (show (Str.ofString " room ").length ≤ 6 by decide +kernel)
    refine ⟨_, rfl, bd_le b56, ?_⟩
    have b57 := bd_app b56 (num_len (n := r.room) ok.room.1 ok.room.2)
    refine ⟨_, rfl, a, _, dx, _, _, rfl, e, T.cPas, T.aPas _ (mem_at 4), lookup_zip ndPas (i := 4) rfl rfl, .inr ⟨_, rfl, num_log (n := r.room) ok.room.1 ok.room.2, _, rfl, bd_le b57, ?_⟩⟩
    have b58 := bd_app b57 (show (Str.ofString " energy ").length ≤ 8 by decide +kernel)
    refine ⟨_, rfl, bd_le b58, ?_⟩
    have b59 := bd_app b58 (num_len (n := r.energy) ok.energy.1 ok.energy.2)
    refine ⟨_, rfl, a, _, dx, _, _, rfl, e, T.cPas, T.aPas _ (mem_at 5), lookup_zip ndPas (i := 5) rfl rfl, .inr ⟨_, rfl, num_log (n := r.energy) ok.energy.1 ok.energy.2, _, rfl, bd_le b59, ?_⟩⟩
    have b60 := bd_app b59 (show (Str.ofString " fee ").length ≤ 5 by decide +kernel)
    refine ⟨_, rfl, bd_le b60, ?_⟩
    have b61 := bd_app b60 (num_len (n := r.fee) ok.fee.1 ok.fee.2)
    refine ⟨_, rfl, a, _, dx, _, _, rfl, e, T.cPas, T.aPas _ (mem_at 6), lookup_zip ndPas (i := 6) rfl rfl, .inr ⟨_, rfl, num_log (n := r.fee) ok.fee.1 ok.fee.2, _, rfl, bd_le b61, ?_⟩⟩
    have b61x := bd_app b55x b61
    refine ⟨_, _, rfl, rfl, by rw [← Str.length_append]; exact bd_le b61x, ?_⟩
    exact k _ (Nat.le_trans b61x (by decide))

end
end K59
set_option maxHeartbeats 4000000
/-! found_options, _law_options (printed by gen_opts.py) -/
namespace K59
open PySem PySem.Spec PyProof.Rows L2 TL
theorem optTo_succ (w : Wld) (r : Rcd) (j : Nat) : optTo w r (j + 1) = optTo w r j ++ optRow w r (r.earliest + (j : Int)) w.pass.length := by
  unfold optTo
  rw [List.range_succ, List.flatMap_append]
  simp
theorem optRow_succ {w : Wld} {r : Rcd} {st : Int} {i : Nat} {p : Pas} (h : w.pass[i]? = some p) : optRow w r st (i + 1) = optRow w r st i ++ (if isOpt r st p = true then [(st, (i : Int))] else []) := by
  unfold optRow
  rw [List.range_succ, List.filterMap_append]
  congr 1
  rw [List.filterMap_cons, List.filterMap_nil, h]
  by_cases c : isOpt r st p = true
  · simp [c]
  · simp [c]
theorem optRow_len (w : Wld) (r : Rcd) (st : Int) (n : Nat) : (optRow w r st n).length ≤ n := by
  unfold optRow
  exact Nat.le_trans (List.length_filterMap_le ..) (by simp)
theorem optTo_len (w : Wld) (r : Rcd) (n : Nat) : (optTo w r n).length ≤ n * w.pass.length := by
  induction n with
  | zero => simp [optTo]
  | succ n ih =>
    rw [optTo_succ, List.length_append, Nat.succ_mul]
    have := optRow_len w r (r.earliest + (n : Int)) w.pass.length
    omega
section
variable {P : Program} {w : World} {K : PySem.W.Frag} {mg : Str → Option Value} {base : Heap}
theorem ok_foundOptions {f : Addr} {fd : FuncData} (F : Fun K "found_options" "found_options" sFoundOptions f fd) (T : Tx K mg) : FnOk P w K mg base CX0 1 f fd ["world", "number"] (spFoundOptions K) := by
  refine F.ok scFoundOptions (fun vs H Q E h => ?_) (fun cdv A outer s H vs Q E hr h => ?_)
  · obtain ⟨W, w', i, r, rfl, _⟩ := h
    rfl
  · obtain ⟨W, w', n, r, rfl, hw, wok, hn, k⟩ := h
    have hw := hw
    have ok := wok.recs n r hn
    obtain ⟨dw, fw, ew, lw0, lw1, lw2, lw3, lw4⟩ := hw.ob
    obtain ⟨qr, hqr, dr, er⟩ := hw.s3.get hn
    have hatr : atI (W.q3.map V.ref) (n : Int) = some (V.ref qr) := atI_nat (by rw [List.getElem?_map, hqr]; rfl)
    have hst := ok.latest
    have hea := ok.earliest
    refine ⟨_, pss_cons (ps_set (i := 2) scFoundOptions.nd rfl (Or.inl rfl) (pe_ix ix_tup (pe_fld (pv 0) rfl) (pv 1) (fun _ _ => rfl)))
      (pss_cons (ps_set (i := 3) scFoundOptions.nd rfl (Or.inl rfl) (pe_lst pa_nil))
      (pss_cons (ps_for PassesOwn.never rfl (pi_range2 (by rfl) T.range (pa_cons (pe_fld (pv 2) rfl) (pa_cons (pe_op op_add (pe_fld (pv 2) rfl) pe_int) pa_nil))) (pg_name (i := 4) scFoundOptions.nd rfl (Or.inl rfl))
        (pss_one (ps_for PassesOwn.never rfl (pi_enumT (by rfl) T.enumerate (pa_cons (pe_fld (pv 0) rfl) pa_nil)) (pg_tup rfl (pgs_cons (pg_name (i := 5) scFoundOptions.nd rfl (Or.inl rfl)) (pgs_cons (pg_name (i := 6) scFoundOptions.nd rfl (Or.inl rfl)) pgs_nil)))
          (pss_one (ps_if (PW.pt (pw_and (pt_cmpR op_eq (pe_fld (pv 6) rfl) (pe_fld (pv 2) rfl) (nomark _)) (pw_and1 (pt_cmpR op_le (pe_op op_add (pv 4) (pe_fld (pv 2) rfl)) (pe_ix ix_tup (pe_fld (pv 6) rfl) pe_int (fun _ _ => rfl)) (nomark _)))))
            (pss_one (ps_if (pt_cmpR op_le (pe_ix ix_tup (pe_fld (pv 6) rfl) pe_int (fun _ _ => rfl)) (pe_fld (pv 2) rfl) (nomark _))
              (pss_one (ps_expr (pe_bm PySem.F.plainAttrs_list PySem.F.slot_list_append PySem.F.type_list_append mt_append (pv 3) (pa_cons (pe_tup (pa_cons (pv 4) (pa_cons (pv 5) pa_nil))) pa_nil)))) pss_nil)) pss_nil)))))
      (pss_one (ps_ret (pe_callTy call_tuple_of (by rfl) T.tuple (by decide +kernel) (pa_cons (pv 3) pa_nil)))))), ?_⟩
    refine ⟨_, rfl, W.a, _, dw, _, _, rfl, ew, T.cWld, T.aWld _ (mem_at 3), lw3, _, rfl, W.t3, _, _, _, rfl, rfl, SqT.of hw.l3, hatr, ?_⟩
    refine ⟨by decide, fun l hl => ?_⟩
    have s0 : Same H (upd H l (.lst [])) := same_upd hl
    refine ⟨_, rfl, qr, _, dr, _, _, rfl, s0 _ _ er, T.cRcd, T.aRcd _ (mem_at 2), lookup_zip ndRcd (i := 2) rfl rfl, _, rfl, qr, _, dr, _, _, rfl, s0 _ _ er, T.cRcd, T.aRcd _ (mem_at 3), lookup_zip ndRcd (i := 3) rfl rfl, _, _, rfl, rfl, _, _, rfl, by omega, ?_⟩
    refine for_range (fun j σ H' => (∃ x4 x5 x6 : Option V, σ = [some (.ref W.a), some (.int (n : Int)), some (.ref qr), some (.ref l), x4, x5, x6]) ∧ Same H H' ∧ ∃ ps : List Addr, H' l = some (.lst (ps.map V.ref)) ∧ All2 (PairAt H') ps (optTo w' r j)) ⟨⟨none, none, none, rfl⟩, s0, [], upd_same, All2.nil⟩ ?_ ?_
    · rintro j σ H1 hj ⟨⟨x4, x5, x6, rfl⟩, s1, ps, el, al⟩
      refine ⟨_, rfl, W.a, _, dw, _, _, rfl, s1 _ _ ew, T.cWld, T.aWld _ (mem_at 4), lw4, W.t4, _, rfl, SqT.of (s1 _ _ hw.l4), ?_⟩
      refine for_it (walk_enumT (K := K) (a := W.t4) (xs := W.q4.map V.ref)) (fun i σ H' => (∃ x5 x6 : Option V, σ = [some (.ref W.a), some (.int (n : Int)), some (.ref qr), some (.ref l), some (.int (r.earliest + (j : Int))), x5, x6]) ∧ Same H H' ∧ ∃ ps : List Addr, H' l = some (.lst (ps.map V.ref)) ∧ All2 (PairAt H') ps (optTo w' r j ++ optRow w' r (r.earliest + (j : Int)) i))
        ⟨⟨x5, x6, rfl⟩, s1, ps, el, by simpa [optRow] using al⟩ (fun i σ H' _ h => SqT.of (h.2.1 _ _ hw.l4)) ?_ ?_
      · rintro i v σ H2 H3 hi ⟨⟨y5, y6, rfl⟩, s2, ps2, el2, al2⟩ ⟨TT, vi, vq, rfl, hTT, rfl, hvi, hvq⟩
        obtain rfl : vi = V.int (i : Int) := (Option.some.inj hvi).symm
        have hi2 : i < w'.pass.length := by rw [List.length_map, hw.s4.len] at hi; exact hi
        have hp : w'.pass[i]? = some w'.pass[i] := List.getElem?_eq_getElem hi2
        obtain ⟨qp, hqp, dp, tp, ep, etp⟩ := hw.s4.get hp
        obtain rfl : vq = V.ref qp := by
          have hvq' : (W.q4.map V.ref)[i]? = some vq := hvq
          rw [List.getElem?_map, hqp] at hvq'
          exact (Option.some.inj hvq').symm
        generalize hpp : w'.pass[i] = p at *
        have s3 : Same H (upd H2 TT (.tup [.int (i : Int), .ref qp])) := s2.to hTT
        have sT : Same H2 (upd H2 TT (.tup [.int (i : Int), .ref qp])) := same_upd hTT
        have hl3 : (upd H2 TT (.tup [.int (i : Int), .ref qp])) l = some (.lst (ps2.map V.ref)) := sT _ _ el2
        have al3 := al2.mono fun _ _ z => z.kp sT.kp
        have hrow := optRow_succ (r := r) (st := r.earliest + (j : Int)) hp
        have no : isOpt r (r.earliest + (j : Int)) p = false → optTo w' r j ++ optRow w' r (r.earliest + (j : Int)) (i + 1) = optTo w' r j ++ optRow w' r (r.earliest + (j : Int)) i := by
          intro c
          rw [hrow, c]
          simp
        refine ⟨TT, _, rfl, SqT.of upd_same, rfl, _, _, rfl, _, _, rfl, rfl, ?_⟩
        refine ⟨_, rfl, qp, _, dp, _, _, rfl, s3 _ _ ep, T.cPas, T.aPas _ (mem_at 1), lookup_zip ndPas (i := 1) rfl rfl, _, rfl, qr, _, dr, _, _, rfl, s3 _ _ er, T.cRcd, T.aRcd _ (mem_at 1), lookup_zip ndRcd (i := 1) rfl rfl, rfl, _, rfl, ?_⟩
        by_cases c1 : p.sat = r.sat
        · refine dT (by rw [c1]) ?_
          refine ⟨_, rfl, _, rfl, qr, _, dr, _, _, rfl, s3 _ _ er, T.cRcd, T.aRcd _ (mem_at 4), lookup_zip ndRcd (i := 4) rfl rfl, _, _, rfl, rfl, _, rfl, qp, _, dp, _, _, rfl, s3 _ _ ep, T.cPas, T.aPas _ (mem_at 3), lookup_zip ndPas (i := 3) rfl rfl, tp, _, _, _, rfl, rfl, SqT.of (s3 _ _ etp), rfl, _, _, rfl, rfl, _, rfl, ?_⟩
          by_cases c2 : r.earliest + (j : Int) + r.length ≤ p.first
          · refine dT c2 ?_
            refine ⟨_, rfl, qp, _, dp, _, _, rfl, s3 _ _ ep, T.cPas, T.aPas _ (mem_at 3), lookup_zip ndPas (i := 3) rfl rfl, tp, _, _, _, rfl, rfl, SqT.of (s3 _ _ etp), rfl, _, rfl, qr, _, dr, _, _, rfl, s3 _ _ er, T.cRcd, T.aRcd _ (mem_at 9), lookup_zip ndRcd (i := 9) rfl rfl, _, _, rfl, rfl, _, rfl, ?_⟩
            by_cases c3 : p.last ≤ r.deadline
            · refine dT c3 ?_
              have yes : isOpt r (r.earliest + (j : Int)) p = true := by unfold isOpt; simp [c1, c2, c3]
              refine ⟨_, rfl, .inl ⟨rfl, _, SqL.of hl3⟩, _, rfl, _, rfl, by show 2 ≤ sizeLine; decide, fun a2 ha2 => ?_⟩
              have n2 : l ≠ a2 := ne_of_none hl3 ha2
              have lps : ps2.length ≤ 1000 := by
                have h1 := al2.len
                rw [List.length_append] at h1
                have h2 := optTo_len w' r j
                have h3 := optRow_len w' r (r.earliest + (j : Int)) i
                have h4 : j * w'.pass.length ≤ 21 * 4 := Nat.mul_le_mul (by omega) wok.npass
                have h5 := wok.npass
                omega
              refine ⟨l, _, _, rfl, rfl, by rw [upd_ne n2]; exact hl3, by rw [List.length_map]; exact lt_line (by omega), ?_⟩
              have s4 : Same H (upd (upd (upd H2 TT (.tup [.int (i : Int), .ref qp])) a2 (.tup [.int (r.earliest + (j : Int)), .int (i : Int)])) l (.lst (ps2.map V.ref ++ [.ref a2]))) := fun b o e => by
                rw [upd_ne (ne_of_none e hl)]
                exact (s3.to ha2) b o e
              have kp2 : Kp (upd H2 TT (.tup [.int (i : Int), .ref qp])) (upd (upd H2 TT (.tup [.int (i : Int), .ref qp])) a2 (.tup [.int (r.earliest + (j : Int)), .int (i : Int)])) := (same_upd ha2).kp
              have kp3 := kp_off (H := upd (upd H2 TT (.tup [.int (i : Int), .ref qp])) a2 (.tup [.int (r.earliest + (j : Int)), .int (i : Int)])) (D := l) (by rw [upd_ne n2]; exact hl3) (Off.wr (p := l) (o := .lst (ps2.map V.ref ++ [.ref a2])) (by simp))
              refine ⟨⟨_, _, rfl⟩, s4, ps2 ++ [a2], by rw [upd_same, List.map_append]; rfl, ?_⟩
              rw [hrow, if_pos yes, ← List.append_assoc]
              exact (al3.mono fun _ _ z => (z.kp kp2).kp kp3).snoc (by show _ = _; rw [upd_ne n2.symm]; exact upd_same)
            · refine dF c3 ?_
              exact ⟨⟨_, _, rfl⟩, s3, ps2, hl3, by rw [no (by unfold isOpt; simp [c3])]; exact al3⟩
          · refine dF c2 ?_
            exact ⟨⟨_, _, rfl⟩, s3, ps2, hl3, by rw [no (by unfold isOpt; simp [c2])]; exact al3⟩
        · refine dF (fun e => c1 (Int.ofNat.inj (V.int.inj e))) ?_
          refine iteF ?_
          exact ⟨⟨_, _, rfl⟩, s3, ps2, hl3, by rw [no (by unfold isOpt; simp [c1])]; exact al3⟩
      · rintro σ H2 ⟨⟨y5, y6, rfl⟩, s2, ps2, el2, al2⟩
        rw [List.length_map, hw.s4.len, ← optTo_succ] at al2
        exact ⟨⟨_, _, _, rfl⟩, s2, ps2, el2, al2⟩
    · rintro σ H1 ⟨⟨x4, x5, x6, rfl⟩, s1, ps, el, al⟩
      refine ⟨_, rfl, l, _, rfl, .inl ⟨SqL.of el, fun c hc => ?_⟩⟩
      have s2 : Same H1 (upd H1 c (.tup (ps.map V.ref))) := same_upd hc
      exact k _ c (s1.trans s2) ⟨ps, upd_same, al.mono fun _ _ z => z.kp s2.kp⟩
theorem ok_lOptions {f : Addr} {fd : FuncData} (F : Fun K "_law_options" "_law_options" sLOptions f fd) (T : Tx K mg) : FnOk P w K mg base CX0 1 f fd ["_law_world_here", "_law_r"] (spLOptions K) := by
  refine F.ok scLOptions (fun vs H Q E h => ?_) (fun cdv A outer s H vs Q E hr h => ?_)
  · obtain ⟨W, w', i, r, rfl, _⟩ := h
    rfl
  · obtain ⟨W, w', n, r, rfl, hW, hn, k⟩ := h
    have hw := hW.wa
    have wok := hW.ok
    have ok := wok.recs n r hn
    obtain ⟨dw, fw, ew, lw0, lw1, lw2, lw3, lw4⟩ := hw.ob
    obtain ⟨qr, hqr, dr, er⟩ := hw.s3.get hn
    have hatr : atI (W.q3.map V.ref) (n : Int) = some (V.ref qr) := atI_nat (by rw [List.getElem?_map, hqr]; rfl)
    have hst := ok.latest
    have hea := ok.earliest
    refine ⟨_, pss_cons (ps_set (i := 2) scLOptions.nd rfl (Or.inl rfl) (pe_ix ix_tup (pe_fld (pv 0) rfl) (pv 1) (fun _ _ => rfl)))
      (pss_cons (ps_set (i := 3) scLOptions.nd rfl (Or.inl rfl) (pe_lst pa_nil))
      (pss_cons (ps_for PassesOwn.never rfl (pi_range2 (by rfl) T.range (pa_cons (pe_fld (pv 2) rfl) (pa_cons (pe_op op_add (pe_fld (pv 2) rfl) pe_int) pa_nil))) (pg_name (i := 4) scLOptions.nd rfl (Or.inl rfl))
        (pss_one (ps_for PassesOwn.never rfl (pi_enumT (by rfl) T.enumerate (pa_cons (pe_fld (pv 0) rfl) pa_nil)) (pg_tup rfl (pgs_cons (pg_name (i := 5) scLOptions.nd rfl (Or.inl rfl)) (pgs_cons (pg_name (i := 6) scLOptions.nd rfl (Or.inl rfl)) pgs_nil)))
          (pss_one (ps_if (PW.pt (pw_and (pt_cmpR op_eq (pe_fld (pv 6) rfl) (pe_fld (pv 2) rfl) (nomark _)) (pw_and1 (pt_cmpR op_le (pe_op op_add (pv 4) (pe_fld (pv 2) rfl)) (pe_ix ix_tup (pe_fld (pv 6) rfl) pe_int (fun _ _ => rfl)) (nomark _)))))
            (pss_one (ps_if (pt_cmpR op_le (pe_ix ix_tup (pe_fld (pv 6) rfl) pe_int (fun _ _ => rfl)) (pe_fld (pv 2) rfl) (nomark _))
              (pss_one (ps_expr (pe_bm PySem.F.plainAttrs_list PySem.F.slot_list_append PySem.F.type_list_append mt_append (pv 3) (pa_cons (pe_tup (pa_cons (pv 4) (pa_cons (pv 5) pa_nil))) pa_nil)))) pss_nil)) pss_nil)))))
      (pss_one (ps_ret (pv 3))))), ?_⟩
    refine ⟨_, rfl, W.a, _, dw, _, _, rfl, ew, T.cWld, T.aWld _ (mem_at 3), lw3, _, rfl, W.t3, _, _, _, rfl, rfl, SqT.of hw.l3, hatr, ?_⟩
    refine ⟨by decide, fun l hl => ?_⟩
    have s0 : Same H (upd H l (.lst [])) := same_upd hl
    refine ⟨_, rfl, qr, _, dr, _, _, rfl, s0 _ _ er, T.cRcd, T.aRcd _ (mem_at 2), lookup_zip ndRcd (i := 2) rfl rfl, _, rfl, qr, _, dr, _, _, rfl, s0 _ _ er, T.cRcd, T.aRcd _ (mem_at 3), lookup_zip ndRcd (i := 3) rfl rfl, _, _, rfl, rfl, _, _, rfl, by omega, ?_⟩
    refine for_range (fun j σ H' => (∃ x4 x5 x6 : Option V, σ = [some (.ref W.a), some (.int (n : Int)), some (.ref qr), some (.ref l), x4, x5, x6]) ∧ Same H H' ∧ ∃ ps : List Addr, H' l = some (.lst (ps.map V.ref)) ∧ All2 (PairAt H') ps (optTo w' r j)) ⟨⟨none, none, none, rfl⟩, s0, [], upd_same, All2.nil⟩ ?_ ?_
    · rintro j σ H1 hj ⟨⟨x4, x5, x6, rfl⟩, s1, ps, el, al⟩
      refine ⟨_, rfl, W.a, _, dw, _, _, rfl, s1 _ _ ew, T.cWld, T.aWld _ (mem_at 4), lw4, W.t4, _, rfl, SqT.of (s1 _ _ hw.l4), ?_⟩
      refine for_it (walk_enumT (K := K) (a := W.t4) (xs := W.q4.map V.ref)) (fun i σ H' => (∃ x5 x6 : Option V, σ = [some (.ref W.a), some (.int (n : Int)), some (.ref qr), some (.ref l), some (.int (r.earliest + (j : Int))), x5, x6]) ∧ Same H H' ∧ ∃ ps : List Addr, H' l = some (.lst (ps.map V.ref)) ∧ All2 (PairAt H') ps (optTo w' r j ++ optRow w' r (r.earliest + (j : Int)) i))
        ⟨⟨x5, x6, rfl⟩, s1, ps, el, by simpa [optRow] using al⟩ (fun i σ H' _ h => SqT.of (h.2.1 _ _ hw.l4)) ?_ ?_
      · rintro i v σ H2 H3 hi ⟨⟨y5, y6, rfl⟩, s2, ps2, el2, al2⟩ ⟨TT, vi, vq, rfl, hTT, rfl, hvi, hvq⟩
        obtain rfl : vi = V.int (i : Int) := (Option.some.inj hvi).symm
        have hi2 : i < w'.pass.length := by rw [List.length_map, hw.s4.len] at hi; exact hi
        have hp : w'.pass[i]? = some w'.pass[i] := List.getElem?_eq_getElem hi2
        obtain ⟨qp, hqp, dp, tp, ep, etp⟩ := hw.s4.get hp
        obtain rfl : vq = V.ref qp := by
          have hvq' : (W.q4.map V.ref)[i]? = some vq := hvq
          rw [List.getElem?_map, hqp] at hvq'
          exact (Option.some.inj hvq').symm
        generalize hpp : w'.pass[i] = p at *
        have s3 : Same H (upd H2 TT (.tup [.int (i : Int), .ref qp])) := s2.to hTT
        have sT : Same H2 (upd H2 TT (.tup [.int (i : Int), .ref qp])) := same_upd hTT
        have hl3 : (upd H2 TT (.tup [.int (i : Int), .ref qp])) l = some (.lst (ps2.map V.ref)) := sT _ _ el2
        have al3 := al2.mono fun _ _ z => z.kp sT.kp
        have hrow := optRow_succ (r := r) (st := r.earliest + (j : Int)) hp
        have no : isOpt r (r.earliest + (j : Int)) p = false → optTo w' r j ++ optRow w' r (r.earliest + (j : Int)) (i + 1) = optTo w' r j ++ optRow w' r (r.earliest + (j : Int)) i := by
          intro c
          rw [hrow, c]
          simp
        refine ⟨TT, _, rfl, SqT.of upd_same, rfl, _, _, rfl, _, _, rfl, rfl, ?_⟩
        refine ⟨_, rfl, qp, _, dp, _, _, rfl, s3 _ _ ep, T.cPas, T.aPas _ (mem_at 1), lookup_zip ndPas (i := 1) rfl rfl, _, rfl, qr, _, dr, _, _, rfl, s3 _ _ er, T.cRcd, T.aRcd _ (mem_at 1), lookup_zip ndRcd (i := 1) rfl rfl, rfl, _, rfl, ?_⟩
        by_cases c1 : p.sat = r.sat
        · refine dT (by rw [c1]) ?_
          refine ⟨_, rfl, _, rfl, qr, _, dr, _, _, rfl, s3 _ _ er, T.cRcd, T.aRcd _ (mem_at 4), lookup_zip ndRcd (i := 4) rfl rfl, _, _, rfl, rfl, _, rfl, qp, _, dp, _, _, rfl, s3 _ _ ep, T.cPas, T.aPas _ (mem_at 3), lookup_zip ndPas (i := 3) rfl rfl, tp, _, _, _, rfl, rfl, SqT.of (s3 _ _ etp), rfl, _, _, rfl, rfl, _, rfl, ?_⟩
          by_cases c2 : r.earliest + (j : Int) + r.length ≤ p.first
          · refine dT c2 ?_
            refine ⟨_, rfl, qp, _, dp, _, _, rfl, s3 _ _ ep, T.cPas, T.aPas _ (mem_at 3), lookup_zip ndPas (i := 3) rfl rfl, tp, _, _, _, rfl, rfl, SqT.of (s3 _ _ etp), rfl, _, rfl, qr, _, dr, _, _, rfl, s3 _ _ er, T.cRcd, T.aRcd _ (mem_at 9), lookup_zip ndRcd (i := 9) rfl rfl, _, _, rfl, rfl, _, rfl, ?_⟩
            by_cases c3 : p.last ≤ r.deadline
            · refine dT c3 ?_
              have yes : isOpt r (r.earliest + (j : Int)) p = true := by unfold isOpt; simp [c1, c2, c3]
              refine ⟨_, rfl, .inl ⟨rfl, _, SqL.of hl3⟩, _, rfl, _, rfl, by show 2 ≤ sizeLine; decide, fun a2 ha2 => ?_⟩
              have n2 : l ≠ a2 := ne_of_none hl3 ha2
              have lps : ps2.length ≤ 1000 := by
                have h1 := al2.len
                rw [List.length_append] at h1
                have h2 := optTo_len w' r j
                have h3 := optRow_len w' r (r.earliest + (j : Int)) i
                have h4 : j * w'.pass.length ≤ 21 * 4 := Nat.mul_le_mul (by omega) wok.npass
                have h5 := wok.npass
                omega
              refine ⟨l, _, _, rfl, rfl, by rw [upd_ne n2]; exact hl3, by rw [List.length_map]; exact lt_line (by omega), ?_⟩
              have s4 : Same H (upd (upd (upd H2 TT (.tup [.int (i : Int), .ref qp])) a2 (.tup [.int (r.earliest + (j : Int)), .int (i : Int)])) l (.lst (ps2.map V.ref ++ [.ref a2]))) := fun b o e => by
                rw [upd_ne (ne_of_none e hl)]
                exact (s3.to ha2) b o e
              have kp2 : Kp (upd H2 TT (.tup [.int (i : Int), .ref qp])) (upd (upd H2 TT (.tup [.int (i : Int), .ref qp])) a2 (.tup [.int (r.earliest + (j : Int)), .int (i : Int)])) := (same_upd ha2).kp
              have kp3 := kp_off (H := upd (upd H2 TT (.tup [.int (i : Int), .ref qp])) a2 (.tup [.int (r.earliest + (j : Int)), .int (i : Int)])) (D := l) (by rw [upd_ne n2]; exact hl3) (Off.wr (p := l) (o := .lst (ps2.map V.ref ++ [.ref a2])) (by simp))
              refine ⟨⟨_, _, rfl⟩, s4, ps2 ++ [a2], by rw [upd_same, List.map_append]; rfl, ?_⟩
              rw [hrow, if_pos yes, ← List.append_assoc]
              exact (al3.mono fun _ _ z => (z.kp kp2).kp kp3).snoc (by show _ = _; rw [upd_ne n2.symm]; exact upd_same)
            · refine dF c3 ?_
              exact ⟨⟨_, _, rfl⟩, s3, ps2, hl3, by rw [no (by unfold isOpt; simp [c3])]; exact al3⟩
          · refine dF c2 ?_
            exact ⟨⟨_, _, rfl⟩, s3, ps2, hl3, by rw [no (by unfold isOpt; simp [c2])]; exact al3⟩
        · refine dF (fun e => c1 (Int.ofNat.inj (V.int.inj e))) ?_
          refine iteF ?_
          exact ⟨⟨_, _, rfl⟩, s3, ps2, hl3, by rw [no (by unfold isOpt; simp [c1])]; exact al3⟩
      · rintro σ H2 ⟨⟨y5, y6, rfl⟩, s2, ps2, el2, al2⟩
        rw [List.length_map, hw.s4.len, ← optTo_succ] at al2
        exact ⟨⟨_, _, _, rfl⟩, s2, ps2, el2, al2⟩
    · rintro σ H1 ⟨⟨x4, x5, x6, rfl⟩, s1, ps, el, al⟩
      exact ⟨_, rfl, k _ l ps s1 el al⟩
theorem ok_options {f : Addr} {fd : FuncData} (F : Fun K "options" "options" sOptions f fd) (T : Tx K mg) : FnOk P w K mg base CX0 1 f fd ["world", "number"] (spOptions K) := by
  refine F.ok scOptions (fun vs H Q E h => ?_) (fun cdv A outer s H vs Q E hr h => ?_)
  · obtain ⟨W, w', i, r, rfl, _⟩ := h
    rfl
  · obtain ⟨W, w', n, r, rfl, hW, hn, k⟩ := h
    obtain ⟨dx, t5, fs, cs, e, l, e5, al⟩ := hW.ch.ex
    obtain ⟨c, hc, oc⟩ := al.get hn
    have hat : atI (cs.map V.ref) (n : Int) = some (V.ref c) := atI_nat (by rw [List.getElem?_map, hc]; rfl)
    refine ⟨_, pss_one (ps_ret (pe_ix ix_tup (pe_fld (pv 0) rfl) (pv 1) (fun _ _ => rfl))), ?_⟩
    exact ⟨_, rfl, W.a, _, dx, _, _, rfl, e, T.cWld, T.aWld _ (mem_at 5), l, _, rfl, t5, _, _, _, rfl, rfl, SqT.of e5, hat, k c oc⟩
end
end K59
set_option maxHeartbeats 4000000
/-! world_text, World.__init__ -/
namespace K59
open PySem PySem.Spec PyProof.Rows L2 TL
theorem all2_short {α : Type} {bs : List α} : ∀ {ys : List V}, All2 (fun v _ => ∃ z : Str, v = V.str z ∧ z.length ≤ 1000) ys bs → ∃ zs : List Str, ys = zs.map V.str ∧ zs.length = bs.length ∧ ∀ z ∈ zs, z.length ≤ 1000 := by
  induction bs with
  | nil =>
    intro ys h
    have := h.len
    exact ⟨[], List.eq_nil_of_length_eq_zero (by simpa using this), rfl, by simp⟩
  | cons b r ih =>
    intro ys h
    cases ys with
    | nil => exact absurd h.len (by simp)
    | cons v vs =>
      obtain ⟨⟨z, rfl, hz⟩, t⟩ := h.tail
      obtain ⟨zs, rfl, hl, al⟩ := ih t
      exact ⟨z :: zs, rfl, by simp [hl], fun y hy => by
        rcases List.mem_cons.mp hy with e | e
        · rw [e]; exact hz
        · exact al y e⟩
theorem sum_short : ∀ {zs : List Str} {m : Nat}, (∀ z ∈ zs, z.length ≤ m) → (zs.map (·.length)).sum ≤ zs.length * m
  | [], _, _ => by simp
  | z :: zs, m, h => by
    have h1 := sum_short (zs := zs) (m := m) fun y hy => h y (List.mem_cons_of_mem _ hy)
    have h2 := h z (List.mem_cons_self ..)
    simp only [List.map_cons, List.sum_cons, List.length_cons, Nat.succ_mul]
    omega
theorem gen_step {R : Hp → Prop} {H H1 : Hp} {l : Addr} {o : HO} (s : Same H H1) (e : H1 l = some o) (k : ∀ H2, Same H H2 → H2 l = some o → R H2) : R H1 := k H1 s e
theorem ext_step {R : Hp → Prop} {H H1 : Hp} {l : Addr} {zs0 zs : List Str} (s : Same H H1) (hl : H l = none) (k : ∀ H2, Same H H2 → H2 l = some (.lst ((zs0 ++ zs).map V.str)) → R H2) : R (upd H1 l (.lst (zs0.map V.str ++ zs.map V.str))) :=
  k _ (fun b o e => by rw [upd_ne (ne_of_none e hl)]; exact s b o e) (by rw [upd_same, List.map_append])
section
variable {P : Program} {w : World} {K : PySem.W.Frag} {mg : Str → Option Value} {base : Heap}
theorem ok_worldText {f : Addr} {fd : FuncData} (F : Fun K "world_text" "world_text" sWorldText f fd) (T : Tx K mg)
    (c1 : CalM P w K mg base 1 (cl K "Satellite") "line" ["self"] [] (spSatLine K)) (c2 : CalM P w K mg base 1 (cl K "Station") "line" ["self"] [] (spStaLine K))
    (c3 : CalM P w K mg base 1 (cl K "Recording") "line" ["self", "world"] [] (spRcdLine K)) (c4 : CalM P w K mg base 1 (cl K "Pass") "line" ["self", "world"] [] (spPasLine K)) :
    FnOk P w K mg base CX0 2 f fd ["world"] (spWorldText K) := by
  refine F.ok scWorldText (fun vs H Q E h => ?_) (fun cdv A outer s H vs Q E hr h => ?_)
  · obtain ⟨W, w', rfl, _⟩ := h
    rfl
  · obtain ⟨W, w', rfl, hw, wok, k⟩ := h
    obtain ⟨dw, fw, ew, lw0, lw1, lw2, lw3, lw4⟩ := hw.ob
    refine ⟨_, pss_cons (ps_set (i := 1) scWorldText.nd rfl (Or.inl rfl) (pe_lst (pa_cons (pe_joined (PJ.cons pe_str (PJ.cons (pe_fmt (pe_fld (pv 0) rfl)) PJ.nil))) pa_nil)))
      (pss_cons (ps_expr (pe_bm PySem.F.plainAttrs_list PySem.F.slot_list_extend PySem.F.type_list_extend mt_extend (pv 1) (pa_cons (pe_lc (own := [("satellite", 2)]) (g := gName 2) (tt := tYes) (te := tMeth (cl K "Satellite") "line" (spSatLine K) [] E0 (tVar 2) tNil) rfl scWorldText.nd (pi_tup (pe_fld (pv 0) rfl))
        (blkOk_by (own := [("satellite", 2)]) (N := ["world", "lines", "satellite", "station", "recording", "chance", "line"]) (sc := defScope sWorldText) (by decide +kernel)) (fun _ _ _ _ _ => pg_name (i := 2) scWorldText.nd rfl (Or.inl rfl)) (fun _ _ _ _ _ => pts_nil) (fun _ _ _ _ _ => pe_m00 (pv 2) T.cSat c1 hr)) pa_nil)))
      (pss_cons (ps_expr (pe_bm PySem.F.plainAttrs_list PySem.F.slot_list_extend PySem.F.type_list_extend mt_extend (pv 1) (pa_cons (pe_lc (own := [("station", 3)]) (g := gName 3) (tt := tYes) (te := tMeth (cl K "Station") "line" (spStaLine K) [] E0 (tVar 3) tNil) rfl scWorldText.nd (pi_tup (pe_fld (pv 0) rfl))
        (blkOk_by (own := [("station", 3)]) (N := ["world", "lines", "satellite", "station", "recording", "chance", "line"]) (sc := defScope sWorldText) (by decide +kernel)) (fun _ _ _ _ _ => pg_name (i := 3) scWorldText.nd rfl (Or.inl rfl)) (fun _ _ _ _ _ => pts_nil) (fun _ _ _ _ _ => pe_m00 (pv 3) T.cSta c2 hr)) pa_nil)))
      (pss_cons (ps_expr (pe_bm PySem.F.plainAttrs_list PySem.F.slot_list_extend PySem.F.type_list_extend mt_extend (pv 1) (pa_cons (pe_lc (own := [("recording", 4)]) (g := gName 4) (tt := tYes) (te := tMeth (cl K "Recording") "line" (spRcdLine K) [] E0 (tVar 4) (tCons (tVar 0) tNil)) rfl scWorldText.nd (pi_tup (pe_fld (pv 0) rfl))
        (blkOk_by (own := [("recording", 4)]) (N := ["world", "lines", "satellite", "station", "recording", "chance", "line"]) (sc := defScope sWorldText) (by decide +kernel)) (fun _ _ _ _ _ => pg_name (i := 4) scWorldText.nd rfl (Or.inl rfl)) (fun _ _ _ _ _ => pts_nil) (fun _ _ _ _ _ => pe_m (pv 4) T.cRcd c3 hr (pa_cons (pv 0) pa_nil))) pa_nil)))
      (pss_cons (ps_expr (pe_bm PySem.F.plainAttrs_list PySem.F.slot_list_extend PySem.F.type_list_extend mt_extend (pv 1) (pa_cons (pe_lc (own := [("chance", 5)]) (g := gName 5) (tt := tYes) (te := tMeth (cl K "Pass") "line" (spPasLine K) [] E0 (tVar 5) (tCons (tVar 0) tNil)) rfl scWorldText.nd (pi_tup (pe_fld (pv 0) rfl))
        (blkOk_by (own := [("chance", 5)]) (N := ["world", "lines", "satellite", "station", "recording", "chance", "line"]) (sc := defScope sWorldText) (by decide +kernel)) (fun _ _ _ _ _ => pg_name (i := 5) scWorldText.nd rfl (Or.inl rfl)) (fun _ _ _ _ _ => pts_nil) (fun _ _ _ _ _ => pe_m (pv 5) T.cPas c4 hr (pa_cons (pv 0) pa_nil))) pa_nil)))
      (pss_one (ps_ret (pe_join pe_str (pe_lc (own := [("line", 6)]) (g := gName 6) (tt := tYes) rfl scWorldText.nd (pi_list (pv 1))
        (blkOk_by (own := [("line", 6)]) (N := ["world", "lines", "satellite", "station", "recording", "chance", "line"]) (sc := defScope sWorldText) (by decide +kernel)) (fun _ _ _ _ _ => pg_name (i := 6) scWorldText.nd rfl (Or.inl rfl)) (fun _ _ _ _ _ => pts_nil) (fun _ _ _ _ _ => pe_op op_add_str (pv 6) pe_str))))))))), ?_⟩
    refine ⟨_, rfl, by decide +kernel, _, rfl, W.a, _, dw, _, _, rfl, ew, T.cWld, T.aWld _ (mem_at 0), lw0, .inr ⟨40, rfl, by decide, _, rfl, by decide +kernel, by decide, fun l hl => ?_⟩⟩
    have hl0 := hl
    have el : (upd H l (.lst [V.str (Str.empty ++ Str.ofString "horizon " ++ Str.ofString (toString (40 : Int)))])) l = some (.lst (([Str.empty ++ Str.ofString "horizon " ++ Str.ofString (toString (40 : Int))] : List Str).map V.str)) := upd_same
    have s0 := same_upd (o := .lst [V.str (Str.empty ++ Str.ofString "horizon " ++ Str.ofString (toString (40 : Int)))]) hl
    have hz0 : ∀ z ∈ ([Str.empty ++ Str.ofString "horizon " ++ Str.ofString (toString (40 : Int))] : List Str), z.length ≤ 1000 := by
      intro z hz
      rw [List.mem_singleton.mp hz]
      decide +kernel
    have n0 : ([Str.empty ++ Str.ofString "horizon " ++ Str.ofString (toString (40 : Int))] : List Str).length ≤ 1 := Nat.le_refl 1
    refine gen_step s0 el fun H1 s1 el1 => ?_
    generalize ([Str.empty ++ Str.ofString "horizon " ++ Str.ofString (toString (40 : Int))] : List Str) = zs0 at *
    refine ⟨_, rfl, .inl ⟨rfl, _, SqL.of el1⟩, _, rfl, W.a, _, dw, _, _, rfl, s1 _ _ ew, T.cWld, T.aWld _ (mem_at 1), lw1, W.t1, rfl, ⟨_, SqT.of (s1 _ _ hw.l1)⟩, fun D hD => ?_⟩
    refine lc_map walk_tup w'.sats (fun _ v _ => ∃ z : Str, v = V.str z ∧ z.length ≤ 1000) hD (by rw [List.length_map, hw.s1.len]) (by rw [List.length_map, hw.s1.len]; have := wok.nsats; omega) (fun H' s => SqT.of (s _ _ (s1 _ _ hw.l1))) (fun _ _ _ _ _ _ z => z) ?_ ?_
    · rintro i b x H2 H3 C Z hb sB _ ⟨rfl, hx⟩ hC
      obtain ⟨q, hq, _⟩ := hw.s1.get hb
      obtain ⟨dq, _, _, eq, _⟩ := (hw.s1.at_ i q b hq hb).ex
      rw [List.getElem?_map, hq] at hx
      cases hx
      have sA : Same H H3 := s1.trans sB
      refine ⟨rfl, yesI ⟨_, rfl, q, dq, _, rfl, sA _ _ eq, lookup_out (by decide +kernel), q, b, i, rfl, (hw.s1.at_ i q b hq hb).kp sA.kp, wok.sats i b hb, by have := (List.getElem?_eq_some_iff.mp hb).1; have := wok.nsats; omega, fun z hz => hC _ _ (fun _ _ z => z) ⟨z, rfl, hz⟩⟩⟩
    intro H' ys sC eD al
    obtain ⟨zs1, rfl, hzl1, hz1⟩ := all2_short al
    have n1 : (zs0 ++ zs1).length ≤ 3 := by rw [List.length_append]; have := wok.nsats; omega
    have hzz1 : ∀ z ∈ zs0 ++ zs1, z.length ≤ 1000 := fun z hz => (List.mem_append.mp hz).elim (hz0 z) (hz1 z)
    refine ⟨l, D, _, _, rfl, rfl, sC _ _ el1, eD, by rw [List.length_map, List.length_map, ← List.length_append]; exact small5 (Nat.le_trans n1 (by decide)), ?_⟩
    refine ext_step (s1.trans sC) hl0 fun H2 s2 el2 => ?_
    generalize zs0 ++ zs1 = zs1' at *
    refine ⟨_, rfl, .inl ⟨rfl, _, SqL.of el2⟩, _, rfl, W.a, _, dw, _, _, rfl, s2 _ _ ew, T.cWld, T.aWld _ (mem_at 2), lw2, W.t2, rfl, ⟨_, SqT.of (s2 _ _ hw.l2)⟩, fun D hD => ?_⟩
    refine lc_map walk_tup w'.stas (fun _ v _ => ∃ z : Str, v = V.str z ∧ z.length ≤ 1000) hD (by rw [List.length_map, hw.s2.len]) (by rw [List.length_map, hw.s2.len]; have := wok.nstas; omega) (fun H' s => SqT.of (s _ _ (s2 _ _ hw.l2))) (fun _ _ _ _ _ _ z => z) ?_ ?_
    · rintro i b x H2 H3 C Z hb sB _ ⟨rfl, hx⟩ hC
      obtain ⟨q, hq, _⟩ := hw.s2.get hb
      obtain ⟨dq, eq⟩ := (hw.s2.at_ i q b hq hb).ex
      rw [List.getElem?_map, hq] at hx
      cases hx
      have sA : Same H H3 := s2.trans sB
      refine ⟨rfl, yesI ⟨_, rfl, q, dq, _, rfl, sA _ _ eq, lookup_out (by decide +kernel), q, b, i, rfl, (hw.s2.at_ i q b hq hb).kp sA.kp, wok.stas i b hb, by have := (List.getElem?_eq_some_iff.mp hb).1; have := wok.nstas; omega, fun z hz => hC _ _ (fun _ _ z => z) ⟨z, rfl, hz⟩⟩⟩
    intro H' ys sC eD al
    obtain ⟨zs2, rfl, hzl2, hz2⟩ := all2_short al
    have n2 : (zs1' ++ zs2).length ≤ 5 := by rw [List.length_append]; have := wok.nstas; omega
    have hzz2 : ∀ z ∈ zs1' ++ zs2, z.length ≤ 1000 := fun z hz => (List.mem_append.mp hz).elim (hzz1 z) (hz2 z)
    refine ⟨l, D, _, _, rfl, rfl, sC _ _ el2, eD, by rw [List.length_map, List.length_map, ← List.length_append]; exact small5 (Nat.le_trans n2 (by decide)), ?_⟩
    refine ext_step (s2.trans sC) hl0 fun H3 s3 el3 => ?_
    generalize zs1' ++ zs2 = zs2' at *
    refine ⟨_, rfl, .inl ⟨rfl, _, SqL.of el3⟩, _, rfl, W.a, _, dw, _, _, rfl, s3 _ _ ew, T.cWld, T.aWld _ (mem_at 3), lw3, W.t3, rfl, ⟨_, SqT.of (s3 _ _ hw.l3)⟩, fun D hD => ?_⟩
    refine lc_map walk_tup w'.recs (fun _ v _ => ∃ z : Str, v = V.str z ∧ z.length ≤ 1000) hD (by rw [List.length_map, hw.s3.len]) (by rw [List.length_map, hw.s3.len]; have := wok.nrecs; omega) (fun H' s => SqT.of (s _ _ (s3 _ _ hw.l3))) (fun _ _ _ _ _ _ z => z) ?_ ?_
    · rintro i b x H2 H3 C Z hb sB _ ⟨rfl, hx⟩ hC
      obtain ⟨q, hq, _⟩ := hw.s3.get hb
      obtain ⟨dq, eq⟩ := (hw.s3.at_ i q b hq hb).ex
      rw [List.getElem?_map, hq] at hx
      cases hx
      have sA : Same H H3 := s3.trans sB
      refine ⟨rfl, yesI ⟨_, rfl, q, dq, _, rfl, sA _ _ eq, lookup_out (by decide +kernel), _, rfl, W, w', q, b, i, rfl, hw.same sA, wok, (hw.s3.at_ i q b hq hb).kp sA.kp, wok.recs i b hb, by have := (List.getElem?_eq_some_iff.mp hb).1; have := wok.nrecs; omega, fun z hz => hC _ _ (fun _ _ z => z) ⟨z, rfl, hz⟩⟩⟩
    intro H' ys sC eD al
    obtain ⟨zs3, rfl, hzl3, hz3⟩ := all2_short al
    have n3 : (zs2' ++ zs3).length ≤ 10 := by rw [List.length_append]; have := wok.nrecs; omega
    have hzz3 : ∀ z ∈ zs2' ++ zs3, z.length ≤ 1000 := fun z hz => (List.mem_append.mp hz).elim (hzz2 z) (hz3 z)
    refine ⟨l, D, _, _, rfl, rfl, sC _ _ el3, eD, by rw [List.length_map, List.length_map, ← List.length_append]; exact small5 (Nat.le_trans n3 (by decide)), ?_⟩
    refine ext_step (s3.trans sC) hl0 fun H4 s4 el4 => ?_
    generalize zs2' ++ zs3 = zs3' at *
    refine ⟨_, rfl, .inl ⟨rfl, _, SqL.of el4⟩, _, rfl, W.a, _, dw, _, _, rfl, s4 _ _ ew, T.cWld, T.aWld _ (mem_at 4), lw4, W.t4, rfl, ⟨_, SqT.of (s4 _ _ hw.l4)⟩, fun D hD => ?_⟩
    refine lc_map walk_tup w'.pass (fun _ v _ => ∃ z : Str, v = V.str z ∧ z.length ≤ 1000) hD (by rw [List.length_map, hw.s4.len]) (by rw [List.length_map, hw.s4.len]; have := wok.npass; omega) (fun H' s => SqT.of (s _ _ (s4 _ _ hw.l4))) (fun _ _ _ _ _ _ z => z) ?_ ?_
    · rintro i b x H2 H3 C Z hb sB _ ⟨rfl, hx⟩ hC
      obtain ⟨q, hq, _⟩ := hw.s4.get hb
      obtain ⟨dq, _, eq, _⟩ := (hw.s4.at_ i q b hq hb).ex
      rw [List.getElem?_map, hq] at hx
      cases hx
      have sA : Same H H3 := s4.trans sB
      refine ⟨rfl, yesI ⟨_, rfl, q, dq, _, rfl, sA _ _ eq, lookup_out (by decide +kernel), _, rfl, W, w', q, b, i, rfl, hw.same sA, wok, (hw.s4.at_ i q b hq hb).kp sA.kp, wok.pass i b hb, by have := (List.getElem?_eq_some_iff.mp hb).1; have := wok.npass; omega, fun z hz => hC _ _ (fun _ _ z => z) ⟨z, rfl, hz⟩⟩⟩
    intro H' ys sC eD al
    obtain ⟨zs4, rfl, hzl4, hz4⟩ := all2_short al
    have n4 : (zs3' ++ zs4).length ≤ 14 := by rw [List.length_append]; have := wok.npass; omega
    have hzz4 : ∀ z ∈ zs3' ++ zs4, z.length ≤ 1000 := fun z hz => (List.mem_append.mp hz).elim (hzz3 z) (hz4 z)
    refine ⟨l, D, _, _, rfl, rfl, sC _ _ el4, eD, by rw [List.length_map, List.length_map, ← List.length_append]; exact small5 (Nat.le_trans n4 (by decide)), ?_⟩
    refine ext_step (s4.trans sC) hl0 fun H5 s5 el5 => ?_
    generalize zs3' ++ zs4 = zs4' at *
    refine ⟨⟨_, rfl⟩, _, rfl, l, rfl, ⟨_, SqL.of el5⟩, fun D hD => ?_⟩
    refine lc_map walk_list zs4' (fun _ v z => v = V.str (z ++ Str.ofString "\n")) hD (by rw [List.length_map]) (by rw [List.length_map]; omega) (fun H' s => SqL.of (s _ _ el5)) (fun _ _ _ _ _ _ z => z) ?_ ?_
    · rintro i b x H2 H3 C Z hb sB _ ⟨rfl, hx⟩ hC
      rw [List.getElem?_map, hb] at hx
      cases hx
      have hbl := hzz4 b (List.mem_of_getElem? hb)
      exact ⟨rfl, yesI ⟨_, rfl, _, _, rfl, rfl, by rw [show (Str.ofString "\n").length = 1 by decide +kernel]; exact small5 (by omega), hC _ _ (fun _ _ z => z) rfl⟩⟩
    intro H' ys sC eD al
    rw [all2_map al] at eD
    have eD' : H' D = some (.lst ((zs4'.map fun z => z ++ Str.ofString "\n").map V.str)) := by rw [eD, List.map_map]; rfl
    refine ⟨_, D, zs4'.map fun z => z ++ Str.ofString "\n", rfl, rfl, .inl (SqL.of eD'), ?_, k _ H' (s5.trans sC)⟩
    have h1 := sum_short (zs := zs4'.map fun z => z ++ Str.ofString "\n") (m := 1001) (by
      intro y hy
      obtain ⟨z, hz, rfl⟩ := List.mem_map.mp hy
      rw [Str.length_append, show (Str.ofString "\n").length = 1 by decide +kernel]
      have := hzz4 z hz
      omega)
    rw [List.length_map] at h1 ⊢
    rw [show (Str.ofString "").length = 0 by decide +kernel]
    have h2 : zs4'.length * 1001 ≤ 14 * 1001 := Nat.mul_le_mul_right _ n4
    omega
end
end K59
set_option maxHeartbeats 4000000
/-! World.__init__ (printed by gen_winit.py) -/
namespace K59
open PySem PySem.Spec PyProof.Rows L2 TL
theorem tup_step {R : Hp → Prop} {H H1 : Hp} {a t C dx : Addr} {fs fs' : Fs} {xs : List V} (o : Off [a] H H1) (ea : H1 a = some (.ins C dx fs)) (ht : H1 t = none)
    (k : ∀ H2, Off [a] H H2 → Off [a] H1 H2 → H2 a = some (.ins C dx fs') → H2 t = some (.tup xs) → t ≠ a → R H2) : R (upd (upd H1 t (.tup xs)) a (.ins C dx fs')) := by
  have nt : t ≠ a := (ne_of_none ea ht).symm
  have s1 : Off [a] H1 (upd (upd H1 t (.tup xs)) a (.ins C dx fs')) := fun b u e hb => by
    have nb : b ≠ a := by simpa using hb
    rw [upd_ne nb, upd_ne (ne_of_none e ht)]
    exact e
  exact k _ (o.trans s1) s1 upd_same (by rw [upd_ne nt]; exact upd_same) nt
theorem ins_step {R : Hp → Prop} {H H1 : Hp} {a C dx : Addr} {fs' : Fs} (o : Off [a] H H1) (k : ∀ H2, Off [a] H H2 → Off [a] H1 H2 → H2 a = some (.ins C dx fs') → R H2) : R (upd H1 a (.ins C dx fs')) :=
  k _ (o.trans (Off.wr (by simp))) (Off.wr (by simp)) upd_same
section
variable {P : Program} {w : World} {K : PySem.W.Frag} {mg : Str → Option Value} {base : Heap}
theorem ok_worldInit {f : Addr} {fd : FuncData} (F : Fun K "__init__" "World.__init__" sWorldInit f fd) (T : Tx K mg) (cF : Cal P w K mg base 1 "found_options" ["world", "number"] (spFoundOptions K)) (cT : Cal P w K mg base 2 "world_text" ["world"] (spWorldText K)) :
    FnOk P w K mg base CX0 3 f fd ["self", "draft"] (spWorldInit K) := by
  refine F.ok scWorldInit (fun vs H Q E h => ?_) (fun cdv A outer s H vs Q E hr h => ?_)
  · obtain ⟨a, dx, D, w', rfl, _⟩ := h
    rfl
  · obtain ⟨a, dx, D, w', rfl, ha, hD, wok, k⟩ := h
    obtain ⟨dd, ed⟩ := hD.ob
    have nd : D.d ≠ a := ne_of ed ha (by intro z; injection z with _ _ z; exact List.cons_ne_nil _ _ z)
    have m1 : D.a1 ≠ a := ne_of hD.l1 ha (by intro z; cases z)
    have m2 : D.a2 ≠ a := ne_of hD.l2 ha (by intro z; cases z)
    have m3 : D.a3 ≠ a := ne_of hD.l3 ha (by intro z; cases z)
    have m4 : D.a4 ≠ a := ne_of hD.l4 ha (by intro z; cases z)
    refine ⟨_, pss_cons (ps_fld (pv 0) (pe_fld (pv 1) rfl) rfl)
      (pss_cons (ps_fld (pv 0) (pe_callTy call_tuple_of (by rfl) T.tuple (by decide +kernel) (pa_cons (pe_fld (pv 1) rfl) pa_nil)) rfl)
      (pss_cons (ps_fld (pv 0) (pe_callTy call_tuple_of (by rfl) T.tuple (by decide +kernel) (pa_cons (pe_fld (pv 1) rfl) pa_nil)) rfl)
      (pss_cons (ps_fld (pv 0) (pe_callTy call_tuple_of (by rfl) T.tuple (by decide +kernel) (pa_cons (pe_fld (pv 1) rfl) pa_nil)) rfl)
      (pss_cons (ps_fld (pv 0) (pe_callTy call_tuple_of (by rfl) T.tuple (by decide +kernel) (pa_cons (pe_fld (pv 1) rfl) pa_nil)) rfl)
      (pss_cons (ps_fld (pv 0) (pe_callTy call_tuple_of (by rfl) T.tuple (by decide +kernel) (pa_cons (pe_lc (own := [("number", 2)]) (g := gName 2) (tt := tYes) (te := tCall (spFoundOptions K) [] E0 (tCons (tVar 0) (tCons (tVar 2) tNil))) rfl scWorldInit.nd
        (pi_range1 (by rfl) T.range (pa_cons (pe_callB call_len_seq (by rfl) T.len PySem.boot_len (pa_cons (pe_fld (pv 0) rfl) pa_nil)) pa_nil))
        (blkOk_by (own := [("number", 2)]) (N := ["self", "draft", "number"]) (sc := defScope sWorldInit) (by decide +kernel)) (fun _ _ _ _ _ => pg_name (i := 2) scWorldInit.nd rfl (Or.inl rfl)) (fun _ _ _ _ _ => pts_nil) (fun _ _ _ _ _ => pe_f cF (hr.mono (by decide)) (pa_cons (pv 0) (pa_cons (pv 2) pa_nil)))) pa_nil)) rfl)
      (pss_one (ps_fld (pv 0) (pe_f cT (hr.mono (by decide)) (pa_cons (pv 0) pa_nil)) rfl))))))), ?_⟩
    refine ⟨_, rfl, D.d, _, dd, _, _, rfl, ed, T.cDraft, T.aDraft _ (mem_at 0), lookup_zip ndDraft (i := 0) rfl rfl, _, rfl, a, _, dx, _, rfl, ha, T.cWld, T.aWld _ (mem_at 0), (by decide), ?_⟩
    refine ins_step (Off.refl (S := [a]) (H := H)) fun H1 o1 _ ea1 => ?_
    refine ⟨_, rfl, D.d, _, dd, _, _, rfl, o1 _ _ ed (by simpa using nd), T.cDraft, T.aDraft _ (mem_at 1), lookup_zip ndDraft (i := 1) rfl rfl, D.a1, _, rfl, .inl ⟨SqL.of (o1 _ _ hD.l1 (by simpa using m1)), fun t1 ht1 => ?_⟩⟩
    refine ⟨_, rfl, a, _, dx, _, rfl, (by rw [upd_ne (ne_of_none ea1 ht1)]; exact ea1), T.cWld, T.aWld _ (mem_at 1), (lt1000 (putF_le (Nat.le_refl 0))), ?_⟩
    refine tup_step o1 ea1 ht1 fun H2 o2 p2 ea2 et1 nt1 => ?_
    refine ⟨_, rfl, D.d, _, dd, _, _, rfl, o2 _ _ ed (by simpa using nd), T.cDraft, T.aDraft _ (mem_at 2), lookup_zip ndDraft (i := 2) rfl rfl, D.a2, _, rfl, .inl ⟨SqL.of (o2 _ _ hD.l2 (by simpa using m2)), fun t2 ht2 => ?_⟩⟩
    refine ⟨_, rfl, a, _, dx, _, rfl, (by rw [upd_ne (ne_of_none ea2 ht2)]; exact ea2), T.cWld, T.aWld _ (mem_at 2), (lt1000 (putF_le (putF_le (Nat.le_refl 0)))), ?_⟩
    refine tup_step o2 ea2 ht2 fun H3 o3 p3 ea3 et2 nt2 => ?_
    have et1 := p3 _ _ et1 (by simpa using nt1)
    refine ⟨_, rfl, D.d, _, dd, _, _, rfl, o3 _ _ ed (by simpa using nd), T.cDraft, T.aDraft _ (mem_at 3), lookup_zip ndDraft (i := 3) rfl rfl, D.a3, _, rfl, .inl ⟨SqL.of (o3 _ _ hD.l3 (by simpa using m3)), fun t3 ht3 => ?_⟩⟩
    refine ⟨_, rfl, a, _, dx, _, rfl, (by rw [upd_ne (ne_of_none ea3 ht3)]; exact ea3), T.cWld, T.aWld _ (mem_at 3), (lt1000 (putF_le (putF_le (putF_le (Nat.le_refl 0))))), ?_⟩
    refine tup_step o3 ea3 ht3 fun H4 o4 p4 ea4 et3 nt3 => ?_
    have et1 := p4 _ _ et1 (by simpa using nt1)
    have et2 := p4 _ _ et2 (by simpa using nt2)
    refine ⟨_, rfl, D.d, _, dd, _, _, rfl, o4 _ _ ed (by simpa using nd), T.cDraft, T.aDraft _ (mem_at 4), lookup_zip ndDraft (i := 4) rfl rfl, D.a4, _, rfl, .inl ⟨SqL.of (o4 _ _ hD.l4 (by simpa using m4)), fun t4 ht4 => ?_⟩⟩
    refine ⟨_, rfl, a, _, dx, _, rfl, (by rw [upd_ne (ne_of_none ea4 ht4)]; exact ea4), T.cWld, T.aWld _ (mem_at 4), (lt1000 (putF_le (putF_le (putF_le (putF_le (Nat.le_refl 0)))))), ?_⟩
    refine tup_step o4 ea4 ht4 fun H5 o5 p5 ea5 et4 nt4 => ?_
    have et1 := p5 _ _ et1 (by simpa using nt1)
    have et2 := p5 _ _ et2 (by simpa using nt2)
    have et3 := p5 _ _ et3 (by simpa using nt3)
    have e5 := congrArg (fun l => some (HO.ins (cl K "World") dx l)) (puts_zip (ns := ["horizon", "satellites", "stations", "recordings", "passes"]) (vs := [.int 40, .ref t1, .ref t2, .ref t3, .ref t4]) (by decide +kernel) rfl)
    have ea5' : H5 a = some (.ins (cl K "World") dx ((["horizon", "satellites", "stations", "recordings", "passes"] : List Str).zip [V.int 40, .ref t1, .ref t2, .ref t3, .ref t4])) := ea5.trans e5
    have kp5 : Kp H H5 := o5.kp fun s hs => by
      rw [List.mem_singleton.mp hs]
      exact .inl ⟨_, _, [], ha⟩
    have nd5 : (["horizon", "satellites", "stations", "recordings", "passes"] : List Str).Nodup := by decide +kernel
    have hw5 : WAt K H5 ⟨a, t1, t2, t3, t4, D.q1, D.q2, D.q3, D.q4⟩ w' :=
      ⟨⟨dx, _, ea5', lookup_zip nd5 (i := 0) rfl rfl, lookup_zip nd5 (i := 1) rfl rfl, lookup_zip nd5 (i := 2) rfl rfl, lookup_zip nd5 (i := 3) rfl rfl, lookup_zip nd5 (i := 4) rfl rfl⟩, et1, et2, et3, et4,
        hD.s1.mono fun _ _ z => z.kp kp5, hD.s2.mono fun _ _ z => z.kp kp5, hD.s3.mono fun _ _ z => z.kp kp5, hD.s4.mono fun _ _ z => z.kp kp5⟩
    have hlen : D.q3.length = w'.recs.length := hD.s3.len
    refine ⟨_, rfl, a, _, dx, _, _, rfl, ea5', T.cWld, T.aWld _ (mem_at 3), lookup_zip nd5 (i := 3) rfl rfl, t3, _, rfl, .inr (SqT.of et3), _, rfl, by omega, by have := wok.nrecs; rw [List.length_map, hlen]; omega, fun L hL => ?_⟩
    refine lc_map walk_range w'.recs (fun H v r => ∃ c, v = V.ref c ∧ OptsAt H c (optsOf w' r)) hL (by rw [List.length_map, hlen]; rfl) (by rw [List.length_map, hlen]; have := wok.nrecs; show w'.recs.length ≤ _; omega) (fun _ _ => trivial) ?_ ?_ ?_
    · rintro H1' H2' v r ⟨acc, hacc⟩ o ⟨c, e1, oc⟩
      obtain ⟨ps, e2, al⟩ := oc.ex
      have kp := kp_off hacc o
      exact ⟨c, e1, ps, kp.tup _ _ e2, al.mono fun _ _ z => z.kp kp⟩
    · rintro i r x H2' H3' C Z hr' sB _ ⟨rfl, rfl⟩ hC
      refine ⟨rfl, yesI ⟨_, rfl, _, rfl, ⟨a, t1, t2, t3, t4, D.q1, D.q2, D.q3, D.q4⟩, w', i, r, ?_, hw5.same sB, wok, hr', fun H' c s oc => hC _ _ s ⟨c, rfl, oc⟩⟩⟩
      show [V.ref a, V.int (0 + (i : Int))] = [V.ref a, V.int (i : Int)]
      rw [Int.zero_add]
    intro H6 ys s6 eL al
    obtain ⟨cs, rfl, al2⟩ := all2_ref al
    refine ⟨L, _, rfl, .inl ⟨SqL.of eL, fun t5 ht5 => ?_⟩⟩
    have ea6 : H6 a = some (.ins (cl K "World") dx ((["horizon", "satellites", "stations", "recordings", "passes"] : List Str).zip [V.int 40, .ref t1, .ref t2, .ref t3, .ref t4])) := s6 _ _ ea5'
    refine ⟨_, rfl, a, _, dx, _, rfl, (by rw [upd_ne (ne_of_none ea6 ht5)]; exact ea6), T.cWld, T.aWld _ (mem_at 5), (by show 5 < 1000; decide), ?_⟩
    refine tup_step (o5.trans s6.off) ea6 ht5 fun H7 o7 p7 ea7 et5 nt5 => ?_
    have e7 := congrArg (fun l => some (HO.ins (cl K "World") dx l)) (putF_end (fs := (["horizon", "satellites", "stations", "recordings", "passes"] : List Str).zip [V.int 40, .ref t1, .ref t2, .ref t3, .ref t4]) (f := "choices") (v := .ref t5) (by show ("choices" : Str) ∉ (["horizon", "satellites", "stations", "recordings", "passes"] : List Str); decide +kernel))
    have ea7' : H7 a = some (.ins (cl K "World") dx ((["horizon", "satellites", "stations", "recordings", "passes", "choices"] : List Str).zip [V.int 40, .ref t1, .ref t2, .ref t3, .ref t4, .ref t5])) := ea7.trans e7
    have nd6 : (["horizon", "satellites", "stations", "recordings", "passes", "choices"] : List Str).Nodup := by decide +kernel
    have kp7 : Kp H H7 := o7.kp fun s hs => by
      rw [List.mem_singleton.mp hs]
      exact .inl ⟨_, _, [], ha⟩
    have c7 : ∀ t xs, t ≠ a → H5 t = some (.tup xs) → H7 t = some (.tup xs) := fun t xs n e => p7 _ _ (s6 _ _ e) (by simpa using n)
    have hw7 : WAt K H7 ⟨a, t1, t2, t3, t4, D.q1, D.q2, D.q3, D.q4⟩ w' :=
      ⟨⟨dx, _, ea7', lookup_zip nd6 (i := 0) rfl rfl, lookup_zip nd6 (i := 1) rfl rfl, lookup_zip nd6 (i := 2) rfl rfl, lookup_zip nd6 (i := 3) rfl rfl, lookup_zip nd6 (i := 4) rfl rfl⟩, c7 _ _ nt1 et1, c7 _ _ nt2 et2, c7 _ _ nt3 et3, c7 _ _ nt4 et4,
        hD.s1.mono fun _ _ z => z.kp kp7, hD.s2.mono fun _ _ z => z.kp kp7, hD.s3.mono fun _ _ z => z.kp kp7, hD.s4.mono fun _ _ z => z.kp kp7⟩
    have na : ∀ t xs, H6 t = some (.tup xs) → t ≠ a := fun t xs e => ne_of e ea6 (by intro z; cases z)
    have al7 : All2 (fun c r => OptsAt H7 c (optsOf w' r)) cs w'.recs := al2.mono fun c r oc => by
      obtain ⟨ps, e2, ap⟩ := oc.ex
      exact ⟨ps, p7 _ _ e2 (by simpa using na _ _ e2), ap.mono fun _ _ z => p7 _ _ z (by simpa using na _ _ z)⟩
    refine ⟨_, rfl, ⟨a, t1, t2, t3, t4, D.q1, D.q2, D.q3, D.q4⟩, w', rfl, hw7, wok, fun z H8 s8 => ?_⟩
    refine ⟨_, rfl, a, _, dx, _, rfl, s8 _ _ ea7', T.cWld, T.aWld _ (mem_at 6), (by show 6 < 1000; decide), ?_⟩
    refine ins_step (o7.trans s8.off) fun H9 o9 p9 ea9 => ?_
    have e9 := congrArg (fun l => some (HO.ins (cl K "World") dx l)) (putF_end (fs := (["horizon", "satellites", "stations", "recordings", "passes", "choices"] : List Str).zip [V.int 40, .ref t1, .ref t2, .ref t3, .ref t4, .ref t5]) (f := "text") (v := .str z) (by show ("text" : Str) ∉ (["horizon", "satellites", "stations", "recordings", "passes", "choices"] : List Str); decide +kernel))
    have ea9' : H9 a = some (.ins (cl K "World") dx (nWld.zip [V.int 40, .ref t1, .ref t2, .ref t3, .ref t4, .ref t5, .str z])) := ea9.trans e9
    have kp9 : Kp H H9 := o9.kp fun s hs => by
      rw [List.mem_singleton.mp hs]
      exact .inl ⟨_, _, [], ha⟩
    have c9 : ∀ t xs, t ≠ a → H7 t = some (.tup xs) → H9 t = some (.tup xs) := fun t xs n e => p9 _ _ (s8 _ _ e) (by simpa using n)
    have na7 : ∀ t xs, H7 t = some (.tup xs) → t ≠ a := fun t xs e => ne_of e ea7 (by intro z; cases z)
    refine k H9 ⟨a, t1, t2, t3, t4, D.q1, D.q2, D.q3, D.q4⟩ o9 rfl ⟨?_, ?_, wok⟩
    · exact ⟨⟨dx, _, ea9', lookup_zip ndWld (i := 0) rfl rfl, lookup_zip ndWld (i := 1) rfl rfl, lookup_zip ndWld (i := 2) rfl rfl, lookup_zip ndWld (i := 3) rfl rfl, lookup_zip ndWld (i := 4) rfl rfl⟩, c9 _ _ nt1 hw7.l1, c9 _ _ nt2 hw7.l2, c9 _ _ nt3 hw7.l3, c9 _ _ nt4 hw7.l4,
        hD.s1.mono fun _ _ z => z.kp kp9, hD.s2.mono fun _ _ z => z.kp kp9, hD.s3.mono fun _ _ z => z.kp kp9, hD.s4.mono fun _ _ z => z.kp kp9⟩
    · refine ⟨dx, t5, _, cs, ea9', lookup_zip ndWld (i := 5) rfl rfl, c9 _ _ nt5 et5, al7.mono fun c r oc => ?_⟩
      obtain ⟨ps, e2, ap⟩ := oc.ex
      exact ⟨ps, c9 _ _ (na7 _ _ e2) e2, ap.mono fun _ _ z => c9 _ _ (na7 _ _ z) z⟩
end
end K59
set_option maxHeartbeats 4000000
/-! read_satellite, read_recording, read_pass (printed by gen_read.py) -/
namespace K59
open PySem PySem.Spec PyProof.Rows L2 TL
theorem all2_mapR {α β γ : Type} {F : α → γ → Prop} {f : β → γ} {as : List α} {bs : List β} (h : All2 (fun a b => F a (f b)) as bs) : All2 F as (bs.map f) := by
  refine ⟨by simp [h.len], fun i a c ha hc => ?_⟩
  rw [List.getElem?_map] at hc
  cases q : bs[i]? with
  | none => rw [q] at hc; cases hc
  | some b =>
    rw [q] at hc
    cases hc
    exact h.at_ i a b ha q
theorem spans_len (l : List (Int × Int)) : (spansW l).length = 2 * l.length := by
  induction l with
  | nil => rfl
  | cons q r ih =>
    show ([numS q.1, numS q.2] ++ spansW r).length = _
    rw [List.length_append, ih]
    simp
    omega
theorem spans_at (done : List (Int × Int)) (q : Int × Int) (rest : List (Int × Int)) : (spansW (done ++ q :: rest))[2 * done.length]? = some (numS q.1) ∧ (spansW (done ++ q :: rest))[2 * done.length + 1]? = some (numS q.2) := by
  have e : spansW (done ++ q :: rest) = spansW done ++ (numS q.1 :: numS q.2 :: spansW rest) := by
    unfold spansW
    rw [List.flatMap_append]
    rfl
  have hl := spans_len done
  constructor
  · rw [e, List.getElem?_append_right (by omega), hl, Nat.sub_self]
    rfl
  · rw [e, List.getElem?_append_right (by omega), hl, show 2 * done.length + 1 - 2 * done.length = 1 by omega]
    rfl
def mu10 (σ : L2.St) (_ : Hp) : Nat := match (σ[10]? : Option (Option V)) with
  | some (some (V.int n)) => (41 - n).toNat
  | _ => 0
def satH (s : Sat) : List Str := ["satellite", s.name, "store", numS s.store, "battery", numS s.battery, "level", numS s.level, "reserve", numS s.reserve, "charge", numS s.charge, "settle", numS s.settle, "light"]
theorem sat_at (s : Sat) (i : Nat) : (satW s)[15 + i]? = (spansW s.light)[i]? := by
  show (satH s ++ spansW s.light)[15 + i]? = _
  rw [List.getElem?_append_right (by show 15 ≤ 15 + i; omega)]
  congr 1
  show 15 + i - 15 = i
  omega
theorem sat_len (s : Sat) : (satW s).length = 15 + 2 * s.light.length := by
  show (satH s ++ spansW s.light).length = _
  rw [List.length_append, spans_len]
  rfl
section
variable {P : Program} {w : World} {K : PySem.W.Frag} {mg : Str → Option Value} {base : Heap}
theorem named_sat {H : Hp} {a : Addr} {s : Sat} (T : Tx K mg) (h : SatAt K H a s) : NamedAt K H a s.name := by
  obtain ⟨dx, t, ts, e, _⟩ := h.ex
  exact ⟨_, dx, _, e, T.cSat, T.aSat _ (mem_at 0), lookup_zip ndSat (i := 0) rfl rfl⟩
theorem named_sta {H : Hp} {a : Addr} {s : Sta} (T : Tx K mg) (h : StaAt K H a s) : NamedAt K H a s.name := by
  obtain ⟨dx, e⟩ := h.ex
  exact ⟨_, dx, _, e, T.cSta, T.aSta _ (mem_at 0), lookup_zip ndSta (i := 0) rfl rfl⟩
theorem sat_names {w : Wld} (ok : WldOk w) {i : Nat} (h : i < w.sats.length) : (w.sats.map (·.name))[i]? = some (nm "s" (i : Int)) := by
  rw [List.getElem?_map, List.getElem?_eq_getElem h]
  exact congrArg some (ok.sats i _ (List.getElem?_eq_getElem h)).name
theorem sta_names {w : Wld} (ok : WldOk w) {i : Nat} (h : i < w.stas.length) : (w.stas.map (·.name))[i]? = some (nm "t" (i : Int)) := by
  rw [List.getElem?_map, List.getElem?_eq_getElem h]
  exact congrArg some (ok.stas i _ (List.getElem?_eq_getElem h)).name
theorem sat_first {w : Wld} (ok : WldOk w) {j m : Nat} (h : j < w.sats.length) (hm : m < j) : (w.sats.map (·.name))[m]? ≠ some (nm "s" (j : Int)) := by
  rw [sat_names ok (by omega)]
  intro e
  have := ok.nsats
  have := inj_of injS (by omega) (by omega) (Option.some.inj e)
  omega
theorem sta_first {w : Wld} (ok : WldOk w) {j m : Nat} (h : j < w.stas.length) (hm : m < j) : (w.stas.map (·.name))[m]? ≠ some (nm "t" (j : Int)) := by
  rw [sta_names ok (by omega)]
  intro e
  have := ok.nstas
  have := inj_of injT (by omega) (by omega) (Option.some.inj e)
  omega
theorem ok_readSat {f : Addr} {fd : FuncData} (F : Fun K "read_satellite" "read_satellite" sReadSatellite f fd) (T : Tx K mg)
    (cF : CalM P w K mg base 4 (cl K "Line") "take_field" ["self", "word", "least", "most"] [] (spTakeField K)) (cX : CalM P w K mg base 3 (cl K "Line") "expect" ["self", "word"] [] (spExpect K))
    (cE : CalM P w K mg base 1 (cl K "Line") "at_end" ["self"] [] (spAtEnd K)) (cN : CalM P w K mg base 3 (cl K "Line") "take_number" ["self", "least", "most"] [] (spTakeNumber K))
    (cI : CalI P w K mg base 1 "Satellite" ["self", "name", "store", "power", "charge", "settle", "light"] (spSatInit K)) :
    FnOk P w K mg base CX0 5 f fd ["world", "line", "name"] (spReadSat K) := by
  refine F.ok scReadSatellite (fun vs H Q E h => ?_) (fun cdv A outer s H vs Q E hr h => ?_)
  · obtain ⟨D, w', L, s, j, rfl, _⟩ := h
    rfl
  · obtain ⟨D, w', L, s, j, rfl, hD, hws, l0, ok, k⟩ := h
    obtain ⟨tm, gm⟩ := T.most
    obtain ⟨dx0, n0, col0, e0⟩ := l0.ob
    have o0 : Off [L.p] H H := Off.refl
    have D0 := hD
    obtain ⟨dd0, ed0⟩ := D0.ob
    refine ⟨_, pss_cons (ps_set (i := 3) scReadSatellite.nd rfl (Or.inl rfl) (pe_m (pv 1) T.cLine cF hr (pa_cons pe_str (pa_cons pe_int (pa_cons (pe_gI gm) pa_nil)))))
      (pss_cons (ps_set (i := 4) scReadSatellite.nd rfl (Or.inl rfl) (pe_m (pv 1) T.cLine cF hr (pa_cons pe_str (pa_cons pe_int (pa_cons (pe_gI gm) pa_nil)))))
      (pss_cons (ps_set (i := 5) scReadSatellite.nd rfl (Or.inl rfl) (pe_m (pv 1) T.cLine cF hr (pa_cons pe_str (pa_cons pe_int (pa_cons (pv 4) pa_nil)))))
      (pss_cons (ps_set (i := 6) scReadSatellite.nd rfl (Or.inl rfl) (pe_m (pv 1) T.cLine cF hr (pa_cons pe_str (pa_cons pe_int (pa_cons (pv 5) pa_nil)))))
      (pss_cons (ps_set (i := 7) scReadSatellite.nd rfl (Or.inl rfl) (pe_m (pv 1) T.cLine cF hr (pa_cons pe_str (pa_cons pe_int (pa_cons pe_int pa_nil)))))
      (pss_cons (ps_set (i := 8) scReadSatellite.nd rfl (Or.inl rfl) (pe_m (pv 1) T.cLine cF hr (pa_cons pe_str (pa_cons pe_int (pa_cons pe_int pa_nil)))))
      (pss_cons (ps_expr (pe_m (pv 1) T.cLine cX (hr.mono (by decide)) (pa_cons pe_str pa_nil)))
      (pss_cons (ps_set (i := 9) scReadSatellite.nd rfl (Or.inl rfl) (pe_lst pa_nil))
      (pss_cons (ps_set (i := 10) scReadSatellite.nd rfl (Or.inl rfl) (pe_int))
      (pss_cons (ps_while PassesOwn.never (pt_not (pt_val (pe_m00 (pv 1) T.cLine cE (hr.mono (by decide)))))
      (pss_cons (ps_set (i := 11) scReadSatellite.nd rfl (Or.inl rfl) (pe_m (pv 1) T.cLine cN (hr.mono (by decide)) (pa_cons (pv 10) (pa_cons (pe_op op_sub (pe_fld (pv 0) rfl) pe_int) pa_nil))))
      (pss_cons (ps_set (i := 10) scReadSatellite.nd rfl (Or.inl rfl) (pe_m (pv 1) T.cLine cN (hr.mono (by decide)) (pa_cons (pe_op op_add (pv 11) pe_int) (pa_cons (pe_fld (pv 0) rfl) pa_nil))))
      (pss_one (ps_expr (pe_bm PySem.F.plainAttrs_list PySem.F.slot_list_append PySem.F.type_list_append mt_append (pv 9) (pa_cons (pe_tup (pa_cons (pv 11) (pa_cons (pv 10) pa_nil))) pa_nil)))))))
      (pss_one (ps_ret (pe_mk cI (hr.mono (by decide)) (pa_cons (pv 2) (pa_cons (pv 3) (pa_cons (pe_tup (pa_cons (pv 4) (pa_cons (pv 5) (pa_cons (pv 6) pa_nil)))) (pa_cons (pv 7) (pa_cons (pv 8) (pa_cons (pe_callTy call_tuple_of (by rfl) T.tuple (by decide +kernel) (pa_cons (pv 9) pa_nil)) pa_nil)))))))))))))))))), ?_⟩
    refine ⟨_, rfl, L.p, dx0, _, rfl, e0, lookup_out (by decide +kernel), L, 2, "store", s.store, 0, 1000000, rfl, l0, (by rw [hws]; rfl), (by decide +kernel), (by rw [hws]; rfl), ⟨(by have := ok.store; have := ok.charge; have := ok.settle; have := ok.battery; have := ok.level; have := ok.reserve; omega), (by have := ok.store; have := ok.charge; have := ok.settle; have := ok.battery; have := ok.level; have := ok.reserve; omega), (by have := ok.store; have := ok.charge; have := ok.settle; have := ok.battery; have := ok.level; have := ok.reserve; omega), (by have := ok.store; have := ok.charge; have := ok.settle; have := ok.battery; have := ok.level; have := ok.reserve; omega)⟩, fun H1 q1 l1 => ?_⟩
    have o1 := o0.trans q1
    have D1 := hD.line l0 o1
    obtain ⟨dd1, ed1⟩ := D1.ob
    obtain ⟨dx1, n1, col1, e1⟩ := l1.ob
    refine ⟨_, rfl, L.p, dx1, _, rfl, e1, lookup_out (by decide +kernel), L, 4, "battery", s.battery, 0, 1000000, rfl, l1, (by rw [hws]; rfl), (by decide +kernel), (by rw [hws]; rfl), ⟨(by have := ok.store; have := ok.charge; have := ok.settle; have := ok.battery; have := ok.level; have := ok.reserve; omega), (by have := ok.store; have := ok.charge; have := ok.settle; have := ok.battery; have := ok.level; have := ok.reserve; omega), (by have := ok.store; have := ok.charge; have := ok.settle; have := ok.battery; have := ok.level; have := ok.reserve; omega), (by have := ok.store; have := ok.charge; have := ok.settle; have := ok.battery; have := ok.level; have := ok.reserve; omega)⟩, fun H2 q2 l2 => ?_⟩
    have o2 := o1.trans q2
    have D2 := hD.line l0 o2
    obtain ⟨dd2, ed2⟩ := D2.ob
    obtain ⟨dx2, n2, col2, e2⟩ := l2.ob
    refine ⟨_, rfl, L.p, dx2, _, rfl, e2, lookup_out (by decide +kernel), _, rfl, L, 6, "level", s.level, 0, s.battery, rfl, l2, (by rw [hws]; rfl), (by decide +kernel), (by rw [hws]; rfl), ⟨(by have := ok.store; have := ok.charge; have := ok.settle; have := ok.battery; have := ok.level; have := ok.reserve; omega), (by have := ok.store; have := ok.charge; have := ok.settle; have := ok.battery; have := ok.level; have := ok.reserve; omega), (by have := ok.store; have := ok.charge; have := ok.settle; have := ok.battery; have := ok.level; have := ok.reserve; omega), (by have := ok.store; have := ok.charge; have := ok.settle; have := ok.battery; have := ok.level; have := ok.reserve; omega)⟩, fun H3 q3 l3 => ?_⟩
    have o3 := o2.trans q3
    have D3 := hD.line l0 o3
    obtain ⟨dd3, ed3⟩ := D3.ob
    obtain ⟨dx3, n3, col3, e3⟩ := l3.ob
    refine ⟨_, rfl, L.p, dx3, _, rfl, e3, lookup_out (by decide +kernel), _, rfl, L, 8, "reserve", s.reserve, 0, s.level, rfl, l3, (by rw [hws]; rfl), (by decide +kernel), (by rw [hws]; rfl), ⟨(by have := ok.store; have := ok.charge; have := ok.settle; have := ok.battery; have := ok.level; have := ok.reserve; omega), (by have := ok.store; have := ok.charge; have := ok.settle; have := ok.battery; have := ok.level; have := ok.reserve; omega), (by have := ok.store; have := ok.charge; have := ok.settle; have := ok.battery; have := ok.level; have := ok.reserve; omega), (by have := ok.store; have := ok.charge; have := ok.settle; have := ok.battery; have := ok.level; have := ok.reserve; omega)⟩, fun H4 q4 l4 => ?_⟩
    have o4 := o3.trans q4
    have D4 := hD.line l0 o4
    obtain ⟨dd4, ed4⟩ := D4.ob
    obtain ⟨dx4, n4, col4, e4⟩ := l4.ob
    refine ⟨_, rfl, L.p, dx4, _, rfl, e4, lookup_out (by decide +kernel), L, 10, "charge", s.charge, 0, 1000, rfl, l4, (by rw [hws]; rfl), (by decide +kernel), (by rw [hws]; rfl), ⟨(by have := ok.store; have := ok.charge; have := ok.settle; have := ok.battery; have := ok.level; have := ok.reserve; omega), (by have := ok.store; have := ok.charge; have := ok.settle; have := ok.battery; have := ok.level; have := ok.reserve; omega), (by have := ok.store; have := ok.charge; have := ok.settle; have := ok.battery; have := ok.level; have := ok.reserve; omega), (by have := ok.store; have := ok.charge; have := ok.settle; have := ok.battery; have := ok.level; have := ok.reserve; omega)⟩, fun H5 q5 l5 => ?_⟩
    have o5 := o4.trans q5
    have D5 := hD.line l0 o5
    obtain ⟨dd5, ed5⟩ := D5.ob
    obtain ⟨dx5, n5, col5, e5⟩ := l5.ob
    refine ⟨_, rfl, L.p, dx5, _, rfl, e5, lookup_out (by decide +kernel), L, 12, "settle", s.settle, 0, 60, rfl, l5, (by rw [hws]; rfl), (by decide +kernel), (by rw [hws]; rfl), ⟨(by have := ok.store; have := ok.charge; have := ok.settle; have := ok.battery; have := ok.level; have := ok.reserve; omega), (by have := ok.store; have := ok.charge; have := ok.settle; have := ok.battery; have := ok.level; have := ok.reserve; omega), (by have := ok.store; have := ok.charge; have := ok.settle; have := ok.battery; have := ok.level; have := ok.reserve; omega), (by have := ok.store; have := ok.charge; have := ok.settle; have := ok.battery; have := ok.level; have := ok.reserve; omega)⟩, fun H6 q6 l6 => ?_⟩
    have o6 := o5.trans q6
    have D6 := hD.line l0 o6
    obtain ⟨dd6, ed6⟩ := D6.ob
    obtain ⟨dx6, n6, col6, e6⟩ := l6.ob
    refine ⟨_, rfl, L.p, dx6, _, rfl, e6, lookup_out (by decide +kernel), L, 14, "light", rfl, l6, (by rw [hws]; rfl), (by decide +kernel), fun H7 q7 l7 => ?_⟩
    have o7 := o6.trans q7
    have D7 := hD.line l0 o7
    obtain ⟨dd7, ed7⟩ := D7.ob
    obtain ⟨dx7, n7, col7, e7⟩ := l7.ob
    refine ⟨by decide, fun lt hlt => ?_⟩
    have np : L.p ≠ lt := ne_of_none e7 hlt
    have o8 : Off [L.p] H (upd H7 lt (.lst [])) := o7.to hlt
    have hlt0 : H lt = none := off_none o7 hlt (by simpa using np.symm)
    refine while_by (fun σ H' => ∃ (done rest : List (Int × Int)) (least : Int) (ps : List Addr) (x : Option V), σ = [some (.ref D.d), some (.ref L.p), some (.str s.name), some (.int s.store), some (.int s.battery), some (.int s.level), some (.int s.reserve), some (.int s.charge), some (.int s.settle), some (.ref lt), some (.int least), x] ∧
        s.light = done ++ rest ∧ LightOk least rest ∧ 0 ≤ least ∧ LineAt K H' L (15 + 2 * done.length) ∧ Off [L.p] H H' ∧ H' lt = some (.lst (ps.map V.ref)) ∧ All2 (PairAt H') ps done)
      mu10 ?_ ?_ ?_
    · exact ⟨[], s.light, 0, [], none, rfl, rfl, ok.light, Int.le_refl 0, l7.same (same_upd hlt), o8, upd_same, All2.nil⟩
    · rintro σ H1 ⟨done, rest, least, ps, x, rfl, hlight, hrest, hleast, la, oa, el, al⟩
      obtain ⟨dxa, na, cola, ea⟩ := la.ob
      have Da := hD.line l0 oa
      obtain ⟨dda, eda⟩ := Da.ob
      refine ⟨_, rfl, L.p, dxa, _, rfl, ea, lookup_out (by decide +kernel), L, _, rfl, la, _, rfl, ?_⟩
      have hlen : L.ws.length = 15 + 2 * s.light.length := by rw [hws]; exact sat_len s
      have hfew := ok.few
      cases rest with
      | nil =>
        have hd : done = s.light := by rw [hlight, List.append_nil]
        subst hd
        refine bF (by rw [decide_eq_true (by rw [hlen])]; rfl) ?_
        refine ⟨_, rfl, _, rfl, _, rfl, _, rfl, _, rfl, (by show 3 ≤ sizeLine; decide), fun p3 hp3 => ?_⟩
        have s3 : Same H1 (upd H1 p3 (.tup [.int s.battery, .int s.level, .int s.reserve])) := same_upd hp3
        refine ⟨_, rfl, _, rfl, _, rfl, lt, _, rfl, .inl ⟨SqL.of (s3 _ _ el), fun tt htt => ?_⟩⟩
        have s4 := s3.to (o := .tup (ps.map V.ref)) htt
        intro xa xd hxa hxd hne
        have sx := made0 (o1 := .own xa) (o2 := .ins (cl K "Satellite") xd []) hxa hxd
        refine ⟨xa, xd, p3, tt, ps, s, rfl, upd_same, sx _ _ (same_upd htt _ _ upd_same), sx _ _ upd_same, (al.mono fun _ _ z => (z.kp s4.kp).kp sx.kp), fun H' o' sa => ⟨rfl, ?_⟩⟩
        have s5 : Same H1 H' := s4.trans (made_same hxa hxd o')
        refine k H' xa (oa.trans s5.off) ?_ sa
        have := la.same s5
        rw [← hlen] at this
        exact this
      | cons q rest =>
        have hll : (done ++ q :: rest).length ≤ 2 := by rw [← hlight]; exact hfew
        have hll2 : done.length + (rest.length + 1) ≤ 2 := by simpa using hll
        refine bT (by rw [decide_eq_false (by rw [hlen, hlight, List.length_append, List.length_cons]; omega)]; rfl) ?_
        obtain ⟨h1, h2, h3, h4⟩ := hrest
        have hsp := spans_at done q rest
        rw [← hlight] at hsp
        have w1 : L.ws[15 + 2 * done.length]? = some (numS q.1) := by rw [hws, sat_at]; exact hsp.1
        have w2 : L.ws[15 + 2 * done.length + 1]? = some (numS q.2) := by rw [hws, Nat.add_assoc, sat_at]; exact hsp.2
        refine ⟨_, rfl, L.p, dxa, _, rfl, ea, lookup_out (by decide +kernel), _, rfl, _, rfl, D.d, _, dda, _, _, rfl, eda, T.cDraft, T.aDraft _ (mem_at 0), lookup_zip ndDraft (i := 0) rfl rfl, _, _, rfl, rfl, L, _, q.1, _, _, rfl, la, w1, ⟨by omega, by omega, by omega, by omega⟩, fun Hb qb lb => ?_⟩
        have ob := oa.trans qb
        have Db := hD.line l0 ob
        obtain ⟨ddb, edb⟩ := Db.ob
        obtain ⟨dxb, nb, colb, eb⟩ := lb.ob
        refine ⟨_, rfl, L.p, dxb, _, rfl, eb, lookup_out (by decide +kernel), _, rfl, _, _, rfl, rfl, _, rfl, D.d, _, ddb, _, _, rfl, edb, T.cDraft, T.aDraft _ (mem_at 0), lookup_zip ndDraft (i := 0) rfl rfl, L, _, q.2, _, _, rfl, lb, w2, ⟨by omega, by omega, by omega, by omega⟩, fun Hc qc lc => ?_⟩
        have oc := ob.trans qc
        have nlt : lt ≠ L.p := np.symm
        have elc : Hc lt = some (.lst (ps.map V.ref)) := qc _ _ (qb _ _ el (by simpa using nlt)) (by simpa using nlt)
        have kpc : Kp H1 Hc := la.kp (qb.trans qc)
        refine ⟨_, rfl, .inl ⟨rfl, _, SqL.of elc⟩, _, rfl, _, rfl, (by show 2 ≤ sizeLine; decide), fun p2 hp2 => ?_⟩
        have n2 : lt ≠ p2 := ne_of_none elc hp2
        have hps : ps.length = done.length := al.len
        refine ⟨lt, _, _, rfl, rfl, by rw [upd_ne n2]; exact elc, by rw [List.length_map]; exact lt_line (by omega), ?_⟩
        have lp2 : L.p ≠ p2 := by
          obtain ⟨_, _, _, z⟩ := lc.ob
          exact ne_of_none z hp2
        have kp2 := kp_off (H := upd Hc p2 (.tup [.int q.1, .int q.2])) (D := lt) (H' := upd (upd Hc p2 (.tup [.int q.1, .int q.2])) lt (.lst (ps.map V.ref ++ [.ref p2]))) (by rw [upd_ne n2]; exact elc) (Off.wr (by simp))
        have kp1 : Kp Hc (upd Hc p2 (.tup [.int q.1, .int q.2])) := (same_upd hp2).kp
        have lcw : L.wl ≠ lt := by
          intro z
          exact ne_of_none l0.wl hlt0 z
        refine ⟨⟨done ++ [q], rest, q.2, ps ++ [p2], _, rfl, by rw [hlight, List.append_assoc]; rfl, h4, by omega, ?_, ?_, by rw [upd_same, List.map_append]; rfl, ?_⟩, ?_⟩
        · rw [List.length_append, List.length_singleton, show 15 + 2 * (done.length + 1) = 15 + 2 * done.length + 1 + 1 by omega]
          exact (lc.same (same_upd hp2)).off (S := [lt]) (Off.wr (by simp)) (by simpa using nlt.symm) (by simpa using lcw)
        · intro b o e hb
          rw [upd_ne (ne_of_none e hlt0)]
          exact (oc.to hp2) b o e hb
        · exact (al.mono fun _ _ z => ((z.kp kpc).kp kp1).kp kp2).snoc (by show _ = _; rw [upd_ne n2.symm]; exact upd_same)
        · show (41 - q.2).toNat < (41 - least).toNat
          omega
    · rintro σ H' Q1 Q2 hm ⟨v, ex, a, dx, fs, e1, e2, e3, L', i, e4, l', c, e5, q⟩
      exact ⟨v, ex, a, dx, fs, e1, e2, e3, L', i, e4, l', c, e5, hm _ _ q⟩
theorem ok_readRcd {f : Addr} {fd : FuncData} (F : Fun K "read_recording" "read_recording" sReadRecording f fd) (T : Tx K mg)
    (cF : CalM P w K mg base 4 (cl K "Line") "take_field" ["self", "word", "least", "most"] [] (spTakeField K)) (cX : CalM P w K mg base 3 (cl K "Line") "expect" ["self", "word"] [] (spExpect K))
    (cK : CalM P w K mg base 3 (cl K "Line") "take_known" ["self", "names", "least"] [.int 0] (spTakeKnown K)) (cN : Cal P w K mg base 1 "names_of" ["things"] (spNamesOf K))
    (cI : CalI P w K mg base 1 "Recording" ["self", "name", "satellite", "window", "amounts", "urgency"] (spRcdInit K)) :
    FnOk P w K mg base CX0 5 f fd ["world", "line", "name"] (spReadRcd K) := by
  refine F.ok scReadRecording (fun vs H Q E h => ?_) (fun cdv A outer s H vs Q E hr h => ?_)
  · obtain ⟨D, w', L, r, j, rfl, _⟩ := h
    rfl
  · obtain ⟨D, w', L, r, j, rfl, hD, wok, hws, l0, ok, k⟩ := h
    obtain ⟨tm, gm⟩ := T.most
    obtain ⟨dx0, n0, col0, e0⟩ := l0.ob
    have o0 : Off [L.p] H H := Off.refl
    have D0 := hD
    obtain ⟨dd0, ed0⟩ := D0.ob
    obtain ⟨us, vsh⟩ := T.vShift
    refine ⟨_, pss_cons (ps_expr (pe_m (pv 1) T.cLine cX (hr.mono (by decide)) (pa_cons pe_str pa_nil)))
      (pss_cons (ps_set (i := 3) scReadRecording.nd rfl (Or.inl rfl) (pe_m (pv 1) T.cLine cK (hr.mono (by decide)) (pa_cons (pe_f cN (hr.mono (by decide)) (pa_cons (pe_fld (pv 0) rfl) pa_nil)) pa_nil)))
      (pss_cons (ps_set (i := 4) scReadRecording.nd rfl (Or.inl rfl) (pe_m (pv 1) T.cLine cF hr (pa_cons pe_str (pa_cons pe_int (pa_cons (pe_op op_sub (pe_fld (pv 0) rfl) pe_int) pa_nil)))))
      (pss_cons (ps_set (i := 5) scReadRecording.nd rfl (Or.inl rfl) (pe_m (pv 1) T.cLine cF hr (pa_cons pe_str (pa_cons (pv 4) (pa_cons (pe_callB (call_min2 rfl) (by rfl) T.min (by decide +kernel) (pa_cons (pe_op op_add (pv 4) (ClX.pe_cval (pe_gR T.gWorld))) (pa_cons (pe_op op_sub (pe_fld (pv 0) rfl) pe_int) pa_nil))) pa_nil)))))
      (pss_cons (ps_set (i := 6) scReadRecording.nd rfl (Or.inl rfl) (pe_m (pv 1) T.cLine cF hr (pa_cons pe_str (pa_cons pe_int (pa_cons (pe_op op_sub (pe_fld (pv 0) rfl) (pv 5)) pa_nil)))))
      (pss_cons (ps_set (i := 7) scReadRecording.nd rfl (Or.inl rfl) (pe_m (pv 1) T.cLine cF hr (pa_cons pe_str (pa_cons pe_int (pa_cons (pe_gI gm) pa_nil)))))
      (pss_cons (ps_set (i := 8) scReadRecording.nd rfl (Or.inl rfl) (pe_m (pv 1) T.cLine cF hr (pa_cons pe_str (pa_cons pe_int (pa_cons (pe_gI gm) pa_nil)))))
      (pss_cons (ps_set (i := 9) scReadRecording.nd rfl (Or.inl rfl) (pe_m (pv 1) T.cLine cF hr (pa_cons pe_str (pa_cons pe_int (pa_cons pe_int pa_nil)))))
      (pss_cons (ps_set (i := 10) scReadRecording.nd rfl (Or.inl rfl) (pe_m (pv 1) T.cLine cF hr (pa_cons pe_str (pa_cons pe_int (pa_cons pe_int pa_nil)))))
      (pss_cons (ps_set (i := 11) scReadRecording.nd rfl (Or.inl rfl) (pe_m (pv 1) T.cLine cF hr (pa_cons pe_str (pa_cons pe_int (pa_cons (pe_fld (pv 0) rfl) pa_nil)))))
      (pss_one (ps_ret (pe_mk cI (hr.mono (by decide)) (pa_cons (pv 2) (pa_cons (pv 3) (pa_cons (pe_tup (pa_cons (pv 4) (pa_cons (pv 5) (pa_cons (pv 6) pa_nil)))) (pa_cons (pe_tup (pa_cons (pv 7) (pa_cons (pv 8) pa_nil))) (pa_cons (pe_tup (pa_cons (pv 9) (pa_cons (pv 10) (pa_cons (pv 11) pa_nil)))) pa_nil))))))))))))))))), ?_⟩
    refine ⟨_, rfl, L.p, dx0, _, rfl, e0, lookup_out (by decide +kernel), L, 2, "by", rfl, l0, (by rw [hws]; rfl), (by decide +kernel), fun H1 q1 l1 => ?_⟩
    have o1 := o0.trans q1
    have D1 := hD.line l0 o1
    obtain ⟨dd1, ed1⟩ := D1.ob
    obtain ⟨dx1, n1, col1, e1⟩ := l1.ob
    refine ⟨_, rfl, L.p, dx1, _, rfl, e1, lookup_out (by decide +kernel), _, rfl, D.d, _, dd1, _, _, rfl, ed1, T.cDraft, T.aDraft _ (mem_at 1), lookup_zip ndDraft (i := 1) rfl rfl, D.a1, D.q1, w'.sats.map (·.name), rfl, D1.l1, all2_mapR (D1.s1.mono fun _ _ z => named_sat T z), (by rw [D1.s1.len]; have := wok.nsats; omega), fun Hn1 tn1 sn1 _ en1 => ?_⟩
    refine ⟨L, 3, r.sat, tn1, w'.sats.map (·.name), nm "s" (r.sat : Int), rfl, l1.same sn1, en1, sat_names wok ok.sat, fun m hm => sat_first wok ok.sat hm, (by rw [List.length_map]; have := wok.nsats; omega), (nm_ok (by omega) (by have := ok.sat; have := wok.nsats; omega)).1.1, (by rw [hws]; rfl), fun H2 q2' l2 => ?_⟩
    have q2 : Off [L.p] H1 H2 := sn1.off.trans q2'
    have o2 := o1.trans q2
    have D2 := hD.line l0 o2
    obtain ⟨dd2, ed2⟩ := D2.ob
    obtain ⟨dx2, n2, col2, e2⟩ := l2.ob
    refine ⟨_, rfl, L.p, dx2, _, rfl, e2, lookup_out (by decide +kernel), _, rfl, D.d, _, dd2, _, _, rfl, ed2, T.cDraft, T.aDraft _ (mem_at 0), lookup_zip ndDraft (i := 0) rfl rfl, _, _, rfl, rfl, L, 4, "from", r.earliest, 0, (40 - 1), rfl, l2, (by rw [hws]; rfl), (by decide +kernel), (by rw [hws]; rfl), ⟨(by have := ok.earliest; have := ok.latest; have := ok.length; have := ok.size; have := ok.energy; have := ok.worth; have := ok.rank; have := ok.deadline; omega), (by have := ok.earliest; have := ok.latest; have := ok.length; have := ok.size; have := ok.energy; have := ok.worth; have := ok.rank; have := ok.deadline; omega), (by have := ok.earliest; have := ok.latest; have := ok.length; have := ok.size; have := ok.energy; have := ok.worth; have := ok.rank; have := ok.deadline; omega), (by have := ok.earliest; have := ok.latest; have := ok.length; have := ok.size; have := ok.energy; have := ok.worth; have := ok.rank; have := ok.deadline; omega)⟩, fun H3 q3 l3 => ?_⟩
    have o3 := o2.trans q3
    have D3 := hD.line l0 o3
    obtain ⟨dd3, ed3⟩ := D3.ob
    obtain ⟨dx3, n3, col3, e3⟩ := l3.ob
    refine ⟨_, rfl, L.p, dx3, _, rfl, e3, lookup_out (by decide +kernel), _, rfl, _, rfl, cl K "World", _, _, us, rfl, T.rWld, vsh, _, _, rfl, rfl, _, rfl, D.d, _, dd3, _, _, rfl, ed3, T.cDraft, T.aDraft _ (mem_at 0), lookup_zip ndDraft (i := 0) rfl rfl, _, _, rfl, rfl, _, _, rfl, L, 6, "to", r.latest, r.earliest, (if (40 - 1 : Int) < r.earliest + 20 then (40 - 1) else r.earliest + 20), rfl, l3, (by rw [hws]; rfl), (by decide +kernel), (by rw [hws]; rfl), ⟨(by have := ok.earliest; have := ok.latest; have := ok.length; have := ok.size; have := ok.energy; have := ok.worth; have := ok.rank; have := ok.deadline; omega), (by have := ok.earliest; have := ok.latest; have := ok.length; have := ok.size; have := ok.energy; have := ok.worth; have := ok.rank; have := ok.deadline; omega), (by have := ok.earliest; have := ok.latest; have := ok.length; have := ok.size; have := ok.energy; have := ok.worth; have := ok.rank; have := ok.deadline; omega), (by have := ok.earliest; have := ok.latest; split <;> omega)⟩, fun H4 q4 l4 => ?_⟩
    have o4 := o3.trans q4
    have D4 := hD.line l0 o4
    obtain ⟨dd4, ed4⟩ := D4.ob
    obtain ⟨dx4, n4, col4, e4⟩ := l4.ob
    refine ⟨_, rfl, L.p, dx4, _, rfl, e4, lookup_out (by decide +kernel), _, rfl, D.d, _, dd4, _, _, rfl, ed4, T.cDraft, T.aDraft _ (mem_at 0), lookup_zip ndDraft (i := 0) rfl rfl, _, rfl, _, _, rfl, rfl, L, 8, "length", r.length, 1, (40 - r.latest), rfl, l4, (by rw [hws]; rfl), (by decide +kernel), (by rw [hws]; rfl), ⟨(by have := ok.earliest; have := ok.latest; have := ok.length; have := ok.size; have := ok.energy; have := ok.worth; have := ok.rank; have := ok.deadline; omega), (by have := ok.earliest; have := ok.latest; have := ok.length; have := ok.size; have := ok.energy; have := ok.worth; have := ok.rank; have := ok.deadline; omega), (by have := ok.earliest; have := ok.latest; have := ok.length; have := ok.size; have := ok.energy; have := ok.worth; have := ok.rank; have := ok.deadline; omega), (by have := ok.earliest; have := ok.latest; have := ok.length; have := ok.size; have := ok.energy; have := ok.worth; have := ok.rank; have := ok.deadline; omega)⟩, fun H5 q5 l5 => ?_⟩
    have o5 := o4.trans q5
    have D5 := hD.line l0 o5
    obtain ⟨dd5, ed5⟩ := D5.ob
    obtain ⟨dx5, n5, col5, e5⟩ := l5.ob
    refine ⟨_, rfl, L.p, dx5, _, rfl, e5, lookup_out (by decide +kernel), L, 10, "size", r.size, 0, 1000000, rfl, l5, (by rw [hws]; rfl), (by decide +kernel), (by rw [hws]; rfl), ⟨(by have := ok.earliest; have := ok.latest; have := ok.length; have := ok.size; have := ok.energy; have := ok.worth; have := ok.rank; have := ok.deadline; omega), (by have := ok.earliest; have := ok.latest; have := ok.length; have := ok.size; have := ok.energy; have := ok.worth; have := ok.rank; have := ok.deadline; omega), (by have := ok.earliest; have := ok.latest; have := ok.length; have := ok.size; have := ok.energy; have := ok.worth; have := ok.rank; have := ok.deadline; omega), (by have := ok.earliest; have := ok.latest; have := ok.length; have := ok.size; have := ok.energy; have := ok.worth; have := ok.rank; have := ok.deadline; omega)⟩, fun H6 q6 l6 => ?_⟩
    have o6 := o5.trans q6
    have D6 := hD.line l0 o6
    obtain ⟨dd6, ed6⟩ := D6.ob
    obtain ⟨dx6, n6, col6, e6⟩ := l6.ob
    refine ⟨_, rfl, L.p, dx6, _, rfl, e6, lookup_out (by decide +kernel), L, 12, "energy", r.energy, 0, 1000000, rfl, l6, (by rw [hws]; rfl), (by decide +kernel), (by rw [hws]; rfl), ⟨(by have := ok.earliest; have := ok.latest; have := ok.length; have := ok.size; have := ok.energy; have := ok.worth; have := ok.rank; have := ok.deadline; omega), (by have := ok.earliest; have := ok.latest; have := ok.length; have := ok.size; have := ok.energy; have := ok.worth; have := ok.rank; have := ok.deadline; omega), (by have := ok.earliest; have := ok.latest; have := ok.length; have := ok.size; have := ok.energy; have := ok.worth; have := ok.rank; have := ok.deadline; omega), (by have := ok.earliest; have := ok.latest; have := ok.length; have := ok.size; have := ok.energy; have := ok.worth; have := ok.rank; have := ok.deadline; omega)⟩, fun H7 q7 l7 => ?_⟩
    have o7 := o6.trans q7
    have D7 := hD.line l0 o7
    obtain ⟨dd7, ed7⟩ := D7.ob
    obtain ⟨dx7, n7, col7, e7⟩ := l7.ob
    refine ⟨_, rfl, L.p, dx7, _, rfl, e7, lookup_out (by decide +kernel), L, 14, "worth", r.worth, 1, 1000, rfl, l7, (by rw [hws]; rfl), (by decide +kernel), (by rw [hws]; rfl), ⟨(by have := ok.earliest; have := ok.latest; have := ok.length; have := ok.size; have := ok.energy; have := ok.worth; have := ok.rank; have := ok.deadline; omega), (by have := ok.earliest; have := ok.latest; have := ok.length; have := ok.size; have := ok.energy; have := ok.worth; have := ok.rank; have := ok.deadline; omega), (by have := ok.earliest; have := ok.latest; have := ok.length; have := ok.size; have := ok.energy; have := ok.worth; have := ok.rank; have := ok.deadline; omega), (by have := ok.earliest; have := ok.latest; have := ok.length; have := ok.size; have := ok.energy; have := ok.worth; have := ok.rank; have := ok.deadline; omega)⟩, fun H8 q8 l8 => ?_⟩
    have o8 := o7.trans q8
    have D8 := hD.line l0 o8
    obtain ⟨dd8, ed8⟩ := D8.ob
    obtain ⟨dx8, n8, col8, e8⟩ := l8.ob
    refine ⟨_, rfl, L.p, dx8, _, rfl, e8, lookup_out (by decide +kernel), L, 16, "rank", r.rank, 1, 3, rfl, l8, (by rw [hws]; rfl), (by decide +kernel), (by rw [hws]; rfl), ⟨(by have := ok.earliest; have := ok.latest; have := ok.length; have := ok.size; have := ok.energy; have := ok.worth; have := ok.rank; have := ok.deadline; omega), (by have := ok.earliest; have := ok.latest; have := ok.length; have := ok.size; have := ok.energy; have := ok.worth; have := ok.rank; have := ok.deadline; omega), (by have := ok.earliest; have := ok.latest; have := ok.length; have := ok.size; have := ok.energy; have := ok.worth; have := ok.rank; have := ok.deadline; omega), (by have := ok.earliest; have := ok.latest; have := ok.length; have := ok.size; have := ok.energy; have := ok.worth; have := ok.rank; have := ok.deadline; omega)⟩, fun H9 q9 l9 => ?_⟩
    have o9 := o8.trans q9
    have D9 := hD.line l0 o9
    obtain ⟨dd9, ed9⟩ := D9.ob
    obtain ⟨dx9, n9, col9, e9⟩ := l9.ob
    refine ⟨_, rfl, L.p, dx9, _, rfl, e9, lookup_out (by decide +kernel), _, rfl, D.d, _, dd9, _, _, rfl, ed9, T.cDraft, T.aDraft _ (mem_at 0), lookup_zip ndDraft (i := 0) rfl rfl, L, 18, "until", r.deadline, 0, 40, rfl, l9, (by rw [hws]; rfl), (by decide +kernel), (by rw [hws]; rfl), ⟨(by have := ok.earliest; have := ok.latest; have := ok.length; have := ok.size; have := ok.energy; have := ok.worth; have := ok.rank; have := ok.deadline; omega), (by have := ok.earliest; have := ok.latest; have := ok.length; have := ok.size; have := ok.energy; have := ok.worth; have := ok.rank; have := ok.deadline; omega), (by have := ok.earliest; have := ok.latest; have := ok.length; have := ok.size; have := ok.energy; have := ok.worth; have := ok.rank; have := ok.deadline; omega), (by have := ok.earliest; have := ok.latest; have := ok.length; have := ok.size; have := ok.energy; have := ok.worth; have := ok.rank; have := ok.deadline; omega)⟩, fun H10 q10 l10 => ?_⟩
    have o10 := o9.trans q10
    have D10 := hD.line l0 o10
    obtain ⟨dd10, ed10⟩ := D10.ob
    obtain ⟨dx10, n10, col10, e10⟩ := l10.ob
    refine ⟨_, rfl, _, rfl, _, rfl, _, rfl, _, rfl, (by show 3 ≤ sizeLine; decide), fun p1 hp1 => ?_⟩
    refine ⟨_, rfl, _, rfl, (by show 2 ≤ sizeLine; decide), fun p2 hp2 => ?_⟩
    refine ⟨_, rfl, _, rfl, _, rfl, (by show 3 ≤ sizeLine; decide), fun p3 hp3 => ?_⟩
    intro xa xd hxa hxd hne
    have sx := made0 (o1 := .own xa) (o2 := .ins (cl K "Recording") xd []) hxa hxd
    refine ⟨xa, xd, p1, p2, p3, r, rfl, upd_same, sx _ _ (same_upd hp3 _ _ (same_upd hp2 _ _ upd_same)), sx _ _ (same_upd hp3 _ _ upd_same), sx _ _ upd_same, fun H' o' sa => ⟨rfl, ?_⟩⟩
    have s5 : Same H10 H' := ((((same_upd hp1).to hp2).to hp3)).trans (made_same hxa hxd o')
    refine k H' xa (o10.trans s5.off) ?_ sa
    have := l10.same s5
    rw [show 18 + 2 = L.ws.length by rw [hws]; rfl] at this
    exact this
theorem ok_readPas {f : Addr} {fd : FuncData} (F : Fun K "read_pass" "read_pass" sReadPass f fd) (T : Tx K mg)
    (cF : CalM P w K mg base 4 (cl K "Line") "take_field" ["self", "word", "least", "most"] [] (spTakeField K)) (cX : CalM P w K mg base 3 (cl K "Line") "expect" ["self", "word"] [] (spExpect K))
    (cK : CalM P w K mg base 3 (cl K "Line") "take_known" ["self", "names", "least"] [.int 0] (spTakeKnown K)) (cN : Cal P w K mg base 1 "names_of" ["things"] (spNamesOf K))
    (cI : CalI P w K mg base 1 "Pass" ["self", "name", "satellite", "station", "span", "amounts"] (spPasInit K)) :
    FnOk P w K mg base CX0 5 f fd ["world", "line", "name"] (spReadPas K) := by
  refine F.ok scReadPass (fun vs H Q E h => ?_) (fun cdv A outer s H vs Q E hr h => ?_)
  · obtain ⟨D, w', L, r, j, rfl, _⟩ := h
    rfl
  · obtain ⟨D, w', L, r, j, rfl, hD, wok, hws, l0, ok, k⟩ := h
    obtain ⟨tm, gm⟩ := T.most
    obtain ⟨dx0, n0, col0, e0⟩ := l0.ob
    have o0 : Off [L.p] H H := Off.refl
    have D0 := hD
    obtain ⟨dd0, ed0⟩ := D0.ob
    refine ⟨_, pss_cons (ps_expr (pe_m (pv 1) T.cLine cX (hr.mono (by decide)) (pa_cons pe_str pa_nil)))
      (pss_cons (ps_set (i := 3) scReadPass.nd rfl (Or.inl rfl) (pe_m (pv 1) T.cLine cK (hr.mono (by decide)) (pa_cons (pe_f cN (hr.mono (by decide)) (pa_cons (pe_fld (pv 0) rfl) pa_nil)) pa_nil)))
      (pss_cons (ps_expr (pe_m (pv 1) T.cLine cX (hr.mono (by decide)) (pa_cons pe_str pa_nil)))
      (pss_cons (ps_set (i := 4) scReadPass.nd rfl (Or.inl rfl) (pe_m (pv 1) T.cLine cK (hr.mono (by decide)) (pa_cons (pe_f cN (hr.mono (by decide)) (pa_cons (pe_fld (pv 0) rfl) pa_nil)) pa_nil)))
      (pss_cons (ps_set (i := 5) scReadPass.nd rfl (Or.inl rfl) (pe_m (pv 1) T.cLine cF hr (pa_cons pe_str (pa_cons pe_int (pa_cons (pe_op op_sub (pe_fld (pv 0) rfl) pe_int) pa_nil)))))
      (pss_cons (ps_set (i := 6) scReadPass.nd rfl (Or.inl rfl) (pe_m (pv 1) T.cLine cF hr (pa_cons pe_str (pa_cons (pe_op op_add (pv 5) pe_int) (pa_cons (pe_fld (pv 0) rfl) pa_nil)))))
      (pss_cons (ps_set (i := 7) scReadPass.nd rfl (Or.inl rfl) (pe_m (pv 1) T.cLine cF hr (pa_cons pe_str (pa_cons pe_int (pa_cons (pe_gI gm) pa_nil)))))
      (pss_cons (ps_set (i := 8) scReadPass.nd rfl (Or.inl rfl) (pe_m (pv 1) T.cLine cF hr (pa_cons pe_str (pa_cons pe_int (pa_cons (pe_gI gm) pa_nil)))))
      (pss_cons (ps_set (i := 9) scReadPass.nd rfl (Or.inl rfl) (pe_m (pv 1) T.cLine cF hr (pa_cons pe_str (pa_cons pe_int (pa_cons pe_int pa_nil)))))
      (pss_one (ps_ret (pe_mk cI (hr.mono (by decide)) (pa_cons (pv 2) (pa_cons (pv 3) (pa_cons (pv 4) (pa_cons (pe_tup (pa_cons (pv 5) (pa_cons (pv 6) pa_nil))) (pa_cons (pe_tup (pa_cons (pv 7) (pa_cons (pv 8) (pa_cons (pv 9) pa_nil)))) pa_nil)))))))))))))))), ?_⟩
    refine ⟨_, rfl, L.p, dx0, _, rfl, e0, lookup_out (by decide +kernel), L, 2, "by", rfl, l0, (by rw [hws]; rfl), (by decide +kernel), fun H1 q1 l1 => ?_⟩
    have o1 := o0.trans q1
    have D1 := hD.line l0 o1
    obtain ⟨dd1, ed1⟩ := D1.ob
    obtain ⟨dx1, n1, col1, e1⟩ := l1.ob
    refine ⟨_, rfl, L.p, dx1, _, rfl, e1, lookup_out (by decide +kernel), _, rfl, D.d, _, dd1, _, _, rfl, ed1, T.cDraft, T.aDraft _ (mem_at 1), lookup_zip ndDraft (i := 1) rfl rfl, D.a1, D.q1, w'.sats.map (·.name), rfl, D1.l1, all2_mapR (D1.s1.mono fun _ _ z => named_sat T z), (by rw [D1.s1.len]; have := wok.nsats; omega), fun Hn1 tn1 sn1 _ en1 => ?_⟩
    refine ⟨L, 3, r.sat, tn1, w'.sats.map (·.name), nm "s" (r.sat : Int), rfl, l1.same sn1, en1, sat_names wok ok.sat, fun m hm => sat_first wok ok.sat hm, (by rw [List.length_map]; have := wok.nsats; omega), (nm_ok (by omega) (by have := ok.sat; have := wok.nsats; omega)).1.1, (by rw [hws]; rfl), fun H2 q2' l2 => ?_⟩
    have q2 : Off [L.p] H1 H2 := sn1.off.trans q2'
    have o2 := o1.trans q2
    have D2 := hD.line l0 o2
    obtain ⟨dd2, ed2⟩ := D2.ob
    obtain ⟨dx2, n2, col2, e2⟩ := l2.ob
    refine ⟨_, rfl, L.p, dx2, _, rfl, e2, lookup_out (by decide +kernel), L, 4, "over", rfl, l2, (by rw [hws]; rfl), (by decide +kernel), fun H3 q3 l3 => ?_⟩
    have o3 := o2.trans q3
    have D3 := hD.line l0 o3
    obtain ⟨dd3, ed3⟩ := D3.ob
    obtain ⟨dx3, n3, col3, e3⟩ := l3.ob
    refine ⟨_, rfl, L.p, dx3, _, rfl, e3, lookup_out (by decide +kernel), _, rfl, D.d, _, dd3, _, _, rfl, ed3, T.cDraft, T.aDraft _ (mem_at 2), lookup_zip ndDraft (i := 2) rfl rfl, D.a2, D.q2, w'.stas.map (·.name), rfl, D3.l2, all2_mapR (D3.s2.mono fun _ _ z => named_sta T z), (by rw [D3.s2.len]; have := wok.nstas; omega), fun Hn3 tn3 sn3 _ en3 => ?_⟩
    refine ⟨L, 5, r.sta, tn3, w'.stas.map (·.name), nm "t" (r.sta : Int), rfl, l3.same sn3, en3, sta_names wok ok.sta, fun m hm => sta_first wok ok.sta hm, (by rw [List.length_map]; have := wok.nstas; omega), (nm_ok (by omega) (by have := ok.sta; have := wok.nstas; omega)).2.1.1, (by rw [hws]; rfl), fun H4 q4' l4 => ?_⟩
    have q4 : Off [L.p] H3 H4 := sn3.off.trans q4'
    have o4 := o3.trans q4
    have D4 := hD.line l0 o4
    obtain ⟨dd4, ed4⟩ := D4.ob
    obtain ⟨dx4, n4, col4, e4⟩ := l4.ob
    refine ⟨_, rfl, L.p, dx4, _, rfl, e4, lookup_out (by decide +kernel), _, rfl, D.d, _, dd4, _, _, rfl, ed4, T.cDraft, T.aDraft _ (mem_at 0), lookup_zip ndDraft (i := 0) rfl rfl, _, _, rfl, rfl, L, 6, "from", r.first, 0, (40 - 1), rfl, l4, (by rw [hws]; rfl), (by decide +kernel), (by rw [hws]; rfl), ⟨(by have := ok.span; have := ok.room; have := ok.energy; have := ok.fee; omega), (by have := ok.span; have := ok.room; have := ok.energy; have := ok.fee; omega), (by have := ok.span; have := ok.room; have := ok.energy; have := ok.fee; omega), (by have := ok.span; have := ok.room; have := ok.energy; have := ok.fee; omega)⟩, fun H5 q5 l5 => ?_⟩
    have o5 := o4.trans q5
    have D5 := hD.line l0 o5
    obtain ⟨dd5, ed5⟩ := D5.ob
    obtain ⟨dx5, n5, col5, e5⟩ := l5.ob
    refine ⟨_, rfl, L.p, dx5, _, rfl, e5, lookup_out (by decide +kernel), _, rfl, _, _, rfl, rfl, _, rfl, D.d, _, dd5, _, _, rfl, ed5, T.cDraft, T.aDraft _ (mem_at 0), lookup_zip ndDraft (i := 0) rfl rfl, L, 8, "to", r.last, (r.first + 1), 40, rfl, l5, (by rw [hws]; rfl), (by decide +kernel), (by rw [hws]; rfl), ⟨(by have := ok.span; have := ok.room; have := ok.energy; have := ok.fee; omega), (by have := ok.span; have := ok.room; have := ok.energy; have := ok.fee; omega), (by have := ok.span; have := ok.room; have := ok.energy; have := ok.fee; omega), (by have := ok.span; have := ok.room; have := ok.energy; have := ok.fee; omega)⟩, fun H6 q6 l6 => ?_⟩
    have o6 := o5.trans q6
    have D6 := hD.line l0 o6
    obtain ⟨dd6, ed6⟩ := D6.ob
    obtain ⟨dx6, n6, col6, e6⟩ := l6.ob
    refine ⟨_, rfl, L.p, dx6, _, rfl, e6, lookup_out (by decide +kernel), L, 10, "room", r.room, 0, 1000000, rfl, l6, (by rw [hws]; rfl), (by decide +kernel), (by rw [hws]; rfl), ⟨(by have := ok.span; have := ok.room; have := ok.energy; have := ok.fee; omega), (by have := ok.span; have := ok.room; have := ok.energy; have := ok.fee; omega), (by have := ok.span; have := ok.room; have := ok.energy; have := ok.fee; omega), (by have := ok.span; have := ok.room; have := ok.energy; have := ok.fee; omega)⟩, fun H7 q7 l7 => ?_⟩
    have o7 := o6.trans q7
    have D7 := hD.line l0 o7
    obtain ⟨dd7, ed7⟩ := D7.ob
    obtain ⟨dx7, n7, col7, e7⟩ := l7.ob
    refine ⟨_, rfl, L.p, dx7, _, rfl, e7, lookup_out (by decide +kernel), L, 12, "energy", r.energy, 0, 1000000, rfl, l7, (by rw [hws]; rfl), (by decide +kernel), (by rw [hws]; rfl), ⟨(by have := ok.span; have := ok.room; have := ok.energy; have := ok.fee; omega), (by have := ok.span; have := ok.room; have := ok.energy; have := ok.fee; omega), (by have := ok.span; have := ok.room; have := ok.energy; have := ok.fee; omega), (by have := ok.span; have := ok.room; have := ok.energy; have := ok.fee; omega)⟩, fun H8 q8 l8 => ?_⟩
    have o8 := o7.trans q8
    have D8 := hD.line l0 o8
    obtain ⟨dd8, ed8⟩ := D8.ob
    obtain ⟨dx8, n8, col8, e8⟩ := l8.ob
    refine ⟨_, rfl, L.p, dx8, _, rfl, e8, lookup_out (by decide +kernel), L, 14, "fee", r.fee, 0, 1000, rfl, l8, (by rw [hws]; rfl), (by decide +kernel), (by rw [hws]; rfl), ⟨(by have := ok.span; have := ok.room; have := ok.energy; have := ok.fee; omega), (by have := ok.span; have := ok.room; have := ok.energy; have := ok.fee; omega), (by have := ok.span; have := ok.room; have := ok.energy; have := ok.fee; omega), (by have := ok.span; have := ok.room; have := ok.energy; have := ok.fee; omega)⟩, fun H9 q9 l9 => ?_⟩
    have o9 := o8.trans q9
    have D9 := hD.line l0 o9
    obtain ⟨dd9, ed9⟩ := D9.ob
    obtain ⟨dx9, n9, col9, e9⟩ := l9.ob
    refine ⟨_, rfl, _, rfl, _, rfl, _, rfl, _, rfl, (by show 2 ≤ sizeLine; decide), fun p1 hp1 => ?_⟩
    refine ⟨_, rfl, _, rfl, _, rfl, (by show 3 ≤ sizeLine; decide), fun p2 hp2 => ?_⟩
    intro xa xd hxa hxd hne
    have sx := made0 (o1 := .own xa) (o2 := .ins (cl K "Pass") xd []) hxa hxd
    refine ⟨xa, xd, p1, p2, r, rfl, upd_same, sx _ _ (same_upd hp2 _ _ upd_same), sx _ _ upd_same, fun H' o' sa => ⟨rfl, ?_⟩⟩
    have s5 : Same H9 H' := ((same_upd hp1).to hp2).trans (made_same hxa hxd o')
    refine k H' xa (o9.trans s5.off) ?_ sa
    have := l9.same s5
    rw [show 14 + 2 = L.ws.length by rw [hws]; rfl] at this
    exact this
end
end K59
set_option maxHeartbeats 4000000
/-! read_line (printed by gen_rl.py) -/
namespace K59
open PySem PySem.Spec PyProof.Rows L2 TL
theorem nd_ne {α : Type} {l : List α} {a b : α} (h : l.Nodup) (i j : Nat) (hi : l[i]? = some a) (hj : l[j]? = some b) (n : i ≠ j) : a ≠ b := by
  intro e
  subst e
  exact n ((List.getElem?_inj (List.getElem?_eq_some_iff.mp hi).1 h).mp (hi.trans hj.symm))
theorem all2_mapR' {α β γ : Type} {F : α → γ → Prop} {f : β → γ} {as : List α} {bs : List β} (h : All2 (fun a b => F a (f b)) as bs) : All2 F as (bs.map f) := by
  refine ⟨by simp [h.len], fun i a c ha hc => ?_⟩
  rw [List.getElem?_map] at hc
  cases q : bs[i]? with
  | none => rw [q] at hc; cases hc
  | some b =>
    rw [q] at hc
    cases hc
    exact h.at_ i a b ha q
theorem push1 {K : PySem.W.Frag} {H : Hp} {D : Dr} {w : Wld} {q : Addr} {s : Sat} (h : DraftAt K H D w) (sa : SatAt K H q s) : DraftAt K (upd H D.a1 (.lst (D.q1.map V.ref ++ [V.ref q]))) { D with q1 := D.q1 ++ [q] } (w.add (.sat s)) := by
  have kp := kp_off h.l1 (Off.wr (p := D.a1) (o := .lst (D.q1.map V.ref ++ [V.ref q])) (by simp))
  obtain ⟨dx, e⟩ := h.ob
  exact ⟨⟨dx, kp.ins _ _ _ _ _ _ e (lookup_zip ndDraft (i := 0) rfl rfl) (by decide +kernel)⟩, by rw [upd_same, List.map_append]; rfl, by rw [upd_ne (nd_ne h.nd 1 0 rfl rfl (by decide))]; exact h.l2, by rw [upd_ne (nd_ne h.nd 2 0 rfl rfl (by decide))]; exact h.l3, by rw [upd_ne (nd_ne h.nd 3 0 rfl rfl (by decide))]; exact h.l4, (h.s1.mono fun _ _ z => z.kp kp).snoc (sa.kp kp), (h.s2.mono fun _ _ z => z.kp kp), (h.s3.mono fun _ _ z => z.kp kp), (h.s4.mono fun _ _ z => z.kp kp), h.nd⟩
theorem new_sat {w : Wld} (ok : WldOk w) (hl : w.sats.length < 8) : nm "s" (w.sats.length : Int) ∉ w.sats.map (·.name) := by
  intro hm
  obtain ⟨s, hs, e⟩ := List.mem_map.mp hm
  obtain ⟨i, hi⟩ := List.mem_iff_getElem?.mp hs
  have hlt := (List.getElem?_eq_some_iff.mp hi).1
  rw [(ok.sats i s hi).name] at e
  have := inj_of injS (by omega) hl e
  omega
theorem named2_sat {K : PySem.W.Frag} {mg : Str → Option Value} {H : Hp} {a : Addr} {s : Sat} (T : Tx K mg) (h : SatAt K H a s) : NamedAt K H a s.name := by
  obtain ⟨dx, t, ts, e, _⟩ := h.ex
  exact ⟨_, dx, _, e, T.cSat, T.aSat _ (mem_at 0), lookup_zip ndSat (i := 0) rfl rfl⟩
theorem push2 {K : PySem.W.Frag} {H : Hp} {D : Dr} {w : Wld} {q : Addr} {s : Sta} (h : DraftAt K H D w) (sa : StaAt K H q s) : DraftAt K (upd H D.a2 (.lst (D.q2.map V.ref ++ [V.ref q]))) { D with q2 := D.q2 ++ [q] } (w.add (.sta s)) := by
  have kp := kp_off h.l2 (Off.wr (p := D.a2) (o := .lst (D.q2.map V.ref ++ [V.ref q])) (by simp))
  obtain ⟨dx, e⟩ := h.ob
  exact ⟨⟨dx, kp.ins _ _ _ _ _ _ e (lookup_zip ndDraft (i := 0) rfl rfl) (by decide +kernel)⟩, by rw [upd_ne (nd_ne h.nd 0 1 rfl rfl (by decide))]; exact h.l1, by rw [upd_same, List.map_append]; rfl, by rw [upd_ne (nd_ne h.nd 2 1 rfl rfl (by decide))]; exact h.l3, by rw [upd_ne (nd_ne h.nd 3 1 rfl rfl (by decide))]; exact h.l4, (h.s1.mono fun _ _ z => z.kp kp), (h.s2.mono fun _ _ z => z.kp kp).snoc (sa.kp kp), (h.s3.mono fun _ _ z => z.kp kp), (h.s4.mono fun _ _ z => z.kp kp), h.nd⟩
theorem new_sta {w : Wld} (ok : WldOk w) (hl : w.stas.length < 8) : nm "t" (w.stas.length : Int) ∉ w.stas.map (·.name) := by
  intro hm
  obtain ⟨s, hs, e⟩ := List.mem_map.mp hm
  obtain ⟨i, hi⟩ := List.mem_iff_getElem?.mp hs
  have hlt := (List.getElem?_eq_some_iff.mp hi).1
  rw [(ok.stas i s hi).name] at e
  have := inj_of injT (by omega) hl e
  omega
theorem named2_sta {K : PySem.W.Frag} {mg : Str → Option Value} {H : Hp} {a : Addr} {s : Sta} (T : Tx K mg) (h : StaAt K H a s) : NamedAt K H a s.name := by
  obtain ⟨dx, e⟩ := h.ex
  exact ⟨_, dx, _, e, T.cSta, T.aSta _ (mem_at 0), lookup_zip ndSta (i := 0) rfl rfl⟩
theorem push3 {K : PySem.W.Frag} {H : Hp} {D : Dr} {w : Wld} {q : Addr} {s : Rcd} (h : DraftAt K H D w) (sa : RcdAt K H q s) : DraftAt K (upd H D.a3 (.lst (D.q3.map V.ref ++ [V.ref q]))) { D with q3 := D.q3 ++ [q] } (w.add (.rcd s)) := by
  have kp := kp_off h.l3 (Off.wr (p := D.a3) (o := .lst (D.q3.map V.ref ++ [V.ref q])) (by simp))
  obtain ⟨dx, e⟩ := h.ob
  exact ⟨⟨dx, kp.ins _ _ _ _ _ _ e (lookup_zip ndDraft (i := 0) rfl rfl) (by decide +kernel)⟩, by rw [upd_ne (nd_ne h.nd 0 2 rfl rfl (by decide))]; exact h.l1, by rw [upd_ne (nd_ne h.nd 1 2 rfl rfl (by decide))]; exact h.l2, by rw [upd_same, List.map_append]; rfl, by rw [upd_ne (nd_ne h.nd 3 2 rfl rfl (by decide))]; exact h.l4, (h.s1.mono fun _ _ z => z.kp kp), (h.s2.mono fun _ _ z => z.kp kp), (h.s3.mono fun _ _ z => z.kp kp).snoc (sa.kp kp), (h.s4.mono fun _ _ z => z.kp kp), h.nd⟩
theorem new_rcd {w : Wld} (ok : WldOk w) (hl : w.recs.length < 8) : nm "r" (w.recs.length : Int) ∉ w.recs.map (·.name) := by
  intro hm
  obtain ⟨s, hs, e⟩ := List.mem_map.mp hm
  obtain ⟨i, hi⟩ := List.mem_iff_getElem?.mp hs
  have hlt := (List.getElem?_eq_some_iff.mp hi).1
  rw [(ok.recs i s hi).name] at e
  have := inj_of injR (by omega) hl e
  omega
theorem named2_rcd {K : PySem.W.Frag} {mg : Str → Option Value} {H : Hp} {a : Addr} {s : Rcd} (T : Tx K mg) (h : RcdAt K H a s) : NamedAt K H a s.name := by
  obtain ⟨dx, e⟩ := h.ex
  exact ⟨_, dx, _, e, T.cRcd, T.aRcd _ (mem_at 0), lookup_zip ndRcd (i := 0) rfl rfl⟩
theorem push4 {K : PySem.W.Frag} {H : Hp} {D : Dr} {w : Wld} {q : Addr} {s : Pas} (h : DraftAt K H D w) (sa : PasAt K H q s) : DraftAt K (upd H D.a4 (.lst (D.q4.map V.ref ++ [V.ref q]))) { D with q4 := D.q4 ++ [q] } (w.add (.pas s)) := by
  have kp := kp_off h.l4 (Off.wr (p := D.a4) (o := .lst (D.q4.map V.ref ++ [V.ref q])) (by simp))
  obtain ⟨dx, e⟩ := h.ob
  exact ⟨⟨dx, kp.ins _ _ _ _ _ _ e (lookup_zip ndDraft (i := 0) rfl rfl) (by decide +kernel)⟩, by rw [upd_ne (nd_ne h.nd 0 3 rfl rfl (by decide))]; exact h.l1, by rw [upd_ne (nd_ne h.nd 1 3 rfl rfl (by decide))]; exact h.l2, by rw [upd_ne (nd_ne h.nd 2 3 rfl rfl (by decide))]; exact h.l3, by rw [upd_same, List.map_append]; rfl, (h.s1.mono fun _ _ z => z.kp kp), (h.s2.mono fun _ _ z => z.kp kp), (h.s3.mono fun _ _ z => z.kp kp), (h.s4.mono fun _ _ z => z.kp kp).snoc (sa.kp kp), h.nd⟩
theorem new_pas {w : Wld} (ok : WldOk w) (hl : w.pass.length < 8) : nm "p" (w.pass.length : Int) ∉ w.pass.map (·.name) := by
  intro hm
  obtain ⟨s, hs, e⟩ := List.mem_map.mp hm
  obtain ⟨i, hi⟩ := List.mem_iff_getElem?.mp hs
  have hlt := (List.getElem?_eq_some_iff.mp hi).1
  rw [(ok.pass i s hi).name] at e
  have := inj_of injP (by omega) hl e
  omega
theorem named2_pas {K : PySem.W.Frag} {mg : Str → Option Value} {H : Hp} {a : Addr} {s : Pas} (T : Tx K mg) (h : PasAt K H a s) : NamedAt K H a s.name := by
  obtain ⟨dx, t, e, _⟩ := h.ex
  exact ⟨_, dx, _, e, T.cPas, T.aPas _ (mem_at 0), lookup_zip ndPas (i := 0) rfl rfl⟩
section
variable {P : Program} {w : World} {K : PySem.W.Frag} {mg : Str → Option Value} {base : Heap}
theorem ok_readLine {f : Addr} {fd : FuncData} (F : Fun K "read_line" "read_line" sReadLine f fd) (T : Tx K mg)
    (cP : CalM P w K mg base 2 (cl K "Line") "peek" ["self"] [] (spPeek K)) (cS : CalM P w K mg base 1 (cl K "Line") "skip" ["self"] [] (spSkip K)) (cW : CalM P w K mg base 3 (cl K "Line") "take_new" ["self", "taken"] [] (spTakeNew K))
    (cF : CalM P w K mg base 4 (cl K "Line") "take_field" ["self", "word", "least", "most"] [] (spTakeField K)) (cZ : CalM P w K mg base 2 (cl K "Line") "finish" ["self"] [] (spFinish K)) (cN : Cal P w K mg base 1 "names_of" ["things"] (spNamesOf K))
    (cI : CalI P w K mg base 1 "Station" ["self", "name", "antennas", "turn"] (spStaInit K)) (r1 : Cal P w K mg base 5 "read_satellite" ["world", "line", "name"] (spReadSat K)) (r3 : Cal P w K mg base 5 "read_recording" ["world", "line", "name"] (spReadRcd K)) (r4 : Cal P w K mg base 5 "read_pass" ["world", "line", "name"] (spReadPas K)) :
    FnOk P w K mg base CX0 6 f fd ["world", "line", "stage"] (spReadLine K) := by
  refine F.ok scReadLine (fun vs H Q E h => ?_) (fun cdv A outer s H vs Q E hr h => ?_)
  · obtain ⟨D, w', L, st, it, rfl, _⟩ := h
    rfl
  · obtain ⟨D, w', L, st, it, rfl, hD, wok, l0, hws, hit, hst, hwl, k⟩ := h
    obtain ⟨dx0, n0, col0, e0⟩ := l0.ob
    obtain ⟨ko, ko1, ko2, ko3⟩ := T.kindsO
    obtain ⟨u1, v1⟩ := T.vSat
    obtain ⟨u2, v2⟩ := T.vSta
    obtain ⟨u3, v3⟩ := T.vRcd
    obtain ⟨u4, v4⟩ := T.vPas
    have hns := wok.nsats
    have hnt := wok.nstas
    have hnr := wok.nrecs
    have hnp := wok.npass
    refine ⟨_, pss_cons (ps_set (i := 3) scReadLine.nd rfl (Or.inl rfl) (pe_m00 (pv 1) T.cLine cP (hr.mono (by decide))))
      (pss_cons (ps_if (pt_cmpR op_notIn_seq (pv 3) (pe_gR T.kinds) rfl) (pss_one ps_never) pss_nil)
      (pss_cons (ps_set (i := 4) scReadLine.nd rfl (Or.inl rfl) (pe_bm PySem.F.plainAttrs_tuple PySem.F.slot_tuple_index PySem.F.type_tuple_index mt_tup_index (pe_gR T.kinds) (pa_cons (pv 3) pa_nil)))
      (pss_cons (ps_if (pt_cmpR op_lt (pv 4) (pv 2) (nomark _)) (pss_one ps_never) pss_nil)
      (pss_cons (ps_set (i := 5) scReadLine.nd rfl (Or.inl rfl) (pe_ix ix_tup (pe_tup (pa_cons (pe_fld (pv 0) rfl) (pa_cons (pe_fld (pv 0) rfl) (pa_cons (pe_fld (pv 0) rfl) (pa_cons (pe_fld (pv 0) rfl) pa_nil))))) (pv 4) (fun _ _ => rfl)))
      (pss_cons (ps_set (i := 6) scReadLine.nd rfl (Or.inl rfl) (pe_ix ix_tup (pe_tup (pa_cons (ClX.pe_cval (pe_gR T.gWorld)) (pa_cons (ClX.pe_cval (pe_gR T.gWorld)) (pa_cons (ClX.pe_cval (pe_gR T.gWorld)) (pa_cons (ClX.pe_cval (pe_gR T.gWorld)) pa_nil))))) (pv 4) (fun _ _ => rfl)))
      (pss_cons (ps_if (pt_cmpR op_eq (pe_callB call_len_seq (by rfl) T.len PySem.boot_len (pa_cons (pv 5) pa_nil)) (pv 6) (nomark _)) (pss_one ps_never) pss_nil)
      (pss_cons (ps_expr (pe_m00 (pv 1) T.cLine cS (hr.mono (by decide))))
      (pss_cons (ps_set (i := 7) scReadLine.nd rfl (Or.inl rfl) (pe_m (pv 1) T.cLine cW (hr.mono (by decide)) (pa_cons (pe_f cN (hr.mono (by decide)) (pa_cons (pv 5) pa_nil)) pa_nil)))
      (pss_cons (ps_if (pt_cmpR op_eq (pv 4) pe_int (nomark _)) (pss_one (ps_expr (pe_bm PySem.F.plainAttrs_list PySem.F.slot_list_append PySem.F.type_list_append mt_append (pv 5) (pa_cons (pe_f r1 hr (pa_cons (pv 0) (pa_cons (pv 1) (pa_cons (pv 7) pa_nil)))) pa_nil)))) (pss_one (ps_if (pt_cmpR op_eq (pv 4) pe_int (nomark _))
        (pss_one (ps_expr (pe_bm PySem.F.plainAttrs_list PySem.F.slot_list_append PySem.F.type_list_append mt_append (pv 5) (pa_cons (pe_mk cI (hr.mono (by decide)) (pa_cons (pv 7) (pa_cons (pe_m (pv 1) T.cLine cF (hr.mono (by decide)) (pa_cons pe_str (pa_cons pe_int (pa_cons pe_int pa_nil)))) (pa_cons (pe_m (pv 1) T.cLine cF (hr.mono (by decide)) (pa_cons pe_str (pa_cons pe_int (pa_cons pe_int pa_nil)))) pa_nil)))) pa_nil))))
        (pss_one (ps_if (pt_cmpR op_eq (pv 4) pe_int (nomark _)) (pss_one (ps_expr (pe_bm PySem.F.plainAttrs_list PySem.F.slot_list_append PySem.F.type_list_append mt_append (pv 5) (pa_cons (pe_f r3 hr (pa_cons (pv 0) (pa_cons (pv 1) (pa_cons (pv 7) pa_nil)))) pa_nil)))) (pss_one (ps_expr (pe_bm PySem.F.plainAttrs_list PySem.F.slot_list_append PySem.F.type_list_append mt_append (pv 5) (pa_cons (pe_f r4 hr (pa_cons (pv 0) (pa_cons (pv 1) (pa_cons (pv 7) pa_nil)))) pa_nil)))))))))
      (pss_cons (ps_expr (pe_m00 (pv 1) T.cLine cZ (hr.mono (by decide))))
      (pss_one (ps_ret (pv 4))))))))))))), ?_⟩
    cases it with
    | sat s =>
      obtain ⟨ok, hlt⟩ := hit
      have hws : L.ws = satW s := hws
      have hst0 : st ≤ 0 := hst
      refine ⟨_, rfl, L.p, dx0, _, rfl, e0, lookup_out (by decide +kernel), L, 0, "satellite", rfl, l0, (by rw [hws]; rfl), (by decide +kernel), ?_⟩
      refine ⟨_, rfl, cl K "KINDS", _, rfl, .inr (T.kindsT H), rfl, rfl, _, rfl, bF (by decide +kernel) ?_⟩
      refine ⟨.inr (.inl ⟨rfl, ko, ko1, ko2, ko3⟩), _, rfl, cl K "KINDS", ["satellite", "station", "recording", "pass"], _, 0, rfl, rfl, T.kindsT H, rfl, (fun m hm => by
        have hm' : False := by omega
        exact hm'.elim), ?_⟩
      refine ⟨_, rfl, _, rfl, _, _, rfl, rfl, _, rfl, dF (by show ¬ ((0 : Int) < st); omega) ?_⟩
      obtain ⟨dd0, ed0⟩ := hD.ob
      refine ⟨_, rfl, D.d, _, dd0, _, _, rfl, ed0, T.cDraft, T.aDraft _ (mem_at 1), lookup_zip ndDraft (i := 1) rfl rfl, _, rfl, D.d, _, dd0, _, _, rfl, ed0, T.cDraft, T.aDraft _ (mem_at 2), lookup_zip ndDraft (i := 2) rfl rfl, _, rfl, D.d, _, dd0, _, _, rfl, ed0, T.cDraft, T.aDraft _ (mem_at 3), lookup_zip ndDraft (i := 3) rfl rfl, _, rfl, D.d, _, dd0, _, _, rfl, ed0, T.cDraft, T.aDraft _ (mem_at 4), lookup_zip ndDraft (i := 4) rfl rfl, (by show 4 ≤ sizeLine; decide), fun t1 ht1 => ?_⟩
      have s1 : Same H _ := same_upd (o := .tup [.ref D.a1, .ref D.a2, .ref D.a3, .ref D.a4]) ht1
      refine ⟨_, rfl, t1, _, _, _, rfl, rfl, SqT.of upd_same, rfl, ?_⟩
      refine ⟨cl K "World", _, _, u1, rfl, T.rWld, v1, cl K "World", _, _, u2, rfl, T.rWld, v2, cl K "World", _, _, u3, rfl, T.rWld, v3, cl K "World", _, _, u4, rfl, T.rWld, v4, (by show 4 ≤ sizeLine; decide), fun t2 ht2 => ?_⟩
      have s2 : Same H (upd (upd H t1 (.tup [.ref D.a1, .ref D.a2, .ref D.a3, .ref D.a4])) t2 (.tup [.int 3, .int 3, .int 10, .int 10])) := s1.to ht2
      refine ⟨_, rfl, t2, _, _, _, rfl, rfl, SqT.of upd_same, rfl, ?_⟩
      have hql : D.q1.length = w'.sats.length := hD.s1.len
      refine ⟨_, rfl, D.a1, _, rfl, .inl (SqL.of (s2 _ _ hD.l1)), _, rfl, rfl, _, rfl, dF (by intro e; have e2 := V.int.inj e; rw [List.length_map] at e2; omega) ?_⟩
      refine ⟨_, rfl, L.p, dx0, _, rfl, s2 _ _ e0, lookup_out (by decide +kernel), L, 0, "satellite", rfl, l0.same s2, (by rw [hws]; rfl), fun H3 o3 l3 => ?_⟩
      have D3 := (hD.off s2.off s2.kp (S := []) (by simp)).line (l0.same s2) o3
      obtain ⟨dx3, n3, col3, e3⟩ := l3.ob
      refine ⟨_, rfl, L.p, dx3, _, rfl, e3, lookup_out (by decide +kernel), _, rfl, D.a1, D.q1, w'.sats.map (·.name), rfl, D3.l1, all2_mapR' (D3.s1.mono fun _ _ z => named2_sat T z), (by omega), fun H4 tn s4 _ en => ?_⟩
      refine ⟨L, 1, tn, w'.sats.map (·.name), s.name, rfl, l3.same s4, en, (by rw [ok.name]; exact new_sat wok (by omega)), (by rw [ok.name]; exact (nm_ok (by omega) (by omega)).1.1), (by rw [hws]; rfl), fun H5 o5 l5 => ?_⟩
      have D4 := D3.off s4.off s4.kp (S := []) (by simp)
      have D5 := D4.line (l3.same s4) o5
      have o05 : Off [L.p] H H5 := ((s2.off.trans o3).trans s4.off).trans o5
      refine ⟨_, rfl, rfl, _, rfl, dT rfl ?_⟩
      refine ⟨_, rfl, .inl ⟨rfl, _, SqL.of D5.l1⟩, _, rfl, _, rfl, _, rfl, D, w', L, s, _, rfl, D5, hws, l5, ok, fun H6 q o6 l6 sa => ?_⟩
      have D6 := D5.line l5 o6
      have o06 := o05.trans o6
      refine ⟨D.a1, _, _, rfl, rfl, D6.l1, (by rw [List.length_map]; exact lt_line (by omega)), ?_⟩
      have D7 := push1 D6 sa
      have l7 := l6.off (S := [D.a1]) (Off.wr (p := D.a1) (o := .lst (D.q1.map V.ref ++ [V.ref q])) (by simp)) (by simpa using (l6.ne_lst D6.l1).symm) (by intro z; exact hwl (by rw [List.mem_singleton.mp z]; simp [Dr.as]))
      obtain ⟨dx7, n7, col7, e7⟩ := l7.ob
      refine ⟨_, rfl, L.p, dx7, _, rfl, e7, lookup_out (by decide +kernel), L, rfl, l7, ?_⟩
      refine ⟨_, rfl, ?_⟩
      exact k _ { D with q1 := D.q1 ++ [q] } ((o06.mono fun b hb => by rw [List.mem_singleton.mp hb]; exact List.mem_cons_self ..).trans (Off.wr (by simp [Dr.as]))) rfl rfl D7
    | sta s =>
      obtain ⟨ok, hlt⟩ := hit
      have hws : L.ws = staW s := hws
      have hst0 : st ≤ 1 := hst
      refine ⟨_, rfl, L.p, dx0, _, rfl, e0, lookup_out (by decide +kernel), L, 0, "station", rfl, l0, (by rw [hws]; rfl), (by decide +kernel), ?_⟩
      refine ⟨_, rfl, cl K "KINDS", _, rfl, .inr (T.kindsT H), rfl, rfl, _, rfl, bF (by decide +kernel) ?_⟩
      refine ⟨.inr (.inl ⟨rfl, ko, ko1, ko2, ko3⟩), _, rfl, cl K "KINDS", ["satellite", "station", "recording", "pass"], _, 1, rfl, rfl, T.kindsT H, rfl, (fun m hm => by
        have hm' : m = 0 := by omega
        rcases hm' with rfl <;> decide +kernel), ?_⟩
      refine ⟨_, rfl, _, rfl, _, _, rfl, rfl, _, rfl, dF (by show ¬ ((1 : Int) < st); omega) ?_⟩
      obtain ⟨dd0, ed0⟩ := hD.ob
      refine ⟨_, rfl, D.d, _, dd0, _, _, rfl, ed0, T.cDraft, T.aDraft _ (mem_at 1), lookup_zip ndDraft (i := 1) rfl rfl, _, rfl, D.d, _, dd0, _, _, rfl, ed0, T.cDraft, T.aDraft _ (mem_at 2), lookup_zip ndDraft (i := 2) rfl rfl, _, rfl, D.d, _, dd0, _, _, rfl, ed0, T.cDraft, T.aDraft _ (mem_at 3), lookup_zip ndDraft (i := 3) rfl rfl, _, rfl, D.d, _, dd0, _, _, rfl, ed0, T.cDraft, T.aDraft _ (mem_at 4), lookup_zip ndDraft (i := 4) rfl rfl, (by show 4 ≤ sizeLine; decide), fun t1 ht1 => ?_⟩
      have s1 : Same H _ := same_upd (o := .tup [.ref D.a1, .ref D.a2, .ref D.a3, .ref D.a4]) ht1
      refine ⟨_, rfl, t1, _, _, _, rfl, rfl, SqT.of upd_same, rfl, ?_⟩
      refine ⟨cl K "World", _, _, u1, rfl, T.rWld, v1, cl K "World", _, _, u2, rfl, T.rWld, v2, cl K "World", _, _, u3, rfl, T.rWld, v3, cl K "World", _, _, u4, rfl, T.rWld, v4, (by show 4 ≤ sizeLine; decide), fun t2 ht2 => ?_⟩
      have s2 : Same H (upd (upd H t1 (.tup [.ref D.a1, .ref D.a2, .ref D.a3, .ref D.a4])) t2 (.tup [.int 3, .int 3, .int 10, .int 10])) := s1.to ht2
      refine ⟨_, rfl, t2, _, _, _, rfl, rfl, SqT.of upd_same, rfl, ?_⟩
      have hql : D.q2.length = w'.stas.length := hD.s2.len
      refine ⟨_, rfl, D.a2, _, rfl, .inl (SqL.of (s2 _ _ hD.l2)), _, rfl, rfl, _, rfl, dF (by intro e; have e2 := V.int.inj e; rw [List.length_map] at e2; omega) ?_⟩
      refine ⟨_, rfl, L.p, dx0, _, rfl, s2 _ _ e0, lookup_out (by decide +kernel), L, 0, "station", rfl, l0.same s2, (by rw [hws]; rfl), fun H3 o3 l3 => ?_⟩
      have D3 := (hD.off s2.off s2.kp (S := []) (by simp)).line (l0.same s2) o3
      obtain ⟨dx3, n3, col3, e3⟩ := l3.ob
      refine ⟨_, rfl, L.p, dx3, _, rfl, e3, lookup_out (by decide +kernel), _, rfl, D.a2, D.q2, w'.stas.map (·.name), rfl, D3.l2, all2_mapR' (D3.s2.mono fun _ _ z => named2_sta T z), (by omega), fun H4 tn s4 _ en => ?_⟩
      refine ⟨L, 1, tn, w'.stas.map (·.name), s.name, rfl, l3.same s4, en, (by rw [ok.name]; exact new_sta wok (by omega)), (by rw [ok.name]; exact (nm_ok (by omega) (by omega)).2.1.1), (by rw [hws]; rfl), fun H5 o5 l5 => ?_⟩
      have D4 := D3.off s4.off s4.kp (S := []) (by simp)
      have D5 := D4.line (l3.same s4) o5
      have o05 : Off [L.p] H H5 := ((s2.off.trans o3).trans s4.off).trans o5
      refine ⟨_, rfl, rfl, _, rfl, dF (by intro e; exact absurd (V.int.inj e) (by decide)) ?_⟩
      refine ⟨_, rfl, rfl, _, rfl, dT rfl ?_⟩
      obtain ⟨dx5, n5, col5, e5⟩ := l5.ob
      refine ⟨_, rfl, .inl ⟨rfl, _, SqL.of D5.l2⟩, _, rfl, _, rfl, L.p, dx5, _, rfl, e5, lookup_out (by decide +kernel), L, 2, "antennas", s.antennas, 1, 3, rfl, l5, (by rw [hws]; rfl), (by decide +kernel), (by rw [hws]; rfl), (by have := ok.antennas; omega), fun Ha oa la => ?_⟩
      obtain ⟨dxa, na, cola, ea⟩ := la.ob
      refine ⟨_, rfl, L.p, dxa, _, rfl, ea, lookup_out (by decide +kernel), L, 4, "turn", s.turn, 0, 60, rfl, la, (by rw [hws]; rfl), (by decide +kernel), (by rw [hws]; rfl), (by have := ok.turn; omega), fun Hb ob lb => ?_⟩
      intro q xd hxa hxd hne
      refine ⟨q, xd, s, rfl, upd_same, fun H6 o6 sa => ⟨rfl, ?_⟩⟩
      have s6 : Same Hb H6 := made_same hxa hxd o6
      have D6 := ((D5.line l5 oa).line la ob).off s6.off s6.kp (S := []) (by simp)
      have o06 : Off [L.p] H H6 := ((o05.trans oa).trans ob).trans s6.off
      have l6 : LineAt K H6 L L.ws.length := by
        have := lb.same s6
        rw [show 4 + 2 = L.ws.length by rw [hws]; rfl] at this
        exact this
      refine ⟨D.a2, _, _, rfl, rfl, D6.l2, (by rw [List.length_map]; exact lt_line (by omega)), ?_⟩
      have D7 := push2 D6 sa
      have l7 := l6.off (S := [D.a2]) (Off.wr (p := D.a2) (o := .lst (D.q2.map V.ref ++ [V.ref q])) (by simp)) (by simpa using (l6.ne_lst D6.l2).symm) (by intro z; exact hwl (by rw [List.mem_singleton.mp z]; simp [Dr.as]))
      obtain ⟨dx7, n7, col7, e7⟩ := l7.ob
      refine ⟨_, rfl, L.p, dx7, _, rfl, e7, lookup_out (by decide +kernel), L, rfl, l7, ?_⟩
      refine ⟨_, rfl, ?_⟩
      exact k _ { D with q2 := D.q2 ++ [q] } ((o06.mono fun b hb => by rw [List.mem_singleton.mp hb]; exact List.mem_cons_self ..).trans (Off.wr (by simp [Dr.as]))) rfl rfl D7
    | rcd s =>
      obtain ⟨ok, hlt⟩ := hit
      have hws : L.ws = rcdW s := hws
      have hst0 : st ≤ 2 := hst
      refine ⟨_, rfl, L.p, dx0, _, rfl, e0, lookup_out (by decide +kernel), L, 0, "recording", rfl, l0, (by rw [hws]; rfl), (by decide +kernel), ?_⟩
      refine ⟨_, rfl, cl K "KINDS", _, rfl, .inr (T.kindsT H), rfl, rfl, _, rfl, bF (by decide +kernel) ?_⟩
      refine ⟨.inr (.inl ⟨rfl, ko, ko1, ko2, ko3⟩), _, rfl, cl K "KINDS", ["satellite", "station", "recording", "pass"], _, 2, rfl, rfl, T.kindsT H, rfl, (fun m hm => by
        have hm' : m = 0 ∨ m = 1 := by omega
        rcases hm' with rfl | rfl <;> decide +kernel), ?_⟩
      refine ⟨_, rfl, _, rfl, _, _, rfl, rfl, _, rfl, dF (by show ¬ ((2 : Int) < st); omega) ?_⟩
      obtain ⟨dd0, ed0⟩ := hD.ob
      refine ⟨_, rfl, D.d, _, dd0, _, _, rfl, ed0, T.cDraft, T.aDraft _ (mem_at 1), lookup_zip ndDraft (i := 1) rfl rfl, _, rfl, D.d, _, dd0, _, _, rfl, ed0, T.cDraft, T.aDraft _ (mem_at 2), lookup_zip ndDraft (i := 2) rfl rfl, _, rfl, D.d, _, dd0, _, _, rfl, ed0, T.cDraft, T.aDraft _ (mem_at 3), lookup_zip ndDraft (i := 3) rfl rfl, _, rfl, D.d, _, dd0, _, _, rfl, ed0, T.cDraft, T.aDraft _ (mem_at 4), lookup_zip ndDraft (i := 4) rfl rfl, (by show 4 ≤ sizeLine; decide), fun t1 ht1 => ?_⟩
      have s1 : Same H _ := same_upd (o := .tup [.ref D.a1, .ref D.a2, .ref D.a3, .ref D.a4]) ht1
      refine ⟨_, rfl, t1, _, _, _, rfl, rfl, SqT.of upd_same, rfl, ?_⟩
      refine ⟨cl K "World", _, _, u1, rfl, T.rWld, v1, cl K "World", _, _, u2, rfl, T.rWld, v2, cl K "World", _, _, u3, rfl, T.rWld, v3, cl K "World", _, _, u4, rfl, T.rWld, v4, (by show 4 ≤ sizeLine; decide), fun t2 ht2 => ?_⟩
      have s2 : Same H (upd (upd H t1 (.tup [.ref D.a1, .ref D.a2, .ref D.a3, .ref D.a4])) t2 (.tup [.int 3, .int 3, .int 10, .int 10])) := s1.to ht2
      refine ⟨_, rfl, t2, _, _, _, rfl, rfl, SqT.of upd_same, rfl, ?_⟩
      have hql : D.q3.length = w'.recs.length := hD.s3.len
      refine ⟨_, rfl, D.a3, _, rfl, .inl (SqL.of (s2 _ _ hD.l3)), _, rfl, rfl, _, rfl, dF (by intro e; have e2 := V.int.inj e; rw [List.length_map] at e2; omega) ?_⟩
      refine ⟨_, rfl, L.p, dx0, _, rfl, s2 _ _ e0, lookup_out (by decide +kernel), L, 0, "recording", rfl, l0.same s2, (by rw [hws]; rfl), fun H3 o3 l3 => ?_⟩
      have D3 := (hD.off s2.off s2.kp (S := []) (by simp)).line (l0.same s2) o3
      obtain ⟨dx3, n3, col3, e3⟩ := l3.ob
      refine ⟨_, rfl, L.p, dx3, _, rfl, e3, lookup_out (by decide +kernel), _, rfl, D.a3, D.q3, w'.recs.map (·.name), rfl, D3.l3, all2_mapR' (D3.s3.mono fun _ _ z => named2_rcd T z), (by omega), fun H4 tn s4 _ en => ?_⟩
      refine ⟨L, 1, tn, w'.recs.map (·.name), s.name, rfl, l3.same s4, en, (by rw [ok.name]; exact new_rcd wok (by omega)), (by rw [ok.name]; exact (nm_ok (by omega) (by omega)).2.2.1.1), (by rw [hws]; rfl), fun H5 o5 l5 => ?_⟩
      have D4 := D3.off s4.off s4.kp (S := []) (by simp)
      have D5 := D4.line (l3.same s4) o5
      have o05 : Off [L.p] H H5 := ((s2.off.trans o3).trans s4.off).trans o5
      refine ⟨_, rfl, rfl, _, rfl, dF (by intro e; exact absurd (V.int.inj e) (by decide)) ?_⟩
      refine ⟨_, rfl, rfl, _, rfl, dF (by intro e; exact absurd (V.int.inj e) (by decide)) ?_⟩
      refine ⟨_, rfl, rfl, _, rfl, dT rfl ?_⟩
      refine ⟨_, rfl, .inl ⟨rfl, _, SqL.of D5.l3⟩, _, rfl, _, rfl, _, rfl, D, w', L, s, _, rfl, D5, wok, hws, l5, ok, fun H6 q o6 l6 sa => ?_⟩
      have D6 := D5.line l5 o6
      have o06 := o05.trans o6
      refine ⟨D.a3, _, _, rfl, rfl, D6.l3, (by rw [List.length_map]; exact lt_line (by omega)), ?_⟩
      have D7 := push3 D6 sa
      have l7 := l6.off (S := [D.a3]) (Off.wr (p := D.a3) (o := .lst (D.q3.map V.ref ++ [V.ref q])) (by simp)) (by simpa using (l6.ne_lst D6.l3).symm) (by intro z; exact hwl (by rw [List.mem_singleton.mp z]; simp [Dr.as]))
      obtain ⟨dx7, n7, col7, e7⟩ := l7.ob
      refine ⟨_, rfl, L.p, dx7, _, rfl, e7, lookup_out (by decide +kernel), L, rfl, l7, ?_⟩
      refine ⟨_, rfl, ?_⟩
      exact k _ { D with q3 := D.q3 ++ [q] } ((o06.mono fun b hb => by rw [List.mem_singleton.mp hb]; exact List.mem_cons_self ..).trans (Off.wr (by simp [Dr.as]))) rfl rfl D7
    | pas s =>
      obtain ⟨ok, hlt⟩ := hit
      have hws : L.ws = pasW s := hws
      have hst0 : st ≤ 3 := hst
      refine ⟨_, rfl, L.p, dx0, _, rfl, e0, lookup_out (by decide +kernel), L, 0, "pass", rfl, l0, (by rw [hws]; rfl), (by decide +kernel), ?_⟩
      refine ⟨_, rfl, cl K "KINDS", _, rfl, .inr (T.kindsT H), rfl, rfl, _, rfl, bF (by decide +kernel) ?_⟩
      refine ⟨.inr (.inl ⟨rfl, ko, ko1, ko2, ko3⟩), _, rfl, cl K "KINDS", ["satellite", "station", "recording", "pass"], _, 3, rfl, rfl, T.kindsT H, rfl, (fun m hm => by
        have hm' : m = 0 ∨ m = 1 ∨ m = 2 := by omega
        rcases hm' with rfl | rfl | rfl <;> decide +kernel), ?_⟩
      refine ⟨_, rfl, _, rfl, _, _, rfl, rfl, _, rfl, dF (by show ¬ ((3 : Int) < st); omega) ?_⟩
      obtain ⟨dd0, ed0⟩ := hD.ob
      refine ⟨_, rfl, D.d, _, dd0, _, _, rfl, ed0, T.cDraft, T.aDraft _ (mem_at 1), lookup_zip ndDraft (i := 1) rfl rfl, _, rfl, D.d, _, dd0, _, _, rfl, ed0, T.cDraft, T.aDraft _ (mem_at 2), lookup_zip ndDraft (i := 2) rfl rfl, _, rfl, D.d, _, dd0, _, _, rfl, ed0, T.cDraft, T.aDraft _ (mem_at 3), lookup_zip ndDraft (i := 3) rfl rfl, _, rfl, D.d, _, dd0, _, _, rfl, ed0, T.cDraft, T.aDraft _ (mem_at 4), lookup_zip ndDraft (i := 4) rfl rfl, (by show 4 ≤ sizeLine; decide), fun t1 ht1 => ?_⟩
      have s1 : Same H _ := same_upd (o := .tup [.ref D.a1, .ref D.a2, .ref D.a3, .ref D.a4]) ht1
      refine ⟨_, rfl, t1, _, _, _, rfl, rfl, SqT.of upd_same, rfl, ?_⟩
      refine ⟨cl K "World", _, _, u1, rfl, T.rWld, v1, cl K "World", _, _, u2, rfl, T.rWld, v2, cl K "World", _, _, u3, rfl, T.rWld, v3, cl K "World", _, _, u4, rfl, T.rWld, v4, (by show 4 ≤ sizeLine; decide), fun t2 ht2 => ?_⟩
      have s2 : Same H (upd (upd H t1 (.tup [.ref D.a1, .ref D.a2, .ref D.a3, .ref D.a4])) t2 (.tup [.int 3, .int 3, .int 10, .int 10])) := s1.to ht2
      refine ⟨_, rfl, t2, _, _, _, rfl, rfl, SqT.of upd_same, rfl, ?_⟩
      have hql : D.q4.length = w'.pass.length := hD.s4.len
      refine ⟨_, rfl, D.a4, _, rfl, .inl (SqL.of (s2 _ _ hD.l4)), _, rfl, rfl, _, rfl, dF (by intro e; have e2 := V.int.inj e; rw [List.length_map] at e2; omega) ?_⟩
      refine ⟨_, rfl, L.p, dx0, _, rfl, s2 _ _ e0, lookup_out (by decide +kernel), L, 0, "pass", rfl, l0.same s2, (by rw [hws]; rfl), fun H3 o3 l3 => ?_⟩
      have D3 := (hD.off s2.off s2.kp (S := []) (by simp)).line (l0.same s2) o3
      obtain ⟨dx3, n3, col3, e3⟩ := l3.ob
      refine ⟨_, rfl, L.p, dx3, _, rfl, e3, lookup_out (by decide +kernel), _, rfl, D.a4, D.q4, w'.pass.map (·.name), rfl, D3.l4, all2_mapR' (D3.s4.mono fun _ _ z => named2_pas T z), (by omega), fun H4 tn s4 _ en => ?_⟩
      refine ⟨L, 1, tn, w'.pass.map (·.name), s.name, rfl, l3.same s4, en, (by rw [ok.name]; exact new_pas wok (by omega)), (by rw [ok.name]; exact (nm_ok (by omega) (by omega)).2.2.2.1), (by rw [hws]; rfl), fun H5 o5 l5 => ?_⟩
      have D4 := D3.off s4.off s4.kp (S := []) (by simp)
      have D5 := D4.line (l3.same s4) o5
      have o05 : Off [L.p] H H5 := ((s2.off.trans o3).trans s4.off).trans o5
      refine ⟨_, rfl, rfl, _, rfl, dF (by intro e; exact absurd (V.int.inj e) (by decide)) ?_⟩
      refine ⟨_, rfl, rfl, _, rfl, dF (by intro e; exact absurd (V.int.inj e) (by decide)) ?_⟩
      refine ⟨_, rfl, rfl, _, rfl, dF (by intro e; exact absurd (V.int.inj e) (by decide)) ?_⟩
      refine ⟨_, rfl, .inl ⟨rfl, _, SqL.of D5.l4⟩, _, rfl, _, rfl, _, rfl, D, w', L, s, _, rfl, D5, wok, hws, l5, ok, fun H6 q o6 l6 sa => ?_⟩
      have D6 := D5.line l5 o6
      have o06 := o05.trans o6
      refine ⟨D.a4, _, _, rfl, rfl, D6.l4, (by rw [List.length_map]; exact lt_line (by omega)), ?_⟩
      have D7 := push4 D6 sa
      have l7 := l6.off (S := [D.a4]) (Off.wr (p := D.a4) (o := .lst (D.q4.map V.ref ++ [V.ref q])) (by simp)) (by simpa using (l6.ne_lst D6.l4).symm) (by intro z; exact hwl (by rw [List.mem_singleton.mp z]; simp [Dr.as]))
      obtain ⟨dx7, n7, col7, e7⟩ := l7.ob
      refine ⟨_, rfl, L.p, dx7, _, rfl, e7, lookup_out (by decide +kernel), L, rfl, l7, ?_⟩
      refine ⟨_, rfl, ?_⟩
      exact k _ { D with q4 := D.q4 ++ [q] } ((o06.mono fun b hb => by rw [List.mem_singleton.mp hb]; exact List.mem_cons_self ..).trans (Off.wr (by simp [Dr.as]))) rfl rfl D7
end
end K59
set_option maxHeartbeats 4000000
/-! World.parse; the rows of a world one by one -/
namespace K59
open PySem PySem.Spec PyProof.Rows L2 TL
def items (w : Wld) : List Item := w.sats.map .sat ++ (w.stas.map .sta ++ (w.recs.map .rcd ++ w.pass.map .pas))
def part (w : Wld) (i : Nat) : Wld := ⟨w.sats.take i, w.stas.take (i - w.sats.length), w.recs.take (i - w.sats.length - w.stas.length), w.pass.take (i - w.sats.length - w.stas.length - w.recs.length)⟩
def stg (w : Wld) (i : Nat) : Int := if i ≤ w.sats.length then 0 else if i ≤ w.sats.length + w.stas.length then 1 else if i ≤ w.sats.length + w.stas.length + w.recs.length then 2 else 3
theorem rows_items (w : Wld) : rowsOf w = horW :: (items w).map Item.ws := by
  unfold rowsOf items
  simp only [List.map_append, List.map_map]
  rfl
theorem items_len (w : Wld) : (items w).length = w.sats.length + (w.stas.length + (w.recs.length + w.pass.length)) := by
  unfold items
  simp
theorem part_all (w : Wld) : part w (items w).length = w := by
  unfold part
  rw [items_len]
  rw [List.take_of_length_le (by omega), List.take_of_length_le (by omega), List.take_of_length_le (by omega), List.take_of_length_le (by omega)]
theorem part_zero (w : Wld) : part w 0 = ⟨[], [], [], []⟩ := by
  unfold part
  simp
theorem take_get {α : Type} {l : List α} {k i : Nat} {a : α} (h : (l.take k)[i]? = some a) : l[i]? = some a ∧ i < k := by
  rw [List.getElem?_take] at h
  by_cases c : i < k
  · rw [if_pos c] at h
    exact ⟨h, c⟩
  · rw [if_neg c] at h
    cases h
theorem part_ok {w : Wld} (ok : WldOk w) (i : Nat) : WldOk (part w i) := by
  have l1 : (w.sats.take i).length ≤ w.sats.length := by simp; omega
  refine ⟨fun j s h => ok.sats j s (take_get h).1, fun j s h => ok.stas j s (take_get h).1, fun j r h => ?_, fun j p h => ?_, ?_, ?_, ?_, ?_⟩
  · obtain ⟨h1, h2⟩ := take_get h
    have e : (part w i).sats.length = w.sats.length := by show (w.sats.take i).length = _; rw [List.length_take]; omega
    rw [e]
    exact ok.recs j r h1
  · obtain ⟨h1, h2⟩ := take_get h
    have e : (part w i).sats.length = w.sats.length := by show (w.sats.take i).length = _; rw [List.length_take]; omega
    have e2 : (part w i).stas.length = w.stas.length := by show (w.stas.take _).length = _; rw [List.length_take]; omega
    rw [e, e2]
    exact ok.pass j p h1
  · show (w.sats.take i).length ≤ 2
    have := ok.nsats
    omega
  · show (w.stas.take _).length ≤ 2
    have := ok.nstas
    rw [List.length_take]
    omega
  · show (w.recs.take _).length ≤ 5
    have := ok.nrecs
    rw [List.length_take]
    omega
  · show (w.pass.take _).length ≤ 4
    have := ok.npass
    rw [List.length_take]
    omega
theorem take_snoc {α : Type} {l : List α} {i : Nat} {a : α} (h : l[i]? = some a) : l.take (i + 1) = l.take i ++ [a] := by
  rw [List.take_succ, h]
  rfl
theorem part_step {w : Wld} (ok : WldOk w) {i : Nat} {it : Item} (h : (items w)[i]? = some it) : it.Ok (part w i) ∧ (part w i).add it = part w (i + 1) ∧ stg w i ≤ (it.kind : Int) ∧ stg w (i + 1) = (it.kind : Int) := by
  have hn1 := ok.nsats
  have hn2 := ok.nstas
  have hn3 := ok.nrecs
  have hn4 := ok.npass
  unfold items at h
  rw [List.getElem?_append] at h
  by_cases c1 : i < (w.sats.map Item.sat).length
  · rw [if_pos c1] at h
    rw [List.length_map] at c1
    rw [List.getElem?_map, List.getElem?_eq_getElem c1] at h
    cases h
    have hg : w.sats[i]? = some w.sats[i] := List.getElem?_eq_getElem c1
    have hl : (w.sats.take i).length = i := by rw [List.length_take]; omega
    refine ⟨⟨?_, ?_⟩, ?_, ?_, ?_⟩
    · show SatOk (w.sats.take i).length _
      rw [hl]
      exact ok.sats i _ hg
    · show (w.sats.take i).length < 2
      omega
    · unfold part Wld.add
      simp only [← take_snoc hg]
      rw [show i + 1 - w.sats.length = 0 by omega, show i - w.sats.length = 0 by omega]
    · unfold stg
      rw [if_pos (by omega)]
      exact Int.le_refl 0
    · unfold stg
      rw [if_pos (by omega)]
      rfl
  rw [if_neg c1] at h
  rw [List.length_map] at c1 h
  rw [List.getElem?_append] at h
  by_cases c2 : i - w.sats.length < (w.stas.map Item.sta).length
  · rw [if_pos c2] at h
    rw [List.length_map] at c2
    rw [List.getElem?_map, List.getElem?_eq_getElem c2] at h
    cases h
    have hg : w.stas[i - w.sats.length]? = some w.stas[i - w.sats.length] := List.getElem?_eq_getElem c2
    have hl : (w.stas.take (i - w.sats.length)).length = i - w.sats.length := by rw [List.length_take]; omega
    refine ⟨⟨?_, ?_⟩, ?_, ?_, ?_⟩
    · show StaOk (w.stas.take _).length _
      rw [hl]
      exact ok.stas _ _ hg
    · show (w.stas.take _).length < 2
      omega
    · unfold part Wld.add
      simp only [← take_snoc hg]
      rw [List.take_of_length_le (by omega : w.sats.length ≤ i), List.take_of_length_le (by omega : w.sats.length ≤ i + 1), show i + 1 - w.sats.length = i - w.sats.length + 1 by omega,
        show i - w.sats.length + 1 - w.stas.length = 0 by omega, show i - w.sats.length - w.stas.length = 0 by omega]
    · unfold stg
      by_cases c : i ≤ w.sats.length
      · rw [if_pos c]
        exact (by decide : (0 : Int) ≤ 1)
      · rw [if_neg c, if_pos (by omega)]
        exact Int.le_refl 1
    · unfold stg
      rw [if_neg (by omega), if_pos (by omega)]
      rfl
  rw [if_neg c2] at h
  rw [List.length_map] at c2 h
  rw [List.getElem?_append] at h
  by_cases c3 : i - w.sats.length - w.stas.length < (w.recs.map Item.rcd).length
  · rw [if_pos c3] at h
    rw [List.length_map] at c3
    rw [List.getElem?_map, List.getElem?_eq_getElem c3] at h
    cases h
    have hg : w.recs[i - w.sats.length - w.stas.length]? = some w.recs[i - w.sats.length - w.stas.length] := List.getElem?_eq_getElem c3
    have hl : (w.recs.take (i - w.sats.length - w.stas.length)).length = i - w.sats.length - w.stas.length := by rw [List.length_take]; omega
    have e1 : w.sats.take i = w.sats := List.take_of_length_le (by omega)
    refine ⟨⟨?_, ?_⟩, ?_, ?_, ?_⟩
    · show RcdOk (w.sats.take i).length (w.recs.take _).length _
      rw [hl, e1]
      exact ok.recs _ _ hg
    · show (w.recs.take _).length < 5
      omega
    · unfold part Wld.add
      simp only [← take_snoc hg]
      rw [List.take_of_length_le (by omega : w.sats.length ≤ i), List.take_of_length_le (by omega : w.sats.length ≤ i + 1), List.take_of_length_le (by omega : w.stas.length ≤ i - w.sats.length), List.take_of_length_le (by omega : w.stas.length ≤ i + 1 - w.sats.length),
        show i + 1 - w.sats.length - w.stas.length = i - w.sats.length - w.stas.length + 1 by omega, show i - w.sats.length - w.stas.length + 1 - w.recs.length = 0 by omega, show i - w.sats.length - w.stas.length - w.recs.length = 0 by omega]
    · unfold stg
      split
      · exact (by decide : (0 : Int) ≤ 2)
      · split
        · exact (by decide : (1 : Int) ≤ 2)
        · rw [if_pos (by omega)]
          exact Int.le_refl 2
    · unfold stg
      rw [if_neg (by omega), if_neg (by omega), if_pos (by omega)]
      rfl
  rw [if_neg c3] at h
  rw [List.length_map] at c3 h
  rw [List.getElem?_map] at h
  have c4 : i - w.sats.length - w.stas.length - w.recs.length < w.pass.length := by
    by_cases c : i - w.sats.length - w.stas.length - w.recs.length < w.pass.length
    · exact c
    · rw [List.getElem?_eq_none_iff.mpr (by omega)] at h
      cases h
  rw [List.getElem?_eq_getElem c4] at h
  cases h
  have hg : w.pass[i - w.sats.length - w.stas.length - w.recs.length]? = some w.pass[i - w.sats.length - w.stas.length - w.recs.length] := List.getElem?_eq_getElem c4
  have hl : (w.pass.take (i - w.sats.length - w.stas.length - w.recs.length)).length = i - w.sats.length - w.stas.length - w.recs.length := by rw [List.length_take]; omega
  have e1 : w.sats.take i = w.sats := List.take_of_length_le (by omega)
  have e2 : w.stas.take (i - w.sats.length) = w.stas := List.take_of_length_le (by omega)
  refine ⟨⟨?_, ?_⟩, ?_, ?_, ?_⟩
  · show PasOk (w.sats.take i).length (w.stas.take _).length (w.pass.take _).length _
    rw [hl, e1, e2]
    exact ok.pass _ _ hg
  · show (w.pass.take _).length < 4
    omega
  · unfold part Wld.add
    simp only [← take_snoc hg]
    rw [List.take_of_length_le (by omega : w.sats.length ≤ i), List.take_of_length_le (by omega : w.sats.length ≤ i + 1), List.take_of_length_le (by omega : w.stas.length ≤ i - w.sats.length), List.take_of_length_le (by omega : w.stas.length ≤ i + 1 - w.sats.length),
      List.take_of_length_le (by omega : w.recs.length ≤ i - w.sats.length - w.stas.length), List.take_of_length_le (by omega : w.recs.length ≤ i + 1 - w.sats.length - w.stas.length),
      show i + 1 - w.sats.length - w.stas.length - w.recs.length = i - w.sats.length - w.stas.length - w.recs.length + 1 by omega]
  · unfold stg
    split
    · exact (by decide : (0 : Int) ≤ 3)
    · split
      · exact (by decide : (1 : Int) ≤ 3)
      · split
        · exact (by decide : (2 : Int) ≤ 3)
        · exact Int.le_refl 3
  · unfold stg
    rw [if_neg (by omega), if_neg (by omega), if_neg (by omega)]
    rfl

/-! ### the rows are fit for lines_of -/
def WL (u : Str) : Prop := Wrd u ∧ u.length ≤ 20
theorem wl_lit {u : Str} (h : (wrdB u && decide (u.length ≤ 20)) = true) : WL u := by
  rw [Bool.and_eq_true] at h
  exact ⟨wrd_of h.1, of_decide_eq_true h.2⟩
theorem wl_num {n : Int} (h : 0 ≤ n ∧ n < 64) : WL (numS n) := ⟨(numW h.1 h.2).wrd, by have := num_len h.1 h.2; omega⟩
theorem wl_cons {u : Str} {l : List Str} (h : WL u) (r : ∀ x ∈ l, WL x) : ∀ x ∈ u :: l, WL x := fun x hx => by
  rcases List.mem_cons.mp hx with e | e
  · rw [e]; exact h
  · exact r x e
theorem wl_nil : ∀ x ∈ ([] : List Str), WL x := fun x hx => absurd hx (by simp)
theorem wl_s {k : Int} (h : 0 ≤ k ∧ k < 8) : WL (nm "s" k) := ⟨(nm_ok h.1 h.2).1.1.wrd, by have := (nm_ok h.1 h.2).1.2; omega⟩
theorem wl_t {k : Int} (h : 0 ≤ k ∧ k < 8) : WL (nm "t" k) := ⟨(nm_ok h.1 h.2).2.1.1.wrd, by have := (nm_ok h.1 h.2).2.1.2; omega⟩
theorem wl_r {k : Int} (h : 0 ≤ k ∧ k < 8) : WL (nm "r" k) := ⟨(nm_ok h.1 h.2).2.2.1.1.wrd, by have := (nm_ok h.1 h.2).2.2.1.2; omega⟩
theorem wl_p {k : Int} (h : 0 ≤ k ∧ k < 8) : WL (nm "p" k) := ⟨(nm_ok h.1 h.2).2.2.2.1.wrd, by have := (nm_ok h.1 h.2).2.2.2.2; omega⟩
theorem rowT_len : ∀ {ws : List Str}, (∀ u ∈ ws, u.length ≤ 20) → (rowT ws).length ≤ 21 * ws.length
  | [], _ => by decide +kernel
  | [u], h => by
    show u.length ≤ _
    have := h u (List.mem_singleton.mpr rfl)
    simp
    omega
  | u :: v :: r, h => by
    show (u ++ sp ++ rowT (v :: r)).length ≤ _
    rw [Str.length_append, Str.length_append, show sp.length = 1 by decide +kernel]
    have h1 := h u (List.mem_cons_self ..)
    have h2 := rowT_len (ws := v :: r) fun x hx => h x (List.mem_cons_of_mem _ hx)
    rw [List.length_cons (as := v :: r)]
    omega
theorem light_mem' : ∀ {l : List (Int × Int)} {least : Int} {q : Int × Int}, LightOk least l → 0 ≤ least → q ∈ l → 0 ≤ q.1 ∧ q.1 < q.2 ∧ q.2 ≤ 40
  | [], _, _, _, _, h => absurd h (by simp)
  | (a, b) :: r, least, q, h, h0, hm => by
    obtain ⟨h1, h2, h3, h4⟩ := h
    rcases List.mem_cons.mp hm with e | e
    · subst e
      exact ⟨by omega, h2, h3⟩
    · exact light_mem' h4 (by omega) e
theorem spans_len' (l : List (Int × Int)) : (spansW l).length = 2 * l.length := by
  induction l with
  | nil => rfl
  | cons q r ih =>
    show ([numS q.1, numS q.2] ++ spansW r).length = _
    rw [List.length_append, ih]
    simp
    omega
/-- a row is fit -/
structure RowOk (r : List Str) : Prop where
  ne : r ≠ []
  few : r.length ≤ 50
  all : ∀ u ∈ r, WL u
theorem row_sat {w : Wld} (ok : WldOk w) {k : Nat} {s : Sat} (h : w.sats[k]? = some s) : RowOk (satW s) := by
  have o := ok.sats k s h
  have hk := (List.getElem?_eq_some_iff.mp h).1
  have := ok.nsats
  have := o.store
  have := o.battery
  have := o.level
  have := o.reserve
  have := o.charge
  have := o.settle
  refine ⟨by unfold satW; simp, ?_, ?_⟩
  · unfold satW
    rw [List.length_append, spans_len']
    have := o.few
    simp
    omega
  · unfold satW
    rw [o.name]
    intro u hu
    rcases List.mem_append.mp hu with hu | hu
    · exact wl_cons (wl_lit (by decide +kernel)) (wl_cons (wl_s (by omega)) (wl_cons (wl_lit (by decide +kernel)) (wl_cons (wl_num (by omega)) (wl_cons (wl_lit (by decide +kernel)) (wl_cons (wl_num (by omega)) (wl_cons (wl_lit (by decide +kernel)) (wl_cons (wl_num (by omega)) (wl_cons (wl_lit (by decide +kernel)) (wl_cons (wl_num (by omega)) (wl_cons (wl_lit (by decide +kernel)) (wl_cons (wl_num (by omega)) (wl_cons (wl_lit (by decide +kernel)) (wl_cons (wl_num (by omega)) (wl_cons (wl_lit (by decide +kernel)) wl_nil)))))))))))))) u hu
    · obtain ⟨q, hq, hu⟩ := List.mem_flatMap.mp hu
      have hl := light_mem' o.light (Int.le_refl 0) hq
      exact wl_cons (wl_num (by omega)) (wl_cons (wl_num (by omega)) wl_nil) u hu
theorem row_sta {w : Wld} (ok : WldOk w) {k : Nat} {s : Sta} (h : w.stas[k]? = some s) : RowOk (staW s) := by
  have o := ok.stas k s h
  have hk := (List.getElem?_eq_some_iff.mp h).1
  have := ok.nstas
  have := o.antennas
  have := o.turn
  refine ⟨by unfold staW; simp, by unfold staW; simp, ?_⟩
  unfold staW
  rw [o.name]
  exact wl_cons (wl_lit (by decide +kernel)) (wl_cons (wl_t (by omega)) (wl_cons (wl_lit (by decide +kernel)) (wl_cons (wl_num (by omega)) (wl_cons (wl_lit (by decide +kernel)) (wl_cons (wl_num (by omega)) wl_nil)))))
theorem row_rcd {w : Wld} (ok : WldOk w) {k : Nat} {r : Rcd} (h : w.recs[k]? = some r) : RowOk (rcdW r) := by
  have o := ok.recs k r h
  have hk := (List.getElem?_eq_some_iff.mp h).1
  have := ok.nrecs
  have := ok.nsats
  have := o.sat
  have := o.earliest
  have := o.latest
  have := o.length
  have := o.size
  have := o.energy
  have := o.worth
  have := o.rank
  have := o.deadline
  refine ⟨by unfold rcdW; simp, by unfold rcdW; simp, ?_⟩
  unfold rcdW
  rw [o.name]
  exact wl_cons (wl_lit (by decide +kernel)) (wl_cons (wl_r (by omega)) (wl_cons (wl_lit (by decide +kernel)) (wl_cons (wl_s (by omega)) (wl_cons (wl_lit (by decide +kernel)) (wl_cons (wl_num (by omega)) (wl_cons (wl_lit (by decide +kernel)) (wl_cons (wl_num (by omega)) (wl_cons (wl_lit (by decide +kernel)) (wl_cons (wl_num (by omega)) (wl_cons (wl_lit (by decide +kernel)) (wl_cons (wl_num (by omega)) (wl_cons (wl_lit (by decide +kernel)) (wl_cons (wl_num (by omega)) (wl_cons (wl_lit (by decide +kernel)) (wl_cons (wl_num (by omega)) (wl_cons (wl_lit (by decide +kernel)) (wl_cons (wl_num (by omega)) (wl_cons (wl_lit (by decide +kernel)) (wl_cons (wl_num (by omega)) wl_nil)))))))))))))))))))
theorem row_pas {w : Wld} (ok : WldOk w) {k : Nat} {p : Pas} (h : w.pass[k]? = some p) : RowOk (pasW p) := by
  have o := ok.pass k p h
  have hk := (List.getElem?_eq_some_iff.mp h).1
  have := ok.npass
  have := ok.nsats
  have := ok.nstas
  have := o.sat
  have := o.sta
  have := o.span
  have := o.room
  have := o.energy
  have := o.fee
  refine ⟨by unfold pasW; simp, by unfold pasW; simp, ?_⟩
  unfold pasW
  rw [o.name]
  exact wl_cons (wl_lit (by decide +kernel)) (wl_cons (wl_p (by omega)) (wl_cons (wl_lit (by decide +kernel)) (wl_cons (wl_s (by omega)) (wl_cons (wl_lit (by decide +kernel)) (wl_cons (wl_t (by omega)) (wl_cons (wl_lit (by decide +kernel)) (wl_cons (wl_num (by omega)) (wl_cons (wl_lit (by decide +kernel)) (wl_cons (wl_num (by omega)) (wl_cons (wl_lit (by decide +kernel)) (wl_cons (wl_num (by omega)) (wl_cons (wl_lit (by decide +kernel)) (wl_cons (wl_num (by omega)) (wl_cons (wl_lit (by decide +kernel)) (wl_cons (wl_num (by omega)) wl_nil)))))))))))))))
theorem rows_ok {w : Wld} (ok : WldOk w) : RowsOk (rowsOf w) := by
  have all : ∀ r ∈ rowsOf w, RowOk r := by
    intro r hr
    unfold rowsOf at hr
    rcases List.mem_cons.mp hr with e | hr
    · subst e
      exact ⟨by unfold horW; simp, by unfold horW; simp, wl_cons (wl_lit (by decide +kernel)) (wl_cons (wl_num (by decide)) wl_nil)⟩
    · rcases List.mem_append.mp hr with hr | hr
      · obtain ⟨s, hs, rfl⟩ := List.mem_map.mp hr
        obtain ⟨k, hk⟩ := List.mem_iff_getElem?.mp hs
        exact row_sat ok hk
      · rcases List.mem_append.mp hr with hr | hr
        · obtain ⟨s, hs, rfl⟩ := List.mem_map.mp hr
          obtain ⟨k, hk⟩ := List.mem_iff_getElem?.mp hs
          exact row_sta ok hk
        · rcases List.mem_append.mp hr with hr | hr
          · obtain ⟨s, hs, rfl⟩ := List.mem_map.mp hr
            obtain ⟨k, hk⟩ := List.mem_iff_getElem?.mp hs
            exact row_rcd ok hk
          · obtain ⟨s, hs, rfl⟩ := List.mem_map.mp hr
            obtain ⟨k, hk⟩ := List.mem_iff_getElem?.mp hs
            exact row_pas ok hk
  refine ⟨by unfold rowsOf; simp, ?_, fun r hr => ⟨(all r hr).ne, by have := (all r hr).few; omega, fun u hu => (all r hr).all u hu, ?_⟩⟩
  · unfold rowsOf
    have := ok.nsats
    have := ok.nstas
    have := ok.nrecs
    have := ok.npass
    simp
    omega
  · have := rowT_len (ws := r) fun u hu => ((all r hr).all u hu).2
    have := (all r hr).few
    omega
end K59
set_option maxHeartbeats 4000000
/-! World.parse -/
namespace K59
open PySem PySem.Spec PyProof.Rows L2 TL
theorem cut_tail {x : V} {xs : List V} : cutV (x :: xs) (some 1) none = xs := by
  have h := cut_drop (xs := x :: xs) (i := 1)
  exact h
section
variable {P : Program} {w : World} {K : PySem.W.Frag} {mg : Str → Option Value} {base : Heap}
theorem ok_parse {f : Addr} {fd : FuncData} (F : Fun K "parse" "World.parse" sWorldParse f fd) (T : Tx K mg)
    (cL : Cal P w K mg base 3 "lines_of" ["text"] (spLinesOf K)) (cF : CalM P w K mg base 4 (cl K "Line") "take_field" ["self", "word", "least", "most"] [] (spTakeField K)) (cZ : CalM P w K mg base 2 (cl K "Line") "finish" ["self"] [] (spFinish K))
    (cD : CalI P w K mg base 1 "Draft" ["self", "horizon"] (spDraftInit K)) (cR : Cal P w K mg base 6 "read_line" ["world", "line", "stage"] (spReadLine K)) (cW : CalI P w K mg base 3 "World" ["self", "draft"] (spWorldInit K)) :
    FnOk P w K mg base CX0 7 f fd ["text"] (spParse K) := by
  refine F.ok scWorldParse (fun vs H Q E h => ?_) (fun cdv A outer s H vs Q E hr h => ?_)
  · obtain ⟨z, w', rfl, _⟩ := h
    rfl
  · obtain ⟨z, w', rfl, hz, hzl, wok, k⟩ := h
    obtain ⟨uh, vh⟩ := T.vHor
    refine ⟨_, pss_cons (ps_set (i := 1) scWorldParse.nd rfl (Or.inl rfl) (pe_f cL (hr.mono (by decide)) (pa_cons (pv 0) pa_nil)))
      (pss_cons (ps_if (pt_cmpR op_eq (pe_callB call_len_seq (by rfl) T.len PySem.boot_len (pa_cons (pv 1) pa_nil)) pe_int (nomark _)) (pss_one ps_never) pss_nil)
      (pss_cons (ps_set (i := 2) scWorldParse.nd rfl (Or.inl rfl) (pe_mk cD (hr.mono (by decide)) (pa_cons (pe_m (pe_ix ix_list (pv 1) pe_int (fun _ _ => rfl)) T.cLine cF (hr.mono (by decide)) (pa_cons pe_str (pa_cons pe_int (pa_cons (ClX.pe_cval (pe_gR T.gWorld)) pa_nil)))) pa_nil)))
      (pss_cons (ps_expr (pe_m00 (pe_ix ix_list (pv 1) pe_int (fun _ _ => rfl)) T.cLine cZ (hr.mono (by decide))))
      (pss_cons (ps_set (i := 3) scWorldParse.nd rfl (Or.inl rfl) pe_int)
      (pss_cons (ps_for PassesOwn.never rfl (pi_list (pe_slice sl_list (pv 1) (po_some pe_int) po_none)) (pg_name (i := 4) scWorldParse.nd rfl (Or.inl rfl))
        (pss_one (ps_set (i := 3) scWorldParse.nd rfl (Or.inl rfl) (pe_f cR hr (pa_cons (pv 2) (pa_cons (pv 4) (pa_cons (pv 3) pa_nil)))))))
      (pss_one (ps_ret (pe_mk cW (hr.mono (by decide)) (pa_cons (pv 2) pa_nil))))))))), ?_⟩
    refine ⟨_, rfl, z, rowsOf w', rfl, hz, rows_ok wok, hzl, fun H1 l Ls s1 hl el hws hLs hnd => ?_⟩
    rw [rows_items] at hws
    cases Ls with
    | nil => exact absurd hws (by simp)
    | cons L0 Ls =>
    have hws0 : L0.ws = horW := (List.cons.inj hws).1
    have hwsr : Ls.map (·.ws) = (items w').map Item.ws := (List.cons.inj hws).2
    have hlen : Ls.length = (items w').length := by
      have := congrArg List.length hwsr
      simpa using this
    refine ⟨_, rfl, l, _, rfl, .inl (SqL.of el), rfl, _, rfl, dF (by intro e; have e2 := V.int.inj e; simp at e2; omega) ?_⟩
    have l0 := (hLs L0 (List.mem_cons_self ..)).1
    obtain ⟨dx0, n0, col0, e0⟩ := l0.ob
    refine ⟨_, rfl, l, _, _, _, rfl, rfl, SqL.of el, atI_nat (j := 0) rfl, L0.p, dx0, _, rfl, e0, lookup_out (by decide +kernel), cl K "World", _, _, uh, rfl, T.rWld, vh, L0, 0, "horizon", 40, 1, 500, rfl, l0, (by rw [hws0]; rfl), (by decide +kernel), (by rw [hws0]; rfl), (by decide), fun H2 o2 l2 => ?_⟩
    intro d dd hd hdd hne
    have sd := made0 (o1 := .own d) (o2 := .ins (cl K "Draft") dd []) hd hdd
    refine ⟨d, dd, rfl, upd_same, fun H3 D o3 hDd hq1 hq2 hq3 hq4 hn1 hn2 hn3 hn4 hD => ⟨rfl, ?_⟩⟩
    subst hDd
    have s23 : Same H2 H3 := made_same hd hdd o3
    have l3 := l2.same s23
    have nl0 : l ≠ L0.p := l0.ne_lst el
    have el3 : H3 l = some (.lst ((L0 :: Ls).map fun L => V.ref L.p)) := s23 _ _ (o2 _ _ el (by simpa using nl0))
    obtain ⟨dx3, n3, col3, e3⟩ := l3.ob
    refine ⟨_, rfl, l, _, _, _, rfl, rfl, SqL.of el3, atI_nat (j := 0) rfl, L0.p, dx3, _, rfl, e3, lookup_out (by decide +kernel), L0, rfl, ?_, ?_⟩
    · rw [show L0.ws.length = 0 + 2 by rw [hws0]; rfl]
      exact l3
    refine ⟨_, rfl, 1, rfl, l, _, rfl, SqL.of el3, ?_⟩
    have ecut : cutV ((L0 :: Ls).map fun L => V.ref L.p) (some 1) none = Ls.map fun L => V.ref L.p := cut_tail
    rw [ecut]
    intro p2 hp2
    -- what is new
    have hd0 : H2 D.d = none := hd
    have new2 : ∀ a, a ∈ D.as → H2 a = none := by
      intro a ha
      have h' : a = D.a1 ∨ a = D.a2 ∨ a = D.a3 ∨ a = D.a4 := by simpa [Dr.as] using ha
      rcases h' with e | e | e | e <;> subst e
      · exact same_none sd hn1
      · exact same_none sd hn2
      · exact same_none sd hn3
      · exact same_none sd hn4
    have hp0 : ∀ L ∈ L0 :: Ls, H L.p = none := fun L hL => (hLs L hL).2.1
    have oH2 : Same H H2 := fun b o e => o2 b o (s1 b o e) (by
      intro z
      rw [List.mem_singleton.mp z] at e
      rw [hp0 L0 (List.mem_cons_self ..)] at e
      cases e)
    have newH : ∀ a, a ∈ D.as → H a = none := fun a ha => same_none oH2 (new2 a ha)
    have sH3 : Same H H3 := oH2.trans s23
    have nd' := (List.nodup_cons.mp hnd)
    have lines3 : ∀ (j : Nat) (L : Ln), Ls[j]? = some L → LineAt K H3 L 0 := by
      intro j L hj
      have hm := List.mem_of_getElem? hj
      have la := (hLs L (List.mem_cons_of_mem _ hm)).1
      have np : L.p ≠ L0.p := fun e => nd'.1 (List.mem_map.mpr ⟨L, hm, e⟩)
      have nw : L.wl ≠ L0.p := l0.ne_lst la.wl
      exact (la.off o2 (by simpa using np) (by simpa using nw)).same s23
    have wl_as : ∀ L ∈ Ls, L.wl ∉ D.as := by
      intro L hm ha
      have la := (hLs L (List.mem_cons_of_mem _ hm)).1
      have h2 := o2 _ _ la.wl (by simpa using l0.ne_lst la.wl)
      rw [new2 _ ha] at h2
      cases h2
    have as3 : ∀ a ∈ D.as, ∃ xs, H3 a = some (.lst xs) := by
      intro a ha
      have h' : a = D.a1 ∨ a = D.a2 ∨ a = D.a3 ∨ a = D.a4 := by simpa [Dr.as] using ha
      rcases h' with e | e | e | e <;> subst e
      · exact ⟨_, hD.l1⟩
      · exact ⟨_, hD.l2⟩
      · exact ⟨_, hD.l3⟩
      · exact ⟨_, hD.l4⟩
    have p2_as : p2 ∉ D.as := by
      intro ha
      obtain ⟨xs, h⟩ := as3 _ ha
      rw [hp2] at h
      cases h
    have s4 : Same H3 (upd H3 p2 (.lst (Ls.map fun L => V.ref L.p))) := same_upd hp2
    refine ⟨p2, rfl, ⟨_, SqL.of upd_same⟩, ?_⟩
    refine for_list (K := K) (a := p2) (xs := Ls.map fun L => V.ref L.p) (fun i σ H' => (∃ (x4 : Option V) (D' : Dr), σ = [some (.str z), some (.ref l), some (.ref D.d), some (.int (stg w' i)), x4] ∧ D'.d = D.d ∧ D'.as = D.as ∧ DraftAt K H' D' (part w' i)) ∧ Same H H' ∧ H' p2 = some (.lst (Ls.map fun L => V.ref L.p)) ∧ ∀ (j : Nat) (L : Ln), i ≤ j → Ls[j]? = some L → LineAt K H' L 0) ?_ (fun i σ H' _ h => SqL.of h.2.2.1) ?_ ?_
    · refine ⟨⟨none, D, ?_, rfl, rfl, ?_⟩, sH3.trans s4, upd_same, fun j L _ hj => (lines3 j L hj).same s4⟩
      · rw [show stg w' 0 = 0 by unfold stg; rw [if_pos (Nat.zero_le _)]]
        rfl
      · rw [part_zero]
        exact hD.off s4.off s4.kp (S := []) (by simp)
    · rintro i x σ H5 hx ⟨⟨x4, D', rfl, hd', has', hD'⟩, s5, e5, hl5⟩
      rw [List.getElem?_map] at hx
      cases hLi : Ls[i]? with
      | none => rw [hLi] at hx; cases hx
      | some L =>
      rw [hLi] at hx
      cases hx
      have hm := List.mem_of_getElem? hLi
      have hii : i < (items w').length := by rw [← hlen]; exact (List.getElem?_eq_some_iff.mp hLi).1
      have hit : (items w')[i]? = some (items w')[i] := List.getElem?_eq_getElem hii
      generalize (items w')[i] = it at hit
      have hwsL : L.ws = it.ws := by
        have h1 : (Ls.map (·.ws))[i]? = some L.ws := by rw [List.getElem?_map, hLi]; rfl
        rw [hwsr, List.getElem?_map, hit] at h1
        exact (Option.some.inj h1).symm
      obtain ⟨ps1, ps2, ps3, ps4⟩ := part_step wok hit
      have la := hl5 i L (Nat.le_refl i) hLi
      refine ⟨_, rfl, _, rfl, _, rfl, D', part w' i, L, stg w' i, it, by rw [hd']; rfl, hD', part_ok wok i, la, hwsL, ps1, ps3, by rw [has']; exact wl_as L hm, fun H6 D6 o6 hd6 has6 hD6 => ?_⟩
      have in6 : ∀ b, b ∈ L.p :: D'.as → H b = none := by
        intro b hb
        rcases List.mem_cons.mp hb with e | e
        · rw [e]; exact hp0 L (List.mem_cons_of_mem _ hm)
        · rw [has'] at e; exact newH b e
      refine ⟨⟨_, D6, by rw [ps4]; rfl, hd6.trans hd', has6.trans has', by rw [← ps2]; exact hD6⟩, fun b o e => o6 b o (s5 b o e) (fun hb => by rw [in6 b hb] at e; cases e), o6 _ _ e5 ?_, ?_⟩
      · intro hb
        rcases List.mem_cons.mp hb with e | e
        · exact la.ne_lst e5 e
        · rw [has'] at e; exact p2_as e
      · intro j L2 hj hL2
        have hm2 := List.mem_of_getElem? hL2
        have lb := hl5 j L2 (by omega) hL2
        refine lb.off o6 ?_ ?_
        · intro hb
          rcases List.mem_cons.mp hb with e | e
          · have h1 : (Ls.map (·.p))[i]? = some L.p := by rw [List.getElem?_map, hLi]; rfl
            have h2 : (Ls.map (·.p))[j]? = some L2.p := by rw [List.getElem?_map, hL2]; rfl
            rw [e] at h2
            have := (List.getElem?_inj (by rw [List.length_map, hlen]; exact hii) nd'.2).mp (h1.trans h2.symm)
            omega
          · have h' : L2.p = D'.a1 ∨ L2.p = D'.a2 ∨ L2.p = D'.a3 ∨ L2.p = D'.a4 := by simpa [Dr.as] using e
            rcases h' with e | e | e | e
            · exact lb.ne_lst hD'.l1 e.symm
            · exact lb.ne_lst hD'.l2 e.symm
            · exact lb.ne_lst hD'.l3 e.symm
            · exact lb.ne_lst hD'.l4 e.symm
        · intro hb
          rcases List.mem_cons.mp hb with e | e
          · exact la.ne_lst lb.wl e
          · rw [has'] at e; exact wl_as L2 hm2 e
    · rintro σ H5 ⟨⟨x4, D', rfl, hd', has', hD'⟩, s5, e5, hl5⟩
      rw [List.length_map, hlen, part_all] at hD'
      refine ⟨_, rfl, ?_⟩
      intro a dx ha hdx hne
      have sa := made0 (o1 := .own a) (o2 := .ins (cl K "World") dx []) ha hdx
      refine ⟨a, dx, D', w', by rw [hd']; rfl, upd_same, hD'.off sa.off sa.kp (S := []) (by simp), wok, fun H7 W o7 hW hWA => ⟨rfl, ?_⟩⟩
      subst hW
      exact k H7 W (s5.trans (made_same ha hdx o7)) hWA
end
end K59
set_option maxHeartbeats 4000000
/-! base_of, recording_weight, _law_recording_weight -/
namespace K59
open PySem PySem.Spec PyProof.Rows L2 TL
theorem sum_bd : ∀ {l : List Int} {n : Nat}, (∀ x ∈ l, 0 ≤ x ∧ x ≤ 63) → l.length ≤ n → 0 ≤ l.sum ∧ l.sum ≤ 63 * (n : Int)
  | [], n, _, _ => by simp; omega
  | x :: l, n, h, hn => by
    rw [List.length_cons] at hn
    have h1 := h x (List.mem_cons_self ..)
    have h2 := sum_bd (l := l) (n := n - 1) (fun y hy => h y (List.mem_cons_of_mem _ hy)) (by omega)
    rw [List.sum_cons]
    omega
theorem base_bd {w : Wld} (ok : WldOk w) : 1 ≤ baseOf w ∧ baseOf w ≤ 400 := by
  have h1 := sum_bd (l := w.pass.map (·.fee)) (n := 4) (fun x hx => by
    obtain ⟨p, hp, rfl⟩ := List.mem_map.mp hx
    obtain ⟨i, hi⟩ := List.mem_iff_getElem?.mp hp
    have := (ok.pass i p hi).fee
    omega) (by rw [List.length_map]; exact ok.npass)
  have h2 := sum_bd (l := w.recs.map (·.worth)) (n := 5) (fun x hx => by
    obtain ⟨p, hp, rfl⟩ := List.mem_map.mp hx
    obtain ⟨i, hi⟩ := List.mem_iff_getElem?.mp hp
    have := (ok.recs i p hi).worth
    omega) (by rw [List.length_map]; exact ok.nrecs)
  unfold baseOf
  split <;> omega
theorem wtN_bd {w : Wld} {r : Rcd} (ok : WldOk w) (hr : 1 ≤ r.worth ∧ r.worth < 64) : ∀ n : Nat, 1 ≤ wtN w r n ∧ wtN w r n ≤ 63 * 400 ^ n
  | 0 => by
    show 1 ≤ r.worth ∧ r.worth ≤ _
    simp
    omega
  | n + 1 => by
    obtain ⟨h1, h2⟩ := wtN_bd ok hr n
    obtain ⟨h3, h4⟩ := base_bd ok
    show 1 ≤ wtN w r n * baseOf w ∧ wtN w r n * baseOf w ≤ _
    constructor
    · have := Int.mul_le_mul h1 h3 (by decide) (by omega)
      omega
    · have := Int.mul_le_mul h2 h4 (by omega) (by omega)
      rw [Int.pow_succ, ← Int.mul_assoc]
      exact this
section
variable {P : Program} {w : World} {K : PySem.W.Frag} {mg : Str → Option Value} {base : Heap}
theorem ok_baseOf {f : Addr} {fd : FuncData} (F : Fun K "base_of" "base_of" sBaseOf f fd) (T : Tx K mg) : FnOk P w K mg base CX0 1 f fd ["world"] (spBaseOf K) := by
  refine F.ok scBaseOf (fun vs H Q E h => ?_) (fun cdv A outer s H vs Q E hr h => ?_)
  · obtain ⟨W, w', rfl, _⟩ := h
    rfl
  · obtain ⟨W, w', rfl, hW, k⟩ := h
    have hw := hW.wa
    have wok := hW.ok
    obtain ⟨dw, fw, ew, lw0, lw1, lw2, lw3, lw4⟩ := hw.ob
    refine ⟨_, pss_cons (ps_set (i := 1) scBaseOf.nd rfl (Or.inl rfl) (pe_callB (cr_sum rfl) (by rfl) T.sum (by decide +kernel) (pa_cons (pe_lc (own := [("recording", 3)]) (g := gName 3) (tt := tYes) (te := tFld K (tVar 3) "worth") rfl scBaseOf.nd (pi_tup (pe_fld (pv 0) rfl))
        (blkOk_by (own := [("recording", 3)]) (N := ["world", "worths", "fees", "recording", "chance"]) (sc := defScope sBaseOf) (by decide +kernel)) (fun _ _ _ _ _ => pg_name (i := 3) scBaseOf.nd rfl (Or.inl rfl)) (fun _ _ _ _ _ => pts_nil) (fun _ _ _ _ _ => pe_fld (pv 3) rfl)) pa_nil)))
      (pss_cons (ps_set (i := 2) scBaseOf.nd rfl (Or.inl rfl) (pe_callB (cr_sum rfl) (by rfl) T.sum (by decide +kernel) (pa_cons (pe_lc (own := [("chance", 4)]) (g := gName 4) (tt := tYes) (te := tFld K (tVar 4) "fee") rfl scBaseOf.nd (pi_tup (pe_fld (pv 0) rfl))
        (blkOk_by (own := [("chance", 4)]) (N := ["world", "worths", "fees", "recording", "chance"]) (sc := defScope sBaseOf) (by decide +kernel)) (fun _ _ _ _ _ => pg_name (i := 4) scBaseOf.nd rfl (Or.inl rfl)) (fun _ _ _ _ _ => pts_nil) (fun _ _ _ _ _ => pe_fld (pv 4) rfl)) pa_nil)))
      (pss_one (ps_ret (pe_op op_add pe_int (pe_callB (call_max2 rfl) (by rfl) T.max (by decide +kernel) (pa_cons (pv 1) (pa_cons (pv 2) pa_nil))))))), ?_⟩
    refine ⟨_, rfl, W.a, _, dw, _, _, rfl, ew, T.cWld, T.aWld _ (mem_at 3), lw3, W.t3, rfl, ⟨_, SqT.of hw.l3⟩, fun D hD => ?_⟩
    refine lc_map walk_tup w'.recs (fun _ v r => v = V.int r.worth) hD (by rw [List.length_map, hw.s3.len]) (by rw [List.length_map, hw.s3.len]; have := wok.nrecs; omega) (fun H' s => SqT.of (s _ _ hw.l3)) (fun _ _ _ _ _ _ z => z) ?_ ?_
    · rintro i b x H2 H3 C Z hb sB _ ⟨rfl, hx⟩ hC
      obtain ⟨q, hq, dq, eq⟩ := hw.s3.get hb
      rw [List.getElem?_map, hq] at hx
      cases hx
      exact ⟨rfl, yesI ⟨_, rfl, q, _, dq, _, _, rfl, sB _ _ eq, T.cRcd, T.aRcd _ (mem_at 7), lookup_zip ndRcd (i := 7) rfl rfl, hC _ _ (fun _ _ z => z) rfl⟩⟩
    intro H1 ys s1 e1 al1
    have e1' : H1 D = some (.lst ((w'.recs.map (·.worth)).map V.int)) := by rw [e1, all2_map al1, List.map_map]; rfl
    refine ⟨D, _, rfl, SqL.of e1', ?_⟩
    refine ⟨_, rfl, W.a, _, dw, _, _, rfl, s1 _ _ ew, T.cWld, T.aWld _ (mem_at 4), lw4, W.t4, rfl, ⟨_, SqT.of (s1 _ _ hw.l4)⟩, fun D2 hD2 => ?_⟩
    refine lc_map walk_tup w'.pass (fun _ v r => v = V.int r.fee) hD2 (by rw [List.length_map, hw.s4.len]) (by rw [List.length_map, hw.s4.len]; have := wok.npass; omega) (fun H' s => SqT.of (s _ _ (s1 _ _ hw.l4))) (fun _ _ _ _ _ _ z => z) ?_ ?_
    · rintro i b x H2 H3 C Z hb sB _ ⟨rfl, hx⟩ hC
      obtain ⟨q, hq, dq, tq, eq, _⟩ := hw.s4.get hb
      rw [List.getElem?_map, hq] at hx
      cases hx
      exact ⟨rfl, yesI ⟨_, rfl, q, _, dq, _, _, rfl, sB _ _ (s1 _ _ eq), T.cPas, T.aPas _ (mem_at 6), lookup_zip ndPas (i := 6) rfl rfl, hC _ _ (fun _ _ z => z) rfl⟩⟩
    intro H2 ys2 s2 e2 al2
    have e2' : H2 D2 = some (.lst ((w'.pass.map (·.fee)).map V.int)) := by rw [e2, all2_map al2, List.map_map]; rfl
    refine ⟨D2, _, rfl, SqL.of e2', ?_⟩
    exact ⟨_, rfl, _, rfl, _, _, rfl, _, _, rfl, rfl, k H2 (s1.trans s2)⟩
theorem ok_recordingWeight {f : Addr} {fd : FuncData} (F : Fun K "recording_weight" "recording_weight" sRecordingWeight f fd) (T : Tx K mg) (cB : Cal P w K mg base 1 "base_of" ["world"] (spBaseOf K)) : FnOk P w K mg base CX0 2 f fd ["world", "r"] (spRecordingWeight K) := by
  refine F.ok scRecordingWeight (fun vs H Q E h => ?_) (fun cdv A outer s H vs Q E hr h => ?_)
  · obtain ⟨W, w', i, r, rfl, _⟩ := h
    rfl
  · obtain ⟨W, w', n, r, rfl, hW, hn, k⟩ := h
    have hw := hW.wa
    have wok := hW.ok
    have ok := wok.recs n r hn
    obtain ⟨dw, fw, ew, lw0, lw1, lw2, lw3, lw4⟩ := hw.ob
    obtain ⟨q, hq, dq, eq⟩ := hw.s3.get hn
    have hat : atI (W.q3.map V.ref) (n : Int) = some (V.ref q) := atI_nat (by rw [List.getElem?_map, hq]; rfl)
    refine ⟨_, pss_cons (ps_set (i := 2) scRecordingWeight.nd rfl (Or.inl rfl) (pe_ix ix_tup (pe_fld (pv 0) rfl) (pv 1) (fun _ _ => rfl)))
      (pss_cons (ps_set (i := 3) scRecordingWeight.nd rfl (Or.inl rfl) (pe_fld (pv 2) rfl))
      (pss_cons (ps_for PassesOwn.never rfl (pi_range1 (by rfl) T.range (pa_cons (pe_op op_sub pe_int (pe_fld (pv 2) rfl)) pa_nil)) (pg_name (i := 4) scRecordingWeight.nd rfl (Or.inl rfl))
        (pss_one (ps_aug (i := 3) scRecordingWeight.nd rfl (Or.inl rfl) (pe_f cB hr (pa_cons (pv 0) pa_nil)) iop_mul)))
      (pss_one (ps_ret (pv 3))))), ?_⟩
    refine ⟨_, rfl, W.a, _, dw, _, _, rfl, ew, T.cWld, T.aWld _ (mem_at 3), lw3, _, rfl, W.t3, _, _, _, rfl, rfl, SqT.of hw.l3, hat, ?_⟩
    refine ⟨_, rfl, q, _, dq, _, _, rfl, eq, T.cRcd, T.aRcd _ (mem_at 7), lookup_zip ndRcd (i := 7) rfl rfl, ?_⟩
    refine ⟨_, rfl, q, _, dq, _, _, rfl, eq, T.cRcd, T.aRcd _ (mem_at 8), lookup_zip ndRcd (i := 8) rfl rfl, _, _, rfl, rfl, _, rfl, by have := ok.rank; omega, by have := ok.rank; omega, ?_⟩
    refine for_range (fun i σ H' => (∃ x : Option V, σ = [some (.ref W.a), some (.int (n : Int)), some (.ref q), some (.int (wtN w' r i)), x]) ∧ Same H H') ⟨⟨none, rfl⟩, fun _ _ z => z⟩ ?_ ?_
    · rintro i σ H1 hi ⟨⟨x, rfl⟩, s1⟩
      refine ⟨_, rfl, _, rfl, W, w', rfl, hW.same s1, fun H2 s2 => ?_⟩
      refine ⟨_, _, rfl, rfl, .inr ⟨by have := base_bd wok; omega, by have := base_bd wok; omega⟩, ?_⟩
      exact ⟨⟨_, rfl⟩, s1.trans s2⟩
    · rintro σ H1 ⟨⟨x, rfl⟩, s1⟩
      exact ⟨_, rfl, k H1 s1⟩
theorem ok_lWeight {f : Addr} {fd : FuncData} (F : Fun K "_law_recording_weight" "_law_recording_weight" sLRecordingWeight f fd) (T : Tx K mg) : FnOk P w K mg base CX0 1 f fd ["_law_world_here", "_law_r"] (spLWeight K) := by
  refine F.ok scLRecordingWeight (fun vs H Q E h => ?_) (fun cdv A outer s H vs Q E hr h => ?_)
  · obtain ⟨W, w', i, r, rfl, _⟩ := h
    rfl
  · obtain ⟨W, w', n, r, rfl, hW, hn, k⟩ := h
    have hw := hW.wa
    have wok := hW.ok
    have ok := wok.recs n r hn
    obtain ⟨dw, fw, ew, lw0, lw1, lw2, lw3, lw4⟩ := hw.ob
    obtain ⟨q, hq, dq, eq⟩ := hw.s3.get hn
    have hat : atI (W.q3.map V.ref) (n : Int) = some (V.ref q) := atI_nat (by rw [List.getElem?_map, hq]; rfl)
    refine ⟨_, pss_cons (ps_set (i := 2) scLRecordingWeight.nd rfl (Or.inl rfl) (pe_ix ix_tup (pe_fld (pv 0) rfl) (pv 1) (fun _ _ => rfl)))
      (pss_cons (ps_set (i := 3) scLRecordingWeight.nd rfl (Or.inl rfl) (pe_op op_add pe_int (pe_callB (call_max2 rfl) (by rfl) T.max (by decide +kernel)
        (pa_cons (pe_callB (cr_sum rfl) (by rfl) T.sum (by decide +kernel) (pa_cons (pe_lc (own := [("_law_x", 6)]) (g := gName 6) (tt := tYes) (te := tFld K (tVar 6) "worth") rfl scLRecordingWeight.nd (pi_tup (pe_fld (pv 0) rfl))
          (blkOk_by (own := [("_law_x", 6)]) (N := ["_law_world_here", "_law_r", "_law_recording_here", "_law_base", "_law_weight", "_law_k", "_law_x"]) (sc := defScope sLRecordingWeight) (by decide +kernel)) (fun _ _ _ _ _ => pg_name (i := 6) scLRecordingWeight.nd rfl (Or.inl rfl)) (fun _ _ _ _ _ => pts_nil) (fun _ _ _ _ _ => pe_fld (pv 6) rfl)) pa_nil))
        (pa_cons (pe_callB (cr_sum rfl) (by rfl) T.sum (by decide +kernel) (pa_cons (pe_lc (own := [("_law_x", 6)]) (g := gName 6) (tt := tYes) (te := tFld K (tVar 6) "fee") rfl scLRecordingWeight.nd (pi_tup (pe_fld (pv 0) rfl))
          (blkOk_by (own := [("_law_x", 6)]) (N := ["_law_world_here", "_law_r", "_law_recording_here", "_law_base", "_law_weight", "_law_k", "_law_x"]) (sc := defScope sLRecordingWeight) (by decide +kernel)) (fun _ _ _ _ _ => pg_name (i := 6) scLRecordingWeight.nd rfl (Or.inl rfl)) (fun _ _ _ _ _ => pts_nil) (fun _ _ _ _ _ => pe_fld (pv 6) rfl)) pa_nil)) pa_nil)))))
      (pss_cons (ps_set (i := 4) scLRecordingWeight.nd rfl (Or.inl rfl) (pe_fld (pv 2) rfl))
      (pss_cons (ps_for PassesOwn.never rfl (pi_range1 (by rfl) T.range (pa_cons (pe_op op_sub pe_int (pe_fld (pv 2) rfl)) pa_nil)) (pg_name (i := 5) scLRecordingWeight.nd rfl (Or.inl rfl))
        (pss_one (ps_set (i := 4) scLRecordingWeight.nd rfl (Or.inl rfl) (pe_op op_mul (pv 4) (pv 3)))))
      (pss_one (ps_ret (pv 4)))))), ?_⟩
    refine ⟨_, rfl, W.a, _, dw, _, _, rfl, ew, T.cWld, T.aWld _ (mem_at 3), lw3, _, rfl, W.t3, _, _, _, rfl, rfl, SqT.of hw.l3, hat, ?_⟩
    refine ⟨_, rfl, W.a, _, dw, _, _, rfl, ew, T.cWld, T.aWld _ (mem_at 3), lw3, W.t3, rfl, ⟨_, SqT.of hw.l3⟩, fun D hD => ?_⟩
    refine lc_map walk_tup w'.recs (fun _ v r => v = V.int r.worth) hD (by rw [List.length_map, hw.s3.len]) (by rw [List.length_map, hw.s3.len]; have := wok.nrecs; omega) (fun H' s => SqT.of (s _ _ hw.l3)) (fun _ _ _ _ _ _ z => z) ?_ ?_
    · rintro i b x H2 H3 C Z hb sB _ ⟨rfl, hx⟩ hC
      obtain ⟨q, hq, dq, eq⟩ := hw.s3.get hb
      rw [List.getElem?_map, hq] at hx
      cases hx
      exact ⟨rfl, yesI ⟨_, rfl, q, _, dq, _, _, rfl, sB _ _ eq, T.cRcd, T.aRcd _ (mem_at 7), lookup_zip ndRcd (i := 7) rfl rfl, hC _ _ (fun _ _ z => z) rfl⟩⟩
    intro H1 ys s1 e1 al1
    have e1' : H1 D = some (.lst ((w'.recs.map (·.worth)).map V.int)) := by rw [e1, all2_map al1, List.map_map]; rfl
    refine ⟨D, _, rfl, SqL.of e1', ?_⟩
    refine ⟨_, rfl, W.a, _, dw, _, _, rfl, s1 _ _ ew, T.cWld, T.aWld _ (mem_at 4), lw4, W.t4, rfl, ⟨_, SqT.of (s1 _ _ hw.l4)⟩, fun D2 hD2 => ?_⟩
    refine lc_map walk_tup w'.pass (fun _ v r => v = V.int r.fee) hD2 (by rw [List.length_map, hw.s4.len]) (by rw [List.length_map, hw.s4.len]; have := wok.npass; omega) (fun H' s => SqT.of (s _ _ (s1 _ _ hw.l4))) (fun _ _ _ _ _ _ z => z) ?_ ?_
    · rintro i b x H2 H3 C Z hb sB _ ⟨rfl, hx⟩ hC
      obtain ⟨q, hq, dq, tq, eq, _⟩ := hw.s4.get hb
      rw [List.getElem?_map, hq] at hx
      cases hx
      exact ⟨rfl, yesI ⟨_, rfl, q, _, dq, _, _, rfl, sB _ _ (s1 _ _ eq), T.cPas, T.aPas _ (mem_at 6), lookup_zip ndPas (i := 6) rfl rfl, hC _ _ (fun _ _ z => z) rfl⟩⟩
    intro H2 ys2 s2 e2 al2
    have e2' : H2 D2 = some (.lst ((w'.pass.map (·.fee)).map V.int)) := by rw [e2, all2_map al2, List.map_map]; rfl
    refine ⟨D2, _, rfl, SqL.of e2', ?_⟩
    have s02 : Same H H2 := s1.trans s2
    refine ⟨_, _, rfl, _, _, rfl, rfl, ?_⟩
    show (fun x H' => gName 3 x _ H' _) (V.int (baseOf w')) H2
    refine ⟨_, rfl, q, _, dq, _, _, rfl, s02 _ _ eq, T.cRcd, T.aRcd _ (mem_at 7), lookup_zip ndRcd (i := 7) rfl rfl, ?_⟩
    refine ⟨_, rfl, q, _, dq, _, _, rfl, s02 _ _ eq, T.cRcd, T.aRcd _ (mem_at 8), lookup_zip ndRcd (i := 8) rfl rfl, _, _, rfl, rfl, _, rfl, by have := ok.rank; omega, by have := ok.rank; omega, ?_⟩
    refine for_range (fun i σ H' => (∃ x : Option V, σ = [some (.ref W.a), some (.int (n : Int)), some (.ref q), some (.int (baseOf w')), some (.int (wtN w' r i)), x, none]) ∧ Same H H') ⟨⟨none, rfl⟩, s02⟩ ?_ ?_
    · rintro i σ H1 hi ⟨⟨x, rfl⟩, s1⟩
      refine ⟨_, rfl, _, rfl, _, _, rfl, rfl, .inr ⟨by have := base_bd wok; omega, by have := base_bd wok; omega⟩, ?_⟩
      exact ⟨⟨_, rfl⟩, s1⟩
    · rintro σ H1 ⟨⟨x, rfl⟩, s1⟩
      exact ⟨_, rfl, k H1 s1⟩
end
end K59
set_option maxHeartbeats 4000000
/-! is_amount, check_prices, recording_gain, _law_gain, pass_gain, best_recording, recording_term, pass_term -/
namespace K59
open PySem PySem.Spec PyProof.Rows L2 TL
/-- an expression that is not reached -/
def tNo : TE := fun _ _ _ => False
theorem pe_never {X : Cx} {e : Expr} : PE X e tNo := ⟨fun _ _ _ _ _ _ h => h.elim⟩
section
variable {P : Program} {w : World} {K : PySem.W.Frag} {mg : Str → Option Value} {base : Heap}
theorem ok_isAmount {f : Addr} {fd : FuncData} (F : Fun K "is_amount" "is_amount" sIsAmount f fd) (T : Tx K mg) : FnOk P w K mg base CX0 1 f fd ["value", "least"] spIsAmount := by
  refine F.ok scIsAmount (fun vs H Q E h => ?_) (fun cdv A outer s H vs Q E hr h => ?_)
  · obtain ⟨rfl, _⟩ := h
    rfl
  · obtain ⟨rfl, k⟩ := h
    refine ⟨_, pss_one (ps_ret (pe_and (pe_callB call_isi (by rfl) T.isinstance (by decide +kernel) (pa_cons (pv 0) (pa_cons (pe_bltn (v := .ty "int") (by rfl) T.int (by decide +kernel) rfl) pa_nil)))
      (pe_and (pe_not (pe_callB call_isi (by rfl) T.isinstance (by decide +kernel) (pa_cons (pv 0) (pa_cons (pe_bltn (v := .ty "bool") (by rfl) T.bool (by decide +kernel) rfl) pa_nil))))
        (pe_one (pe_cmpR op_ge (pv 0) (pv 1) (nomark _)))))), ?_⟩
    refine ⟨_, rfl, _, _, _, _, true, rfl, .ty _, .base (.int 1), kit_ty (by decide +kernel), true, rfl, iteT ?_⟩
    refine ⟨_, rfl, _, _, _, _, false, rfl, .ty _, .base (.int 1), kit_ty (by decide +kernel), false, rfl, true, rfl, iteT ?_⟩
    exact ⟨_, rfl, _, rfl, _, _, rfl, rfl, k⟩
theorem ok_checkPrices {f : Addr} {fd : FuncData} (F : Fun K "check_prices" "check_prices" sCheckPrices f fd) (T : Tx K mg) (cA : Cal P w K mg base 1 "is_amount" ["value", "least"] spIsAmount) : FnOk P w K mg base CX0 2 f fd ["world", "divisor", "prices"] spCheckPrices := by
  refine F.ok scCheckPrices (fun vs H Q E h => ?_) (fun cdv A outer s H vs Q E hr h => ?_)
  · obtain ⟨x, e, rfl, _⟩ := h
    rfl
  · obtain ⟨x, e, rfl, he, k⟩ := h
    refine ⟨_, pss_cons (ps_if (pt_not (pt_val (pe_f cA hr (pa_cons (pv 1) (pa_cons pe_int pa_nil))))) (pss_one ps_never) pss_nil)
      (pss_one (ps_for PassesOwn.never rfl (pi_tup (pv 2)) (pg_tup rfl (pgs_cons (pg_name (i := 3) scCheckPrices.nd rfl (Or.inl rfl)) (pgs_cons (pg_name (i := 4) scCheckPrices.nd rfl (Or.inl rfl)) pgs_nil))) pss_never)), ?_⟩
    refine ⟨_, rfl, rfl, _, rfl, iteF ?_⟩
    refine ⟨_, rfl, e, rfl, ⟨_, SqT.of he⟩, ?_⟩
    refine for_it (walk_tup (K := K) (a := e) (xs := [])) (fun i σ H' => H' = H) rfl (fun i σ H' _ h => by rw [h]; exact SqT.of he) ?_ ?_
    · intro i x σ H1 H2 hi
      exact absurd hi (Nat.not_lt_zero _)
    · rintro σ H1 rfl
      exact k
theorem ok_recordingGain {f : Addr} {fd : FuncData} (F : Fun K "recording_gain" "recording_gain" sRecordingGain f fd) (T : Tx K mg) (cW : Cal P w K mg base 2 "recording_weight" ["world", "r"] (spRecordingWeight K)) : FnOk P w K mg base CX0 3 f fd ["world", "divisor", "prices", "r", "option"] (spRecordingGain K) := by
  refine F.ok scRecordingGain (fun vs H Q E h => ?_) (fun cdv A outer s H vs Q E hr h => ?_)
  · obtain ⟨W, w', e, i, r, o, rfl, _⟩ := h
    rfl
  · obtain ⟨W, w', e, n, r, o, rfl, hW, he, hn, k⟩ := h
    refine ⟨_, pss_cons (ps_set (i := 5) scRecordingGain.nd rfl (Or.inl rfl) (pe_callB (cr_sum rfl) (by rfl) T.sum (by decide +kernel) (pa_cons (pe_lc (own := [("row", 6), ("price", 7)]) (g := gTup K 2 (gCons (gName 6) (gCons (gName 7) gNil))) (tt := tYes) (te := tNo) rfl scRecordingGain.nd (pi_tup (pv 2))
        (blkOk_by (own := [("row", 6), ("price", 7)]) (N := ["world", "divisor", "prices", "r", "option", "cost", "row", "price"]) (sc := defScope sRecordingGain) (by decide +kernel)) (fun _ _ _ _ _ => pg_tup rfl (pgs_cons (pg_name (i := 6) scRecordingGain.nd rfl (Or.inl rfl)) (pgs_cons (pg_name (i := 7) scRecordingGain.nd rfl (Or.inl rfl)) pgs_nil))) (fun _ _ _ _ _ => pts_nil) (fun _ _ _ _ _ => pe_never)) pa_nil)))
      (pss_one (ps_ret (pe_op op_sub (pe_op op_mul (pv 1) (pe_f cW hr (pa_cons (pv 0) (pa_cons (pv 3) pa_nil)))) (pv 5)))), ?_⟩
    refine ⟨_, rfl, e, rfl, ⟨_, SqT.of he⟩, fun D hD => ?_⟩
    refine lc_map (walk_tup (K := K) (a := e) (xs := [])) ([] : List Int) (fun _ v n => v = V.int n) hD rfl (by decide) (fun H' s => SqT.of (s _ _ he)) (fun _ _ _ _ _ _ z => z) ?_ ?_
    · intro i b x H2 H3 C Z hb
      exact absurd hb (by simp)
    intro H1 ys s1 e1 al1
    have e1' : H1 D = some (.lst (([] : List Int).map V.int)) := by rw [e1, all2_map al1]
    refine ⟨D, _, rfl, SqL.of e1', ?_⟩
    refine ⟨_, rfl, _, rfl, _, rfl, W, w', n, r, rfl, hW.same s1, hn, fun H2 s2 => ?_⟩
    refine ⟨_, _, rfl, rfl, .inl ⟨by decide, by decide⟩, _, rfl, _, _, rfl, rfl, ?_⟩
    have e9 : 1 * wt w' r - ([] : List Int).sum = wt w' r := by simp
    show Q (.int (1 * wt w' r - ([] : List Int).sum)) H2
    rw [e9]
    exact k H2 (s1.trans s2)
theorem ok_lGain {f : Addr} {fd : FuncData} (F : Fun K "_law_gain" "_law_gain" sLGain f fd) (T : Tx K mg) (cW : Cal P w K mg base 1 "_law_recording_weight" ["_law_world_here", "_law_r"] (spLWeight K)) : FnOk P w K mg base CX0 2 f fd ["_law_world_here", "_law_divisor", "_law_prices", "_law_r", "_law_option"] (spLGain K) := by
  refine F.ok scLGain (fun vs H Q E h => ?_) (fun cdv A outer s H vs Q E hr h => ?_)
  · obtain ⟨W, w', e, i, r, o, rfl, _⟩ := h
    rfl
  · obtain ⟨W, w', e, n, r, o, rfl, hW, he, hn, k⟩ := h
    refine ⟨_, pss_cons (ps_set (i := 5) scLGain.nd rfl (Or.inl rfl) (pe_callB (cr_sum rfl) (by rfl) T.sum (by decide +kernel) (pa_cons (pe_lc (own := [("_law_row", 6), ("_law_price", 7)]) (g := gTup K 2 (gCons (gName 6) (gCons (gName 7) gNil))) (tt := tYes) (te := tNo) rfl scLGain.nd (pi_tup (pv 2))
        (blkOk_by (own := [("_law_row", 6), ("_law_price", 7)]) (N := ["_law_world_here", "_law_divisor", "_law_prices", "_law_r", "_law_option", "_law_cost", "_law_row", "_law_price"]) (sc := defScope sLGain) (by decide +kernel)) (fun _ _ _ _ _ => pg_tup rfl (pgs_cons (pg_name (i := 6) scLGain.nd rfl (Or.inl rfl)) (pgs_cons (pg_name (i := 7) scLGain.nd rfl (Or.inl rfl)) pgs_nil))) (fun _ _ _ _ _ => pts_nil) (fun _ _ _ _ _ => pe_never)) pa_nil)))
      (pss_one (ps_ret (pe_op op_sub (pe_op op_mul (pv 1) (pe_f cW hr (pa_cons (pv 0) (pa_cons (pv 3) pa_nil)))) (pv 5)))), ?_⟩
    refine ⟨_, rfl, e, rfl, ⟨_, SqT.of he⟩, fun D hD => ?_⟩
    refine lc_map (walk_tup (K := K) (a := e) (xs := [])) ([] : List Int) (fun _ v n => v = V.int n) hD rfl (by decide) (fun H' s => SqT.of (s _ _ he)) (fun _ _ _ _ _ _ z => z) ?_ ?_
    · intro i b x H2 H3 C Z hb
      exact absurd hb (by simp)
    intro H1 ys s1 e1 al1
    have e1' : H1 D = some (.lst (([] : List Int).map V.int)) := by rw [e1, all2_map al1]
    refine ⟨D, _, rfl, SqL.of e1', ?_⟩
    refine ⟨_, rfl, _, rfl, _, rfl, W, w', n, r, rfl, hW.same s1, hn, fun H2 s2 => ?_⟩
    refine ⟨_, _, rfl, rfl, .inl ⟨by decide, by decide⟩, _, rfl, _, _, rfl, rfl, ?_⟩
    have e9 : 1 * wt w' r - ([] : List Int).sum = wt w' r := by simp
    show Q (.int (1 * wt w' r - ([] : List Int).sum)) H2
    rw [e9]
    exact k H2 (s1.trans s2)
theorem ok_passGain {f : Addr} {fd : FuncData} (F : Fun K "pass_gain" "pass_gain" sPassGain f fd) (T : Tx K mg) : FnOk P w K mg base CX0 1 f fd ["world", "divisor", "prices", "p"] (spPassGain K) := by
  refine F.ok scPassGain (fun vs H Q E h => ?_) (fun cdv A outer s H vs Q E hr h => ?_)
  · obtain ⟨W, w', e, i, r, rfl, _⟩ := h
    rfl
  · obtain ⟨W, w', e, n, p, rfl, hW, he, hn, k⟩ := h
    have hw := hW.wa
    obtain ⟨dw, fw, ew, lw0, lw1, lw2, lw3, lw4⟩ := hw.ob
    obtain ⟨q, hq, dq, tq, eq, _⟩ := hw.s4.get hn
    have hat : atI (W.q4.map V.ref) (n : Int) = some (V.ref q) := atI_nat (by rw [List.getElem?_map, hq]; rfl)
    refine ⟨_, pss_cons (ps_set (i := 4) scPassGain.nd rfl (Or.inl rfl) (pe_callB (cr_sum rfl) (by rfl) T.sum (by decide +kernel) (pa_cons (pe_lc (own := [("row", 5), ("price", 6)]) (g := gTup K 2 (gCons (gName 5) (gCons (gName 6) gNil))) (tt := tYes) (te := tNo) rfl scPassGain.nd (pi_tup (pv 2))
        (blkOk_by (own := [("row", 5), ("price", 6)]) (N := ["world", "divisor", "prices", "p", "cost", "row", "price"]) (sc := defScope sPassGain) (by decide +kernel)) (fun _ _ _ _ _ => pg_tup rfl (pgs_cons (pg_name (i := 5) scPassGain.nd rfl (Or.inl rfl)) (pgs_cons (pg_name (i := 6) scPassGain.nd rfl (Or.inl rfl)) pgs_nil))) (fun _ _ _ _ _ => pts_nil) (fun _ _ _ _ _ => pe_never)) pa_nil)))
      (pss_one (ps_ret (pe_op op_sub (pe_op op_mul (pe_un un_neg (pv 1)) (pe_fld (pe_ix ix_tup (pe_fld (pv 0) rfl) (pv 3) (fun _ _ => rfl)) rfl)) (pv 4)))), ?_⟩
    refine ⟨_, rfl, e, rfl, ⟨_, SqT.of he⟩, fun D hD => ?_⟩
    refine lc_map (walk_tup (K := K) (a := e) (xs := [])) ([] : List Int) (fun _ v n => v = V.int n) hD rfl (by decide) (fun H' s => SqT.of (s _ _ he)) (fun _ _ _ _ _ _ z => z) ?_ ?_
    · intro i b x H2 H3 C Z hb
      exact absurd hb (by simp)
    intro H1 ys s1 e1 al1
    have e1' : H1 D = some (.lst (([] : List Int).map V.int)) := by rw [e1, all2_map al1]
    refine ⟨D, _, rfl, SqL.of e1', ?_⟩
    refine ⟨_, rfl, _, rfl, _, rfl, W.a, _, dw, _, _, rfl, s1 _ _ ew, T.cWld, T.aWld _ (mem_at 4), lw4, _, rfl, W.t4, _, _, _, rfl, rfl, SqT.of (s1 _ _ hw.l4), hat, q, _, dq, _, _, rfl, s1 _ _ eq, T.cPas, T.aPas _ (mem_at 6), lookup_zip ndPas (i := 6) rfl rfl, ?_⟩
    refine ⟨_, _, rfl, rfl, .inl ⟨by decide, by decide⟩, _, rfl, _, _, rfl, rfl, ?_⟩
    have e9 : -1 * p.fee - ([] : List Int).sum = -p.fee := by simp
    show Q (.int (-1 * p.fee - ([] : List Int).sum)) H1
    rw [e9]
    exact k H1 s1
theorem ok_bestRecording {f : Addr} {fd : FuncData} (F : Fun K "best_recording" "best_recording" sBestRecording f fd) (T : Tx K mg) (cO : Cal P w K mg base 1 "options" ["world", "number"] (spOptions K)) (cG : Cal P w K mg base 3 "recording_gain" ["world", "divisor", "prices", "r", "option"] (spRecordingGain K)) :
    FnOk P w K mg base CX0 4 f fd ["world", "divisor", "prices", "r"] (spBestRecording K) := by
  refine F.ok scBestRecording (fun vs H Q E h => ?_) (fun cdv A outer s H vs Q E hr h => ?_)
  · obtain ⟨W, w', e, i, r, rfl, _⟩ := h
    rfl
  · obtain ⟨W, w', e, n, r, rfl, hW, he, hn, k⟩ := h
    refine ⟨_, pss_cons (ps_set (i := 4) scBestRecording.nd rfl (Or.inl rfl) (pe_tup (pa_cons pe_int (pa_cons pe_non pa_nil))))
      (pss_cons (ps_for PassesOwn.never rfl (pi_tup (pe_f cO (hr.mono (by decide)) (pa_cons (pv 0) (pa_cons (pv 3) pa_nil)))) (pg_name (i := 5) scBestRecording.nd rfl (Or.inl rfl))
        (pss_cons (ps_set (i := 6) scBestRecording.nd rfl (Or.inl rfl) (pe_f cG hr (pa_cons (pv 0) (pa_cons (pv 1) (pa_cons (pv 2) (pa_cons (pv 3) (pa_cons (pv 5) pa_nil)))))))
        (pss_one (ps_if (pt_cmpR op_gt (pv 6) (pe_ix ix_tup (pv 4) pe_int (fun _ _ => rfl)) (nomark _)) (pss_one (ps_set (i := 4) scBestRecording.nd rfl (Or.inl rfl) (pe_tup (pa_cons (pv 6) (pa_cons (pv 5) pa_nil))))) pss_nil))))
      (pss_one (ps_ret (pv 4)))), ?_⟩
    refine ⟨by show 2 ≤ sizeLine; decide, fun b hb => ?_⟩
    have s0 : Same H (upd H b (.tup [.int 0, .non])) := same_upd hb
    refine ⟨_, rfl, _, rfl, W, w', n, r, rfl, hW.same s0, hn, fun c oc => ?_⟩
    obtain ⟨ps, ec, al⟩ := oc.ex
    refine ⟨c, rfl, ⟨_, SqT.of ec⟩, ?_⟩
    refine for_it (walk_tup (K := K) (a := c) (xs := ps.map V.ref)) (fun i σ H' => Same (upd H b (.tup [.int 0, .non])) H' ∧ ∃ (t : Addr) (x : V) (x5 x6 : Option V), σ = [some (.ref W.a), some (.int 1), some (.ref e), some (.int (n : Int)), some (.ref t), x5, x6] ∧
      H' t = some (.tup [.int (if i = 0 then 0 else if wt w' r > 0 then wt w' r else 0), x])) ⟨fun _ _ z => z, b, .non, none, none, rfl, upd_same⟩ (fun i σ H' _ h => SqT.of (h.1 _ _ ec)) ?_ ?_
    · rintro i v σ H1 H2 hi ⟨s1, t, x, x5, x6, rfl, et⟩ ⟨rfl, hv⟩
      have s01 := s0.trans s1
      refine ⟨_, rfl, _, rfl, _, rfl, _, rfl, _, rfl, W, w', e, n, r, v, rfl, hW.same s01, s01 _ _ he, hn, fun H3 s3 => ?_⟩
      refine ⟨_, rfl, _, rfl, t, _, _, _, rfl, rfl, SqT.of (s3 _ _ et), rfl, _, _, rfl, rfl, _, rfl, ?_⟩
      by_cases c1 : (if i = 0 then 0 else if wt w' r > 0 then wt w' r else 0) < wt w' r
      · refine dT c1 ?_
        refine ⟨_, rfl, _, rfl, by show 2 ≤ sizeLine; decide, fun t2 ht2 => ⟨(s1.trans s3).to ht2, t2, v, _, _, rfl, ?_⟩⟩
        rw [upd_same, if_neg (Nat.succ_ne_zero i)]
        have hp : wt w' r > 0 := by
          by_cases c2 : wt w' r > 0
          · exact c2
          · exfalso
            by_cases c3 : i = 0
            · rw [if_pos c3] at c1
              omega
            · rw [if_neg c3, if_neg c2] at c1
              omega
        rw [if_pos hp]
      · refine dF c1 ?_
        refine ⟨s1.trans s3, t, x, _, _, rfl, ?_⟩
        rw [s3 _ _ et, if_neg (Nat.succ_ne_zero i)]
        have e9 : (if i = 0 then 0 else if wt w' r > 0 then wt w' r else 0) = (if wt w' r > 0 then wt w' r else 0) := by
          by_cases c2 : i = 0
          · rw [if_pos c2] at c1 ⊢
            rw [if_neg (by omega)]
          · rw [if_neg c2]
        rw [e9]
    · rintro σ H1 ⟨s1, t, x, x5, x6, rfl, et⟩
      refine ⟨_, rfl, k H1 t x (s0.trans s1) ?_⟩
      rw [et]
      have hl : ps.length = (optsOf w' r).length := al.len
      unfold openT
      by_cases c1 : optsOf w' r = []
      · rw [if_pos c1, if_pos (by rw [List.length_map, hl, c1]; rfl)]
      · rw [if_neg c1, if_neg (by rw [List.length_map, hl]; exact fun z => c1 (List.eq_nil_of_length_eq_zero z))]
theorem ok_recordingTerm {f : Addr} {fd : FuncData} (F : Fun K "recording_term" "recording_term" sRecordingTerm f fd) (T : Tx K mg) (cB : Cal P w K mg base 4 "best_recording" ["world", "divisor", "prices", "r"] (spBestRecording K)) (cG : Cal P w K mg base 3 "recording_gain" ["world", "divisor", "prices", "r", "option"] (spRecordingGain K)) :
    FnOk P w K mg base CX0 5 f fd ["world", "divisor", "prices", "r", "entry"] (spRecordingTerm K) := by
  refine F.ok scRecordingTerm (fun vs H Q E h => ?_) (fun cdv A outer s H vs Q E hr h => ?_)
  · obtain ⟨W, w', e, i, r, v, en, rfl, _⟩ := h
    rfl
  · obtain ⟨W, w', e, n, r, v, en, rfl, hW, he, hn, hv, k⟩ := h
    obtain ⟨tu, gu⟩ := T.open_
    refine ⟨_, pss_cons (ps_if (pt_cmpR op_isN (pv 4) pe_non (nomark _)) (pss_one (ps_ret pe_int)) pss_nil)
      (pss_cons (ps_if (pt_cmpR (op_eqD hr.units) (pv 4) (pe_gS gu) (nomark _)) (pss_one (ps_ret (pe_ix ix_tup (pe_f cB hr (pa_cons (pv 0) (pa_cons (pv 1) (pa_cons (pv 2) (pa_cons (pv 3) pa_nil))))) pe_int (fun _ _ => rfl)))) pss_nil)
      (pss_one (ps_ret (pe_f cG (hr.mono (by decide)) (pa_cons (pv 0) (pa_cons (pv 1) (pa_cons (pv 2) (pa_cons (pv 3) (pa_cons (pv 4) pa_nil))))))))), ?_⟩
    cases en with
    | none =>
      obtain rfl : v = .non := hv
      exact ⟨_, rfl, rfl, _, rfl, dT rfl (k H fun _ _ z => z)⟩
    | op =>
      obtain rfl : v = .str "open" := hv
      refine ⟨_, rfl, rfl, _, rfl, dF (by intro z; cases z) ?_⟩
      refine ⟨_, rfl, _, _, .str _, .str _, by decide +kernel, by decide +kernel, _, rfl, bT (by decide +kernel) ?_⟩
      exact ⟨_, rfl, _, rfl, _, rfl, _, rfl, W, w', e, n, r, rfl, hW, he, hn, fun H' t x s et => ⟨t, _, _, _, rfl, rfl, SqT.of et, rfl, k H' s⟩⟩
    | opt a b =>
      obtain ⟨t, rfl, et⟩ := hv
      refine ⟨_, rfl, rfl, _, rfl, dF (by intro z; cases z) ?_⟩
      refine ⟨_, rfl, _, _, .tup (SqT.of et) (.cons (.int _) (.cons (.int _) .nil)), .str _, rfl, by decide +kernel, _, rfl, bF rfl ?_⟩
      exact ⟨_, rfl, _, rfl, _, rfl, _, rfl, _, rfl, W, w', e, n, r, _, rfl, hW, he, hn, fun H' s => k H' s⟩
theorem ok_passTerm {f : Addr} {fd : FuncData} (F : Fun K "pass_term" "pass_term" sPassTerm f fd) (T : Tx K mg) (cG : Cal P w K mg base 1 "pass_gain" ["world", "divisor", "prices", "p"] (spPassGain K)) :
    FnOk P w K mg base CX0 2 f fd ["world", "divisor", "prices", "p", "entry"] (spPassTerm K) := by
  refine F.ok scPassTerm (fun vs H Q E h => ?_) (fun cdv A outer s H vs Q E hr h => ?_)
  · obtain ⟨W, w', e, i, r, v, en, rfl, _⟩ := h
    rfl
  · obtain ⟨W, w', e, n, p, v, en, rfl, hW, he, hn, hv, k⟩ := h
    obtain ⟨tu, gu⟩ := T.open_
    refine ⟨_, pss_cons (ps_if (pt_cmpR op_isN (pv 4) pe_non (nomark _)) (pss_one (ps_ret pe_int)) pss_nil)
      (pss_cons (ps_set (i := 5) scPassTerm.nd rfl (Or.inl rfl) (pe_f cG hr (pa_cons (pv 0) (pa_cons (pv 1) (pa_cons (pv 2) (pa_cons (pv 3) pa_nil))))))
      (pss_cons (ps_if (pt_cmpR (op_eqD hr.units) (pv 4) (pe_gS gu) (nomark _)) (pss_one (ps_ret (pe_callB (call_max2 rfl) (by rfl) T.max (by decide +kernel) (pa_cons pe_int (pa_cons (pv 5) pa_nil))))) pss_nil)
      (pss_one (ps_ret (pv 5))))), ?_⟩
    cases en with
    | none =>
      obtain rfl : v = .non := hv
      exact ⟨_, rfl, rfl, _, rfl, dT rfl (k H fun _ _ z => z)⟩
    | op =>
      obtain rfl : v = .str "open" := hv
      refine ⟨_, rfl, rfl, _, rfl, dF (by intro z; cases z) ?_⟩
      refine ⟨_, rfl, _, rfl, _, rfl, _, rfl, W, w', e, n, p, rfl, hW, he, hn, fun H' s => ?_⟩
      refine ⟨_, rfl, _, _, .str _, .str _, by decide +kernel, by decide +kernel, _, rfl, bT (by decide +kernel) ?_⟩
      exact ⟨_, rfl, _, _, rfl, k H' s⟩
    | ant a =>
      obtain rfl : v = .int a := hv
      refine ⟨_, rfl, rfl, _, rfl, dF (by intro z; cases z) ?_⟩
      refine ⟨_, rfl, _, rfl, _, rfl, _, rfl, W, w', e, n, p, rfl, hW, he, hn, fun H' s => ?_⟩
      refine ⟨_, rfl, _, _, .int _, .str _, rfl, by decide +kernel, _, rfl, bF rfl ?_⟩
      exact ⟨_, rfl, k H' s⟩
end
end K59
set_option maxHeartbeats 4000000
/-! bound, _law_bound -/
namespace K59
open PySem PySem.Spec PyProof.Rows L2 TL
def tNo2 : TE := fun _ _ _ => False
theorem pe_never2 {X : Cx} {e : Expr} : PE X e tNo2 := ⟨fun _ _ _ _ _ _ h => h.elim⟩
theorem take_snoc2 {α : Type} {l : List α} {i : Nat} {a : α} (h : l[i]? = some a) : l.take (i + 1) = l.take i ++ [a] := by
  rw [List.take_succ, h]
  rfl
theorem sum_take {l : List Int} {i : Nat} {x : Int} (h : l[i]? = some x) : (l.take (i + 1)).sum = (l.take i).sum + x := by
  rw [take_snoc2 h, List.sum_append]
  simp
theorem rTs_at {w : Wld} {C : Cs} {i : Nat} {r : Rcd} {en : REnt} (h1 : w.recs[i]? = some r) (h2 : C.ms[i]? = some en) : (rTs w C)[i]? = some (rT w r en) := by
  unfold rTs
  rw [List.getElem?_zipWith, h1, h2]
theorem pTs_at {w : Wld} {C : Cs} {i : Nat} {p : Pas} {en : PEnt} (h1 : w.pass[i]? = some p) (h2 : C.ts[i]? = some en) : (pTs w C)[i]? = some (pT p en) := by
  unfold pTs
  rw [List.getElem?_zipWith, h1, h2]
theorem rTs_len {w : Wld} {C : Cs} (f : Fit w C) : (rTs w C).length = w.recs.length := by
  unfold rTs
  rw [List.length_zipWith, f.m, Nat.min_self]
theorem pTs_len {w : Wld} {C : Cs} (f : Fit w C) : (pTs w C).length = w.pass.length := by
  unfold pTs
  rw [List.length_zipWith, f.t, Nat.min_self]
theorem optRow_len2 (w : Wld) (r : Rcd) (st : Int) (n : Nat) : (optRow w r st n).length ≤ n := by
  unfold optRow
  exact Nat.le_trans (List.length_filterMap_le ..) (by simp)
theorem optTo_len2 (w : Wld) (r : Rcd) (n : Nat) : (optTo w r n).length ≤ n * w.pass.length := by
  induction n with
  | zero => simp [optTo]
  | succ n ih =>
    have e : optTo w r (n + 1) = optTo w r n ++ optRow w r (r.earliest + (n : Int)) w.pass.length := by
      unfold optTo
      rw [List.range_succ, List.flatMap_append]
      simp
    rw [e, List.length_append, Nat.succ_mul]
    have := optRow_len2 w r (r.earliest + (n : Int)) w.pass.length
    omega
theorem opts_few {w : Wld} (ok : WldOk w) {i : Nat} {r : Rcd} (h : w.recs[i]? = some r) : (optsOf w r).length ≤ 100 := by
  have h1 := optTo_len2 w r (starts r)
  have h2 := (ok.recs i r h).latest
  have h3 : starts r * w.pass.length ≤ 21 * 4 := Nat.mul_le_mul (by unfold starts; omega) ok.npass
  unfold optsOf
  omega
section
variable {P : Program} {w : World} {K : PySem.W.Frag} {mg : Str → Option Value} {base : Heap}
theorem ok_bound {f : Addr} {fd : FuncData} (F : Fun K "bound" "bound" sBound f fd) (T : Tx K mg) (cC : Cal P w K mg base 2 "check_prices" ["world", "divisor", "prices"] spCheckPrices)
    (cR : Cal P w K mg base 5 "recording_term" ["world", "divisor", "prices", "r", "entry"] (spRecordingTerm K)) (cP : Cal P w K mg base 2 "pass_term" ["world", "divisor", "prices", "p", "entry"] (spPassTerm K)) :
    FnOk P w K mg base CX0 6 f fd ["world", "case", "divisor", "prices"] (spBound K) := by
  refine F.ok scBound (fun vs H Q E h => ?_) (fun cdv A outer s H vs Q E hr h => ?_)
  · obtain ⟨W, w', c, e, C, rfl, _⟩ := h
    rfl
  · obtain ⟨W, w', c, e, C, rfl, hW, hC, fit, he, k⟩ := h
    have hw := hW.wa
    have wok := hW.ok
    obtain ⟨m, t, vs, us, e1, e2, e3, a1, a2⟩ := hC.ex
    refine ⟨_, pss_cons (ps_expr (pe_f cC (hr.mono (by decide)) (pa_cons (pv 0) (pa_cons (pv 2) (pa_cons (pv 3) pa_nil)))))
      (pss_cons (ps_set (i := 4) scBound.nd rfl (Or.inl rfl) (pe_callB (cr_sum rfl) (by rfl) T.sum (by decide +kernel) (pa_cons (pe_lc (own := [("row", 8), ("price", 9)]) (g := gTup K 2 (gCons (gName 8) (gCons (gName 9) gNil))) (tt := tYes) (te := tNo2) rfl scBound.nd (pi_tup (pv 3))
        (blkOk_by (own := [("row", 8), ("price", 9)]) (N := ["world", "case", "divisor", "prices", "total", "r", "entry", "p", "row", "price"]) (sc := defScope sBound) (by decide +kernel)) (fun _ _ _ _ _ => pg_tup rfl (pgs_cons (pg_name (i := 8) scBound.nd rfl (Or.inl rfl)) (pgs_cons (pg_name (i := 9) scBound.nd rfl (Or.inl rfl)) pgs_nil))) (fun _ _ _ _ _ => pts_nil) (fun _ _ _ _ _ => pe_never2)) pa_nil)))
      (pss_cons (ps_for PassesOwn.never rfl (pi_enumT (by rfl) T.enumerate (pa_cons (pe_ix ix_tup (pv 1) pe_int (fun _ _ => rfl)) pa_nil)) (pg_tup rfl (pgs_cons (pg_name (i := 5) scBound.nd rfl (Or.inl rfl)) (pgs_cons (pg_name (i := 6) scBound.nd rfl (Or.inl rfl)) pgs_nil)))
        (pss_one (ps_aug (i := 4) scBound.nd rfl (Or.inl rfl) (pe_f cR hr (pa_cons (pv 0) (pa_cons (pv 2) (pa_cons (pv 3) (pa_cons (pv 5) (pa_cons (pv 6) pa_nil)))))) ip_add)))
      (pss_cons (ps_for PassesOwn.never rfl (pi_enumT (by rfl) T.enumerate (pa_cons (pe_ix ix_tup (pv 1) pe_int (fun _ _ => rfl)) pa_nil)) (pg_tup rfl (pgs_cons (pg_name (i := 7) scBound.nd rfl (Or.inl rfl)) (pgs_cons (pg_name (i := 6) scBound.nd rfl (Or.inl rfl)) pgs_nil)))
        (pss_one (ps_aug (i := 4) scBound.nd rfl (Or.inl rfl) (pe_f cP (hr.mono (by decide)) (pa_cons (pv 0) (pa_cons (pv 2) (pa_cons (pv 3) (pa_cons (pv 7) (pa_cons (pv 6) pa_nil)))))) ip_add)))
      (pss_one (ps_ret (pv 4)))))), ?_⟩
    refine ⟨_, rfl, _, rfl, _, rfl, _, e, rfl, he, ?_⟩
    refine ⟨_, rfl, e, rfl, ⟨_, SqT.of he⟩, fun D hD => ?_⟩
    refine lc_map (te := tNo2) (walk_tup (K := K) (a := e) (xs := [])) ([] : List Int) (fun _ v n => v = V.int n) hD rfl (by decide) (fun H' s => SqT.of (s _ _ he)) (fun _ _ _ _ _ _ z => z) ?_ ?_
    · intro i b x H2 H3 C Z hb
      exact absurd hb (by simp)
    intro H1 ys s1 q1 al1
    have q1' : H1 D = some (.lst (([] : List Int).map V.int)) := by rw [q1, all2_map al1]
    refine ⟨D, _, rfl, SqL.of q1', ?_⟩
    refine ⟨_, rfl, c, _, _, _, rfl, rfl, SqT.of (s1 _ _ e1), rfl, m, _, rfl, SqT.of (s1 _ _ e2), ?_⟩
    have hvl : vs.length = w'.recs.length := by rw [a1.len, fit.m]
    have hul : us.length = w'.pass.length := by rw [a2.len, fit.t]
    refine for_it (walk_enumT (K := K) (a := m) (xs := vs)) (fun i σ H' => (∃ x5 x6 : Option V, σ = [some (.ref W.a), some (.ref c), some (.int 1), some (.ref e), some (.int (((rTs w' C).take i).sum)), x5, x6, none, none, none]) ∧ Same H H') ⟨⟨none, none, rfl⟩, s1⟩ (fun i σ H' _ h => SqT.of (h.2 _ _ e2)) ?_ ?_
    · rintro i v σ H2 H3 hi ⟨⟨x5, x6, rfl⟩, s2⟩ ⟨TT, vi, vq, rfl, hTT, rfl, hvi, hvq⟩
      obtain rfl : vi = V.int (i : Int) := (Option.some.inj hvi).symm
      have hvq' : vs[i]? = some vq := hvq
      have hr1 : w'.recs[i]? = some (w'.recs[i]'(by omega)) := List.getElem?_eq_getElem (by omega)
      obtain ⟨en, hen, hrv⟩ := a1.getL hvq'
      have s3 : Same H (upd H2 TT (.tup [.int (i : Int), vq])) := s2.to hTT
      refine ⟨TT, _, rfl, SqT.of upd_same, rfl, _, _, rfl, _, _, rfl, rfl, ?_⟩
      refine ⟨_, rfl, _, rfl, _, rfl, _, rfl, _, rfl, _, rfl, W, w', e, i, _, vq, en, rfl, hW.same s3, s3 _ _ he, hr1, hrv.same s3, fun H4 s4 => ?_⟩
      refine ⟨_, _, rfl, rfl, ⟨some (.int (i : Int)), some vq, ?_⟩, s3.trans s4⟩
      rw [sum_take (rTs_at hr1 hen)]
      rfl
    · rintro σ H2 ⟨⟨x5, x6, rfl⟩, s2⟩
      rw [hvl, ← rTs_len fit, List.take_length]
      refine ⟨_, rfl, c, _, _, _, rfl, rfl, SqT.of (s2 _ _ e1), rfl, t, _, rfl, SqT.of (s2 _ _ e3), ?_⟩
      refine for_it (walk_enumT (K := K) (a := t) (xs := us)) (fun i σ H' => (∃ x5 x6 x7 : Option V, σ = [some (.ref W.a), some (.ref c), some (.int 1), some (.ref e), some (.int ((rTs w' C).sum + ((pTs w' C).take i).sum)), x5, x6, x7, none, none]) ∧ Same H H') ⟨⟨x5, x6, none, by rw [List.take_zero, List.sum_nil, Int.add_zero]⟩, s2⟩ (fun i σ H' _ h => SqT.of (h.2 _ _ e3)) ?_ ?_
      · rintro i v σ H3 H4 hi ⟨⟨y5, y6, y7, rfl⟩, s3⟩ ⟨TT, vi, vq, rfl, hTT, rfl, hvi, hvq⟩
        obtain rfl : vi = V.int (i : Int) := (Option.some.inj hvi).symm
        have hvq' : us[i]? = some vq := hvq
        have hr1 : w'.pass[i]? = some (w'.pass[i]'(by omega)) := List.getElem?_eq_getElem (by omega)
        obtain ⟨en, hen, hrv⟩ := a2.getL hvq'
        have s4 : Same H (upd H3 TT (.tup [.int (i : Int), vq])) := s3.to hTT
        refine ⟨TT, _, rfl, SqT.of upd_same, rfl, _, _, rfl, _, _, rfl, rfl, ?_⟩
        refine ⟨_, rfl, _, rfl, _, rfl, _, rfl, _, rfl, _, rfl, W, w', e, i, _, vq, en, rfl, hW.same s4, s4 _ _ he, hr1, hrv, fun H5 s5 => ?_⟩
        refine ⟨_, _, rfl, rfl, ⟨y5, some vq, some (.int (i : Int)), ?_⟩, s4.trans s5⟩
        rw [sum_take (pTs_at hr1 hen), ← Int.add_assoc]
        rfl
      · rintro σ H3 ⟨⟨y5, y6, y7, rfl⟩, s3⟩
        rw [hul, ← pTs_len fit, List.take_length]
        exact ⟨_, rfl, k H3 s3⟩
theorem max_open {w : Wld} {r : Rcd} {m : Int} (h1 : m ∈ (0 :: (optsOf w r).map fun _ => wt w r)) (h2 : ∀ y ∈ (0 :: (optsOf w r).map fun _ => wt w r), y ≤ m) : m = openT w r := by
  unfold openT
  have h0 : 0 ≤ m := h2 0 (List.mem_cons_self ..)
  by_cases c : optsOf w r = []
  · rw [if_pos c]
    rw [c] at h1
    simpa using h1
  · rw [if_neg c]
    have hw : wt w r ≤ m := by
      refine h2 _ (List.mem_cons_of_mem _ ?_)
      obtain ⟨q, l, e⟩ := List.exists_cons_of_ne_nil c
      rw [e]
      simp
    have hm : m = 0 ∨ m = wt w r := by
      rcases List.mem_cons.mp h1 with e | e
      · exact .inl e
      · obtain ⟨q, _, e⟩ := List.mem_map.mp e
        exact .inr e.symm
    rcases hm with e | e
    · rw [if_neg (by omega)]
      exact e
    · by_cases c2 : wt w r > 0
      · rw [if_pos c2]
        exact e
      · rw [if_neg c2]
        omega
theorem ok_lBound {f : Addr} {fd : FuncData} (F : Fun K "_law_bound" "_law_bound" sLBound f fd) (T : Tx K mg) (cO : Cal P w K mg base 1 "_law_options" ["_law_world_here", "_law_r"] (spLOptions K))
    (cG : Cal P w K mg base 2 "_law_gain" ["_law_world_here", "_law_divisor", "_law_prices", "_law_r", "_law_option"] (spLGain K)) :
    FnOk P w K mg base CX0 3 f fd ["_law_world_here", "_law_case_here", "_law_divisor", "_law_prices"] (spLBound K) := by
  refine F.ok scLBound (fun vs H Q E h => ?_) (fun cdv A outer s H vs Q E hr h => ?_)
  · obtain ⟨W, w', c, e, C, rfl, _⟩ := h
    rfl
  · obtain ⟨W, w', c, e, C, rfl, hW, hC, fit, he, k⟩ := h
    have hw := hW.wa
    have wok := hW.ok
    obtain ⟨m, t, vs, us, e1, e2, e3, a1, a2⟩ := hC.ex
    refine ⟨_, pss_cons (ps_set (i := 4) scLBound.nd rfl (Or.inl rfl) (pe_callB (cr_sum rfl) (by rfl) T.sum (by decide +kernel) (pa_cons (pe_lc (own := [("_law_row", 9), ("_law_price", 10)]) (g := gTup K 2 (gCons (gName 9) (gCons (gName 10) gNil))) (tt := tYes) (te := tNo2) rfl scLBound.nd (pi_tup (pv 3))
        (blkOk_by (own := [("_law_row", 9), ("_law_price", 10)]) (N := ["_law_world_here", "_law_case_here", "_law_divisor", "_law_prices", "_law_total", "_law_r", "_law_entry", "_law_p", "_law_gain_here", "_law_row", "_law_price", "_law_option"]) (sc := defScope sLBound) (by decide +kernel)) (fun _ _ _ _ _ => pg_tup rfl (pgs_cons (pg_name (i := 9) scLBound.nd rfl (Or.inl rfl)) (pgs_cons (pg_name (i := 10) scLBound.nd rfl (Or.inl rfl)) pgs_nil))) (fun _ _ _ _ _ => pts_nil) (fun _ _ _ _ _ => pe_never2)) pa_nil)))
      (pss_cons (ps_for PassesOwn.never rfl (pi_enumT (by rfl) T.enumerate (pa_cons (pe_ix ix_tup (pv 1) pe_int (fun _ _ => rfl)) pa_nil)) (pg_tup rfl (pgs_cons (pg_name (i := 5) scLBound.nd rfl (Or.inr rfl)) (pgs_cons (pg_name (i := 6) scLBound.nd rfl (Or.inl rfl)) pgs_nil)))
        (pss_one (ps_if (pt_cmpR (op_eqD hr.units) (pv 6) pe_str (nomark _))
          (pss_one (ps_set (i := 4) scLBound.nd rfl (Or.inl rfl) (pe_op op_add (pv 4) (pe_callB (cr_max rfl) (by rfl) T.max (by decide +kernel) (pa_cons (pe_op op_cat (pe_lst (pa_cons pe_int pa_nil))
            (pe_lc (own := [("_law_option", 11)]) (g := gName 11) (tt := tYes) (te := tCall (spLGain K) [] E0 (tCons (tVar 0) (tCons (tVar 2) (tCons (tVar 3) (tCons (tVar 5) (tCons (tVar 11) tNil)))))) rfl scLBound.nd (pi_list (pe_f cO (hr.mono (by decide)) (pa_cons (pv 0) (pa_cons (pv 5) pa_nil))))
              (blkOk_by (own := [("_law_option", 11)]) (N := ["_law_world_here", "_law_case_here", "_law_divisor", "_law_prices", "_law_total", "_law_r", "_law_entry", "_law_p", "_law_gain_here", "_law_row", "_law_price", "_law_option"]) (sc := defScope sLBound) (by decide +kernel)) (fun _ _ _ _ _ => pg_name (i := 11) scLBound.nd rfl (Or.inl rfl)) (fun _ _ _ _ _ => pts_nil)
              (fun _ _ _ _ _ => pe_f cG hr (pa_cons (pv 0) (pa_cons (pv 2) (pa_cons (pv 3) (pa_cons (pv 5) (pa_cons (pv 11) pa_nil)))))))) pa_nil)))))
          (pss_one (ps_if (pt_cmpR op_notN (pv 6) pe_non (nomark _)) (pss_one (ps_set (i := 4) scLBound.nd rfl (Or.inl rfl) (pe_op op_add (pv 4) (pe_f cG hr (pa_cons (pv 0) (pa_cons (pv 2) (pa_cons (pv 3) (pa_cons (pv 5) (pa_cons (pv 6) pa_nil))))))))) pss_nil)))))
      (pss_cons (ps_for PassesOwn.never rfl (pi_enumT (by rfl) T.enumerate (pa_cons (pe_ix ix_tup (pv 1) pe_int (fun _ _ => rfl)) pa_nil)) (pg_tup rfl (pgs_cons (pg_name (i := 7) scLBound.nd rfl (Or.inr rfl)) (pgs_cons (pg_name (i := 6) scLBound.nd rfl (Or.inl rfl)) pgs_nil)))
        (pss_one (ps_if (pt_cmpR op_notN (pv 6) pe_non (nomark _))
          (pss_cons (ps_set (i := 8) scLBound.nd rfl (Or.inl rfl) (pe_op op_mul (pe_un un_neg (pv 2)) (pe_fld (pe_ix ix_tup (pe_fld (pv 0) rfl) (pv 7) (fun _ _ => rfl)) rfl)))
          (pss_cons (ps_set (i := 8) scLBound.nd rfl (Or.inl rfl) (pe_op op_sub (pv 8) (pe_callB (cr_sum rfl) (by rfl) T.sum (by decide +kernel) (pa_cons (pe_lc (own := [("_law_row", 9), ("_law_price", 10)]) (g := gTup K 2 (gCons (gName 9) (gCons (gName 10) gNil))) (tt := tYes) (te := tNo2) rfl scLBound.nd (pi_tup (pv 3))
            (blkOk_by (own := [("_law_row", 9), ("_law_price", 10)]) (N := ["_law_world_here", "_law_case_here", "_law_divisor", "_law_prices", "_law_total", "_law_r", "_law_entry", "_law_p", "_law_gain_here", "_law_row", "_law_price", "_law_option"]) (sc := defScope sLBound) (by decide +kernel)) (fun _ _ _ _ _ => pg_tup rfl (pgs_cons (pg_name (i := 9) scLBound.nd rfl (Or.inl rfl)) (pgs_cons (pg_name (i := 10) scLBound.nd rfl (Or.inl rfl)) pgs_nil))) (fun _ _ _ _ _ => pts_nil) (fun _ _ _ _ _ => pe_never2)) pa_nil))))
          (pss_cons (ps_if (pt_cmpR (op_eqD hr.units) (pv 6) pe_str (nomark _)) (pss_one (ps_set (i := 8) scLBound.nd rfl (Or.inl rfl) (pe_callB (call_max2 rfl) (by rfl) T.max (by decide +kernel) (pa_cons pe_int (pa_cons (pv 8) pa_nil))))) pss_nil)
          (pss_one (ps_set (i := 4) scLBound.nd rfl (Or.inl rfl) (pe_op op_add (pv 4) (pv 8))))))) pss_nil)))
      (pss_one (ps_ret (pv 4))))), ?_⟩
    refine ⟨_, rfl, e, rfl, ⟨_, SqT.of he⟩, fun D hD => ?_⟩
    refine lc_map (te := tNo2) (walk_tup (K := K) (a := e) (xs := [])) ([] : List Int) (fun _ v n => v = V.int n) hD rfl (by decide) (fun H' s => SqT.of (s _ _ he)) (fun _ _ _ _ _ _ z => z) ?_ ?_
    · intro i b x H2 H3 C Z hb
      exact absurd hb (by simp)
    intro H1 ys s1 q1 al1
    have q1' : H1 D = some (.lst (([] : List Int).map V.int)) := by rw [q1, all2_map al1]
    refine ⟨D, _, rfl, SqL.of q1', ?_⟩
    refine ⟨_, rfl, c, _, _, _, rfl, rfl, SqT.of (s1 _ _ e1), rfl, m, _, rfl, SqT.of (s1 _ _ e2), ?_⟩
    have hvl : vs.length = w'.recs.length := by rw [a1.len, fit.m]
    have hul : us.length = w'.pass.length := by rw [a2.len, fit.t]
    refine for_it (walk_enumT (K := K) (a := m) (xs := vs)) (fun i σ H' => (∃ x5 x6 : Option V, σ = [some (.ref W.a), some (.ref c), some (.int 1), some (.ref e), some (.int (((rTs w' C).take i).sum)), x5, x6, none, none, none, none, none]) ∧ Same H H') ⟨⟨none, none, rfl⟩, s1⟩ (fun i σ H' _ h => SqT.of (h.2 _ _ e2)) ?_ ?_
    · rintro i v σ H2 H3 hi ⟨⟨x5, x6, rfl⟩, s2⟩ ⟨TT, vi, vq, rfl, hTT, rfl, hvi, hvq⟩
      obtain rfl : vi = V.int (i : Int) := (Option.some.inj hvi).symm
      have hvq' : vs[i]? = some vq := hvq
      have hr1 : w'.recs[i]? = some (w'.recs[i]'(by omega)) := List.getElem?_eq_getElem (by omega)
      obtain ⟨en, hen, hrv⟩ := a1.getL hvq'
      have s3 : Same H (upd H2 TT (.tup [.int (i : Int), vq])) := s2.to hTT
      have hsum := sum_take (rTs_at hr1 hen)
      generalize w'.recs[i]'(by omega) = r at hr1 hsum
      refine ⟨TT, _, rfl, SqT.of upd_same, rfl, _, _, rfl, _, _, rfl, rfl, ?_⟩
      cases en with
      | none =>
        obtain rfl : vq = .non := hrv
        refine ⟨_, rfl, _, _, .non, .str _, rfl, by decide +kernel, _, rfl, bF rfl ?_⟩
        refine ⟨_, rfl, rfl, _, rfl, bF rfl ?_⟩
        refine ⟨⟨some (.int (i : Int)), some .non, ?_⟩, s3⟩
        rw [hsum]
        show _ = [_, _, _, _, some (V.int (_ + 0)), _, _, _, _, _, _, _]
        rw [Int.add_zero]
        rfl
      | op =>
        obtain rfl : vq = .str "open" := hrv
        refine ⟨_, rfl, _, _, .str _, .str _, by decide +kernel, by decide +kernel, _, rfl, bT (by decide +kernel) ?_⟩
        refine ⟨_, rfl, by show 1 ≤ sizeLine; decide, fun z hz => ?_⟩
        have s4 := s3.to (o := .lst [.int 0]) hz
        refine ⟨_, rfl, _, rfl, W, w', i, r, rfl, hW.same s4, hr1, fun H5 l ps s5 el al => ?_⟩
        refine ⟨l, rfl, ⟨_, SqL.of el⟩, fun D2 hD2 => ?_⟩
        have s05 := s4.trans s5
        refine lc_map (walk_list (K := K) (a := l) (xs := ps.map V.ref)) (optsOf w' r) (fun _ v _ => v = V.int (wt w' r)) hD2 (by rw [List.length_map, al.len]) (by
          rw [List.length_map, al.len]
          have := opts_few wok hr1; omega) (fun H' s => SqL.of (s _ _ el)) (fun _ _ _ _ _ _ z => z) ?_ ?_
        · rintro j b x H6 H7 C' Z hb sB _ ⟨rfl, hx⟩ hC'
          exact ⟨rfl, yesI ⟨_, rfl, _, rfl, _, rfl, _, rfl, _, rfl, W, w', e, i, r, x, rfl, hW.same (s05.trans sB), (s05.trans sB) _ _ he, hr1, fun H8 s8 => hC' _ _ s8 rfl⟩⟩
        intro H6 ys s6 e6 al6
        have e6' : H6 D2 = some (.lst (((optsOf w' r).map fun _ => wt w' r).map V.int)) := by rw [e6, all2_map al6, List.map_map]; rfl
        have ez : H6 z = some (.lst [.int 0]) := s6 _ _ (s5 _ _ upd_same)
        refine ⟨z, D2, _, _, rfl, rfl, ez, e6', by rw [List.length_map, List.length_map]; have := opts_few wok hr1; exact small5 (by show 1 + _ ≤ _; omega), fun p hp => ?_⟩
        refine ⟨p, 0 :: ((optsOf w' r).map fun _ => wt w' r), rfl, SqL.of upd_same, by show 0 < _ + 1; omega, fun mm hm1 hm2 => ?_⟩
        rw [max_open hm1 hm2]
        refine ⟨_, _, rfl, rfl, ⟨some (.int (i : Int)), some (.str "open"), ?_⟩, (s05.trans s6).to hp⟩
        rw [hsum]
        rfl
      | opt a b =>
        obtain ⟨tt, rfl, ett⟩ := hrv
        refine ⟨_, rfl, _, _, .tup (SqT.of (s3 _ _ ett)) (.cons (.int _) (.cons (.int _) .nil)), .str _, rfl, by decide +kernel, _, rfl, bF rfl ?_⟩
        refine ⟨_, rfl, rfl, _, rfl, nT (by intro z; cases z) ?_⟩
        refine ⟨_, rfl, _, rfl, _, rfl, _, rfl, _, rfl, _, rfl, W, w', e, i, r, _, rfl, hW.same s3, s3 _ _ he, hr1, fun H4 s4 => ?_⟩
        refine ⟨_, _, rfl, rfl, ⟨some (.int (i : Int)), some (.ref tt), ?_⟩, s3.trans s4⟩
        rw [hsum]
        rfl
    · rintro σ H2 ⟨⟨x5, x6, rfl⟩, s2⟩
      rw [hvl, ← rTs_len fit, List.take_length]
      refine ⟨_, rfl, c, _, _, _, rfl, rfl, SqT.of (s2 _ _ e1), rfl, t, _, rfl, SqT.of (s2 _ _ e3), ?_⟩
      refine for_it (walk_enumT (K := K) (a := t) (xs := us)) (fun i σ H' => (∃ x5 x6 x7 x8 : Option V, σ = [some (.ref W.a), some (.ref c), some (.int 1), some (.ref e), some (.int ((rTs w' C).sum + ((pTs w' C).take i).sum)), x5, x6, x7, x8, none, none, none]) ∧ Same H H') ⟨⟨x5, x6, none, none, by rw [List.take_zero, List.sum_nil, Int.add_zero]⟩, s2⟩ (fun i σ H' _ h => SqT.of (h.2 _ _ e3)) ?_ ?_
      · rintro i v σ H3 H4 hi ⟨⟨y5, y6, y7, y8, rfl⟩, s3⟩ ⟨TT, vi, vq, rfl, hTT, rfl, hvi, hvq⟩
        obtain rfl : vi = V.int (i : Int) := (Option.some.inj hvi).symm
        have hvq' : us[i]? = some vq := hvq
        have hr1 : w'.pass[i]? = some (w'.pass[i]'(by omega)) := List.getElem?_eq_getElem (by omega)
        obtain ⟨en, hen, hrv⟩ := a2.getL hvq'
        have s4 : Same H (upd H3 TT (.tup [.int (i : Int), vq])) := s3.to hTT
        have hsum := sum_take (pTs_at hr1 hen)
        generalize w'.pass[i]'(by omega) = p at hr1 hsum
        obtain ⟨dw, fw, ew, lw0, lw1, lw2, lw3, lw4⟩ := hw.ob
        obtain ⟨q, hq, dq, tq, eq, _⟩ := hw.s4.get hr1
        have hat : atI (W.q4.map V.ref) (i : Int) = some (V.ref q) := atI_nat (by rw [List.getElem?_map, hq]; rfl)
        refine ⟨TT, _, rfl, SqT.of upd_same, rfl, _, _, rfl, _, _, rfl, rfl, ?_⟩
        cases en with
        | none =>
          obtain rfl : vq = .non := hrv
          refine ⟨_, rfl, rfl, _, rfl, bF rfl ?_⟩
          refine ⟨⟨y5, some .non, some (.int (i : Int)), y8, ?_⟩, s4⟩
          rw [hsum]
          show _ = [_, _, _, _, some (V.int (_ + (_ + 0))), _, _, _, _, _, _, _]
          rw [Int.add_zero]
          rfl
        | op =>
          obtain rfl : vq = .str "open" := hrv
          refine ⟨_, rfl, rfl, _, rfl, nT (by intro z; cases z) ?_⟩
          refine ⟨_, rfl, _, rfl, _, rfl, W.a, _, dw, _, _, rfl, s4 _ _ ew, T.cWld, T.aWld _ (mem_at 4), lw4, _, rfl, W.t4, _, _, _, rfl, rfl, SqT.of (s4 _ _ hw.l4), hat, q, _, dq, _, _, rfl, s4 _ _ eq, T.cPas, T.aPas _ (mem_at 6), lookup_zip ndPas (i := 6) rfl rfl, _, _, rfl, rfl, .inl ⟨by decide, by decide⟩, ?_⟩
          refine ⟨_, rfl, _, rfl, e, rfl, ⟨_, SqT.of (s4 _ _ he)⟩, fun D2 hD2 => ?_⟩
          refine lc_map (te := tNo2) (walk_tup (K := K) (a := e) (xs := [])) ([] : List Int) (fun _ v n => v = V.int n) hD2 rfl (by decide) (fun H' s => SqT.of (s _ _ (s4 _ _ he))) (fun _ _ _ _ _ _ z => z) ?_ ?_
          · intro i b x H2 H3 C Z hb
            exact absurd hb (by simp)
          intro H5 ys s5 q5 al5
          have q5' : H5 D2 = some (.lst (([] : List Int).map V.int)) := by rw [q5, all2_map al5]
          refine ⟨D2, _, rfl, SqL.of q5', _, _, rfl, rfl, ?_⟩
          refine ⟨_, rfl, _, _, .str _, .str _, by decide +kernel, by decide +kernel, _, rfl, bT (by decide +kernel) ?_⟩
          refine ⟨_, rfl, _, _, rfl, ?_⟩
          refine ⟨_, rfl, _, rfl, _, _, rfl, rfl, ⟨y5, some (.str "open"), some (.int (i : Int)), some (.int (if -1 * p.fee - ([] : List Int).sum > 0 then -1 * p.fee - ([] : List Int).sum else 0)), ?_⟩, s4.trans s5⟩
          rw [hsum, ← Int.add_assoc]
          have e9 : -1 * p.fee - ([] : List Int).sum = -p.fee := by simp
          show [_, _, _, _, some (V.int (_ + if -1 * p.fee - ([] : List Int).sum > 0 then -1 * p.fee - ([] : List Int).sum else 0)), _, _, _, _, _, _, _] = [_, _, _, _, some (V.int (_ + if -p.fee > 0 then -p.fee else 0)), _, _, _, _, _, _, _]
          rw [e9]
        | ant a =>
          obtain rfl : vq = .int a := hrv
          refine ⟨_, rfl, rfl, _, rfl, nT (by intro z; cases z) ?_⟩
          refine ⟨_, rfl, _, rfl, _, rfl, W.a, _, dw, _, _, rfl, s4 _ _ ew, T.cWld, T.aWld _ (mem_at 4), lw4, _, rfl, W.t4, _, _, _, rfl, rfl, SqT.of (s4 _ _ hw.l4), hat, q, _, dq, _, _, rfl, s4 _ _ eq, T.cPas, T.aPas _ (mem_at 6), lookup_zip ndPas (i := 6) rfl rfl, _, _, rfl, rfl, .inl ⟨by decide, by decide⟩, ?_⟩
          refine ⟨_, rfl, _, rfl, e, rfl, ⟨_, SqT.of (s4 _ _ he)⟩, fun D2 hD2 => ?_⟩
          refine lc_map (te := tNo2) (walk_tup (K := K) (a := e) (xs := [])) ([] : List Int) (fun _ v n => v = V.int n) hD2 rfl (by decide) (fun H' s => SqT.of (s _ _ (s4 _ _ he))) (fun _ _ _ _ _ _ z => z) ?_ ?_
          · intro i b x H2 H3 C Z hb
            exact absurd hb (by simp)
          intro H5 ys s5 q5 al5
          have q5' : H5 D2 = some (.lst (([] : List Int).map V.int)) := by rw [q5, all2_map al5]
          refine ⟨D2, _, rfl, SqL.of q5', _, _, rfl, rfl, ?_⟩
          refine ⟨_, rfl, _, _, .int _, .str _, rfl, by decide +kernel, _, rfl, bF rfl ?_⟩
          refine ⟨_, rfl, _, rfl, _, _, rfl, rfl, ⟨y5, some (.int a), some (.int (i : Int)), some (.int (-p.fee)), ?_⟩, s4.trans s5⟩
          rw [hsum, ← Int.add_assoc]
          have e9 : -1 * p.fee - ([] : List Int).sum = -p.fee := by simp
          show [_, _, _, _, some (V.int (_ + (-1 * p.fee - ([] : List Int).sum))), _, _, _, some (V.int (-1 * p.fee - ([] : List Int).sum)), _, _, _] = [_, _, _, _, some (V.int (_ + -p.fee)), _, _, _, _, _, _, _]
          rw [e9]
      · rintro σ H3 ⟨⟨y5, y6, y7, y8, rfl⟩, s3⟩
        rw [hul, ← pTs_len fit, List.take_length]
        exact ⟨_, rfl, k H3 s3⟩
end
end K59
set_option maxHeartbeats 4000000
/-! is_index, are_prices, closes_by_prices, recording_cases, pass_cases, split_cases, _law_ways -/
namespace K59
open PySem PySem.Spec PyProof.Rows L2 TL
theorem RV.kp {H H' : Hp} {v : V} {e : REnt} (h : RV H v e) (s : Kp H H') : RV H' v e := by
  cases e with
  | none => exact h
  | op => exact h
  | opt a b =>
    obtain ⟨t, e, p⟩ := h
    exact ⟨t, e, p.kp s⟩
theorem CaseAt.kp {H H' : Hp} {c : Addr} {C : Cs} (h : CaseAt H c C) (s : Kp H H') : CaseAt H' c C := by
  obtain ⟨m, t, vs, us, e1, e2, e3, a1, a2⟩ := h.ex
  exact ⟨m, t, vs, us, s.tup _ _ e1, s.tup _ _ e2, s.tup _ _ e3, a1.mono fun _ _ z => z.kp s, a2⟩
/-- a new case at v -/
def CsF (H : Hp) (v : V) (C : Cs) : Prop := ∃ c, v = V.ref c ∧ CaseAt H c C
theorem CsF.st {D : Addr} {H H' : Hp} {v : V} {C : Cs} (e : ∃ acc, H D = some (.lst acc)) (o : Off [D] H H') (h : CsF H v C) : CsF H' v C := by
  obtain ⟨acc, e⟩ := e
  obtain ⟨c, rfl, hc⟩ := h
  exact ⟨c, rfl, hc.kp (kp_off e o)⟩
theorem opts_few3 {w : Wld} (ok : WldOk w) {i : Nat} {r : Rcd} (h : w.recs[i]? = some r) : (optsOf w r).length ≤ 100 := by
  have h1 : (optTo w r (starts r)).length ≤ starts r * w.pass.length := by
    generalize starts r = n
    induction n with
    | zero => simp [optTo]
    | succ n ih =>
      have e : optTo w r (n + 1) = optTo w r n ++ optRow w r (r.earliest + (n : Int)) w.pass.length := by
        unfold optTo
        rw [List.range_succ, List.flatMap_append]
        simp
      rw [e, List.length_append, Nat.succ_mul]
      have : (optRow w r (r.earliest + (n : Int)) w.pass.length).length ≤ w.pass.length := by
        unfold optRow
        exact Nat.le_trans (List.length_filterMap_le ..) (by simp)
      omega
  have h2 := (ok.recs i r h).latest
  have h3 : starts r * w.pass.length ≤ 21 * 4 := Nat.mul_le_mul (by unfold starts; omega) ok.npass
  unfold optsOf
  omega
theorem rvs_of {H : Hp} {ps : List Addr} {w : Wld} {r : Rcd} (al : All2 (PairAt H) ps (optsOf w r)) : All2 (RV H) (V.non :: ps.map V.ref) (waysR w r) := by
  refine All2.cons rfl ⟨by rw [List.length_map, List.length_map, al.len], fun i v en hv he => ?_⟩
  rw [List.getElem?_map] at hv he
  cases hp : ps[i]? with
  | none => rw [hp] at hv; cases hv
  | some p =>
    rw [hp] at hv
    cases hv
    obtain ⟨q, hq, pq⟩ := al.getL hp
    rw [hq] at he
    cases he
    exact ⟨p, rfl, pq⟩
theorem pvs_of (n : Int) : All2 PV (V.non :: rgV 0 n) (waysP n) := by
  refine All2.cons rfl ⟨by unfold rgV; rw [List.length_map, List.length_map, Int.sub_zero], fun i v en hv he => ?_⟩
  unfold rgV at hv
  rw [List.getElem?_map, Int.sub_zero] at hv
  rw [List.getElem?_map] at he
  cases hp : (List.range n.toNat)[i]? with
  | none => rw [hp] at hv; cases hv
  | some p =>
    rw [hp] at hv he
    cases hv
    cases he
    show V.int (0 + (p : Int)) = V.int (p : Int)
    rw [Int.zero_add]
theorem ways_r {w : Wld} {C : Cs} {i : Nat} {r : Rcd} (h : w.recs[i]? = some r) : ways w C (.rcd i) = (waysR w r).map fun en => ⟨C.ms.set i en, C.ts⟩ := by
  simp only [ways, h]
theorem ways_p {w : Wld} {C : Cs} {i : Nat} {p : Pas} {s : Sta} (h : w.pass[i]? = some p) (h2 : w.stas[p.sta]? = some s) : ways w C (.pas i) = (waysP s.antennas).map fun en => ⟨C.ms, C.ts.set i en⟩ := by
  simp only [ways, h, h2]
section
variable {P : Program} {w : World} {K : PySem.W.Frag} {mg : Str → Option Value} {base : Heap}
theorem ok_isIndex {f : Addr} {fd : FuncData} (F : Fun K "is_index" "is_index" sIsIndex f fd) (T : Tx K mg) : FnOk P w K mg base CX0 1 f fd ["value", "count"] spIsIndex := by
  refine F.ok scIsIndex (fun vs H Q E h => ?_) (fun cdv A outer s H vs Q E hr h => ?_)
  · obtain ⟨i, n, rfl, _⟩ := h
    rfl
  · obtain ⟨i, n, rfl, h0, h1, k⟩ := h
    refine ⟨_, pss_one (ps_ret (pe_and (pe_callB call_isi (by rfl) T.isinstance (by decide +kernel) (pa_cons (pv 0) (pa_cons (pe_bltn (v := .ty "int") (by rfl) T.int (by decide +kernel) rfl) pa_nil)))
      (pe_and (pe_not (pe_callB call_isi (by rfl) T.isinstance (by decide +kernel) (pa_cons (pv 0) (pa_cons (pe_bltn (v := .ty "bool") (by rfl) T.bool (by decide +kernel) rfl) pa_nil))))
        (pe_one (pe_chain op_le op_lt pe_int (pv 0) (pv 1)))))), ?_⟩
    refine ⟨_, rfl, _, _, _, _, true, rfl, .ty _, .base (.int _), kit_ty (by decide +kernel), true, rfl, iteT ?_⟩
    refine ⟨_, rfl, _, _, _, _, false, rfl, .ty _, .base (.int _), kit_ty (by decide +kernel), false, rfl, true, rfl, iteT ?_⟩
    refine ⟨_, rfl, _, _, rfl, rfl, _, rfl, dT h0 ?_⟩
    refine ⟨_, rfl, _, _, rfl, rfl, ?_⟩
    show Q (.bl (decide (i < n))) H
    rw [decide_eq_true h1]
    exact k
theorem ok_arePrices {f : Addr} {fd : FuncData} (F : Fun K "are_prices" "are_prices" sArePrices f fd) (T : Tx K mg) : FnOk P w K mg base CX0 1 f fd ["prices"] spArePrices := by
  refine F.ok scArePrices (fun vs H Q E h => ?_) (fun cdv A outer s H vs Q E hr h => ?_)
  · obtain ⟨e, rfl, _⟩ := h
    rfl
  · obtain ⟨e, rfl, he, k⟩ := h
    refine ⟨_, pss_cons (ps_if (pt_not (pt_val (pe_callB call_isi (by rfl) T.isinstance (by decide +kernel) (pa_cons (pv 0) (pa_cons (pe_bltn (v := .ty "tuple") (by rfl) T.tuple (by decide +kernel) rfl) pa_nil))))) pss_never pss_nil)
      (pss_one (ps_ret (pe_callB (cr_all rfl) (by rfl) T.all (by decide +kernel) (pa_cons (pe_lc (own := [("pair", 1)]) (g := gName 1) (tt := tYes) (te := fun _ _ _ => 1 = 2) rfl scArePrices.nd (pi_tup (pv 0)) (blkOk_by (own := [("pair", 1)]) (N := ["prices", "pair"]) (sc := defScope sArePrices) (by decide +kernel))
        (fun _ _ _ _ _ => pg_name (i := 1) scArePrices.nd rfl (Or.inl rfl)) (fun _ _ _ _ _ => pts_nil) (fun _ _ _ _ _ => ⟨fun _ _ _ _ _ _ h => absurd h (by decide)⟩)) pa_nil)))), ?_⟩
    refine ⟨_, rfl, _, _, _, _, true, rfl, .ty _, .base (.tup he), kit_ty (by decide +kernel), true, rfl, iteF ?_⟩
    refine ⟨_, rfl, e, rfl, ⟨_, SqT.of he⟩, fun D hD => ?_⟩
    refine lc_map (te := fun _ _ _ => 1 = 2) (walk_tup (K := K) (a := e) (xs := [])) ([] : List Bool) (fun _ v n => v = V.bl n) hD rfl (by decide) (fun H' s => SqT.of (s _ _ he)) (fun _ _ _ _ _ _ z => z) ?_ ?_
    · intro i b x H2 H3 C Z hb
      exact absurd hb (by simp)
    intro H1 ys s1 e1 al1
    have e1' : H1 D = some (.lst (([] : List Bool).map V.bl)) := by rw [e1, all2_map al1]
    exact ⟨D, _, rfl, SqL.of e1', k H1 s1⟩
theorem ok_closesByPrices {f : Addr} {fd : FuncData} (F : Fun K "closes_by_prices" "closes_by_prices" sClosesByPrices f fd) (T : Tx K mg) (cA : Cal P w K mg base 1 "are_prices" ["prices"] spArePrices) (cB : Cal P w K mg base 6 "bound" ["world", "case", "divisor", "prices"] (spBound K)) :
    FnOk P w K mg base CX0 7 f fd ["world", "case", "weight", "divisor", "prices"] (spClosesByPrices K) := by
  refine F.ok scClosesByPrices (fun vs H Q E h => ?_) (fun cdv A outer s H vs Q E hr h => ?_)
  · obtain ⟨W, w', c, e, C, m, rfl, _⟩ := h
    rfl
  · obtain ⟨W, w', c, e, C, m, rfl, hW, hC, fit, he, k⟩ := h
    refine ⟨_, pss_cons (ps_if (pt_not (pt_val (pe_f cA (hr.mono (by decide)) (pa_cons (pv 4) pa_nil)))) pss_never pss_nil)
      (pss_one (ps_try_thru0 (pss_one (ps_ret (pe_cmpR op_le (pe_f cB hr (pa_cons (pv 0) (pa_cons (pv 1) (pa_cons (pv 3) (pa_cons (pv 4) pa_nil))))) (pe_op op_mul (pv 3) (pv 2)) (nomark _)))))), ?_⟩
    refine ⟨_, rfl, e, rfl, he, fun H1 s1 => ⟨_, rfl, iteF ?_⟩⟩
    refine ⟨_, rfl, _, rfl, _, rfl, _, rfl, W, w', c, e, C, rfl, hW.same s1, hC.same s1, fit, s1 _ _ he, fun H2 s2 => ?_⟩
    refine ⟨_, rfl, _, rfl, _, _, rfl, rfl, .inl ⟨by decide, by decide⟩, _, _, rfl, rfl, ?_⟩
    show Q (.bl (decide (bnd w' C ≤ 1 * m))) H2
    rw [Int.one_mul]
    exact k H2 (s1.trans s2)
theorem ok_recordingCases {f : Addr} {fd : FuncData} (F : Fun K "recording_cases" "recording_cases" sRecordingCases f fd) (T : Tx K mg) (cM : Cal P w K mg base 1 "with_made" ["case", "number", "entry"] spWithMade) (cO : Cal P w K mg base 1 "options" ["world", "number"] (spOptions K)) :
    FnOk P w K mg base CX0 2 f fd ["world", "case", "r"] (spRecordingCases K) := by
  refine F.ok scRecordingCases (fun vs H Q E h => ?_) (fun cdv A outer s H vs Q E hr h => ?_)
  · obtain ⟨W, w', c, C, i, r, rfl, _⟩ := h
    rfl
  · obtain ⟨W, w', c, C, n, r, rfl, hW, hC, fit, hn, k⟩ := h
    have wok := hW.ok
    refine ⟨_, pss_one (ps_ret (pe_lc (own := [("entry", 3)]) (g := gName 3) (tt := tYes) (te := tCall spWithMade [] E0 (tCons (tVar 1) (tCons (tVar 2) (tCons (tVar 3) tNil)))) rfl scRecordingCases.nd
      (pi_tup (pe_op op_catA (pe_tup (pa_cons pe_non pa_nil)) (pe_f cO hr (pa_cons (pv 0) (pa_cons (pv 2) pa_nil)))))
      (blkOk_by (own := [("entry", 3)]) (N := ["world", "case", "r", "entry"]) (sc := defScope sRecordingCases) (by decide +kernel))
      (fun _ _ _ _ _ => pg_name (i := 3) scRecordingCases.nd rfl (Or.inl rfl)) (fun _ _ _ _ _ => pts_nil) (fun _ _ _ _ _ => pe_f cM hr (pa_cons (pv 1) (pa_cons (pv 2) (pa_cons (pv 3) pa_nil)))))), ?_⟩
    refine ⟨(by show 1 ≤ sizeLine; decide), fun t1 ht1 => ?_⟩
    have s1 : Same H (upd H t1 (.tup [.non])) := same_upd ht1
    refine ⟨_, rfl, _, rfl, W, w', n, r, rfl, hW.same s1, hn, fun o oc => ?_⟩
    obtain ⟨ps, eo, al⟩ := oc.ex
    have hfew := opts_few3 wok hn
    have hpl := al.len
    refine cat_tr upd_same eo (by rw [List.length_map]; show 1 + _ ≤ _; omega) fun t2 H2 s2 e2 => ?_
    have s02 := s1.trans s2
    have alv := rvs_of al
    have e2' : H2 t2 = some (.tup (V.non :: ps.map V.ref)) := e2
    refine ⟨t2, rfl, ⟨_, SqT.of e2'⟩, fun D hD => ?_⟩
    have hwl : (ways w' C (.rcd n)).length = (V.non :: ps.map V.ref).length := by rw [ways_r hn, List.length_map, alv.len]
    refine lc_map (walk_tup (K := K) (a := t2) (xs := V.non :: ps.map V.ref)) (ways w' C (.rcd n)) CsF hD hwl (by rw [List.length_cons, List.length_map]; omega) (fun H' s => SqT.of (s _ _ e2')) (fun _ _ _ _ e o z => z.st e o) ?_ ?_
    · rintro i b x H3 H4 C' Z hb sB _ ⟨rfl, hx⟩ hC'
      rw [ways_r hn, List.getElem?_map] at hb
      cases hen : (waysR w' r)[i]? with
      | none => rw [hen] at hb; cases hb
      | some en =>
      rw [hen] at hb
      cases hb
      have hrv := alv.at_ i x en hx hen
      have sA := s02.trans sB
      have hi : n < C.ms.length := by rw [fit.m]; exact (List.getElem?_eq_some_iff.mp hn).1
      exact ⟨rfl, yesI ⟨_, rfl, _, rfl, _, rfl, c, C, n, x, en, rfl, hC.same sA, hi, by rw [fit.m]; have := wok.nrecs; omega, (hrv.same s2).same sB, fun H' c' s hc' => hC' _ _ s ⟨c', rfl, hc'⟩⟩⟩
    intro H3 ys s3 e3 al3
    obtain ⟨ls, rfl, al4⟩ := all2_ref al3
    exact k H3 D ls (s02.trans s3) e3 al4
theorem ok_passCases {f : Addr} {fd : FuncData} (F : Fun K "pass_cases" "pass_cases" sPassCases f fd) (T : Tx K mg) (cM : Cal P w K mg base 1 "with_taken" ["case", "number", "entry"] spWithTaken) :
    FnOk P w K mg base CX0 2 f fd ["world", "case", "p"] (spPassCases K) := by
  refine F.ok scPassCases (fun vs H Q E h => ?_) (fun cdv A outer s H vs Q E hr h => ?_)
  · obtain ⟨W, w', c, C, i, r, rfl, _⟩ := h
    rfl
  · obtain ⟨W, w', c, C, n, p, rfl, hW, hC, fit, hn, k⟩ := h
    have hw := hW.wa
    have wok := hW.ok
    have ok := wok.pass n p hn
    obtain ⟨dw, fw, ew, lw0, lw1, lw2, lw3, lw4⟩ := hw.ob
    obtain ⟨q, hq, dq, tq, eq, _⟩ := hw.s4.get hn
    have hat : atI (W.q4.map V.ref) (n : Int) = some (V.ref q) := atI_nat (by rw [List.getElem?_map, hq]; rfl)
    have hsta : w'.stas[p.sta]? = some (w'.stas[p.sta]'(ok.sta)) := List.getElem?_eq_getElem ok.sta
    generalize w'.stas[p.sta]'(ok.sta) = st at hsta
    obtain ⟨qt, hqt, dqt, eqt⟩ := hw.s2.get hsta
    have hatt : atI (W.q2.map V.ref) (p.sta : Int) = some (V.ref qt) := atI_nat (by rw [List.getElem?_map, hqt]; rfl)
    have hant := (wok.stas _ _ hsta).antennas
    refine ⟨_, pss_cons (ps_set (i := 3) scPassCases.nd rfl (Or.inl rfl) (pe_fld (pe_ix ix_tup (pe_fld (pv 0) rfl) (pe_fld (pe_ix ix_tup (pe_fld (pv 0) rfl) (pv 2) (fun _ _ => rfl)) rfl) (fun _ _ => rfl)) rfl))
      (pss_one (ps_ret (pe_lc (own := [("entry", 4)]) (g := gName 4) (tt := tYes) (te := tCall spWithTaken [] E0 (tCons (tVar 1) (tCons (tVar 2) (tCons (tVar 4) tNil)))) rfl scPassCases.nd
      (pi_list (pe_op op_cat (pe_lst (pa_cons pe_non pa_nil)) (pe_listRg rfl (by rfl) T.list (prg_1 (by rfl) T.range (pv 3)))))
      (blkOk_by (own := [("entry", 4)]) (N := ["world", "case", "p", "antennas", "entry"]) (sc := defScope sPassCases) (by decide +kernel))
      (fun _ _ _ _ _ => pg_name (i := 4) scPassCases.nd rfl (Or.inl rfl)) (fun _ _ _ _ _ => pts_nil) (fun _ _ _ _ _ => pe_f cM hr (pa_cons (pv 1) (pa_cons (pv 2) (pa_cons (pv 4) pa_nil))))))), ?_⟩
    refine ⟨_, rfl, W.a, _, dw, _, _, rfl, ew, T.cWld, T.aWld _ (mem_at 2), lw2, _, rfl, W.a, _, dw, _, _, rfl, ew, T.cWld, T.aWld _ (mem_at 4), lw4, _, rfl, W.t4, _, _, _, rfl, rfl, SqT.of hw.l4, hat, q, _, dq, _, _, rfl, eq, T.cPas, T.aPas _ (mem_at 2), lookup_zip ndPas (i := 2) rfl rfl,
      W.t2, _, _, _, rfl, rfl, SqT.of hw.l2, hatt, qt, _, dqt, _, _, rfl, eqt, T.cSta, T.aSta _ (mem_at 1), lookup_zip ndSta (i := 1) rfl rfl, ?_⟩
    refine ⟨(by show 1 ≤ sizeLine; decide), fun t1 ht1 => ?_⟩
    have s1 : Same H (upd H t1 (.lst [.non])) := same_upd ht1
    refine ⟨_, rfl, _, rfl, ⟨by decide, by decide, by omega, by omega, by omega⟩, fun t2 ht2 => ?_⟩
    have s2 := s1.to (o := .lst (rgV 0 st.antennas)) ht2
    have n12 : t1 ≠ t2 := ne_of_none upd_same ht2
    have hrl : (rgV 0 st.antennas).length ≤ 3 := by unfold rgV; rw [List.length_map, List.length_range]; omega
    refine ⟨t1, t2, _, _, rfl, rfl, by rw [upd_ne n12]; exact upd_same, upd_same, small5 (by show 1 + _ ≤ _; omega), fun t3 ht3 => ?_⟩
    have s3 := s2.to (o := .lst ([V.non] ++ rgV 0 st.antennas)) ht3
    have e2' : (upd (upd (upd H t1 (.lst [.non])) t2 (.lst (rgV 0 st.antennas))) t3 (.lst ([V.non] ++ rgV 0 st.antennas))) t3 = some (.lst (V.non :: rgV 0 st.antennas)) := upd_same
    have alv := pvs_of st.antennas
    refine ⟨t3, rfl, ⟨_, SqL.of e2'⟩, fun D hD => ?_⟩
    have hwl : (ways w' C (.pas n)).length = (V.non :: rgV 0 st.antennas).length := by rw [ways_p hn hsta, List.length_map, alv.len]
    refine lc_map (walk_list (K := K) (a := t3) (xs := V.non :: rgV 0 st.antennas)) (ways w' C (.pas n)) CsF hD hwl (by rw [List.length_cons]; omega) (fun H' s => SqL.of (s _ _ e2')) (fun _ _ _ _ e o z => z.st e o) ?_ ?_
    · rintro i b x H3 H4 C' Z hb sB _ ⟨rfl, hx⟩ hC'
      rw [ways_p hn hsta, List.getElem?_map] at hb
      cases hen : (waysP st.antennas)[i]? with
      | none => rw [hen] at hb; cases hb
      | some en =>
      rw [hen] at hb
      cases hb
      have hrv := alv.at_ i x en hx hen
      have sA := s3.trans sB
      have hi : n < C.ts.length := by rw [fit.t]; exact (List.getElem?_eq_some_iff.mp hn).1
      exact ⟨rfl, yesI ⟨_, rfl, _, rfl, _, rfl, c, C, n, x, en, rfl, hC.same sA, hi, by rw [fit.t]; have := wok.npass; omega, hrv, fun H' c' s hc' => hC' _ _ s ⟨c', rfl, hc'⟩⟩⟩
    intro H3 ys s4 e3 al3
    obtain ⟨ls, rfl, al4⟩ := all2_ref al3
    exact k H3 D ls (s3.trans s4) e3 al4
theorem open_r {w : Wld} {C : Cs} {i : Nat} (f : Fit w C) (h : C.ms[i]? = some .op) : ∃ r, w.recs[i]? = some r := by
  have := (List.getElem?_eq_some_iff.mp h).1
  exact ⟨_, List.getElem?_eq_getElem (by rw [← f.m]; exact this)⟩
theorem open_p {w : Wld} {C : Cs} {i : Nat} (f : Fit w C) (h : C.ts[i]? = some .op) : ∃ p, w.pass[i]? = some p := by
  have := (List.getElem?_eq_some_iff.mp h).1
  exact ⟨_, List.getElem?_eq_getElem (by rw [← f.t]; exact this)⟩
theorem ok_splitCases {f : Addr} {fd : FuncData} (F : Fun K "split_cases" "split_cases" sSplitCases f fd) (T : Tx K mg) (cI : Cal P w K mg base 1 "is_index" ["value", "count"] spIsIndex)
    (cR : Cal P w K mg base 2 "recording_cases" ["world", "case", "r"] (spRecordingCases K)) (cP : Cal P w K mg base 2 "pass_cases" ["world", "case", "p"] (spPassCases K)) :
    FnOk P w K mg base CX0 3 f fd ["world", "case", "kind", "index"] (spSplitCases K) := by
  refine F.ok scSplitCases (fun vs H Q E h => ?_) (fun cdv A outer s H vs Q E hr h => ?_)
  · obtain ⟨W, w', c, C, ch, rfl, _⟩ := h
    rfl
  · obtain ⟨W, w', c, C, ch, rfl, hW, hC, fit, hop, k⟩ := h
    obtain ⟨tu, gu⟩ := T.open_
    obtain ⟨m, t, vs, us, e1, e2, e3, a1, a2⟩ := hC.ex
    refine ⟨_, pss_cons (ps_if (PW.pt (pw_and (pt_cmpR op_eq (pv 2) pe_str (nomark _)) (pw_and (pt_val (pe_f cI (hr.mono (by decide)) (pa_cons (pv 3) (pa_cons (pe_callB call_len_seq (by rfl) T.len PySem.boot_len (pa_cons (pe_ix ix_tup (pv 1) pe_int (fun _ _ => rfl)) pa_nil)) pa_nil))))
        (pw_and1 (pt_cmpR (op_eqD hr.units) (pe_ix ix_tup (pe_ix ix_tup (pv 1) pe_int (fun _ _ => rfl)) (pv 3) (fun _ _ => rfl)) (pe_gS gu) (nomark _))))))
        (pss_one (ps_ret (pe_f cR hr (pa_cons (pv 0) (pa_cons (pv 1) (pa_cons (pv 3) pa_nil)))))) pss_nil)
      (pss_cons (ps_if (PW.pt (pw_and (pt_cmpR op_eq (pv 2) pe_str (nomark _)) (pw_and (pt_val (pe_f cI (hr.mono (by decide)) (pa_cons (pv 3) (pa_cons (pe_callB call_len_seq (by rfl) T.len PySem.boot_len (pa_cons (pe_ix ix_tup (pv 1) pe_int (fun _ _ => rfl)) pa_nil)) pa_nil))))
        (pw_and1 (pt_cmpR (op_eqD hr.units) (pe_ix ix_tup (pe_ix ix_tup (pv 1) pe_int (fun _ _ => rfl)) (pv 3) (fun _ _ => rfl)) (pe_gS gu) (nomark _))))))
        (pss_one (ps_ret (pe_f cP hr (pa_cons (pv 0) (pa_cons (pv 1) (pa_cons (pv 3) pa_nil)))))) pss_nil)
      pss_never), ?_⟩
    cases ch with
    | rcd i =>
      have hop' : C.ms[i]? = some .op := hop
      obtain ⟨r, hn⟩ := open_r fit hop'
      obtain ⟨v, hv, rv⟩ := a1.get hop'
      obtain rfl : v = .str "open" := rv
      have hlt : i < vs.length := (List.getElem?_eq_some_iff.mp hv).1
      refine ⟨_, rfl, rfl, _, rfl, bT (by show decide (V.str (Str.ofString "recording") = V.str (Str.ofString "recording")) = true; decide +kernel) ?_⟩
      refine ⟨_, rfl, _, rfl, c, _, _, _, rfl, rfl, SqT.of e1, rfl, m, _, rfl, .inr (SqT.of e2), i, _, rfl, by show (0 : Int) ≤ (i : Int); omega, by show (i : Int) < _; omega, _, rfl, iteT ?_⟩
      refine ⟨_, rfl, c, _, _, _, rfl, rfl, SqT.of e1, rfl, _, rfl, m, _, _, _, rfl, rfl, SqT.of e2, atI_nat hv, _, _, .str _, .str _, by decide +kernel, by decide +kernel, _, rfl, bT (by decide +kernel) ?_⟩
      exact ⟨_, rfl, _, rfl, _, rfl, W, w', c, C, i, r, rfl, hW, hC, fit, hn, k⟩
    | pas i =>
      have hop' : C.ts[i]? = some .op := hop
      obtain ⟨r, hn⟩ := open_p fit hop'
      obtain ⟨v, hv, rv⟩ := a2.get hop'
      obtain rfl : v = .str "open" := rv
      have hlt : i < us.length := (List.getElem?_eq_some_iff.mp hv).1
      refine ⟨_, rfl, rfl, _, rfl, bF (by show decide (V.str (Str.ofString "pass") = V.str (Str.ofString "recording")) = false; decide +kernel) ?_⟩
      refine iteF ?_
      refine ⟨_, rfl, rfl, _, rfl, bT (by show decide (V.str (Str.ofString "pass") = V.str (Str.ofString "pass")) = true; decide +kernel) ?_⟩
      refine ⟨_, rfl, _, rfl, c, _, _, _, rfl, rfl, SqT.of e1, rfl, t, _, rfl, .inr (SqT.of e3), i, _, rfl, by show (0 : Int) ≤ (i : Int); omega, by show (i : Int) < _; omega, _, rfl, iteT ?_⟩
      refine ⟨_, rfl, c, _, _, _, rfl, rfl, SqT.of e1, rfl, _, rfl, t, _, _, _, rfl, rfl, SqT.of e3, atI_nat hv, _, _, .str _, .str _, by decide +kernel, by decide +kernel, _, rfl, bT (by decide +kernel) ?_⟩
      exact ⟨_, rfl, _, rfl, _, rfl, W, w', c, C, i, r, rfl, hW, hC, fit, hn, k⟩
end
end K59
set_option maxHeartbeats 4000000
/-! closes, closes_all, _law_ways -/
namespace K59
open PySem PySem.Spec PyProof.Rows L2 TL
section
variable {P : Program} {w : World} {K : PySem.W.Frag} {mg : Str → Option Value} {base : Heap}
theorem ok_closesB {f : Addr} {fd : FuncData} (F : Fun K "closes" "closes" sCloses f fd) (T : Tx K mg) (cB : Cal P w K mg base 7 "closes_by_prices" ["world", "case", "weight", "divisor", "prices"] (spClosesByPrices K)) :
    FnOk P w K mg base CX0 8 f fd ["world", "case", "weight", "paper"] (spClosesB K) := by
  refine F.ok scCloses (fun vs H Q E h => ?_) (fun cdv A outer s H vs Q E hr h => ?_)
  · obtain ⟨W, w', c, b, C, m, rfl, _⟩ := h
    rfl
  · obtain ⟨W, w', c, b, C, m, rfl, hW, hC, fit, ⟨e, hb, he⟩, k⟩ := h
    refine ⟨_, pss_cons (ps_if (PW.pt (pw_or (pt_not (pt_val (pe_callB call_isi (by rfl) T.isinstance (by decide +kernel) (pa_cons (pv 3) (pa_cons (pe_bltn (v := .ty "tuple") (by rfl) T.tuple (by decide +kernel) rfl) pa_nil)))))
        (pw_or1 (pt_cmpR op_lt (pe_callB call_len_seq (by rfl) T.len PySem.boot_len (pa_cons (pv 3) pa_nil)) pe_int (nomark _))))) pss_never pss_nil)
      (pss_cons (ps_if (PW.pt (pw_and (pt_cmpR op_eq (pe_ix ix_tup (pv 3) pe_int (fun _ _ => rfl)) pe_str (nomark _)) (pw_and1 (pt_cmpR op_eq (pe_callB call_len_seq (by rfl) T.len PySem.boot_len (pa_cons (pv 3) pa_nil)) pe_int (nomark _))))) pss_never pss_nil)
      (pss_cons (ps_if (PW.pt (pw_and (pt_cmpR op_eq (pe_ix ix_tup (pv 3) pe_int (fun _ _ => rfl)) pe_str (nomark _)) (pw_and1 (pt_cmpR op_eq (pe_callB call_len_seq (by rfl) T.len PySem.boot_len (pa_cons (pv 3) pa_nil)) pe_int (nomark _)))))
        (pss_one (ps_ret (pe_f cB hr (pa_cons (pv 0) (pa_cons (pv 1) (pa_cons (pv 2) (pa_cons (pe_ix ix_tup (pv 3) pe_int (fun _ _ => rfl)) (pa_cons (pe_ix ix_tup (pv 3) pe_int (fun _ _ => rfl)) pa_nil)))))))) pss_nil)
      pss_never)), ?_⟩
    refine ⟨_, rfl, _, _, _, _, true, rfl, .ty _, .base (.tup hb), kit_ty (by decide +kernel), true, rfl, iteF ?_⟩
    refine ⟨_, rfl, b, _, rfl, .inr (SqT.of hb), _, _, rfl, rfl, _, rfl, bF rfl ?_⟩
    refine ⟨_, rfl, b, _, _, _, rfl, rfl, SqT.of hb, rfl, rfl, _, rfl, bF (by decide +kernel) ?_⟩
    refine iteF ?_
    refine ⟨_, rfl, b, _, _, _, rfl, rfl, SqT.of hb, rfl, rfl, _, rfl, bT (by decide +kernel) ?_⟩
    refine ⟨_, rfl, b, _, rfl, .inr (SqT.of hb), rfl, _, rfl, bT rfl ?_⟩
    exact ⟨_, rfl, _, rfl, _, rfl, _, rfl, b, _, _, _, rfl, rfl, SqT.of hb, rfl, _, rfl, b, _, _, _, rfl, rfl, SqT.of hb, rfl, W, w', c, e, C, m, rfl, hW, hC, fit, he, k⟩
theorem ok_closesAll {f : Addr} {fd : FuncData} (F : Fun K "closes_all" "closes_all" sClosesAll f fd) (T : Tx K mg) (cB : Cal P w K mg base 8 "closes" ["world", "case", "weight", "paper"] (spClosesB K)) :
    FnOk P w K mg base CX0 9 f fd ["world", "cases", "weight", "papers"] (spClosesAll K) := by
  refine F.ok scClosesAll (fun vs H Q E h => ?_) (fun cdv A outer s H vs Q E hr h => ?_)
  · obtain ⟨W, w', l, t, ls, Cs', m, k, n, rfl, _⟩ := h
    rfl
  · obtain ⟨W, w', l, t, ls, Cs', m, kk, n, rfl, hW, hl, al, hfit, ⟨bs, hbn, hbs, ht⟩, k⟩ := h
    refine ⟨_, pss_cons (ps_if (PW.pt (pw_or (pt_not (pt_val (pe_callB call_isi (by rfl) T.isinstance (by decide +kernel) (pa_cons (pv 3) (pa_cons (pe_bltn (v := .ty "tuple") (by rfl) T.tuple (by decide +kernel) rfl) pa_nil)))))
        (pw_or1 (pt_cmpR op_ne (pe_callB call_len_seq (by rfl) T.len PySem.boot_len (pa_cons (pv 3) pa_nil)) (pe_callB call_len_seq (by rfl) T.len PySem.boot_len (pa_cons (pv 1) pa_nil)) (nomark _))))) (pss_one (ps_ret pe_bl)) pss_nil)
      (pss_cons (ps_for PassesOwn.never rfl (pi_zipM (by rfl) T.zip (pa_cons (pv 1) (pa_cons (pv 3) pa_nil))) (pg_tup rfl (pgs_cons (pg_name (i := 4) scClosesAll.nd rfl (Or.inl rfl)) (pgs_cons (pg_name (i := 5) scClosesAll.nd rfl (Or.inl rfl)) pgs_nil)))
        (pss_one (ps_if (pt_not (pt_val (pe_f cB hr (pa_cons (pv 0) (pa_cons (pv 4) (pa_cons (pv 2) (pa_cons (pv 5) pa_nil))))))) (pss_one (ps_ret pe_bl)) pss_nil)))
      (pss_one (ps_ret pe_bl))), ?_⟩
    cases kk with
    | false =>
      have ht' : H t = some (.lst (bs.map V.ref)) := ht
      refine ⟨_, rfl, _, _, _, _, false, rfl, .ty _, .base (.lst ht'), kit_ty (by decide +kernel), false, rfl, iteT ?_⟩
      exact k H fun _ _ z => z
    | true =>
      have ht' : H t = some (.tup (bs.map V.ref)) := ht
      have hll := al.len
      refine ⟨_, rfl, _, _, _, _, true, rfl, .ty _, .base (.tup ht'), kit_ty (by decide +kernel), true, rfl, iteF ?_⟩
      refine ⟨_, rfl, t, _, rfl, .inr (SqT.of ht'), _, rfl, l, _, rfl, .inl (SqL.of hl), rfl, _, rfl, ?_⟩
      rw [List.length_map, List.length_map, hbn, hll]
      by_cases c : n = Cs'.length
      · subst c
        refine bF (by rw [decide_eq_true rfl]; rfl) ?_
        refine ⟨_, rfl, _, rfl, l, t, _, _, rfl, SqL.of hl, SqT.of ht', ?_⟩
        have hz : Cs'.length = min (ls.map V.ref).length (bs.map V.ref).length := by rw [List.length_map, List.length_map, hbn, hll, Nat.min_self]
        refine for_it (walk_zipM (K := K) (a := l) (b := t) (xs := ls.map V.ref) (ys := bs.map V.ref) hz) (fun i σ H' => (∃ x4 x5 : Option V, σ = [some (.ref W.a), some (.ref l), some (.int m), some (.ref t), x4, x5]) ∧ Same H H' ∧ ∀ j C, j < i → Cs'[j]? = some C → bnd w' C ≤ m)
          ⟨⟨none, none, rfl⟩, fun _ _ z => z, fun j C hj => absurd hj (Nat.not_lt_zero _)⟩ (fun i σ H' _ h => ⟨SqL.of (h.2.1 _ _ hl), SqT.of (h.2.1 _ _ ht')⟩) ?_ ?_
        · rintro i v σ H1 H2 hi ⟨⟨x4, x5, rfl⟩, s1, hall⟩ ⟨TT, vc, vb, rfl, hTT, rfl, hvc, hvb⟩
          have hvc' : (ls.map V.ref)[i]? = some vc := hvc
          have hvb' : (bs.map V.ref)[i]? = some vb := hvb
          have hCi : Cs'[i]? = some Cs'[i] := List.getElem?_eq_getElem hi
          generalize Cs'[i] = C at hCi
          obtain ⟨c, hc, cc⟩ := al.get hCi
          rw [List.getElem?_map, hc] at hvc'
          cases hvc'
          have hbi : bs[i]? = some (bs[i]'(by omega)) := List.getElem?_eq_getElem (by omega)
          generalize bs[i]'(by omega) = b at hbi
          rw [List.getElem?_map, hbi] at hvb'
          cases hvb'
          obtain ⟨e, q1, q2⟩ := hbs b (List.mem_of_getElem? hbi)
          have s2 := s1.to (o := .tup [.ref c, .ref b]) hTT
          have hf := hfit C (List.mem_of_getElem? hCi)
          refine ⟨TT, _, rfl, SqT.of upd_same, rfl, _, _, rfl, _, _, rfl, rfl, ?_⟩
          refine ⟨_, rfl, _, rfl, _, rfl, _, rfl, W, w', c, b, C, m, rfl, hW.same s2, cc.same s2, hf, ⟨e, s2 _ _ q1, s2 _ _ q2⟩, fun H3 s3 => ⟨_, rfl, ?_⟩⟩
          by_cases hle : bnd w' C ≤ m
          · refine bF (by rw [decide_eq_true hle]; rfl) ?_
            refine ⟨⟨_, _, rfl⟩, s2.trans s3, fun j C' hj hC' => ?_⟩
            by_cases hji : j = i
            · subst hji
              rw [hCi] at hC'
              cases hC'
              exact hle
            · exact hall j C' (by omega) hC'
          · refine bT (by rw [decide_eq_false hle]; rfl) ?_
            have e9 : allB w' Cs' m true Cs'.length = false := by
              have h1 : (Cs'.all fun C => decide (bnd w' C ≤ m)) = false := by
                rw [List.all_eq_false]
                exact ⟨C, List.mem_of_getElem? hCi, by rw [decide_eq_false hle]; decide⟩
              unfold allB
              rw [h1]
              simp
            have := k H3 (s2.trans s3)
            rw [e9] at this
            exact this
        · rintro σ H1 ⟨⟨x4, x5, rfl⟩, s1, hall⟩
          have e9 : allB w' Cs' m true Cs'.length = true := by
            have h1 : (Cs'.all fun C => decide (bnd w' C ≤ m)) = true := by
              rw [List.all_eq_true]
              intro C hC
              obtain ⟨j, hj⟩ := List.mem_iff_getElem?.mp hC
              exact decide_eq_true (hall j C (List.getElem?_eq_some_iff.mp hj).1 hj)
            unfold allB
            rw [h1]
            simp
          have := k H1 s1
          rw [e9] at this
          exact this
      · refine nT (by intro z; have z2 := V.int.inj z; omega) ?_
        have e9 : allB w' Cs' m true n = false := by
          unfold allB
          rw [decide_eq_false c]
          rfl
        have := k H fun _ _ z => z
        rw [e9] at this
        exact this
theorem ok_closes {f : Addr} {fd : FuncData} (F : Fun K "closes" "closes" sCloses f fd) (T : Tx K mg) (cS : Cal P w K mg base 3 "split_cases" ["world", "case", "kind", "index"] (spSplitCases K)) (cA : Cal P w K mg base 9 "closes_all" ["world", "cases", "weight", "papers"] (spClosesAll K)) :
    FnOk P w K mg base CX0 10 f fd ["world", "case", "weight", "paper"] (spCloses K) := by
  refine F.ok scCloses (fun vs H Q E h => ?_) (fun cdv A outer s H vs Q E hr h => ?_)
  · obtain ⟨W, w', c, b, t, C, ch, m, kk, n, rfl, _⟩ := h
    rfl
  · obtain ⟨W, w', c, b, t, C, ch, m, kk, n, rfl, hW, hC, fit, hop, hb, hp, k⟩ := h
    refine ⟨_, pss_cons (ps_if (PW.pt (pw_or (pt_not (pt_val (pe_callB call_isi (by rfl) T.isinstance (by decide +kernel) (pa_cons (pv 3) (pa_cons (pe_bltn (v := .ty "tuple") (by rfl) T.tuple (by decide +kernel) rfl) pa_nil)))))
        (pw_or1 (pt_cmpR op_lt (pe_callB call_len_seq (by rfl) T.len PySem.boot_len (pa_cons (pv 3) pa_nil)) pe_int (nomark _))))) pss_never pss_nil)
      (pss_cons (ps_if (PW.pt (pw_and (pt_cmpR op_eq (pe_ix ix_tup (pv 3) pe_int (fun _ _ => rfl)) pe_str (nomark _)) (pw_and1 (pt_cmpR op_eq (pe_callB call_len_seq (by rfl) T.len PySem.boot_len (pa_cons (pv 3) pa_nil)) pe_int (nomark _))))) pss_never pss_nil)
      (pss_cons (ps_if (PW.pt (pw_and (pt_cmpR op_eq (pe_ix ix_tup (pv 3) pe_int (fun _ _ => rfl)) pe_str (nomark _)) (pw_and1 (pt_cmpR op_eq (pe_callB call_len_seq (by rfl) T.len PySem.boot_len (pa_cons (pv 3) pa_nil)) pe_int (nomark _))))) pss_never pss_nil)
      (pss_cons (ps_if (pt_cmpR op_ne (pe_callB call_len_seq (by rfl) T.len PySem.boot_len (pa_cons (pv 3) pa_nil)) pe_int (nomark _)) pss_never pss_nil)
      (pss_cons (ps_set (i := 4) scCloses.nd rfl (Or.inl rfl) (pe_f cS (hr.mono (by decide)) (pa_cons (pv 0) (pa_cons (pv 1) (pa_cons (pe_ix ix_tup (pv 3) pe_int (fun _ _ => rfl)) (pa_cons (pe_ix ix_tup (pv 3) pe_int (fun _ _ => rfl)) pa_nil))))))
      (pss_one (ps_ret (pe_and (pe_cmpR op_notN (pv 4) pe_non (nomark _)) (pe_one (pe_f cA hr (pa_cons (pv 0) (pa_cons (pv 4) (pa_cons (pv 2) (pa_cons (pe_ix ix_tup (pv 3) pe_int (fun _ _ => rfl)) pa_nil))))))))))))), ?_⟩
    have w1 : decide (V.str ch.word = V.str (Str.ofString "breach")) = false := by
      cases ch
      · exact (by decide +kernel : decide (V.str (Str.ofString "recording") = V.str (Str.ofString "breach")) = false)
      · exact (by decide +kernel : decide (V.str (Str.ofString "pass") = V.str (Str.ofString "breach")) = false)
    have w2 : decide (V.str ch.word = V.str (Str.ofString "bound")) = false := by
      cases ch
      · exact (by decide +kernel : decide (V.str (Str.ofString "recording") = V.str (Str.ofString "bound")) = false)
      · exact (by decide +kernel : decide (V.str (Str.ofString "pass") = V.str (Str.ofString "bound")) = false)
    refine ⟨_, rfl, _, _, _, _, true, rfl, .ty _, .base (.tup hb), kit_ty (by decide +kernel), true, rfl, iteF ?_⟩
    refine ⟨_, rfl, b, _, rfl, .inr (SqT.of hb), _, _, rfl, rfl, _, rfl, bF rfl ?_⟩
    refine ⟨_, rfl, b, _, _, _, rfl, rfl, SqT.of hb, rfl, rfl, _, rfl, bF w1 ?_⟩
    refine iteF ?_
    refine ⟨_, rfl, b, _, _, _, rfl, rfl, SqT.of hb, rfl, rfl, _, rfl, bF w2 ?_⟩
    refine iteF ?_
    refine ⟨_, rfl, b, _, rfl, .inr (SqT.of hb), rfl, _, rfl, bF rfl ?_⟩
    refine ⟨_, rfl, _, rfl, _, rfl, b, _, _, _, rfl, rfl, SqT.of hb, rfl, _, rfl, b, _, _, _, rfl, rfl, SqT.of hb, rfl, W, w', c, C, ch, rfl, hW, hC, fit, hop, fun H1 l ls s1 el al => ?_⟩
    refine ⟨_, rfl, rfl, _, rfl, nT (by intro z; cases z) ?_⟩
    have hp1 : PapAt H1 t kk n := by
      obtain ⟨bs, q1, q2, q3⟩ := hp
      exact ⟨bs, q1, fun b hb => by obtain ⟨e, z1, z2⟩ := q2 b hb; exact ⟨e, s1 _ _ z1, s1 _ _ z2⟩, s1 _ _ q3⟩
    have hfit : ∀ C' ∈ ways w' C ch, Fit w' C' := by
      intro C' hC'
      cases ch with
      | rcd i =>
        obtain ⟨r, hn⟩ := open_r fit hop
        rw [ways_r hn] at hC'
        obtain ⟨en, _, rfl⟩ := List.mem_map.mp hC'
        exact ⟨by show (C.ms.set i en).length = _; rw [List.length_set]; exact fit.m, fit.t⟩
      | pas i =>
        obtain ⟨p, hn⟩ := open_p fit hop
        have ok := hW.ok.pass i p hn
        rw [ways_p hn (List.getElem?_eq_getElem ok.sta)] at hC'
        obtain ⟨en, _, rfl⟩ := List.mem_map.mp hC'
        exact ⟨fit.m, by show (C.ts.set i en).length = _; rw [List.length_set]; exact fit.t⟩
    exact ⟨_, rfl, _, rfl, _, rfl, _, rfl, b, _, _, _, rfl, rfl, SqT.of (s1 _ _ hb), rfl, W, w', l, t, ls, _, m, kk, n, rfl, hW.same s1, el, al, hfit, hp1, fun H2 s2 => k H2 (s1.trans s2)⟩
end
end K59
set_option maxHeartbeats 4000000
/-! _law_ways -/
namespace K59
open PySem PySem.Spec PyProof.Rows L2 TL
/-- a[k][:b] + (e,) + a[k][b + 1:] -/
def tCut (K : PySem.W.Frag) (k : Int) (a b e : Nat) : TE := tOp (rCatA K) (tOp (rCatA K) (tSl (rSlA K) (tOp (rIxT K) (tVar a) (tC (.int k))) tNoPart (tPart (tVar b))) (tTup (tCons (tVar e) tNil)))
  (tSl (rSlA K) (tOp (rIxT K) (tVar a) (tC (.int k))) (tPart (tOp rAdd (tVar b) (tC (.int 1)))) tNoPart)
theorem rd_cut {K : PySem.W.Frag} {k : Int} {a b e i : Nat} {c m : Addr} {xs ys : List V} {v : V} {σ : L2.St} {H : Hp} {Q : VK} (ha : σ[a]? = some (some (V.ref c))) (hc : H c = some (.tup ys)) (hat : atI ys k = some (V.ref m)) (hm : H m = some (.tup xs))
    (hb : σ[b]? = some (some (V.int (i : Int)))) (he : σ[e]? = some (some v)) (hi : i < xs.length) (hl : xs.length ≤ 1000) (kk : ∀ p H', Same H H' → H' p = some (.tup (xs.set i v)) → Q (.ref p) H') : tCut K k a b e σ H Q := by
  unfold tCut
  refine ⟨_, ha, c, _, _, _, rfl, rfl, SqT.of hc, hat, ?_⟩
  unfold tNoPart
  refine ⟨_, hb, _, rfl, sl_tr hm fun p1 H1 s1 q1 => ?_⟩
  rw [cut_take] at q1
  refine ⟨_, he, (by show 1 ≤ sizeLine; decide), fun p2 hp2 => cat_tr (same_upd hp2 _ _ q1) upd_same (by rw [List.length_take]; show _ + 1 ≤ _; omega) fun p3 H3 s3 q3 => ?_⟩
  have s13 : Same H1 H3 := (same_upd hp2).trans s3
  have s03 : Same H H3 := s1.trans s13
  refine ⟨_, ha, c, _, _, _, rfl, rfl, SqT.of (s03 _ _ hc), hat, _, hb, _, _, rfl, rfl, _, rfl, ?_⟩
  refine sl_tr (s03 _ _ hm) fun p4 H4 s4 q4 => ?_
  rw [show ((i : Int) + 1) = ((i + 1 : Nat) : Int) from rfl, cut_drop] at q4
  refine cat_tr (s4 _ _ q3) q4 (by rw [List.length_append, List.length_take, List.length_drop]; show _ + 1 + _ ≤ _; omega) fun p5 H5 s5 q5 => ?_
  rw [set_cut hi] at q5
  exact kk p5 H5 ((s03.trans s4).trans s5) q5
section
variable {P : Program} {w : World} {K : PySem.W.Frag} {mg : Str → Option Value} {base : Heap}
theorem ok_lWays {f : Addr} {fd : FuncData} (F : Fun K "_law_ways" "_law_ways" sLWays f fd) (T : Tx K mg) (cO : Cal P w K mg base 1 "_law_options" ["_law_world_here", "_law_r"] (spLOptions K)) :
    FnOk P w K mg base CX0 2 f fd ["_law_world_here", "_law_case_here", "_law_kind", "_law_at"] (spLWays K) := by
  refine F.ok scLWays (fun vs H Q E h => ?_) (fun cdv A outer s H vs Q E hr h => ?_)
  · obtain ⟨W, w', c, C, ch, rfl, _⟩ := h
    rfl
  · obtain ⟨W, w', c, C, ch, rfl, hW, hC, fit, hop, k⟩ := h
    have hw := hW.wa
    have wok := hW.ok
    obtain ⟨dw, fw, ew, lw0, lw1, lw2, lw3, lw4⟩ := hw.ob
    obtain ⟨m, t, vs, us, e1, e2, e3, a1, a2⟩ := hC.ex
    refine ⟨_, pss_cons (ps_set (i := 4) scLWays.nd rfl (Or.inl rfl) (pe_lst (pa_cons pe_non pa_nil)))
      (pss_cons (ps_if (pt_cmpR op_eq (pv 2) pe_str (nomark _))
        (pss_cons (ps_set (i := 4) scLWays.nd rfl (Or.inl rfl) (pe_op op_cat (pv 4) (pe_f cO hr (pa_cons (pv 0) (pa_cons (pv 3) pa_nil)))))
        (pss_one (ps_ret (pe_lc (own := [("_law_way", 5)]) (g := gName 5) (tt := tYes) (te := tTup (tCons (tCut K 0 1 3 5) (tCons (tOp (rIxT K) (tVar 1) (tC (.int 1))) tNil))) rfl scLWays.nd (pi_list (pv 4))
          (blkOk_by (own := [("_law_way", 5)]) (N := ["_law_world_here", "_law_case_here", "_law_kind", "_law_at", "_law_ways_here", "_law_way"]) (sc := defScope sLWays) (by decide +kernel))
          (fun _ _ _ _ _ => pg_name (i := 5) scLWays.nd rfl (Or.inl rfl)) (fun _ _ _ _ _ => pts_nil)
          (fun _ _ _ _ _ => pe_tup (pa_cons (pe_op op_catA (pe_op op_catA (pe_slice sl_tupA (pe_ix ix_tup (pv 1) pe_int (fun _ _ => rfl)) po_none (po_some (pv 3))) (pe_tup (pa_cons (pv 5) pa_nil)))
            (pe_slice sl_tupA (pe_ix ix_tup (pv 1) pe_int (fun _ _ => rfl)) (po_some (pe_op op_add (pv 3) pe_int)) po_none)) (pa_cons (pe_ix ix_tup (pv 1) pe_int (fun _ _ => rfl)) pa_nil))))))) pss_nil)
      (pss_cons (ps_set (i := 4) scLWays.nd rfl (Or.inl rfl) (pe_op op_cat (pv 4) (pe_listRg rfl (by rfl) T.list (prg_1 (by rfl) T.range
          (pe_fld (pe_ix ix_tup (pe_fld (pv 0) rfl) (pe_fld (pe_ix ix_tup (pe_fld (pv 0) rfl) (pv 3) (fun _ _ => rfl)) rfl) (fun _ _ => rfl)) rfl)))))
        (pss_one (ps_ret (pe_lc (own := [("_law_way", 5)]) (g := gName 5) (tt := tYes) (te := tTup (tCons (tOp (rIxT K) (tVar 1) (tC (.int 0))) (tCons (tCut K 1 1 3 5) tNil))) rfl scLWays.nd (pi_list (pv 4))
          (blkOk_by (own := [("_law_way", 5)]) (N := ["_law_world_here", "_law_case_here", "_law_kind", "_law_at", "_law_ways_here", "_law_way"]) (sc := defScope sLWays) (by decide +kernel))
          (fun _ _ _ _ _ => pg_name (i := 5) scLWays.nd rfl (Or.inl rfl)) (fun _ _ _ _ _ => pts_nil)
          (fun _ _ _ _ _ => pe_tup (pa_cons (pe_ix ix_tup (pv 1) pe_int (fun _ _ => rfl)) (pa_cons (pe_op op_catA (pe_op op_catA (pe_slice sl_tupA (pe_ix ix_tup (pv 1) pe_int (fun _ _ => rfl)) po_none (po_some (pv 3))) (pe_tup (pa_cons (pv 5) pa_nil)))
            (pe_slice sl_tupA (pe_ix ix_tup (pv 1) pe_int (fun _ _ => rfl)) (po_some (pe_op op_add (pv 3) pe_int)) po_none)) pa_nil)))))))), ?_⟩
    refine ⟨(by show 1 ≤ sizeLine; decide), fun t1 ht1 => ?_⟩
    have s1 : Same H (upd H t1 (.lst [.non])) := same_upd ht1
    cases ch with
    | rcd n =>
      obtain ⟨r, hn⟩ := open_r fit hop
      refine ⟨_, rfl, rfl, _, rfl, bT (by show decide (V.str (Str.ofString "recording") = V.str (Str.ofString "recording")) = true; decide +kernel) ?_⟩
      refine ⟨_, rfl, _, rfl, _, rfl, W, w', n, r, rfl, hW.same s1, hn, fun H2 l ps s2 el al => ?_⟩
      have hfew := opts_few3 wok hn
      have hpl := al.len
      refine ⟨t1, l, _, _, rfl, rfl, s2 _ _ upd_same, el, (by rw [List.length_map]; exact small5 (by show 1 + _ ≤ _; omega)), fun t3 ht3 => ?_⟩
      have s23 := same_upd (o := .lst ([V.non] ++ ps.map V.ref)) ht3
      have s3 := (s1.trans s2).trans s23
      have e3' : (upd H2 t3 (.lst ([V.non] ++ ps.map V.ref))) t3 = some (.lst (V.non :: ps.map V.ref)) := upd_same
      have alv := rvs_of al
      refine ⟨_, rfl, t3, rfl, ⟨_, SqL.of e3'⟩, fun D hD => ?_⟩
      have hwl : (ways w' C (.rcd n)).length = (V.non :: ps.map V.ref).length := by rw [ways_r hn, List.length_map, alv.len]
      refine lc_map (walk_list (K := K) (a := t3) (xs := V.non :: ps.map V.ref)) (ways w' C (.rcd n)) CsF hD hwl (by rw [List.length_cons, List.length_map]; omega) (fun H' s => SqL.of (s _ _ e3')) (fun _ _ _ _ e o z => z.st e o) ?_ ?_
      · rintro i b x H3 H4 C' Z hb sB _ ⟨rfl, hx⟩ hC'
        rw [ways_r hn, List.getElem?_map] at hb
        cases hen : (waysR w' r)[i]? with
        | none => rw [hen] at hb; cases hb
        | some en =>
        rw [hen] at hb
        cases hb
        have hrv := alv.at_ i x en hx hen
        have sA := s3.trans sB
        have hi : n < vs.length := by rw [a1.len, fit.m]; exact (List.getElem?_eq_some_iff.mp hn).1
        refine ⟨rfl, yesI ?_⟩
        refine rd_cut (i := n) (xs := vs) (v := x) rfl (sA _ _ e1) rfl (sA _ _ e2) rfl rfl hi (by rw [a1.len, fit.m]; have := wok.nrecs; omega) fun p5 H5 s5 e5 => ?_
        have s05 := sA.trans s5
        refine ⟨_, rfl, c, _, _, _, rfl, rfl, SqT.of (s05 _ _ e1), rfl, (by show 2 ≤ sizeLine; decide), fun p6 hp6 => ?_⟩
        have s56 := same_upd (o := .tup [.ref p5, .ref t]) hp6
        have s06 := s05.trans s56
        refine hC' _ _ (s5.trans s56) ⟨p6, rfl, p5, t, _, us, upd_same, s56 _ _ e5, s06 _ _ e3, ?_, a2⟩
        exact (a1.mono fun _ _ z => z.same s06).set (((hrv.same s23).same sB).same (s5.trans s56))
      intro H3 ys s4 e4 al3
      obtain ⟨ls, rfl, al4⟩ := all2_ref al3
      exact k H3 D ls (s3.trans s4) e4 al4
    | pas n =>
      obtain ⟨p, hn⟩ := open_p fit hop
      have ok := wok.pass n p hn
      obtain ⟨q, hq, dq, tq, eq, _⟩ := hw.s4.get hn
      have hat : atI (W.q4.map V.ref) (n : Int) = some (V.ref q) := atI_nat (by rw [List.getElem?_map, hq]; rfl)
      have hsta : w'.stas[p.sta]? = some (w'.stas[p.sta]'(ok.sta)) := List.getElem?_eq_getElem ok.sta
      generalize w'.stas[p.sta]'(ok.sta) = st at hsta
      obtain ⟨qt, hqt, dqt, eqt⟩ := hw.s2.get hsta
      have hatt : atI (W.q2.map V.ref) (p.sta : Int) = some (V.ref qt) := atI_nat (by rw [List.getElem?_map, hqt]; rfl)
      have hant := (wok.stas _ _ hsta).antennas
      refine ⟨_, rfl, rfl, _, rfl, bF (by show decide (V.str (Str.ofString "pass") = V.str (Str.ofString "recording")) = false; decide +kernel) ?_⟩
      refine ⟨_, rfl, _, rfl, W.a, _, dw, _, _, rfl, s1 _ _ ew, T.cWld, T.aWld _ (mem_at 2), lw2, _, rfl, W.a, _, dw, _, _, rfl, s1 _ _ ew, T.cWld, T.aWld _ (mem_at 4), lw4, _, rfl, W.t4, _, _, _, rfl, rfl, SqT.of (s1 _ _ hw.l4), hat, q, _, dq, _, _, rfl, s1 _ _ eq, T.cPas, T.aPas _ (mem_at 2), lookup_zip ndPas (i := 2) rfl rfl,
        W.t2, _, _, _, rfl, rfl, SqT.of (s1 _ _ hw.l2), hatt, qt, _, dqt, _, _, rfl, s1 _ _ eqt, T.cSta, T.aSta _ (mem_at 1), lookup_zip ndSta (i := 1) rfl rfl, _, rfl, ⟨by decide, by decide, by omega, by omega, by omega⟩, fun t2 ht2 => ?_⟩
      have s2 := s1.to (o := .lst (rgV 0 st.antennas)) ht2
      have n12 : t1 ≠ t2 := ne_of_none upd_same ht2
      have hrl : (rgV 0 st.antennas).length ≤ 3 := by unfold rgV; rw [List.length_map, List.length_range]; omega
      refine ⟨t1, t2, _, _, rfl, rfl, (by rw [upd_ne n12]; exact upd_same), upd_same, small5 (by show 1 + _ ≤ _; omega), fun t3 ht3 => ?_⟩
      have s3 := s2.to (o := .lst ([V.non] ++ rgV 0 st.antennas)) ht3
      have e3' : (upd (upd (upd H t1 (.lst [.non])) t2 (.lst (rgV 0 st.antennas))) t3 (.lst ([V.non] ++ rgV 0 st.antennas))) t3 = some (.lst (V.non :: rgV 0 st.antennas)) := upd_same
      have alv := pvs_of st.antennas
      refine ⟨_, rfl, t3, rfl, ⟨_, SqL.of e3'⟩, fun D hD => ?_⟩
      have hwl : (ways w' C (.pas n)).length = (V.non :: rgV 0 st.antennas).length := by rw [ways_p hn hsta, List.length_map, alv.len]
      refine lc_map (walk_list (K := K) (a := t3) (xs := V.non :: rgV 0 st.antennas)) (ways w' C (.pas n)) CsF hD hwl (by rw [List.length_cons]; omega) (fun H' s => SqL.of (s _ _ e3')) (fun _ _ _ _ e o z => z.st e o) ?_ ?_
      · rintro i b x H3 H4 C' Z hb sB _ ⟨rfl, hx⟩ hC'
        rw [ways_p hn hsta, List.getElem?_map] at hb
        cases hen : (waysP st.antennas)[i]? with
        | none => rw [hen] at hb; cases hb
        | some en =>
        rw [hen] at hb
        cases hb
        have hrv := alv.at_ i x en hx hen
        have sA := s3.trans sB
        have hi : n < us.length := by rw [a2.len, fit.t]; exact (List.getElem?_eq_some_iff.mp hn).1
        refine ⟨rfl, yesI ?_⟩
        refine ⟨_, rfl, c, _, _, _, rfl, rfl, SqT.of (sA _ _ e1), rfl, ?_⟩
        refine rd_cut (i := n) (xs := us) (v := x) rfl (sA _ _ e1) rfl (sA _ _ e3) rfl rfl hi (by rw [a2.len, fit.t]; have := wok.npass; omega) fun p5 H5 s5 e5 => ?_
        have s05 := sA.trans s5
        refine ⟨(by show 2 ≤ sizeLine; decide), fun p6 hp6 => ?_⟩
        have s56 := same_upd (o := .tup [.ref m, .ref p5]) hp6
        have s06 := s05.trans s56
        exact hC' _ _ (s5.trans s56) ⟨p6, rfl, m, p5, vs, _, upd_same, s06 _ _ e2, s56 _ _ e5, a1.mono fun _ _ z => z.same s06, a2.set hrv⟩
      intro H3 ys s4 e4 al3
      obtain ⟨ls, rfl, al4⟩ := all2_ref al3
      exact k H3 D ls (s3.trans s4) e4 al4
end
end K59
set_option maxHeartbeats 4000000
/-! _law_cell, _law_draws -/
namespace K59
open PySem PySem.Spec PyProof.Rows L2 TL
section
variable {P : Program} {w : World} {K : PySem.W.Frag} {mg : Str → Option Value} {base : Heap}
theorem ok_lCell {f : Addr} {fd : FuncData} (F : Fun K "_law_cell" "_law_cell" sLCell f fd) (T : Tx K mg) : FnOk P w K mg base CX0 1 f fd ["_law_script", "_law_k"] (spLCell K) := by
  refine F.ok scLCell (fun vs H Q E h => ?_) (fun cdv A outer s H vs Q E hr h => ?_)
  · obtain ⟨a, ns, i, rfl, _⟩ := h
    rfl
  · obtain ⟨a, ns, i, rfl, hs, h0, k⟩ := h
    refine ⟨_, pss_cons (ps_if (pt_cmpR op_lt (pv 1) (pe_callB call_len_seq (by rfl) T.len PySem.boot_len (pa_cons (pv 0) pa_nil)) (nomark _)) (pss_one (ps_ret (pe_ix ix_list (pv 0) (pv 1) (fun _ _ => rfl)))) pss_nil) (pss_one (ps_ret pe_int)), ?_⟩
    refine ⟨_, rfl, _, rfl, a, _, rfl, .inl hs, _, _, rfl, rfl, _, rfl, ?_⟩
    by_cases c : i < ((ns.map V.int).length : Int)
    · refine dT c ?_
      have hl : i.toNat < ns.length := by rw [List.length_map] at c; omega
      have hat : atI (ns.map V.int) i = some (V.int ns[i.toNat]) := by
        have h1 : atI (ns.map V.int) ((i.toNat : Nat) : Int) = some (V.int ns[i.toNat]) := atI_nat (by rw [List.getElem?_map, List.getElem?_eq_getElem hl]; rfl)
        rw [show ((i.toNat : Nat) : Int) = i by omega] at h1
        exact h1
      exact ⟨_, rfl, _, rfl, a, _, _, _, rfl, rfl, hs, hat, k _⟩
    · refine dF c ?_
      exact k 0
theorem ok_lDraws {f : Addr} {fd : FuncData} (F : Fun K "_law_draws" "_law_draws" sLDraws f fd) (T : Tx K mg) : FnOk P w K mg base CX0 1 f fd ["_law_cell_here", "_law_count"] spLDraws := by
  refine F.ok scLDraws (fun vs H Q E h => ?_) (fun cdv A outer s H vs Q E hr h => ?_)
  · obtain ⟨c, n, rfl, _⟩ := h
    rfl
  · obtain ⟨c, n, rfl, hn, k⟩ := h
    refine ⟨_, pss_cons (ps_set (i := 2) scLDraws.nd rfl (Or.inl rfl) (pe_lst pa_nil))
      (pss_cons (ps_set (i := 3) scLDraws.nd rfl (Or.inl rfl) (pe_callTy call_int1 (by rfl) T.int (by decide +kernel) (pa_cons (pv 0) pa_nil)))
      (pss_cons (ps_for PassesOwn.never rfl (pi_range1 (by rfl) T.range (pa_cons (pv 1) pa_nil)) (pg_name (i := 4) scLDraws.nd rfl (Or.inl rfl))
        (pss_cons (ps_set (i := 5) scLDraws.nd rfl (Or.inl rfl) (pe_op op_mod (pe_callTy call_int1 (by rfl) T.int (by decide +kernel) (pa_cons (pe_op op_add (pe_op op_add (pe_op op_mul (pv 0) pe_int) (pe_op op_mul (pv 4) pe_int)) pe_int) pa_nil)) pe_int))
        (pss_one (ps_if (pt_cmpR op_ge (pv 0) (pe_op op_pow pe_int pe_int) (nomark _))
          (pss_cons (ps_expr (pe_bm PySem.F.plainAttrs_list PySem.F.slot_list_append PySem.F.type_list_append mt_append (pv 2) (pa_cons (pe_op op_mod (pv 3) pe_int) pa_nil)))
            (pss_one (ps_set (i := 3) scLDraws.nd rfl (Or.inl rfl) (pe_op op_fdiv (pv 3) pe_int))))
          (pss_one (ps_expr (pe_bm PySem.F.plainAttrs_list PySem.F.slot_list_append PySem.F.type_list_append mt_append (pv 2) (pa_cons (pe_op op_fdiv (pe_op op_mod (pe_callTy call_int1 (by rfl) T.int (by decide +kernel) (pa_cons (pe_op op_add (pe_op op_mul (pv 5) (pv 5)) (pe_op op_mul (pv 5) pe_int)) pa_nil)) pe_int) pe_int) pa_nil))))))))
      (pss_one (ps_ret (pv 2))))), ?_⟩
    refine ⟨(by decide), fun l hl => ?_⟩
    have s0 : Same H (upd H l (.lst [])) := same_upd hl
    refine ⟨_, rfl, .inl ⟨_, rfl, ?_⟩⟩
    refine ⟨_, rfl, _, rfl, by omega, by omega, ?_⟩
    refine for_range (fun i σ H' => (∃ (y : Int) (x4 x5 : Option V), σ = [some (.int c), some (.int (n : Int)), some (.ref l), some (.int y), x4, x5]) ∧ Same H H' ∧ ∃ ns : List Int, ns.length = i ∧ H' l = some (.lst (ns.map V.int))) ⟨⟨c, none, none, rfl⟩, s0, [], rfl, upd_same⟩ ?_ ?_
    · rintro i σ H1 hi ⟨⟨y, x4, x5, rfl⟩, s1, ns, hnl, el⟩
      have hsz : (ns.map V.int).length < sizeLine := by rw [List.length_map]; exact lt_line (by omega)
      have st : ∀ v : Int, Same H (upd H1 l (.lst (ns.map V.int ++ [V.int v]))) ∧ ∃ ns' : List Int, ns'.length = i + 1 ∧ (upd H1 l (.lst (ns.map V.int ++ [V.int v]))) l = some (.lst (ns'.map V.int)) := fun v =>
        ⟨fun b o e => by rw [upd_ne (ne_of_none e hl)]; exact s1 b o e, ns ++ [v], by simp [hnl], by rw [upd_same, List.map_append]; rfl⟩
      refine ⟨_, rfl, _, _, rfl, rfl, .inr ⟨by decide, by decide⟩, ?_⟩
      refine ⟨_, rfl, _, _, rfl, rfl, .inr ⟨by decide, by decide⟩, _, _, rfl, rfl, _, _, rfl, rfl, .inl ⟨_, rfl, _, _, rfl, rfl, (by show (0 : Int) < 2147483647; decide), ?_⟩⟩
      refine ⟨_, rfl, _, _, rfl, rfl, ⟨by decide, by decide, by decide⟩, _, _, rfl, rfl, _, rfl, ?_⟩
      generalize hmx : (c * 48271 + (0 + (i : Int)) * 69621 + 1) % 2147483647 = mx
      have hm0 : 0 ≤ mx ∧ mx < 2147483647 := by rw [← hmx]; constructor <;> omega
      by_cases cc : (10 : Int) ^ (18 : Int).toNat ≤ c
      · refine dT cc ?_
        refine ⟨_, rfl, .inl ⟨rfl, _, SqL.of el⟩, _, rfl, _, _, rfl, rfl, (by show (0 : Int) < 1009; decide), l, _, _, rfl, rfl, el, hsz, ?_⟩
        exact ⟨_, rfl, _, _, rfl, rfl, ⟨by decide, by decide⟩, ⟨_, _, _, rfl⟩, st _⟩
      · refine dF cc ?_
        refine ⟨_, rfl, .inl ⟨rfl, _, SqL.of el⟩, _, rfl, _, rfl, _, _, rfl, rfl, .inl ⟨by omega, by omega⟩, _, rfl, _, _, rfl, rfl, .inl ⟨by omega, by omega⟩, _, _, rfl, rfl, .inl ⟨_, rfl, _, _, rfl, rfl, (by show (0 : Int) < 2147483399; decide), _, _, rfl, rfl, ⟨by decide, by decide⟩, l, _, _, rfl, rfl, el, hsz, ?_⟩⟩
        exact ⟨⟨_, _, _, rfl⟩, st _⟩
    · rintro σ H1 ⟨⟨y, x4, x5, rfl⟩, s1, ns, hnl, el⟩
      exact ⟨_, rfl, k H1 l ns s1 (by simpa using hnl) el⟩
end
end K59
set_option maxHeartbeats 4000000
/-! _law_satellite, _law_recording, _law_pass (printed by gen_txt.py) -/
namespace K59
open PySem PySem.Spec PyProof.Rows L2 TL
theorem bd_app3 {a b : Str} {m n : Nat} (h1 : a.length ≤ m) (h2 : b.length ≤ n) : (a ++ b).length ≤ m + n := by
  rw [Str.length_append]
  omega
theorem bd2 {a b : Str} {m n : Nat} (h1 : a.length ≤ m) (h2 : b.length ≤ n) (h : m + n ≤ 1000000 := by decide) : a.length + b.length ≤ sizeLine := small5 (by omega)
theorem tl_row2 (u v : Str) (r : List Str) : tl (rowT (u :: v :: r)) = tl u ++ (32 :: tl (rowT (v :: r))) := by
  show tl (u ++ sp ++ rowT (v :: r)) = _
  rw [tl_append, tl_append, tl_sp, List.append_assoc]
  rfl
theorem tl_row1 (u : Str) : tl (rowT [u]) = tl u := rfl
theorem tl_nm (c : String) (k : Int) : tl (nm c k) = tl (Str.ofString c) ++ tl (Str.ofString (toString k)) := tl_append _ _
theorem list2 {l : List Int} (h : l.length = 2) : ∃ n0 n1, l = [n0, n1] := by
  match l, h with
  | [n0, n1], _ => exact ⟨n0, n1, rfl⟩
theorem list7 {l : List Int} (h : l.length = 7) : ∃ n0 n1 n2 n3 n4 n5 n6, l = [n0, n1, n2, n3, n4, n5, n6] := by
  match l, h with
  | [n0, n1, n2, n3, n4, n5, n6], _ => exact ⟨n0, n1, n2, n3, n4, n5, n6, rfl⟩
theorem list9 {l : List Int} (h : l.length = 9) : ∃ n0 n1 n2 n3 n4 n5 n6 n7 n8, l = [n0, n1, n2, n3, n4, n5, n6, n7, n8] := by
  match l, h with
  | [n0, n1, n2, n3, n4, n5, n6, n7, n8], _ => exact ⟨n0, n1, n2, n3, n4, n5, n6, n7, n8, rfl⟩
theorem list10 {l : List Int} (h : l.length = 10) : ∃ n0 n1 n2 n3 n4 n5 n6 n7 n8 n9, l = [n0, n1, n2, n3, n4, n5, n6, n7, n8, n9] := by
  match l, h with
  | [n0, n1, n2, n3, n4, n5, n6, n7, n8, n9], _ => exact ⟨n0, n1, n2, n3, n4, n5, n6, n7, n8, n9, rfl⟩
theorem tlit_20 : tl (Str.ofString " ") = [32] := by decide +kernel
theorem tlit_206261747465727920 : tl (Str.ofString " battery ") = [32, 98, 97, 116, 116, 101, 114, 121, 32] := by decide +kernel
theorem tlit_2062792073 : tl (Str.ofString " by s") = [32, 98, 121, 32, 115] := by decide +kernel
theorem tlit_2063686172676520 : tl (Str.ofString " charge ") = [32, 99, 104, 97, 114, 103, 101, 32] := by decide +kernel
theorem tlit_20656e6572677920 : tl (Str.ofString " energy ") = [32, 101, 110, 101, 114, 103, 121, 32] := by decide +kernel
theorem tlit_2066656520 : tl (Str.ofString " fee ") = [32, 102, 101, 101, 32] := by decide +kernel
theorem tlit_2066726f6d20 : tl (Str.ofString " from ") = [32, 102, 114, 111, 109, 32] := by decide +kernel
theorem tlit_206c656e67746820 : tl (Str.ofString " length ") = [32, 108, 101, 110, 103, 116, 104, 32] := by decide +kernel
theorem tlit_206c6576656c20 : tl (Str.ofString " level ") = [32, 108, 101, 118, 101, 108, 32] := by decide +kernel
theorem tlit_206c69676874 : tl (Str.ofString " light") = [32, 108, 105, 103, 104, 116] := by decide +kernel
theorem tlit_206f7665722074 : tl (Str.ofString " over t") = [32, 111, 118, 101, 114, 32, 116] := by decide +kernel
theorem tlit_2072616e6b20 : tl (Str.ofString " rank ") = [32, 114, 97, 110, 107, 32] := by decide +kernel
theorem tlit_207265736572766520 : tl (Str.ofString " reserve ") = [32, 114, 101, 115, 101, 114, 118, 101, 32] := by decide +kernel
theorem tlit_20726f6f6d20 : tl (Str.ofString " room ") = [32, 114, 111, 111, 109, 32] := by decide +kernel
theorem tlit_20736574746c6520 : tl (Str.ofString " settle ") = [32, 115, 101, 116, 116, 108, 101, 32] := by decide +kernel
theorem tlit_2073697a6520 : tl (Str.ofString " size ") = [32, 115, 105, 122, 101, 32] := by decide +kernel
theorem tlit_2073746f726520 : tl (Str.ofString " store ") = [32, 115, 116, 111, 114, 101, 32] := by decide +kernel
theorem tlit_20746f20 : tl (Str.ofString " to ") = [32, 116, 111, 32] := by decide +kernel
theorem tlit_20756e74696c20 : tl (Str.ofString " until ") = [32, 117, 110, 116, 105, 108, 32] := by decide +kernel
theorem tlit_20776f72746820 : tl (Str.ofString " worth ") = [32, 119, 111, 114, 116, 104, 32] := by decide +kernel
theorem tlit_0a : tl (Str.ofString "\n") = [10] := by decide +kernel
theorem tlit_62617474657279 : tl (Str.ofString "battery") = [98, 97, 116, 116, 101, 114, 121] := by decide +kernel
theorem tlit_6279 : tl (Str.ofString "by") = [98, 121] := by decide +kernel
theorem tlit_636861726765 : tl (Str.ofString "charge") = [99, 104, 97, 114, 103, 101] := by decide +kernel
theorem tlit_656e65726779 : tl (Str.ofString "energy") = [101, 110, 101, 114, 103, 121] := by decide +kernel
theorem tlit_666565 : tl (Str.ofString "fee") = [102, 101, 101] := by decide +kernel
theorem tlit_66726f6d : tl (Str.ofString "from") = [102, 114, 111, 109] := by decide +kernel
theorem tlit_6c656e677468 : tl (Str.ofString "length") = [108, 101, 110, 103, 116, 104] := by decide +kernel
theorem tlit_6c6576656c : tl (Str.ofString "level") = [108, 101, 118, 101, 108] := by decide +kernel
theorem tlit_6c69676874 : tl (Str.ofString "light") = [108, 105, 103, 104, 116] := by decide +kernel
theorem tlit_6f766572 : tl (Str.ofString "over") = [111, 118, 101, 114] := by decide +kernel
theorem tlit_70 : tl (Str.ofString "p") = [112] := by decide +kernel
theorem tlit_70617373 : tl (Str.ofString "pass") = [112, 97, 115, 115] := by decide +kernel
theorem tlit_706173732070 : tl (Str.ofString "pass p") = [112, 97, 115, 115, 32, 112] := by decide +kernel
theorem tlit_72 : tl (Str.ofString "r") = [114] := by decide +kernel
theorem tlit_72616e6b : tl (Str.ofString "rank") = [114, 97, 110, 107] := by decide +kernel
theorem tlit_7265636f7264696e67 : tl (Str.ofString "recording") = [114, 101, 99, 111, 114, 100, 105, 110, 103] := by decide +kernel
theorem tlit_7265636f7264696e672072 : tl (Str.ofString "recording r") = [114, 101, 99, 111, 114, 100, 105, 110, 103, 32, 114] := by decide +kernel
theorem tlit_72657365727665 : tl (Str.ofString "reserve") = [114, 101, 115, 101, 114, 118, 101] := by decide +kernel
theorem tlit_726f6f6d : tl (Str.ofString "room") = [114, 111, 111, 109] := by decide +kernel
theorem tlit_73 : tl (Str.ofString "s") = [115] := by decide +kernel
theorem tlit_736174656c6c697465 : tl (Str.ofString "satellite") = [115, 97, 116, 101, 108, 108, 105, 116, 101] := by decide +kernel
theorem tlit_736174656c6c6974652073 : tl (Str.ofString "satellite s") = [115, 97, 116, 101, 108, 108, 105, 116, 101, 32, 115] := by decide +kernel
theorem tlit_736574746c65 : tl (Str.ofString "settle") = [115, 101, 116, 116, 108, 101] := by decide +kernel
theorem tlit_73697a65 : tl (Str.ofString "size") = [115, 105, 122, 101] := by decide +kernel
theorem tlit_73746f7265 : tl (Str.ofString "store") = [115, 116, 111, 114, 101] := by decide +kernel
theorem tlit_74 : tl (Str.ofString "t") = [116] := by decide +kernel
theorem tlit_746f : tl (Str.ofString "to") = [116, 111] := by decide +kernel
theorem tlit_756e74696c : tl (Str.ofString "until") = [117, 110, 116, 105, 108] := by decide +kernel
theorem tlit_776f727468 : tl (Str.ofString "worth") = [119, 111, 114, 116, 104] := by decide +kernel
section
variable {P : Program} {w : World} {K : PySem.W.Frag} {mg : Str → Option Value} {base : Heap}
theorem ok_lSat {f : Addr} {fd : FuncData} (F : Fun K "_law_satellite" "_law_satellite" sLSatellite f fd) (T : Tx K mg) (cD : Cal P w K mg base 1 "_law_draws" ["_law_cell_here", "_law_count"] spLDraws) : FnOk P w K mg base CX0 2 f fd ["_law_cell_here", "_law_k"] spLSat := by
  refine F.ok scLSatellite (fun vs H Q E h => ?_) (fun cdv A outer s H vs Q E hr h => ?_)
  · obtain ⟨c, j, rfl, _⟩ := h
    rfl
  · obtain ⟨c, j, rfl, hj, k⟩ := h
    refine ⟨_, pss_cons (ps_set (i := 2) scLSatellite.nd rfl (Or.inl rfl) (pe_f cD hr (pa_cons (pv 0) (pa_cons pe_int pa_nil))))
      (pss_cons (ps_set (i := 3) scLSatellite.nd rfl (Or.inl rfl) ((pe_op op_add pe_int (pe_op op_mod (pe_ix ix_list (pv 2) pe_int (fun _ _ => rfl)) pe_int))))
      (pss_cons (ps_set (i := 4) scLSatellite.nd rfl (Or.inl rfl) ((pe_op op_sub (pv 3) (pe_op op_mod (pe_ix ix_list (pv 2) pe_int (fun _ _ => rfl)) pe_int))))
      (pss_cons (ps_set (i := 5) scLSatellite.nd rfl (Or.inl rfl) ((pe_op op_sub (pv 4) (pe_callB (call_min2 rfl) (by rfl) T.min (by decide +kernel) (pa_cons (pv 4) (pa_cons (pe_op op_mod (pe_ix ix_list (pv 2) pe_int (fun _ _ => rfl)) pe_int) pa_nil))))))
      (pss_cons (ps_set (i := 6) scLSatellite.nd rfl (Or.inl rfl) ((pe_op op_add_str (pe_op op_add_str (pe_op op_add_str (pe_op op_add_str (pe_op op_add_str (pe_op op_add_str (pe_op op_add_str pe_str (pe_callTy call_str_int (by rfl) T.str (by decide +kernel) (pa_cons (pv 1) pa_nil))) pe_str) (pe_callTy call_str_int (by rfl) T.str (by decide +kernel) (pa_cons (pe_op op_mod (pe_ix ix_list (pv 2) pe_int (fun _ _ => rfl)) pe_int) pa_nil))) pe_str) (pe_callTy call_str_int (by rfl) T.str (by decide +kernel) (pa_cons (pv 3) pa_nil))) pe_str) (pe_callTy call_str_int (by rfl) T.str (by decide +kernel) (pa_cons (pv 4) pa_nil)))))
      (pss_cons (ps_set (i := 6) scLSatellite.nd rfl (Or.inl rfl) ((pe_op op_add_str (pe_op op_add_str (pe_op op_add_str (pe_op op_add_str (pe_op op_add_str (pe_op op_add_str (pe_op op_add_str (pv 6) pe_str) (pe_callTy call_str_int (by rfl) T.str (by decide +kernel) (pa_cons (pv 5) pa_nil))) pe_str) (pe_callTy call_str_int (by rfl) T.str (by decide +kernel) (pa_cons (pe_op op_mod (pe_ix ix_list (pv 2) pe_int (fun _ _ => rfl)) pe_int) pa_nil))) pe_str) (pe_callTy call_str_int (by rfl) T.str (by decide +kernel) (pa_cons (pe_op op_mod (pe_ix ix_list (pv 2) pe_int (fun _ _ => rfl)) pe_int) pa_nil))) pe_str)))
      (pss_cons (ps_set (i := 7) scLSatellite.nd rfl (Or.inl rfl) ((pe_op op_mod (pe_ix ix_list (pv 2) pe_int (fun _ _ => rfl)) pe_int)))
      (pss_cons (ps_if (pt_cmpR op_gt (pe_op op_mod (pe_ix ix_list (pv 2) pe_int (fun _ _ => rfl)) pe_int) pe_int (nomark _)) (pss_one (ps_set (i := 6) scLSatellite.nd rfl (Or.inl rfl) ((pe_op op_add_str (pe_op op_add_str (pe_op op_add_str (pe_op op_add_str (pv 6) pe_str) (pe_callTy call_str_int (by rfl) T.str (by decide +kernel) (pa_cons (pv 7) pa_nil))) pe_str) (pe_callTy call_str_int (by rfl) T.str (by decide +kernel) (pa_cons (pe_op op_add (pe_op op_add (pv 7) pe_int) (pe_op op_mod (pe_ix ix_list (pv 2) pe_int (fun _ _ => rfl)) pe_int)) pa_nil)))))) pss_nil)
      (pss_cons (ps_if (pt_cmpR op_gt (pe_op op_mod (pe_ix ix_list (pv 2) pe_int (fun _ _ => rfl)) pe_int) pe_int (nomark _)) (pss_one (ps_set (i := 6) scLSatellite.nd rfl (Or.inl rfl) ((pe_op op_add_str (pe_op op_add_str (pe_op op_add_str (pe_op op_add_str (pv 6) pe_str) (pe_callTy call_str_int (by rfl) T.str (by decide +kernel) (pa_cons (pe_op op_add (pv 7) pe_int) pa_nil))) pe_str) (pe_callTy call_str_int (by rfl) T.str (by decide +kernel) (pa_cons (pe_op op_add (pe_op op_add (pv 7) pe_int) (pe_op op_mod (pe_ix ix_list (pv 2) pe_int (fun _ _ => rfl)) pe_int)) pa_nil)))))) pss_nil)
      (pss_one (ps_ret (pe_op op_add_str (pv 6) pe_str))))))))))), ?_⟩
    refine ⟨_, rfl, _, 10, rfl, by decide, fun H1 l ns s1 hnl el => ?_⟩
    obtain ⟨n0, n1, n2, n3, n4, n5, n6, n7, n8, n9, rfl⟩ := list10 hnl
    refine ⟨_, rfl, l, _, _, _, rfl, rfl, SqL.of el, rfl, _, _, rfl, rfl, (by show (0 : Int) < 20; decide), _, _, rfl, rfl, ?_⟩
    refine ⟨_, rfl, _, rfl, l, _, _, _, rfl, rfl, SqL.of el, rfl, _, _, rfl, rfl, (by show (0 : Int) < 6; decide), _, _, rfl, rfl, ?_⟩
    refine ⟨_, rfl, _, rfl, _, rfl, l, _, _, _, rfl, rfl, SqL.of el, rfl, _, _, rfl, rfl, (by show (0 : Int) < 14; decide), _, _, rfl, _, _, rfl, rfl, ?_⟩
    have hres : 0 ≤ (((8 + (n1 % 20)) - (n2 % 6)) - (if (n3 % 14) < ((8 + (n1 % 20)) - (n2 % 6)) then (n3 % 14) else ((8 + (n1 % 20)) - (n2 % 6)))) ∧ (((8 + (n1 % 20)) - (n2 % 6)) - (if (n3 % 14) < ((8 + (n1 % 20)) - (n2 % 6)) then (n3 % 14) else ((8 + (n1 % 20)) - (n2 % 6)))) ≤ ((8 + (n1 % 20)) - (n2 % 6)) := by split <;> omega
    have b1 := (show (Str.ofString "satellite s").length ≤ 11 by decide +kernel)
    have b2 := bd_app3 b1 (num_len (n := (j : Int)) (by omega) (by omega))
    refine ⟨_, rfl, _, rfl, num_log (n := (j : Int)) (by omega) (by omega), _, _, rfl, rfl, bd2 b1 (num_len (n := (j : Int)) (by omega) (by omega)), ?_⟩
    have b3 := bd_app3 b2 (show (Str.ofString " store ").length ≤ 7 by decide +kernel)
    refine ⟨_, _, rfl, rfl, bd2 b2 (show (Str.ofString " store ").length ≤ 7 by decide +kernel), ?_⟩
    have b4 := bd_app3 b3 (num_len (n := (n0 % 18)) (by omega) (by omega))
    refine ⟨_, rfl, l, _, _, _, rfl, rfl, SqL.of el, rfl, _, _, rfl, rfl, (by show (0 : Int) < 18; decide), _, rfl, num_log (n := (n0 % 18)) (by omega) (by omega), _, _, rfl, rfl, bd2 b3 (num_len (n := (n0 % 18)) (by omega) (by omega)), ?_⟩
    have b5 := bd_app3 b4 (show (Str.ofString " battery ").length ≤ 9 by decide +kernel)
    refine ⟨_, _, rfl, rfl, bd2 b4 (show (Str.ofString " battery ").length ≤ 9 by decide +kernel), ?_⟩
    have b6 := bd_app3 b5 (num_len (n := (8 + (n1 % 20))) (by omega) (by omega))
    refine ⟨_, rfl, _, rfl, num_log (n := (8 + (n1 % 20))) (by omega) (by omega), _, _, rfl, rfl, bd2 b5 (num_len (n := (8 + (n1 % 20))) (by omega) (by omega)), ?_⟩
    have b7 := bd_app3 b6 (show (Str.ofString " level ").length ≤ 7 by decide +kernel)
    refine ⟨_, _, rfl, rfl, bd2 b6 (show (Str.ofString " level ").length ≤ 7 by decide +kernel), ?_⟩
    have b8 := bd_app3 b7 (num_len (n := ((8 + (n1 % 20)) - (n2 % 6))) (by omega) (by omega))
    refine ⟨_, rfl, _, rfl, num_log (n := ((8 + (n1 % 20)) - (n2 % 6))) (by omega) (by omega), _, _, rfl, rfl, bd2 b7 (num_len (n := ((8 + (n1 % 20)) - (n2 % 6))) (by omega) (by omega)), ?_⟩
    have b9 := b8
    have b10 := bd_app3 b9 (show (Str.ofString " reserve ").length ≤ 9 by decide +kernel)
    refine ⟨_, rfl, _, _, rfl, rfl, bd2 b9 (show (Str.ofString " reserve ").length ≤ 9 by decide +kernel), ?_⟩
    have b11 := bd_app3 b10 (num_len (n := (((8 + (n1 % 20)) - (n2 % 6)) - (if (n3 % 14) < ((8 + (n1 % 20)) - (n2 % 6)) then (n3 % 14) else ((8 + (n1 % 20)) - (n2 % 6))))) hres.1 (by omega))
    refine ⟨_, rfl, _, rfl, num_log (n := (((8 + (n1 % 20)) - (n2 % 6)) - (if (n3 % 14) < ((8 + (n1 % 20)) - (n2 % 6)) then (n3 % 14) else ((8 + (n1 % 20)) - (n2 % 6))))) hres.1 (by omega), _, _, rfl, rfl, bd2 b10 (num_len (n := (((8 + (n1 % 20)) - (n2 % 6)) - (if (n3 % 14) < ((8 + (n1 % 20)) - (n2 % 6)) then (n3 % 14) else ((8 + (n1 % 20)) - (n2 % 6))))) hres.1 (by omega)), ?_⟩
    have b12 := bd_app3 b11 (show (Str.ofString " charge ").length ≤ 8 by decide +kernel)
    refine ⟨_, _, rfl, rfl, bd2 b11 (show (Str.ofString " charge ").length ≤ 8 by decide +kernel), ?_⟩
    have b13 := bd_app3 b12 (num_len (n := (n4 % 4)) (by omega) (by omega))
    refine ⟨_, rfl, l, _, _, _, rfl, rfl, SqL.of el, rfl, _, _, rfl, rfl, (by show (0 : Int) < 4; decide), _, rfl, num_log (n := (n4 % 4)) (by omega) (by omega), _, _, rfl, rfl, bd2 b12 (num_len (n := (n4 % 4)) (by omega) (by omega)), ?_⟩
    have b14 := bd_app3 b13 (show (Str.ofString " settle ").length ≤ 8 by decide +kernel)
    refine ⟨_, _, rfl, rfl, bd2 b13 (show (Str.ofString " settle ").length ≤ 8 by decide +kernel), ?_⟩
    have b15 := bd_app3 b14 (num_len (n := (n5 % 3)) (by omega) (by omega))
    refine ⟨_, rfl, l, _, _, _, rfl, rfl, SqL.of el, rfl, _, _, rfl, rfl, (by show (0 : Int) < 3; decide), _, rfl, num_log (n := (n5 % 3)) (by omega) (by omega), _, _, rfl, rfl, bd2 b14 (num_len (n := (n5 % 3)) (by omega) (by omega)), ?_⟩
    have b16 := bd_app3 b15 (show (Str.ofString " light").length ≤ 6 by decide +kernel)
    refine ⟨_, _, rfl, rfl, bd2 b15 (show (Str.ofString " light").length ≤ 6 by decide +kernel), ?_⟩
    refine ⟨_, rfl, l, _, _, _, rfl, rfl, SqL.of el, rfl, _, _, rfl, rfl, (by show (0 : Int) < 12; decide), ?_⟩
    refine ⟨_, rfl, l, _, _, _, rfl, rfl, SqL.of el, rfl, _, _, rfl, rfl, (by show (0 : Int) < 3; decide), _, _, rfl, rfl, _, rfl, ?_⟩
    by_cases c1 : 0 < n8 % 3
    · refine dT c1 ?_
      have b17 := b16
      have b18 := bd_app3 b17 (show (Str.ofString " ").length ≤ 1 by decide +kernel)
      refine ⟨_, rfl, _, _, rfl, rfl, bd2 b17 (show (Str.ofString " ").length ≤ 1 by decide +kernel), ?_⟩
      have b19 := bd_app3 b18 (num_len (n := (n6 % 12)) (by omega) (by omega))
      refine ⟨_, rfl, _, rfl, num_log (n := (n6 % 12)) (by omega) (by omega), _, _, rfl, rfl, bd2 b18 (num_len (n := (n6 % 12)) (by omega) (by omega)), ?_⟩
      have b20 := bd_app3 b19 (show (Str.ofString " ").length ≤ 1 by decide +kernel)
      refine ⟨_, _, rfl, rfl, bd2 b19 (show (Str.ofString " ").length ≤ 1 by decide +kernel), ?_⟩
      have b21 := bd_app3 b20 (num_len (n := (((n6 % 12) + 1) + (n7 % 15))) (by omega) (by omega))
      refine ⟨_, rfl, _, _, rfl, rfl, _, rfl, l, _, _, _, rfl, rfl, SqL.of el, rfl, _, _, rfl, rfl, (by show (0 : Int) < 15; decide), _, _, rfl, rfl, _, rfl, num_log (n := (((n6 % 12) + 1) + (n7 % 15))) (by omega) (by omega), _, _, rfl, rfl, bd2 b20 (num_len (n := (((n6 % 12) + 1) + (n7 % 15))) (by omega) (by omega)), ?_⟩
      refine ⟨_, rfl, l, _, _, _, rfl, rfl, SqL.of el, rfl, _, _, rfl, rfl, (by show (0 : Int) < 3; decide), _, _, rfl, rfl, _, rfl, ?_⟩
      by_cases c2 : 1 < n8 % 3
      · refine dT c2 ?_
        have b22 := b21
        have b23 := bd_app3 b22 (show (Str.ofString " ").length ≤ 1 by decide +kernel)
        refine ⟨_, rfl, _, _, rfl, rfl, bd2 b22 (show (Str.ofString " ").length ≤ 1 by decide +kernel), ?_⟩
        have b24 := bd_app3 b23 (num_len (n := ((n6 % 12) + 18)) (by omega) (by omega))
        refine ⟨_, rfl, _, _, rfl, rfl, _, rfl, num_log (n := ((n6 % 12) + 18)) (by omega) (by omega), _, _, rfl, rfl, bd2 b23 (num_len (n := ((n6 % 12) + 18)) (by omega) (by omega)), ?_⟩
        have b25 := bd_app3 b24 (show (Str.ofString " ").length ≤ 1 by decide +kernel)
        refine ⟨_, _, rfl, rfl, bd2 b24 (show (Str.ofString " ").length ≤ 1 by decide +kernel), ?_⟩
        have b26 := bd_app3 b25 (num_len (n := (((n6 % 12) + 19) + (n9 % 10))) (by omega) (by omega))
        refine ⟨_, rfl, _, _, rfl, rfl, _, rfl, l, _, _, _, rfl, rfl, SqL.of el, rfl, _, _, rfl, rfl, (by show (0 : Int) < 10; decide), _, _, rfl, rfl, _, rfl, num_log (n := (((n6 % 12) + 19) + (n9 % 10))) (by omega) (by omega), _, _, rfl, rfl, bd2 b25 (num_len (n := (((n6 % 12) + 19) + (n9 % 10))) (by omega) (by omega)), ?_⟩
        have b27 := b26
        have b28 := bd_app3 b27 (show (Str.ofString "\n").length ≤ 1 by decide +kernel)
        refine ⟨_, rfl, _, _, rfl, rfl, bd2 b27 (show (Str.ofString "\n").length ≤ 1 by decide +kernel), ?_⟩
        refine k H1 ⟨nm "s" (j : Int), n0 % 18, (8 + (n1 % 20)), ((8 + (n1 % 20)) - (n2 % 6)), (((8 + (n1 % 20)) - (n2 % 6)) - (if (n3 % 14) < ((8 + (n1 % 20)) - (n2 % 6)) then (n3 % 14) else ((8 + (n1 % 20)) - (n2 % 6)))), n4 % 4, n5 % 3, [((n6 % 12), (n6 % 12) + 1 + n7 % 15), ((n6 % 12) + 18, (n6 % 12) + 19 + n9 % 10)]⟩ _ s1 ⟨rfl, by show 0 ≤ n0 % 18 ∧ n0 % 18 < 64; omega, by show ((8 + (n1 % 20)) - (n2 % 6)) ≤ (8 + (n1 % 20)) ∧ (8 + (n1 % 20)) < 64; omega, hres.2, hres.1, by show 0 ≤ n4 % 4 ∧ n4 % 4 < 64; omega, by show 0 ≤ n5 % 3 ∧ n5 % 3 < 60; omega, ⟨by omega, by omega, by omega, by omega, by omega, by omega, trivial⟩, (by show 2 ≤ 2; decide)⟩ ?_ (Nat.le_trans b28 (by decide))
        simp only [numS, satW, spansW, tl_append, tl_row2, tl_row1, tl_nm, tlit_20, tlit_206261747465727920, tlit_2062792073, tlit_2063686172676520, tlit_20656e6572677920, tlit_2066656520, tlit_2066726f6d20, tlit_206c656e67746820, tlit_206c6576656c20, tlit_206c69676874, tlit_206f7665722074, tlit_2072616e6b20, tlit_207265736572766520, tlit_20726f6f6d20, tlit_20736574746c6520, tlit_2073697a6520, tlit_2073746f726520, tlit_20746f20, tlit_20756e74696c20, tlit_20776f72746820, tlit_0a, tlit_62617474657279, tlit_6279, tlit_636861726765, tlit_656e65726779, tlit_666565, tlit_66726f6d, tlit_6c656e677468, tlit_6c6576656c, tlit_6c69676874, tlit_6f766572, tlit_70, tlit_70617373, tlit_706173732070, tlit_72, tlit_72616e6b, tlit_7265636f7264696e67, tlit_7265636f7264696e672072, tlit_72657365727665, tlit_726f6f6d, tlit_73, tlit_736174656c6c697465, tlit_736174656c6c6974652073, tlit_736574746c65, tlit_73697a65, tlit_73746f7265, tlit_74, tlit_746f, tlit_756e74696c, tlit_776f727468, List.flatMap_cons, List.flatMap_nil, List.append_nil, List.append_assoc, List.cons_append, List.nil_append]
      · refine dF c2 ?_
        have b29 := b21
        have b30 := bd_app3 b29 (show (Str.ofString "\n").length ≤ 1 by decide +kernel)
        refine ⟨_, rfl, _, _, rfl, rfl, bd2 b29 (show (Str.ofString "\n").length ≤ 1 by decide +kernel), ?_⟩
        refine k H1 ⟨nm "s" (j : Int), n0 % 18, (8 + (n1 % 20)), ((8 + (n1 % 20)) - (n2 % 6)), (((8 + (n1 % 20)) - (n2 % 6)) - (if (n3 % 14) < ((8 + (n1 % 20)) - (n2 % 6)) then (n3 % 14) else ((8 + (n1 % 20)) - (n2 % 6)))), n4 % 4, n5 % 3, [((n6 % 12), (n6 % 12) + 1 + n7 % 15)]⟩ _ s1 ⟨rfl, by show 0 ≤ n0 % 18 ∧ n0 % 18 < 64; omega, by show ((8 + (n1 % 20)) - (n2 % 6)) ≤ (8 + (n1 % 20)) ∧ (8 + (n1 % 20)) < 64; omega, hres.2, hres.1, by show 0 ≤ n4 % 4 ∧ n4 % 4 < 64; omega, by show 0 ≤ n5 % 3 ∧ n5 % 3 < 60; omega, ⟨by omega, by omega, by omega, trivial⟩, (by show 1 ≤ 2; decide)⟩ ?_ (Nat.le_trans b30 (by decide))
        simp only [numS, satW, spansW, tl_append, tl_row2, tl_row1, tl_nm, tlit_20, tlit_206261747465727920, tlit_2062792073, tlit_2063686172676520, tlit_20656e6572677920, tlit_2066656520, tlit_2066726f6d20, tlit_206c656e67746820, tlit_206c6576656c20, tlit_206c69676874, tlit_206f7665722074, tlit_2072616e6b20, tlit_207265736572766520, tlit_20726f6f6d20, tlit_20736574746c6520, tlit_2073697a6520, tlit_2073746f726520, tlit_20746f20, tlit_20756e74696c20, tlit_20776f72746820, tlit_0a, tlit_62617474657279, tlit_6279, tlit_636861726765, tlit_656e65726779, tlit_666565, tlit_66726f6d, tlit_6c656e677468, tlit_6c6576656c, tlit_6c69676874, tlit_6f766572, tlit_70, tlit_70617373, tlit_706173732070, tlit_72, tlit_72616e6b, tlit_7265636f7264696e67, tlit_7265636f7264696e672072, tlit_72657365727665, tlit_726f6f6d, tlit_73, tlit_736174656c6c697465, tlit_736174656c6c6974652073, tlit_736574746c65, tlit_73697a65, tlit_73746f7265, tlit_74, tlit_746f, tlit_756e74696c, tlit_776f727468, List.flatMap_cons, List.flatMap_nil, List.append_nil, List.append_assoc, List.cons_append, List.nil_append]
    · refine dF c1 ?_
      refine ⟨_, rfl, l, _, _, _, rfl, rfl, SqL.of el, rfl, _, _, rfl, rfl, (by show (0 : Int) < 3; decide), _, _, rfl, rfl, _, rfl, ?_⟩
      refine dF (by omega) ?_
      have b31 := b16
      have b32 := bd_app3 b31 (show (Str.ofString "\n").length ≤ 1 by decide +kernel)
      refine ⟨_, rfl, _, _, rfl, rfl, bd2 b31 (show (Str.ofString "\n").length ≤ 1 by decide +kernel), ?_⟩
      refine k H1 ⟨nm "s" (j : Int), n0 % 18, (8 + (n1 % 20)), ((8 + (n1 % 20)) - (n2 % 6)), (((8 + (n1 % 20)) - (n2 % 6)) - (if (n3 % 14) < ((8 + (n1 % 20)) - (n2 % 6)) then (n3 % 14) else ((8 + (n1 % 20)) - (n2 % 6)))), n4 % 4, n5 % 3, []⟩ _ s1 ⟨rfl, by show 0 ≤ n0 % 18 ∧ n0 % 18 < 64; omega, by show ((8 + (n1 % 20)) - (n2 % 6)) ≤ (8 + (n1 % 20)) ∧ (8 + (n1 % 20)) < 64; omega, hres.2, hres.1, by show 0 ≤ n4 % 4 ∧ n4 % 4 < 64; omega, by show 0 ≤ n5 % 3 ∧ n5 % 3 < 60; omega, trivial, (by show 0 ≤ 2; decide)⟩ ?_ (Nat.le_trans b32 (by decide))
      simp only [numS, satW, spansW, tl_append, tl_row2, tl_row1, tl_nm, tlit_20, tlit_206261747465727920, tlit_2062792073, tlit_2063686172676520, tlit_20656e6572677920, tlit_2066656520, tlit_2066726f6d20, tlit_206c656e67746820, tlit_206c6576656c20, tlit_206c69676874, tlit_206f7665722074, tlit_2072616e6b20, tlit_207265736572766520, tlit_20726f6f6d20, tlit_20736574746c6520, tlit_2073697a6520, tlit_2073746f726520, tlit_20746f20, tlit_20756e74696c20, tlit_20776f72746820, tlit_0a, tlit_62617474657279, tlit_6279, tlit_636861726765, tlit_656e65726779, tlit_666565, tlit_66726f6d, tlit_6c656e677468, tlit_6c6576656c, tlit_6c69676874, tlit_6f766572, tlit_70, tlit_70617373, tlit_706173732070, tlit_72, tlit_72616e6b, tlit_7265636f7264696e67, tlit_7265636f7264696e672072, tlit_72657365727665, tlit_726f6f6d, tlit_73, tlit_736174656c6c697465, tlit_736174656c6c6974652073, tlit_736574746c65, tlit_73697a65, tlit_73746f7265, tlit_74, tlit_746f, tlit_756e74696c, tlit_776f727468, List.flatMap_cons, List.flatMap_nil, List.append_nil, List.append_assoc, List.cons_append, List.nil_append]
theorem ok_lRcd {f : Addr} {fd : FuncData} (F : Fun K "_law_recording" "_law_recording" sLRecording f fd) (T : Tx K mg) (cD : Cal P w K mg base 1 "_law_draws" ["_law_cell_here", "_law_count"] spLDraws) : FnOk P w K mg base CX0 2 f fd ["_law_cell_here", "_law_k", "_law_satellites"] spLRcd := by
  refine F.ok scLRecording (fun vs H Q E h => ?_) (fun cdv A outer s H vs Q E hr h => ?_)
  · obtain ⟨c, j, ns, rfl, _⟩ := h
    rfl
  · obtain ⟨c, j, ns, rfl, hj, hs1, hs2, k⟩ := h
    refine ⟨_, pss_cons (ps_set (i := 3) scLRecording.nd rfl (Or.inl rfl) (pe_f cD hr (pa_cons (pv 0) (pa_cons pe_int pa_nil))))
      (pss_cons (ps_set (i := 4) scLRecording.nd rfl (Or.inl rfl) ((pe_op op_mod (pe_ix ix_list (pv 3) pe_int (fun _ _ => rfl)) pe_int)))
      (pss_cons (ps_set (i := 5) scLRecording.nd rfl (Or.inl rfl) ((pe_op op_add_str (pe_op op_add_str (pe_op op_add_str (pe_op op_add_str (pe_op op_add_str (pe_op op_add_str pe_str (pe_callTy call_str_int (by rfl) T.str (by decide +kernel) (pa_cons (pv 1) pa_nil))) pe_str) (pe_callTy call_str_int (by rfl) T.str (by decide +kernel) (pa_cons (pe_op op_mod (pe_ix ix_list (pv 3) pe_int (fun _ _ => rfl)) (pv 2)) pa_nil))) pe_str) (pe_callTy call_str_int (by rfl) T.str (by decide +kernel) (pa_cons (pv 4) pa_nil))) pe_str)))
      (pss_cons (ps_set (i := 5) scLRecording.nd rfl (Or.inl rfl) ((pe_op op_add_str (pe_op op_add_str (pe_op op_add_str (pe_op op_add_str (pe_op op_add_str (pv 5) (pe_callTy call_str_int (by rfl) T.str (by decide +kernel) (pa_cons (pe_op op_add (pv 4) (pe_op op_mod (pe_ix ix_list (pv 3) pe_int (fun _ _ => rfl)) pe_int)) pa_nil))) pe_str) (pe_callTy call_str_int (by rfl) T.str (by decide +kernel) (pa_cons (pe_op op_add pe_int (pe_op op_mod (pe_ix ix_list (pv 3) pe_int (fun _ _ => rfl)) pe_int)) pa_nil))) pe_str) (pe_callTy call_str_int (by rfl) T.str (by decide +kernel) (pa_cons (pe_op op_mod (pe_ix ix_list (pv 3) pe_int (fun _ _ => rfl)) pe_int) pa_nil)))))
      (pss_cons (ps_set (i := 5) scLRecording.nd rfl (Or.inl rfl) ((pe_op op_add_str (pe_op op_add_str (pe_op op_add_str (pe_op op_add_str (pe_op op_add_str (pe_op op_add_str (pv 5) pe_str) (pe_callTy call_str_int (by rfl) T.str (by decide +kernel) (pa_cons (pe_op op_mod (pe_ix ix_list (pv 3) pe_int (fun _ _ => rfl)) pe_int) pa_nil))) pe_str) (pe_callTy call_str_int (by rfl) T.str (by decide +kernel) (pa_cons (pe_op op_add pe_int (pe_op op_mod (pe_ix ix_list (pv 3) pe_int (fun _ _ => rfl)) pe_int)) pa_nil))) pe_str) (pe_callTy call_str_int (by rfl) T.str (by decide +kernel) (pa_cons (pe_op op_add pe_int (pe_op op_mod (pe_ix ix_list (pv 3) pe_int (fun _ _ => rfl)) pe_int)) pa_nil)))))
      (pss_one (ps_ret (pe_op op_add_str (pe_op op_add_str (pe_op op_add_str (pv 5) pe_str) (pe_callTy call_str_int (by rfl) T.str (by decide +kernel) (pa_cons (pe_op op_sub pe_int (pe_op op_mul (pe_op op_mod (pe_ix ix_list (pv 3) pe_int (fun _ _ => rfl)) pe_int) (pe_op op_mod (pe_ix ix_list (pv 3) pe_int (fun _ _ => rfl)) pe_int))) pa_nil))) pe_str))))))), ?_⟩
    refine ⟨_, rfl, _, 9, rfl, by decide, fun H1 l nl s1 hnl el => ?_⟩
    obtain ⟨n0, n1, n2, n3, n4, n5, n6, n7, n8, rfl⟩ := list9 hnl
    have hs : 0 ≤ n0 % (ns : Int) ∧ n0 % (ns : Int) < (ns : Int) := ⟨Int.emod_nonneg _ (by omega), Int.emod_lt_of_pos _ (by omega)⟩
    have hx : 0 ≤ n8 % 4 ∧ n8 % 4 ≤ 3 := by omega
    have hy : 0 ≤ n8 % 3 ∧ n8 % 3 ≤ 2 := by omega
    have hu : 0 ≤ 40 - n8 % 4 * (n8 % 3) ∧ 40 - n8 % 4 * (n8 % 3) ≤ 40 ∧ 40 - n8 % 4 * (n8 % 3) < 64 := by
      have h1 := Int.mul_nonneg hx.1 hy.1
      have h2 := Int.mul_le_mul hx.2 hy.2 hy.1 (by decide)
      omega
    refine ⟨_, rfl, l, _, _, _, rfl, rfl, SqL.of el, rfl, _, _, rfl, rfl, (by show (0 : Int) < 20; decide), ?_⟩
    have b1 := (show (Str.ofString "recording r").length ≤ 11 by decide +kernel)
    have b2 := bd_app3 b1 (num_len (n := (j : Int)) (by omega) (by omega))
    refine ⟨_, rfl, _, rfl, num_log (n := (j : Int)) (by omega) (by omega), _, _, rfl, rfl, bd2 b1 (num_len (n := (j : Int)) (by omega) (by omega)), ?_⟩
    have b3 := bd_app3 b2 (show (Str.ofString " by s").length ≤ 5 by decide +kernel)
    refine ⟨_, _, rfl, rfl, bd2 b2 (show (Str.ofString " by s").length ≤ 5 by decide +kernel), ?_⟩
    have b4 := bd_app3 b3 (num_len (n := (n0 % (ns : Int))) hs.1 (by omega))
    refine ⟨_, rfl, l, _, _, _, rfl, rfl, SqL.of el, rfl, _, rfl, _, _, rfl, rfl, (by omega), _, rfl, num_log (n := (n0 % (ns : Int))) hs.1 (by omega), _, _, rfl, rfl, bd2 b3 (num_len (n := (n0 % (ns : Int))) hs.1 (by omega)), ?_⟩
    have b5 := bd_app3 b4 (show (Str.ofString " from ").length ≤ 6 by decide +kernel)
    refine ⟨_, _, rfl, rfl, bd2 b4 (show (Str.ofString " from ").length ≤ 6 by decide +kernel), ?_⟩
    have b6 := bd_app3 b5 (num_len (n := (n1 % 20)) (by omega) (by omega))
    refine ⟨_, rfl, _, rfl, num_log (n := (n1 % 20)) (by omega) (by omega), _, _, rfl, rfl, bd2 b5 (num_len (n := (n1 % 20)) (by omega) (by omega)), ?_⟩
    have b7 := bd_app3 b6 (show (Str.ofString " to ").length ≤ 4 by decide +kernel)
    refine ⟨_, _, rfl, rfl, bd2 b6 (show (Str.ofString " to ").length ≤ 4 by decide +kernel), ?_⟩
    have b8 := b7
    have b9 := bd_app3 b8 (num_len (n := ((n1 % 20) + (n2 % 3))) (by omega) (by omega))
    refine ⟨_, rfl, _, rfl, _, rfl, l, _, _, _, rfl, rfl, SqL.of el, rfl, _, _, rfl, rfl, (by show (0 : Int) < 3; decide), _, _, rfl, rfl, _, rfl, num_log (n := ((n1 % 20) + (n2 % 3))) (by omega) (by omega), _, _, rfl, rfl, bd2 b8 (num_len (n := ((n1 % 20) + (n2 % 3))) (by omega) (by omega)), ?_⟩
    have b10 := bd_app3 b9 (show (Str.ofString " length ").length ≤ 8 by decide +kernel)
    refine ⟨_, _, rfl, rfl, bd2 b9 (show (Str.ofString " length ").length ≤ 8 by decide +kernel), ?_⟩
    have b11 := bd_app3 b10 (num_len (n := (1 + (n3 % 5))) (by omega) (by omega))
    refine ⟨_, rfl, l, _, _, _, rfl, rfl, SqL.of el, rfl, _, _, rfl, rfl, (by show (0 : Int) < 5; decide), _, _, rfl, rfl, _, rfl, num_log (n := (1 + (n3 % 5))) (by omega) (by omega), _, _, rfl, rfl, bd2 b10 (num_len (n := (1 + (n3 % 5))) (by omega) (by omega)), ?_⟩
    have b12 := bd_app3 b11 (show (Str.ofString " size ").length ≤ 6 by decide +kernel)
    refine ⟨_, _, rfl, rfl, bd2 b11 (show (Str.ofString " size ").length ≤ 6 by decide +kernel), ?_⟩
    have b13 := bd_app3 b12 (num_len (n := (n4 % 9)) (by omega) (by omega))
    refine ⟨_, rfl, l, _, _, _, rfl, rfl, SqL.of el, rfl, _, _, rfl, rfl, (by show (0 : Int) < 9; decide), _, rfl, num_log (n := (n4 % 9)) (by omega) (by omega), _, _, rfl, rfl, bd2 b12 (num_len (n := (n4 % 9)) (by omega) (by omega)), ?_⟩
    have b14 := b13
    have b15 := bd_app3 b14 (show (Str.ofString " energy ").length ≤ 8 by decide +kernel)
    refine ⟨_, rfl, _, _, rfl, rfl, bd2 b14 (show (Str.ofString " energy ").length ≤ 8 by decide +kernel), ?_⟩
    have b16 := bd_app3 b15 (num_len (n := (n5 % 7)) (by omega) (by omega))
    refine ⟨_, rfl, l, _, _, _, rfl, rfl, SqL.of el, rfl, _, _, rfl, rfl, (by show (0 : Int) < 7; decide), _, rfl, num_log (n := (n5 % 7)) (by omega) (by omega), _, _, rfl, rfl, bd2 b15 (num_len (n := (n5 % 7)) (by omega) (by omega)), ?_⟩
    have b17 := bd_app3 b16 (show (Str.ofString " worth ").length ≤ 7 by decide +kernel)
    refine ⟨_, _, rfl, rfl, bd2 b16 (show (Str.ofString " worth ").length ≤ 7 by decide +kernel), ?_⟩
    have b18 := bd_app3 b17 (num_len (n := (1 + (n6 % 9))) (by omega) (by omega))
    refine ⟨_, rfl, l, _, _, _, rfl, rfl, SqL.of el, rfl, _, _, rfl, rfl, (by show (0 : Int) < 9; decide), _, _, rfl, rfl, _, rfl, num_log (n := (1 + (n6 % 9))) (by omega) (by omega), _, _, rfl, rfl, bd2 b17 (num_len (n := (1 + (n6 % 9))) (by omega) (by omega)), ?_⟩
    have b19 := bd_app3 b18 (show (Str.ofString " rank ").length ≤ 6 by decide +kernel)
    refine ⟨_, _, rfl, rfl, bd2 b18 (show (Str.ofString " rank ").length ≤ 6 by decide +kernel), ?_⟩
    have b20 := bd_app3 b19 (num_len (n := (1 + (n7 % 3))) (by omega) (by omega))
    refine ⟨_, rfl, l, _, _, _, rfl, rfl, SqL.of el, rfl, _, _, rfl, rfl, (by show (0 : Int) < 3; decide), _, _, rfl, rfl, _, rfl, num_log (n := (1 + (n7 % 3))) (by omega) (by omega), _, _, rfl, rfl, bd2 b19 (num_len (n := (1 + (n7 % 3))) (by omega) (by omega)), ?_⟩
    have b21 := b20
    have b22 := bd_app3 b21 (show (Str.ofString " until ").length ≤ 7 by decide +kernel)
    refine ⟨_, rfl, _, _, rfl, rfl, bd2 b21 (show (Str.ofString " until ").length ≤ 7 by decide +kernel), ?_⟩
    have b23 := bd_app3 b22 (num_len (n := (40 - ((n8 % 4) * (n8 % 3)))) hu.1 hu.2.2)
    refine ⟨_, rfl, l, _, _, _, rfl, rfl, SqL.of el, rfl, _, _, rfl, rfl, (by show (0 : Int) < 4; decide), _, rfl, l, _, _, _, rfl, rfl, SqL.of el, rfl, _, _, rfl, rfl, (by show (0 : Int) < 3; decide), _, _, rfl, rfl, .inl ⟨by omega, by omega⟩, _, _, rfl, rfl, _, rfl, num_log (n := (40 - ((n8 % 4) * (n8 % 3)))) hu.1 hu.2.2, _, _, rfl, rfl, bd2 b22 (num_len (n := (40 - ((n8 % 4) * (n8 % 3)))) hu.1 hu.2.2), ?_⟩
    have b24 := bd_app3 b23 (show (Str.ofString "\n").length ≤ 1 by decide +kernel)
    refine ⟨_, _, rfl, rfl, bd2 b23 (show (Str.ofString "\n").length ≤ 1 by decide +kernel), ?_⟩
    have hsv : ((n0 % (ns : Int)).toNat : Int) = n0 % (ns : Int) := by omega
    refine k H1 ⟨nm "r" (j : Int), (n0 % (ns : Int)).toNat, n1 % 20, n1 % 20 + n2 % 3, 1 + n3 % 5, n4 % 9, n5 % 7, 1 + n6 % 9, 1 + n7 % 3, 40 - n8 % 4 * (n8 % 3)⟩ _ s1 ⟨rfl, by show (n0 % (ns : Int)).toNat < ns; omega, by show 0 ≤ n1 % 20 ∧ n1 % 20 ≤ 39; omega, by show n1 % 20 ≤ n1 % 20 + n2 % 3 ∧ n1 % 20 + n2 % 3 ≤ n1 % 20 + 20 ∧ n1 % 20 + n2 % 3 ≤ 39; omega,
      by show 1 ≤ 1 + n3 % 5 ∧ 1 + n3 % 5 ≤ 40 - (n1 % 20 + n2 % 3); omega, by show 0 ≤ n4 % 9 ∧ n4 % 9 < 64; omega, by show 0 ≤ n5 % 7 ∧ n5 % 7 < 64; omega, by show 1 ≤ 1 + n6 % 9 ∧ 1 + n6 % 9 < 64; omega, by show 1 ≤ 1 + n7 % 3 ∧ 1 + n7 % 3 ≤ 3; omega, ⟨hu.1, hu.2.1⟩⟩ ?_ (Nat.le_trans b24 (by decide))
    simp only [numS, rcdW, hsv, tl_append, tl_row2, tl_row1, tl_nm, tlit_20, tlit_206261747465727920, tlit_2062792073, tlit_2063686172676520, tlit_20656e6572677920, tlit_2066656520, tlit_2066726f6d20, tlit_206c656e67746820, tlit_206c6576656c20, tlit_206c69676874, tlit_206f7665722074, tlit_2072616e6b20, tlit_207265736572766520, tlit_20726f6f6d20, tlit_20736574746c6520, tlit_2073697a6520, tlit_2073746f726520, tlit_20746f20, tlit_20756e74696c20, tlit_20776f72746820, tlit_0a, tlit_62617474657279, tlit_6279, tlit_636861726765, tlit_656e65726779, tlit_666565, tlit_66726f6d, tlit_6c656e677468, tlit_6c6576656c, tlit_6c69676874, tlit_6f766572, tlit_70, tlit_70617373, tlit_706173732070, tlit_72, tlit_72616e6b, tlit_7265636f7264696e67, tlit_7265636f7264696e672072, tlit_72657365727665, tlit_726f6f6d, tlit_73, tlit_736174656c6c697465, tlit_736174656c6c6974652073, tlit_736574746c65, tlit_73697a65, tlit_73746f7265, tlit_74, tlit_746f, tlit_756e74696c, tlit_776f727468, List.flatMap_cons, List.flatMap_nil, List.append_nil, List.append_assoc, List.cons_append, List.nil_append]
theorem ok_lPas {f : Addr} {fd : FuncData} (F : Fun K "_law_pass" "_law_pass" sLPass f fd) (T : Tx K mg) (cD : Cal P w K mg base 1 "_law_draws" ["_law_cell_here", "_law_count"] spLDraws) : FnOk P w K mg base CX0 2 f fd ["_law_cell_here", "_law_k", "_law_satellites", "_law_stations"] spLPas := by
  refine F.ok scLPass (fun vs H Q E h => ?_) (fun cdv A outer s H vs Q E hr h => ?_)
  · obtain ⟨c, j, ns, nt, rfl, _⟩ := h
    rfl
  · obtain ⟨c, j, ns, nt, rfl, hj, hs1, hs2, ht1, ht2, k⟩ := h
    refine ⟨_, pss_cons (ps_set (i := 4) scLPass.nd rfl (Or.inl rfl) (pe_f cD hr (pa_cons (pv 0) (pa_cons pe_int pa_nil))))
      (pss_cons (ps_set (i := 5) scLPass.nd rfl (Or.inl rfl) ((pe_op op_add pe_int (pe_op op_mod (pe_ix ix_list (pv 4) pe_int (fun _ _ => rfl)) pe_int))))
      (pss_cons (ps_set (i := 6) scLPass.nd rfl (Or.inl rfl) ((pe_op op_add_str (pe_op op_add_str (pe_op op_add_str (pe_op op_add_str (pe_op op_add_str (pe_op op_add_str pe_str (pe_callTy call_str_int (by rfl) T.str (by decide +kernel) (pa_cons (pv 1) pa_nil))) pe_str) (pe_callTy call_str_int (by rfl) T.str (by decide +kernel) (pa_cons (pe_op op_mod (pe_ix ix_list (pv 4) pe_int (fun _ _ => rfl)) (pv 2)) pa_nil))) pe_str) (pe_callTy call_str_int (by rfl) T.str (by decide +kernel) (pa_cons (pe_op op_mod (pe_ix ix_list (pv 4) pe_int (fun _ _ => rfl)) (pv 3)) pa_nil))) pe_str)))
      (pss_cons (ps_set (i := 6) scLPass.nd rfl (Or.inl rfl) ((pe_op op_add_str (pe_op op_add_str (pe_op op_add_str (pe_op op_add_str (pe_op op_add_str (pv 6) (pe_callTy call_str_int (by rfl) T.str (by decide +kernel) (pa_cons (pv 5) pa_nil))) pe_str) (pe_callTy call_str_int (by rfl) T.str (by decide +kernel) (pa_cons (pe_op op_add (pe_op op_add (pv 5) pe_int) (pe_op op_mod (pe_ix ix_list (pv 4) pe_int (fun _ _ => rfl)) pe_int)) pa_nil))) pe_str) (pe_callTy call_str_int (by rfl) T.str (by decide +kernel) (pa_cons (pe_op op_mod (pe_ix ix_list (pv 4) pe_int (fun _ _ => rfl)) pe_int) pa_nil)))))
      (pss_one (ps_ret (pe_op op_add_str (pe_op op_add_str (pe_op op_add_str (pe_op op_add_str (pe_op op_add_str (pv 6) pe_str) (pe_callTy call_str_int (by rfl) T.str (by decide +kernel) (pa_cons (pe_op op_mod (pe_ix ix_list (pv 4) pe_int (fun _ _ => rfl)) pe_int) pa_nil))) pe_str) (pe_callTy call_str_int (by rfl) T.str (by decide +kernel) (pa_cons (pe_op op_mod (pe_ix ix_list (pv 4) pe_int (fun _ _ => rfl)) pe_int) pa_nil))) pe_str)))))), ?_⟩
    refine ⟨_, rfl, _, 7, rfl, by decide, fun H1 l nl s1 hnl el => ?_⟩
    obtain ⟨n0, n1, n2, n3, n4, n5, n6, rfl⟩ := list7 hnl
    have hs : 0 ≤ n0 % (ns : Int) ∧ n0 % (ns : Int) < (ns : Int) := ⟨Int.emod_nonneg _ (by omega), Int.emod_lt_of_pos _ (by omega)⟩
    have ht : 0 ≤ n1 % (nt : Int) ∧ n1 % (nt : Int) < (nt : Int) := ⟨Int.emod_nonneg _ (by omega), Int.emod_lt_of_pos _ (by omega)⟩
    refine ⟨_, rfl, l, _, _, _, rfl, rfl, SqL.of el, rfl, _, _, rfl, rfl, (by show (0 : Int) < 27; decide), _, _, rfl, rfl, ?_⟩
    have b1 := (show (Str.ofString "pass p").length ≤ 6 by decide +kernel)
    have b2 := bd_app3 b1 (num_len (n := (j : Int)) (by omega) (by omega))
    refine ⟨_, rfl, _, rfl, num_log (n := (j : Int)) (by omega) (by omega), _, _, rfl, rfl, bd2 b1 (num_len (n := (j : Int)) (by omega) (by omega)), ?_⟩
    have b3 := bd_app3 b2 (show (Str.ofString " by s").length ≤ 5 by decide +kernel)
    refine ⟨_, _, rfl, rfl, bd2 b2 (show (Str.ofString " by s").length ≤ 5 by decide +kernel), ?_⟩
    have b4 := bd_app3 b3 (num_len (n := (n0 % (ns : Int))) hs.1 (by omega))
    refine ⟨_, rfl, l, _, _, _, rfl, rfl, SqL.of el, rfl, _, rfl, _, _, rfl, rfl, (by omega), _, rfl, num_log (n := (n0 % (ns : Int))) hs.1 (by omega), _, _, rfl, rfl, bd2 b3 (num_len (n := (n0 % (ns : Int))) hs.1 (by omega)), ?_⟩
    have b5 := bd_app3 b4 (show (Str.ofString " over t").length ≤ 7 by decide +kernel)
    refine ⟨_, _, rfl, rfl, bd2 b4 (show (Str.ofString " over t").length ≤ 7 by decide +kernel), ?_⟩
    have b6 := bd_app3 b5 (num_len (n := (n1 % (nt : Int))) ht.1 (by omega))
    refine ⟨_, rfl, l, _, _, _, rfl, rfl, SqL.of el, rfl, _, rfl, _, _, rfl, rfl, (by omega), _, rfl, num_log (n := (n1 % (nt : Int))) ht.1 (by omega), _, _, rfl, rfl, bd2 b5 (num_len (n := (n1 % (nt : Int))) ht.1 (by omega)), ?_⟩
    have b7 := bd_app3 b6 (show (Str.ofString " from ").length ≤ 6 by decide +kernel)
    refine ⟨_, _, rfl, rfl, bd2 b6 (show (Str.ofString " from ").length ≤ 6 by decide +kernel), ?_⟩
    have b8 := b7
    have b9 := bd_app3 b8 (num_len (n := (5 + (n2 % 27))) (by omega) (by omega))
    refine ⟨_, rfl, _, rfl, _, rfl, num_log (n := (5 + (n2 % 27))) (by omega) (by omega), _, _, rfl, rfl, bd2 b8 (num_len (n := (5 + (n2 % 27))) (by omega) (by omega)), ?_⟩
    have b10 := bd_app3 b9 (show (Str.ofString " to ").length ≤ 4 by decide +kernel)
    refine ⟨_, _, rfl, rfl, bd2 b9 (show (Str.ofString " to ").length ≤ 4 by decide +kernel), ?_⟩
    have b11 := bd_app3 b10 (num_len (n := (((5 + (n2 % 27)) + 1) + (n3 % 6))) (by omega) (by omega))
    refine ⟨_, rfl, _, _, rfl, rfl, _, rfl, l, _, _, _, rfl, rfl, SqL.of el, rfl, _, _, rfl, rfl, (by show (0 : Int) < 6; decide), _, _, rfl, rfl, _, rfl, num_log (n := (((5 + (n2 % 27)) + 1) + (n3 % 6))) (by omega) (by omega), _, _, rfl, rfl, bd2 b10 (num_len (n := (((5 + (n2 % 27)) + 1) + (n3 % 6))) (by omega) (by omega)), ?_⟩
    have b12 := bd_app3 b11 (show (Str.ofString " room ").length ≤ 6 by decide +kernel)
    refine ⟨_, _, rfl, rfl, bd2 b11 (show (Str.ofString " room ").length ≤ 6 by decide +kernel), ?_⟩
    have b13 := bd_app3 b12 (num_len (n := (n4 % 16)) (by omega) (by omega))
    refine ⟨_, rfl, l, _, _, _, rfl, rfl, SqL.of el, rfl, _, _, rfl, rfl, (by show (0 : Int) < 16; decide), _, rfl, num_log (n := (n4 % 16)) (by omega) (by omega), _, _, rfl, rfl, bd2 b12 (num_len (n := (n4 % 16)) (by omega) (by omega)), ?_⟩
    have b14 := b13
    have b15 := bd_app3 b14 (show (Str.ofString " energy ").length ≤ 8 by decide +kernel)
    refine ⟨_, rfl, _, _, rfl, rfl, bd2 b14 (show (Str.ofString " energy ").length ≤ 8 by decide +kernel), ?_⟩
    have b16 := bd_app3 b15 (num_len (n := (n5 % 5)) (by omega) (by omega))
    refine ⟨_, rfl, l, _, _, _, rfl, rfl, SqL.of el, rfl, _, _, rfl, rfl, (by show (0 : Int) < 5; decide), _, rfl, num_log (n := (n5 % 5)) (by omega) (by omega), _, _, rfl, rfl, bd2 b15 (num_len (n := (n5 % 5)) (by omega) (by omega)), ?_⟩
    have b17 := bd_app3 b16 (show (Str.ofString " fee ").length ≤ 5 by decide +kernel)
    refine ⟨_, _, rfl, rfl, bd2 b16 (show (Str.ofString " fee ").length ≤ 5 by decide +kernel), ?_⟩
    have b18 := bd_app3 b17 (num_len (n := (n6 % 6)) (by omega) (by omega))
    refine ⟨_, rfl, l, _, _, _, rfl, rfl, SqL.of el, rfl, _, _, rfl, rfl, (by show (0 : Int) < 6; decide), _, rfl, num_log (n := (n6 % 6)) (by omega) (by omega), _, _, rfl, rfl, bd2 b17 (num_len (n := (n6 % 6)) (by omega) (by omega)), ?_⟩
    have b19 := bd_app3 b18 (show (Str.ofString "\n").length ≤ 1 by decide +kernel)
    refine ⟨_, _, rfl, rfl, bd2 b18 (show (Str.ofString "\n").length ≤ 1 by decide +kernel), ?_⟩
    have hsv : ((n0 % (ns : Int)).toNat : Int) = n0 % (ns : Int) := by omega
    have htv : ((n1 % (nt : Int)).toNat : Int) = n1 % (nt : Int) := by omega
    refine k H1 ⟨nm "p" (j : Int), (n0 % (ns : Int)).toNat, (n1 % (nt : Int)).toNat, 5 + n2 % 27, 5 + n2 % 27 + 1 + n3 % 6, n4 % 16, n5 % 5, n6 % 6⟩ _ s1 ⟨rfl, by show (n0 % (ns : Int)).toNat < ns; omega, by show (n1 % (nt : Int)).toNat < nt; omega, by show 0 ≤ 5 + n2 % 27 ∧ 5 + n2 % 27 + 1 ≤ 5 + n2 % 27 + 1 + n3 % 6 ∧ 5 + n2 % 27 + 1 + n3 % 6 ≤ 40; omega,
      by show 0 ≤ n4 % 16 ∧ n4 % 16 < 64; omega, by show 0 ≤ n5 % 5 ∧ n5 % 5 < 64; omega, by show 0 ≤ n6 % 6 ∧ n6 % 6 < 64; omega⟩ ?_ (Nat.le_trans b19 (by decide))
    simp only [numS, pasW, hsv, htv, tl_append, tl_row2, tl_row1, tl_nm, tlit_20, tlit_206261747465727920, tlit_2062792073, tlit_2063686172676520, tlit_20656e6572677920, tlit_2066656520, tlit_2066726f6d20, tlit_206c656e67746820, tlit_206c6576656c20, tlit_206c69676874, tlit_206f7665722074, tlit_2072616e6b20, tlit_207265736572766520, tlit_20726f6f6d20, tlit_20736574746c6520, tlit_2073697a6520, tlit_2073746f726520, tlit_20746f20, tlit_20756e74696c20, tlit_20776f72746820, tlit_0a, tlit_62617474657279, tlit_6279, tlit_636861726765, tlit_656e65726779, tlit_666565, tlit_66726f6d, tlit_6c656e677468, tlit_6c6576656c, tlit_6c69676874, tlit_6f766572, tlit_70, tlit_70617373, tlit_706173732070, tlit_72, tlit_72616e6b, tlit_7265636f7264696e67, tlit_7265636f7264696e672072, tlit_72657365727665, tlit_726f6f6d, tlit_73, tlit_736174656c6c697465, tlit_736174656c6c6974652073, tlit_736574746c65, tlit_73697a65, tlit_73746f7265, tlit_74, tlit_746f, tlit_756e74696c, tlit_776f727468, List.flatMap_cons, List.flatMap_nil, List.append_nil, List.append_assoc, List.cons_append, List.nil_append]
end
end K59
set_option maxHeartbeats 4000000
/-! _law_text, _law_world -/
namespace K59
open PySem PySem.Spec PyProof.Rows L2 TL
theorem textL_snoc {α : Type} (A : List (List Str)) (X : List α) (f : α → List Str) (s : α) : textL (horW :: (A ++ (X ++ [s]).map f)) = textL (horW :: (A ++ X.map f)) ++ (tl (rowT (f s)) ++ [10]) := by
  unfold textL
  rw [List.map_append, ← List.append_assoc, ← List.cons_append, List.flatMap_append]
  simp
theorem snoc_ok {α : Type} {R : Nat → α → Prop} {X : List α} {s : α} (h : ∀ j x, X[j]? = some x → R j x) (hs : R X.length s) : ∀ j x, (X ++ [s])[j]? = some x → R j x := by
  intro j x hj
  rw [List.getElem?_append] at hj
  by_cases c : j < X.length
  · rw [if_pos c] at hj
    exact h j x hj
  · rw [if_neg c] at hj
    have : j - X.length = 0 := by
      have := (List.getElem?_eq_some_iff.mp hj).1
      simp at this
      omega
    rw [this] at hj
    cases hj
    rw [show j = X.length by omega]
    exact hs
theorem tlis_73746174696f6e2074 : tl (Str.ofString "station t") = [115, 116, 97, 116, 105, 111, 110, 32, 116] := by decide +kernel
theorem tlis_20616e74656e6e617320 : tl (Str.ofString " antennas ") = [32, 97, 110, 116, 101, 110, 110, 97, 115, 32] := by decide +kernel
theorem tlis_207475726e20 : tl (Str.ofString " turn ") = [32, 116, 117, 114, 110, 32] := by decide +kernel
theorem tlis_73746174696f6e : tl (Str.ofString "station") = [115, 116, 97, 116, 105, 111, 110] := by decide +kernel
theorem tlis_616e74656e6e6173 : tl (Str.ofString "antennas") = [97, 110, 116, 101, 110, 110, 97, 115] := by decide +kernel
theorem tlis_7475726e : tl (Str.ofString "turn") = [116, 117, 114, 110] := by decide +kernel
theorem hor_text : tl (Str.ofString "horizon 40\n") = textL (horW :: ([] ++ ([] : List Sat).map satW)) := by decide +kernel
section
variable {P : Program} {w : World} {K : PySem.W.Frag} {mg : Str → Option Value} {base : Heap}
theorem ok_lText {f : Addr} {fd : FuncData} (F : Fun K "_law_text" "_law_text" sLText f fd) (T : Tx K mg) (cC : Cal P w K mg base 1 "_law_cell" ["_law_script", "_law_k"] (spLCell K)) (cD : Cal P w K mg base 1 "_law_draws" ["_law_cell_here", "_law_count"] spLDraws)
    (cS : Cal P w K mg base 2 "_law_satellite" ["_law_cell_here", "_law_k"] spLSat) (cR : Cal P w K mg base 2 "_law_recording" ["_law_cell_here", "_law_k", "_law_satellites"] spLRcd) (cP : Cal P w K mg base 2 "_law_pass" ["_law_cell_here", "_law_k", "_law_satellites", "_law_stations"] spLPas) :
    FnOk P w K mg base CX0 3 f fd ["_law_script", "_law_recordings", "_law_passes"] (spLText K) := by
  refine F.ok scLText (fun vs H Q E h => ?_) (fun cdv A outer s H vs Q E hr h => ?_)
  · obtain ⟨a, ns, nr, np, rfl, _⟩ := h
    rfl
  · obtain ⟨a, ns, nr, np, rfl, hs, hnr, hnp, k⟩ := h
    have nd := scLText.nd
    refine ⟨_, pss_cons (ps_set (i := 3) nd rfl (Or.inl rfl) (pe_op op_add pe_int (pe_op op_mod (pe_callTy call_int1 (by rfl) T.int (by decide +kernel) (pa_cons (pe_f cC (hr.mono (by decide)) (pa_cons (pv 0) (pa_cons pe_int pa_nil))) pa_nil)) pe_int)))
      (pss_cons (ps_set (i := 4) nd rfl (Or.inl rfl) (pe_op op_add pe_int (pe_op op_mod (pe_op op_fdiv (pe_callTy call_int1 (by rfl) T.int (by decide +kernel) (pa_cons (pe_f cC (hr.mono (by decide)) (pa_cons (pv 0) (pa_cons pe_int pa_nil))) pa_nil)) pe_int) pe_int)))
      (pss_cons (ps_set (i := 5) nd rfl (Or.inl rfl) pe_str)
      (pss_cons (ps_for PassesOwn.never rfl (pi_range1 (by rfl) T.range (pa_cons (pv 3) pa_nil)) (pg_name (i := 6) nd rfl (Or.inl rfl))
        (pss_one (ps_set (i := 5) nd rfl (Or.inl rfl) (pe_op op_add_str (pv 5) (pe_f cS hr (pa_cons (pe_f cC (hr.mono (by decide)) (pa_cons (pv 0) (pa_cons (pe_op op_add pe_int (pv 6)) pa_nil))) (pa_cons (pv 6) pa_nil)))))))
      (pss_cons (ps_for PassesOwn.never rfl (pi_range1 (by rfl) T.range (pa_cons (pv 4) pa_nil)) (pg_name (i := 6) nd rfl (Or.inl rfl))
        (pss_cons (ps_set (i := 7) nd rfl (Or.inl rfl) (pe_f cD (hr.mono (by decide)) (pa_cons (pe_f cC (hr.mono (by decide)) (pa_cons (pv 0) (pa_cons (pe_op op_add pe_int (pv 6)) pa_nil))) (pa_cons pe_int pa_nil))))
        (pss_one (ps_set (i := 5) nd rfl (Or.inl rfl) (pe_op op_add_str (pe_op op_add_str (pe_op op_add_str (pe_op op_add_str (pe_op op_add_str (pe_op op_add_str (pe_op op_add_str (pv 5) pe_str)
          (pe_callTy call_str_int (by rfl) T.str (by decide +kernel) (pa_cons (pv 6) pa_nil))) pe_str)
          (pe_callTy call_str_int (by rfl) T.str (by decide +kernel) (pa_cons (pe_op op_add pe_int (pe_op op_mod (pe_ix ix_list (pv 7) pe_int (fun _ _ => rfl)) pe_int)) pa_nil))) pe_str)
          (pe_callTy call_str_int (by rfl) T.str (by decide +kernel) (pa_cons (pe_op op_mod (pe_ix ix_list (pv 7) pe_int (fun _ _ => rfl)) pe_int) pa_nil))) pe_str)))))
      (pss_cons (ps_for PassesOwn.never rfl (pi_range1 (by rfl) T.range (pa_cons (pv 1) pa_nil)) (pg_name (i := 6) nd rfl (Or.inl rfl))
        (pss_one (ps_set (i := 5) nd rfl (Or.inl rfl) (pe_op op_add_str (pv 5) (pe_f cR hr (pa_cons (pe_f cC (hr.mono (by decide)) (pa_cons (pv 0) (pa_cons (pe_op op_add pe_int (pv 6)) pa_nil))) (pa_cons (pv 6) (pa_cons (pv 3) pa_nil))))))))
      (pss_cons (ps_for PassesOwn.never rfl (pi_range1 (by rfl) T.range (pa_cons (pv 2) pa_nil)) (pg_name (i := 6) nd rfl (Or.inl rfl))
        (pss_one (ps_set (i := 5) nd rfl (Or.inl rfl) (pe_op op_add_str (pv 5) (pe_f cP hr (pa_cons (pe_f cC (hr.mono (by decide)) (pa_cons (pv 0) (pa_cons (pe_op op_add pe_int (pv 6)) pa_nil))) (pa_cons (pv 6) (pa_cons (pv 3) (pa_cons (pv 4) pa_nil)))))))))
      (pss_one (ps_ret (pv 5))))))))), ?_⟩
    refine ⟨_, rfl, a, ns, 0, rfl, hs, Int.le_refl 0, fun c0 => .inl ⟨_, rfl, _, _, rfl, rfl, (by show (0 : Int) < 2; decide), _, _, rfl, rfl, ?_⟩⟩
    refine ⟨_, rfl, a, ns, 0, rfl, hs, Int.le_refl 0, fun c1 => .inl ⟨_, rfl, _, _, rfl, rfl, ⟨by decide, by decide⟩, _, _, rfl, rfl, (by show (0 : Int) < 2; decide), _, _, rfl, rfl, ?_⟩⟩
    obtain ⟨ma, ha, ha1, ha2⟩ : ∃ m : Nat, 1 + c0 % 2 = (m : Int) ∧ 1 ≤ m ∧ m ≤ 2 := ⟨(1 + c0 % 2).toNat, by omega, by omega, by omega⟩
    obtain ⟨mb, hb, hb1, hb2⟩ : ∃ m : Nat, 1 + c1 / 2 % 2 = (m : Int) ∧ 1 ≤ m ∧ m ≤ 2 := ⟨(1 + c1 / 2 % 2).toNat, by omega, by omega, by omega⟩
    -- the satellites
    refine ⟨_, rfl, _, rfl, by omega, by omega, ?_⟩
    refine for_range (fun i σ H' => ∃ (z : Str) (x6 : Option V) (X : List Sat), σ = [some (.ref a), some (.int (nr : Int)), some (.int (np : Int)), some (.int (1 + c0 % 2)), some (.int (1 + c1 / 2 % 2)), some (.str z), x6, none] ∧ Same H H' ∧ X.length = i ∧ (∀ j x, X[j]? = some x → SatOk j x) ∧
      tl z = textL (horW :: ([] ++ X.map satW)) ∧ z.length ≤ 11 + 1000 * i) ⟨_, none, [], rfl, fun _ _ z => z, rfl, fun j x hx => by simp at hx, hor_text, by decide +kernel⟩ ?_ ?_
    · rintro i σ H1 hi ⟨z, x6, X, rfl, s1, hX, hok, hz, hzl⟩
      have hi2 : i < 2 := by omega
      refine ⟨_, rfl, _, rfl, _, rfl, _, _, rfl, rfl, a, ns, _, rfl, s1.seq hs, by omega, fun c => ⟨_, rfl, c, i, by rw [Int.zero_add]; rfl, hi2, fun H2 x z2 s2 xok ez lz => ?_⟩⟩
      refine ⟨_, _, rfl, rfl, small5 (by omega), z ++ z2, _, X ++ [x], rfl, s1.trans s2, by simp [hX], snoc_ok hok (by rw [hX]; exact xok), ?_, by rw [Str.length_append]; omega⟩
      rw [textL_snoc, tl_append, hz, ez]
    rintro σ H1 ⟨z1, x6, SX, rfl, s1, hSX, hSok, hz1, hzl1⟩
    have hSX' : SX.length = ma := by omega
    -- the stations
    refine ⟨_, rfl, _, rfl, by omega, by omega, ?_⟩
    refine for_range (fun i σ H' => ∃ (z : Str) (x6 x7 : Option V) (X : List Sta), σ = [some (.ref a), some (.int (nr : Int)), some (.int (np : Int)), some (.int (1 + c0 % 2)), some (.int (1 + c1 / 2 % 2)), some (.str z), x6, x7] ∧ Same H H' ∧ X.length = i ∧ (∀ j x, X[j]? = some x → StaOk j x) ∧
      tl z = textL (horW :: (SX.map satW ++ X.map staW)) ∧ z.length ≤ 2100 + 100 * i) ⟨z1, x6, none, [], rfl, s1, rfl, fun j x hx => by simp at hx, by simpa using hz1, by omega⟩ ?_ ?_
    · rintro i σ H2 hi ⟨z, y6, y7, X, rfl, s2, hX, hok, hz, hzl⟩
      have hi2 : i < 2 := by omega
      refine ⟨_, rfl, _, rfl, _, _, rfl, rfl, a, ns, _, rfl, s2.seq hs, by omega, fun c => ⟨c, 2, rfl, by decide, fun H3 l nl s3 hnl el => ?_⟩⟩
      obtain ⟨n0, n1, rfl⟩ := list2 hnl
      have b0 : (Str.ofString (toString (0 + (i : Int)))).length ≤ 2 := num_len (n := 0 + (i : Int)) (by omega) (by omega)
      have b1 : (Str.ofString (toString (1 + n0 % 2))).length ≤ 2 := num_len (n := 1 + n0 % 2) (by omega) (by omega)
      have b2 : (Str.ofString (toString (n1 % 4))).length ≤ 2 := num_len (n := n1 % 4) (by omega) (by omega)
      have l1 : (Str.ofString "station t").length ≤ 9 := by decide +kernel
      have l2 : (Str.ofString " antennas ").length ≤ 10 := by decide +kernel
      have l3 : (Str.ofString " turn ").length ≤ 6 := by decide +kernel
      have l4 : (Str.ofString "\n").length ≤ 1 := by decide +kernel
      have q1 := bd_app3 hzl l1
      have q2 := bd_app3 q1 b0
      have q3 := bd_app3 q2 l2
      have q4 := bd_app3 q3 b1
      have q5 := bd_app3 q4 l3
      have q6 := bd_app3 q5 b2
      have q7 := bd_app3 q6 l4
      refine ⟨_, rfl, _, _, rfl, rfl, bd2 hzl l1 (by omega), ?_⟩
      refine ⟨_, rfl, _, rfl, num_log (n := 0 + (i : Int)) (by omega) (by omega), _, _, rfl, rfl, bd2 q1 b0 (by omega), _, _, rfl, rfl, bd2 q2 l2 (by omega), ?_⟩
      refine ⟨_, rfl, l, _, _, _, rfl, rfl, SqL.of el, rfl, _, _, rfl, rfl, (by show (0 : Int) < 2; decide), _, _, rfl, rfl, _, rfl, num_log (n := 1 + n0 % 2) (by omega) (by omega), _, _, rfl, rfl, bd2 q3 b1 (by omega), _, _, rfl, rfl, bd2 q4 l3 (by omega), ?_⟩
      refine ⟨_, rfl, l, _, _, _, rfl, rfl, SqL.of el, rfl, _, _, rfl, rfl, (by show (0 : Int) < 4; decide), _, rfl, num_log (n := n1 % 4) (by omega) (by omega), _, _, rfl, rfl, bd2 q5 b2 (by omega), _, _, rfl, rfl, bd2 q6 l4 (by omega), ?_⟩
      refine ⟨_, _, _, X ++ [⟨nm "t" (i : Int), 1 + n0 % 2, n1 % 4⟩], rfl, s2.trans s3, by simp [hX], snoc_ok hok (by rw [hX]; exact ⟨rfl, by show 1 ≤ 1 + n0 % 2 ∧ 1 + n0 % 2 ≤ 3; omega, by show 0 ≤ n1 % 4 ∧ n1 % 4 < 60; omega⟩), ?_, Nat.le_trans q7 (by omega)⟩
      rw [textL_snoc]
      simp only [tl_append, hz, Int.zero_add]
      simp only [numS, staW, tl_append, tl_row2, tl_row1, tl_nm, tlit_20, tlit_206261747465727920, tlit_2062792073, tlit_2063686172676520, tlit_20656e6572677920, tlit_2066656520, tlit_2066726f6d20, tlit_206c656e67746820, tlit_206c6576656c20, tlit_206c69676874, tlit_206f7665722074, tlit_2072616e6b20, tlit_207265736572766520, tlit_20726f6f6d20, tlit_20736574746c6520, tlit_2073697a6520, tlit_2073746f726520, tlit_20746f20, tlit_20756e74696c20, tlit_20776f72746820, tlit_0a, tlit_62617474657279, tlit_6279, tlit_636861726765, tlit_656e65726779, tlit_666565, tlit_66726f6d, tlit_6c656e677468, tlit_6c6576656c, tlit_6c69676874, tlit_6f766572, tlit_70, tlit_70617373, tlit_706173732070, tlit_72, tlit_72616e6b, tlit_7265636f7264696e67, tlit_7265636f7264696e672072, tlit_72657365727665, tlit_726f6f6d, tlit_73, tlit_736174656c6c697465, tlit_736174656c6c6974652073, tlit_736574746c65, tlit_73697a65, tlit_73746f7265, tlit_74, tlit_746f, tlit_756e74696c, tlit_776f727468, List.append_nil, List.append_assoc, List.cons_append, List.nil_append, tlis_73746174696f6e2074, tlis_20616e74656e6e617320, tlis_207475726e20, tlis_73746174696f6e, tlis_616e74656e6e6173, tlis_7475726e]
    rintro σ H2 ⟨z2, y6, y7, TX, rfl, s2, hTX, hTok, hz2, hzl2⟩
    have hTX' : TX.length = mb := by omega
    -- the recordings
    refine ⟨_, rfl, _, rfl, by omega, by omega, ?_⟩
    refine for_range (fun i σ H' => ∃ (z : Str) (x6 x7 : Option V) (X : List Rcd), σ = [some (.ref a), some (.int (nr : Int)), some (.int (np : Int)), some (.int (1 + c0 % 2)), some (.int (1 + c1 / 2 % 2)), some (.str z), x6, x7] ∧ Same H H' ∧ X.length = i ∧ (∀ j x, X[j]? = some x → RcdOk ma j x) ∧
      tl z = textL (horW :: ((SX.map satW ++ TX.map staW) ++ X.map rcdW)) ∧ z.length ≤ 2400 + 1000 * i) ⟨z2, y6, y7, [], rfl, s2, rfl, fun j x hx => by simp at hx, by simpa using hz2, by omega⟩ ?_ ?_
    · rintro i σ H3 hi ⟨z, w6, w7, X, rfl, s3, hX, hok, hz, hzl⟩
      have hi2 : i < 5 := by omega
      refine ⟨_, rfl, _, rfl, _, rfl, _, _, rfl, rfl, a, ns, _, rfl, s3.seq hs, by omega, fun c => ⟨_, rfl, _, rfl, c, i, ma, by rw [Int.zero_add, ha]; rfl, hi2, ha1, ha2, fun H4 x zz s4 xok ez lz => ?_⟩⟩
      refine ⟨_, _, rfl, rfl, small5 (by omega), z ++ zz, _, _, X ++ [x], rfl, s3.trans s4, by simp [hX], snoc_ok hok (by rw [hX]; exact xok), ?_, by rw [Str.length_append]; omega⟩
      rw [textL_snoc, tl_append, hz, ez]
    rintro σ H3 ⟨z3, w6, w7, RX, rfl, s3, hRX, hRok, hz3, hzl3⟩
    have hRX' : RX.length = nr := by omega
    -- the passes
    refine ⟨_, rfl, _, rfl, by omega, by omega, ?_⟩
    refine for_range (fun i σ H' => ∃ (z : Str) (x6 x7 : Option V) (X : List Pas), σ = [some (.ref a), some (.int (nr : Int)), some (.int (np : Int)), some (.int (1 + c0 % 2)), some (.int (1 + c1 / 2 % 2)), some (.str z), x6, x7] ∧ Same H H' ∧ X.length = i ∧ (∀ j x, X[j]? = some x → PasOk ma mb j x) ∧
      tl z = textL (horW :: (((SX.map satW ++ TX.map staW) ++ RX.map rcdW) ++ X.map pasW)) ∧ z.length ≤ 8000 + 1000 * i) ⟨z3, w6, w7, [], rfl, s3, rfl, fun j x hx => by simp at hx, by simpa using hz3, by omega⟩ ?_ ?_
    · rintro i σ H4 hi ⟨z, v6, v7, X, rfl, s4, hX, hok, hz, hzl⟩
      have hi2 : i < 4 := by omega
      refine ⟨_, rfl, _, rfl, _, rfl, _, _, rfl, rfl, a, ns, _, rfl, s4.seq hs, by omega, fun c => ⟨_, rfl, _, rfl, _, rfl, c, i, ma, mb, by rw [Int.zero_add, ha, hb]; rfl, hi2, ha1, ha2, hb1, hb2, fun H5 x zz s5 xok ez lz => ?_⟩⟩
      refine ⟨_, _, rfl, rfl, small5 (by omega), z ++ zz, _, _, X ++ [x], rfl, s4.trans s5, by simp [hX], snoc_ok hok (by rw [hX]; exact xok), ?_, by rw [Str.length_append]; omega⟩
      rw [textL_snoc, tl_append, hz, ez]
    rintro σ H4 ⟨z4, v6, v7, PX, rfl, s4, hPX, hPok, hz4, hzl4⟩
    have hPX' : PX.length = np := by omega
    refine ⟨_, rfl, k H4 ⟨SX, TX, RX, PX⟩ z4 s4 ⟨hSok, hTok, fun i r h => ?_, fun i p h => ?_, by show SX.length ≤ 2; omega, by show TX.length ≤ 2; omega, by show RX.length ≤ 5; omega, by show PX.length ≤ 4; omega⟩ ?_ (by omega)⟩
    · show RcdOk SX.length i r
      rw [hSX']
      exact hRok i r h
    · show PasOk SX.length TX.length i p
      rw [hSX', hTX']
      exact hPok i p h
    · rw [hz4]
      unfold rowsOf
      simp only [List.append_assoc]
theorem ok_lWorld {f : Addr} {fd : FuncData} (F : Fun K "_law_world" "_law_world" sLWorld f fd) (T : Tx K mg) (cC : Cal P w K mg base 1 "_law_cell" ["_law_script", "_law_k"] (spLCell K)) (cT : Cal P w K mg base 3 "_law_text" ["_law_script", "_law_recordings", "_law_passes"] (spLText K))
    {p g : Addr} {gd : FuncData} (sm : SMet K (cl K "World") (.type "type") "parse" p g) (G : FnOk P w K mg base CX0 7 g gd ["text"] (spParse K)) (bG : Binds K gd ["text"] []) :
    FnOk P w K mg base CX0 8 f fd ["_law_script"] (spLWorld K) := by
  refine F.ok scLWorld (fun vs H Q E h => ?_) (fun cdv A outer s H vs Q E hr h => ?_)
  · obtain ⟨a, ns, rfl, _⟩ := h
    rfl
  · obtain ⟨a, ns, rfl, hs, k⟩ := h
    have nd := scLWorld.nd
    refine ⟨_, pss_cons (ps_set (i := 1) nd rfl (Or.inl rfl) (pe_op op_fdiv (pe_callTy call_int1 (by rfl) T.int (by decide +kernel) (pa_cons (pe_f cC (hr.mono (by decide)) (pa_cons (pv 0) (pa_cons pe_int pa_nil))) pa_nil)) pe_int))
      (pss_one (ps_ret (pe_smeth (pe_gR T.gWorld) T.rWld sm G hr bG pass0 (pa_cons (pe_f cT (hr.mono (by decide)) (pa_cons (pv 0) (pa_cons (pe_op op_add pe_int (pe_op op_mod (pv 1) pe_int)) (pa_cons (pe_op op_add pe_int (pe_op op_mod (pe_op op_fdiv (pv 1) pe_int) pe_int)) pa_nil)))) pa_nil)))), ?_⟩
    refine ⟨_, rfl, a, ns, 0, rfl, hs, Int.le_refl 0, fun c0 => .inl ⟨_, rfl, _, _, rfl, rfl, ⟨by decide, by decide⟩, ?_⟩⟩
    refine ⟨rfl, _, rfl, _, rfl, _, _, rfl, rfl, (by show (0 : Int) < 5; decide), _, _, rfl, rfl, _, rfl, _, _, rfl, rfl, ⟨by decide, by decide⟩, _, _, rfl, rfl, (by show (0 : Int) < 4; decide), _, _, rfl, rfl, ?_⟩
    obtain ⟨mr, h1, h2⟩ : ∃ m : Nat, 1 + c0 / 4 % 5 = (m : Int) ∧ m ≤ 5 := ⟨(1 + c0 / 4 % 5).toNat, by omega, by omega⟩
    obtain ⟨mp, h3, h4⟩ : ∃ m : Nat, 1 + c0 / 4 / 5 % 4 = (m : Int) ∧ m ≤ 4 := ⟨(1 + c0 / 4 / 5 % 4).toNat, by omega, by omega⟩
    refine ⟨a, ns, mr, mp, by rw [← h1, ← h3]; rfl, hs, h2, h4, fun H1 w' z s1 wok hz hzl => ⟨z, w', rfl, hz, hzl, wok, fun H2 W s2 hW => k H2 W w' (s1.trans s2) hW⟩⟩
end
end K59
set_option maxHeartbeats 4000000
/-! _law_drawn, _law_case -/
namespace K59
open PySem PySem.Spec PyProof.Rows L2 TL
theorem atI_int {α : Type} {xs : List α} {i : Int} {v : α} (h0 : 0 ≤ i) (h : xs[i.toNat]? = some v) : atI xs i = some v := by
  have h1 : atI xs ((i.toNat : Nat) : Int) = some v := atI_nat h
  rw [show ((i.toNat : Nat) : Int) = i by omega] at h1
  exact h1
theorem ixN_nat {n i : Nat} (h : i < n) : ixN n (i : Int) = some i := by
  unfold ixN
  rw [if_pos (by omega), if_pos (by omega)]
  rfl
theorem int_at {ns : List Int} {i : Int} (h0 : 0 ≤ i) (h : i.toNat < ns.length) : atI (ns.map V.int) i = some (V.int (ns[i.toNat]'h)) := atI_int h0 (by rw [List.getElem?_map, List.getElem?_eq_getElem h]; rfl)
section
variable {P : Program} {w : World} {K : PySem.W.Frag} {mg : Str → Option Value} {base : Heap}
theorem ok_lDrawn {f : Addr} {fd : FuncData} (F : Fun K "_law_drawn" "_law_drawn" sLDrawn f fd) (T : Tx K mg) (cD : Cal P w K mg base 1 "_law_draws" ["_law_cell_here", "_law_count"] spLDraws) (cO : Cal P w K mg base 1 "_law_options" ["_law_world_here", "_law_r"] (spLOptions K)) :
    FnOk P w K mg base CX0 2 f fd ["_law_world_here", "_law_cell_here"] (spLDrawn K) := by
  refine F.ok scLDrawn (fun vs H Q E h => ?_) (fun cdv A outer s H vs Q E hr h => ?_)
  · obtain ⟨W, w', c, rfl, _⟩ := h
    rfl
  · obtain ⟨W, w', c, rfl, hW, k⟩ := h
    have nd := scLDrawn.nd
    have hw := hW.wa
    have wok := hW.ok
    have hnr := wok.nrecs
    have hnp := wok.npass
    have hl3 := hw.s3.len
    have hl4 := hw.s4.len
    obtain ⟨dw, fw, ew, lw0, lw1, lw2, lw3, lw4⟩ := hw.ob
    refine ⟨_, pss_cons (ps_set (i := 2) nd rfl (Or.inl rfl) (pe_f cD hr (pa_cons (pv 1) (pa_cons (pe_op op_add (pe_op op_add (pe_op op_mul pe_int (pe_callB call_len_seq (by rfl) T.len PySem.boot_len (pa_cons (pe_fld (pv 0) rfl) pa_nil))) (pe_callB call_len_seq (by rfl) T.len PySem.boot_len (pa_cons (pe_fld (pv 0) rfl) pa_nil))) pe_int) pa_nil))))
      (pss_cons (ps_set (i := 3) nd rfl (Or.inl rfl) (pe_lst pa_nil))
      (pss_cons (ps_for PassesOwn.never rfl (pi_range1 (by rfl) T.range (pa_cons (pe_callB call_len_seq (by rfl) T.len PySem.boot_len (pa_cons (pe_fld (pv 0) rfl) pa_nil)) pa_nil)) (pg_name (i := 4) nd rfl (Or.inl rfl))
        (pss_cons (ps_set (i := 5) nd rfl (Or.inl rfl) (pe_f cO hr (pa_cons (pv 0) (pa_cons (pv 4) pa_nil))))
        (pss_one (ps_if (PW.pt (pw_or (pt_cmpR op_eq (pe_callB call_len_seq (by rfl) T.len PySem.boot_len (pa_cons (pv 5) pa_nil)) pe_int (nomark _)) (pw_or1 (pt_cmpR op_eq (pe_op op_mod (pe_ix ix_list (pv 2) (pe_op op_mul pe_int (pv 4)) (fun _ _ => rfl)) pe_int) pe_int (nomark _)))))
          (pss_one (ps_expr (pe_bm PySem.F.plainAttrs_list PySem.F.slot_list_append PySem.F.type_list_append mt_append (pv 3) (pa_cons pe_non pa_nil))))
          (pss_one (ps_expr (pe_bm PySem.F.plainAttrs_list PySem.F.slot_list_append PySem.F.type_list_append mt_append (pv 3) (pa_cons (pe_ix ix_list (pv 5) (pe_op op_mod (pe_ix ix_list (pv 2) (pe_op op_add (pe_op op_mul pe_int (pv 4)) pe_int) (fun _ _ => rfl)) (pe_callB call_len_seq (by rfl) T.len PySem.boot_len (pa_cons (pv 5) pa_nil))) (fun _ _ => rfl)) pa_nil))))))))
      (pss_cons (ps_set (i := 6) nd rfl (Or.inl rfl) (pe_lst pa_nil))
      (pss_cons (ps_for PassesOwn.never rfl (pi_enumT (by rfl) T.enumerate (pa_cons (pe_fld (pv 0) rfl) pa_nil)) (pg_tup rfl (pgs_cons (pg_name (i := 7) nd rfl (Or.inl rfl)) (pgs_cons (pg_name (i := 8) nd rfl (Or.inl rfl)) pgs_nil)))
        (pss_cons (ps_set (i := 9) nd rfl (Or.inl rfl) (pe_ix ix_list (pv 2) (pe_op op_add (pe_op op_mul pe_int (pe_callB call_len_seq (by rfl) T.len PySem.boot_len (pa_cons (pv 3) pa_nil))) (pv 7)) (fun _ _ => rfl)))
        (pss_one (ps_expr (pe_bm PySem.F.plainAttrs_list PySem.F.slot_list_append PySem.F.type_list_append mt_append (pv 6) (pa_cons (pe_ifExp (pt_cmpR op_eq (pe_op op_mod (pv 9) pe_int) pe_int (nomark _)) pe_non
          (pe_op op_mod (pe_op op_fdiv (pv 9) pe_int) (pe_fld (pe_ix ix_tup (pe_fld (pv 0) rfl) (pe_fld (pv 8) rfl) (fun _ _ => rfl)) rfl))) pa_nil))))))
      (pss_one (ps_ret (pe_tup (pa_cons (pe_callTy call_tuple_of (by rfl) T.tuple (by decide +kernel) (pa_cons (pv 3) pa_nil)) (pa_cons (pe_callTy call_tuple_of (by rfl) T.tuple (by decide +kernel) (pa_cons (pv 6) pa_nil)) pa_nil))))))))), ?_⟩
    refine ⟨_, rfl, _, rfl, W.a, _, dw, _, _, rfl, ew, T.cWld, T.aWld _ (mem_at 3), lw3, W.t3, _, rfl, .inr (SqT.of hw.l3), _, _, rfl, rfl, .inl ⟨by decide, by decide⟩, _, rfl, W.a, _, dw, _, _, rfl, ew, T.cWld, T.aWld _ (mem_at 4), lw4, W.t4, _, rfl, .inr (SqT.of hw.l4), _, _, rfl, rfl, _, _, rfl, rfl, c, 2 * w'.recs.length + w'.pass.length + 1, ?_, by omega, fun H1 ln ns s1 hnl en => ?_⟩
    · rw [List.length_map, List.length_map, hl3, hl4]
      show [V.int c, V.int (2 * (w'.recs.length : Int) + (w'.pass.length : Int) + 1)] = [V.int c, V.int (((2 * w'.recs.length + w'.pass.length + 1 : Nat) : Int))]
      congr 2
    refine ⟨by decide, fun lm hlm => ?_⟩
    have sm : Same H1 (upd H1 lm (.lst [])) := same_upd hlm
    refine ⟨_, rfl, W.a, _, dw, _, _, rfl, sm _ _ (s1 _ _ ew), T.cWld, T.aWld _ (mem_at 3), lw3, W.t3, _, rfl, .inr (SqT.of (sm _ _ (s1 _ _ hw.l3))), _, rfl, by omega, by rw [List.length_map]; omega, ?_⟩
    rw [List.length_map, hl3]
    refine for_range (fun i σ H' => ∃ (x4 x5 : Option V) (vs : List V) (ens : List REnt), σ = [some (.ref W.a), some (.int c), some (.ref ln), some (.ref lm), x4, x5, none, none, none, none] ∧ Same H1 H' ∧ vs.length = i ∧ H' lm = some (.lst vs) ∧ All2 (RV H') vs ens) ⟨none, none, [], [], rfl, sm, rfl, upd_same, All2.nil⟩ ?_ ?_
    · rintro i σ H2 hi ⟨x4, x5, vs, ens, rfl, s2, hvl, el, al⟩
      have hi2 : i < w'.recs.length := hi
      have hr1 : w'.recs[i]? = some w'.recs[i] := List.getElem?_eq_getElem hi2
      generalize w'.recs[i] = r at hr1
      have s02 := s1.trans s2
      have hfew := opts_few3 wok hr1
      refine ⟨_, rfl, _, rfl, W, w', i, r, by rw [Int.zero_add]; rfl, hW.same s02, hr1, fun H3 lo ps s3 eo ao => ?_⟩
      have s13 := s2.trans s3
      have el3 : H3 lm = some (.lst vs) := s3 _ _ el
      have al3 : All2 (RV H3) vs ens := al.mono fun _ _ z => z.same s3
      have en3 := s13 _ _ en
      have hol := ao.len
      have i1 : (2 * (0 + (i : Int))).toNat < ns.length := by omega
      have i2 : (2 * (0 + (i : Int)) + 1).toNat < ns.length := by omega
      have fin : ∀ (v : V) (en : REnt), RV H3 v en → Same H1 (upd H3 lm (.lst (vs ++ [v]))) ∧ (vs ++ [v]).length = i + 1 ∧ (upd H3 lm (.lst (vs ++ [v]))) lm = some (.lst (vs ++ [v])) ∧ All2 (RV (upd H3 lm (.lst (vs ++ [v])))) (vs ++ [v]) (ens ++ [en]) := by
        intro v en hv
        have kp := kp_off el3 (Off.wr (p := lm) (o := .lst (vs ++ [v])) (by simp))
        exact ⟨fun b o e => by rw [upd_ne (ne_of_none e hlm)]; exact s13 b o e, by simp [hvl], upd_same, (al3.mono fun _ _ z => z.kp kp).snoc (hv.kp kp)⟩
      have hsz : vs.length < sizeLine := lt_line (by omega)
      refine ⟨_, rfl, lo, _, rfl, .inl (SqL.of eo), rfl, _, rfl, ?_⟩
      rw [List.length_map, hol]
      by_cases c0 : (optsOf w' r).length = 0
      · refine dT (by rw [c0]; rfl) ?_
        refine ⟨_, rfl, .inl ⟨rfl, _, SqL.of el3⟩, lm, _, _, rfl, rfl, el3, hsz, ?_⟩
        exact ⟨_, _, _, ens ++ [.none], rfl, fin .non .none rfl⟩
      · refine dF (by intro z; have z2 := V.int.inj z; omega) ?_
        refine ⟨_, rfl, _, rfl, _, _, rfl, rfl, .inl ⟨by decide, by decide⟩, ln, _, _, _, rfl, rfl, SqL.of en3, int_at (by omega) i1, _, _, rfl, rfl, (by show (0 : Int) < 3; decide), rfl, _, rfl, ?_⟩
        by_cases c1 : V.int (ns[(2 * (0 + (i : Int))).toNat]'i1 % 3) = V.int 0
        · refine dT c1 ?_
          refine ⟨_, rfl, .inl ⟨rfl, _, SqL.of el3⟩, lm, _, _, rfl, rfl, el3, hsz, ?_⟩
          exact ⟨_, _, _, ens ++ [.none], rfl, fin .non .none rfl⟩
        · refine dF c1 ?_
          refine ⟨_, rfl, .inl ⟨rfl, _, SqL.of el3⟩, _, rfl, _, rfl, _, rfl, _, _, rfl, rfl, .inl ⟨by decide, by decide⟩, _, _, rfl, rfl, ln, _, _, _, rfl, rfl, SqL.of en3, int_at (by omega) i2, _, rfl, lo, _, rfl, .inl (SqL.of eo), _, _, rfl, rfl, ?_, ?_⟩
          · show (0 : Int) < (((ps.map V.ref).length : Nat) : Int)
            rw [List.length_map]
            omega
          rw [List.length_map]
          have q0 : 0 ≤ (ns[(2 * (0 + (i : Int)) + 1).toNat]'i2 % (ps.length : Int)) := Int.emod_nonneg _ (by omega)
          have q1 : (ns[(2 * (0 + (i : Int)) + 1).toNat]'i2 % (ps.length : Int)) < (ps.length : Int) := Int.emod_lt_of_pos _ (by omega)
          have hq2 : (ns[(2 * (0 + (i : Int)) + 1).toNat]'i2 % (ps.length : Int)).toNat < ps.length := by omega
          obtain ⟨oo, hoo, poo⟩ := ao.getL (List.getElem?_eq_getElem hq2)
          refine ⟨lo, _, _, _, rfl, rfl, SqL.of eo, atI_int (v := V.ref (ps[(ns[(2 * (0 + (i : Int)) + 1).toNat]'i2 % (ps.length : Int)).toNat]'hq2)) q0 (by rw [List.getElem?_map, List.getElem?_eq_getElem hq2]; rfl), lm, _, _, rfl, rfl, el3, hsz, ?_⟩
          exact ⟨_, _, _, ens ++ [.opt oo.1 oo.2], rfl, fin (.ref (ps[(ns[(2 * (0 + (i : Int)) + 1).toNat]'i2 % (ps.length : Int)).toNat]'hq2)) (.opt oo.1 oo.2) ⟨_, rfl, poo⟩⟩
    rintro σ H2 ⟨x4, x5, vs, ens, rfl, s2, hvl, el, al⟩
    refine ⟨by decide, fun lt hlt => ?_⟩
    have n1 : lm ≠ lt := ne_of_none el hlt
    have st : Same H2 (upd H2 lt (.lst [])) := same_upd hlt
    have s03 : Same H (upd H2 lt (.lst [])) := (s1.trans s2).trans st
    refine ⟨_, rfl, W.a, _, dw, _, _, rfl, s03 _ _ ew, T.cWld, T.aWld _ (mem_at 4), lw4, W.t4, _, rfl, SqT.of (s03 _ _ hw.l4), ?_⟩
    refine for_it (walk_enumT (K := K) (a := W.t4) (xs := W.q4.map V.ref)) (fun i σ H' => ∃ (x4 x5 x7 x8 x9 : Option V) (us : List V) (ents : List PEnt), σ = [some (.ref W.a), some (.int c), some (.ref ln), some (.ref lm), x4, x5, some (.ref lt), x7, x8, x9] ∧ Same H2 H' ∧ us.length = i ∧ H' lt = some (.lst us) ∧ All2 PV us ents)
      ⟨x4, x5, none, none, none, [], [], rfl, st, rfl, upd_same, All2.nil⟩ (fun i σ H' _ h => by obtain ⟨_, _, _, _, _, _, _, _, s, _⟩ := h; exact SqT.of (s _ _ ((s1.trans s2) _ _ hw.l4))) ?_ ?_
    · rintro i v σ H3 H4 hi ⟨y4, y5, y7, y8, y9, us, ents, rfl, s3, hul, et, au⟩ ⟨TT, vi, vq, rfl, hTT, rfl, hvi, hvq⟩
      obtain rfl : vi = V.int (i : Int) := (Option.some.inj hvi).symm
      have hi2 : i < w'.pass.length := by rw [List.length_map, hl4] at hi; exact hi
      have hp : w'.pass[i]? = some w'.pass[i] := List.getElem?_eq_getElem hi2
      generalize w'.pass[i] = p at hp
      obtain ⟨qp, hqp, dp, tp, ep, etp⟩ := hw.s4.get hp
      obtain rfl : vq = V.ref qp := by
        have hvq' : (W.q4.map V.ref)[i]? = some vq := hvq
        rw [List.getElem?_map, hqp] at hvq'
        exact (Option.some.inj hvq').symm
      have ok := wok.pass i p hp
      have hsta : w'.stas[p.sta]? = some (w'.stas[p.sta]'(ok.sta)) := List.getElem?_eq_getElem ok.sta
      generalize w'.stas[p.sta]'(ok.sta) = sta at hsta
      obtain ⟨qt, hqt, dqt, eqt⟩ := hw.s2.get hsta
      have hatt : atI (W.q2.map V.ref) (p.sta : Int) = some (V.ref qt) := atI_nat (by rw [List.getElem?_map, hqt]; rfl)
      have hant := (wok.stas _ _ hsta).antennas
      have s4 : Same H3 (upd H3 TT (.tup [.int (i : Int), .ref qp])) := same_upd hTT
      have s24 := s3.trans s4
      have s04 := (s1.trans s2).trans s24
      have en4 := (s2.trans s24) _ _ en
      have el4 := s24 _ _ el
      have et4 := s4 _ _ et
      have i1 : (2 * (vs.length : Int) + (i : Int)).toNat < ns.length := by omega
      have hsz : us.length < sizeLine := lt_line (by omega)
      have fin : ∀ v : V, Same H2 (upd (upd H3 TT (.tup [.int (i : Int), .ref qp])) lt (.lst (us ++ [v]))) := fun v b o e => by
        rw [upd_ne (ne_of_none e hlt)]
        exact s24 b o e
      refine ⟨TT, _, rfl, SqT.of upd_same, rfl, _, _, rfl, _, _, rfl, rfl, ?_⟩
      refine ⟨_, rfl, _, rfl, lm, _, rfl, .inl (SqL.of el4), _, _, rfl, rfl, .inl ⟨by decide, by decide⟩, _, rfl, _, _, rfl, rfl, ln, _, _, _, rfl, rfl, SqL.of en4, int_at (by omega) i1, ?_⟩
      refine ⟨_, rfl, .inl ⟨rfl, _, SqL.of et4⟩, _, rfl, _, _, rfl, rfl, (by show (0 : Int) < 3; decide), rfl, _, rfl, ?_⟩
      by_cases c1 : V.int (ns[(2 * (vs.length : Int) + (i : Int)).toNat]'i1 % 3) = V.int 0
      · refine dT c1 ?_
        refine ⟨lt, _, _, rfl, rfl, et4, hsz, ?_⟩
        exact ⟨_, _, _, _, _, _, ents ++ [.none], rfl, fin _, by simp [hul], upd_same, au.snoc (b := PEnt.none) rfl⟩
      · refine dF c1 ?_
        refine ⟨_, rfl, _, _, rfl, rfl, ⟨by decide, by decide⟩, _, rfl, W.a, _, dw, _, _, rfl, s04 _ _ ew, T.cWld, T.aWld _ (mem_at 2), lw2, _, rfl, qp, _, dp, _, _, rfl, s04 _ _ ep, T.cPas, T.aPas _ (mem_at 2), lookup_zip ndPas (i := 2) rfl rfl,
          W.t2, _, _, _, rfl, rfl, SqT.of (s04 _ _ hw.l2), hatt, qt, _, dqt, _, _, rfl, s04 _ _ eqt, T.cSta, T.aSta _ (mem_at 1), lookup_zip ndSta (i := 1) rfl rfl, _, _, rfl, rfl, (by show (0 : Int) < sta.antennas; omega), lt, _, _, rfl, rfl, et4, hsz, ?_⟩
        exact ⟨_, _, _, _, _, _, ents ++ [.ant (ns[(2 * (vs.length : Int) + (i : Int)).toNat]'i1 / 3 % sta.antennas)], rfl, fin _, by simp [hul], upd_same, au.snoc (b := PEnt.ant (ns[(2 * (vs.length : Int) + (i : Int)).toNat]'i1 / 3 % sta.antennas)) rfl⟩
    · rintro σ H3 ⟨y4, y5, y7, y8, y9, us, ents, rfl, s3, hul, et, au⟩
      rw [List.length_map, hl4] at hul
      refine ⟨_, rfl, lm, _, rfl, .inl ⟨SqL.of (s3 _ _ el), fun a1 ha1 => ?_⟩⟩
      have q1 : Same H3 (upd H3 a1 (.tup vs)) := same_upd ha1
      refine ⟨_, rfl, lt, _, rfl, .inl ⟨SqL.of (q1 _ _ et), fun a2 ha2 => ?_⟩⟩
      have q2 := same_upd (o := .tup us) ha2
      refine ⟨by show 2 ≤ sizeLine; decide, fun a3 ha3 => ?_⟩
      have q3 := same_upd (o := .tup [.ref a1, .ref a2]) ha3
      have q := (q1.trans q2).trans q3
      refine k _ a3 ⟨ens, ents⟩ (((s1.trans s2).trans s3).trans q) ⟨a1, a2, vs, us, upd_same, (q2.trans q3) _ _ upd_same, q3 _ _ upd_same, al.mono fun _ _ z => z.same (s3.trans q), au⟩ ⟨?_, ?_⟩
      · show ens.length = _
        have := al.len
        omega
      · show ents.length = _
        have := au.len
        omega
theorem ok_lCase {f : Addr} {fd : FuncData} (F : Fun K "_law_case" "_law_case" sLCase f fd) (T : Tx K mg) (cD : Cal P w K mg base 1 "_law_draws" ["_law_cell_here", "_law_count"] spLDraws) : FnOk P w K mg base CX0 2 f fd ["_law_plan", "_law_cell_here"] (spLCase K) := by
  refine F.ok scLCase (fun vs H Q E h => ?_) (fun cdv A outer s H vs Q E hr h => ?_)
  · obtain ⟨w', t, C, c, rfl, _⟩ := h
    rfl
  · obtain ⟨w', t, C, c, rfl, hC, fit, wok, k⟩ := h
    have nd := scLCase.nd
    have hnr := wok.nrecs
    have hnp := wok.npass
    obtain ⟨m, tt, vs, us, e1, e2, e3, a1, a2⟩ := hC.ex
    have hvl : vs.length = w'.recs.length := by rw [a1.len, fit.m]
    have hul : us.length = w'.pass.length := by rw [a2.len, fit.t]
    refine ⟨_, pss_cons (ps_set (i := 2) nd rfl (Or.inl rfl) (pe_f cD hr (pa_cons (pv 1) (pa_cons (pe_op op_add (pe_callB call_len_seq (by rfl) T.len PySem.boot_len (pa_cons (pe_ix ix_tup (pv 0) pe_int (fun _ _ => rfl)) pa_nil)) (pe_callB call_len_seq (by rfl) T.len PySem.boot_len (pa_cons (pe_ix ix_tup (pv 0) pe_int (fun _ _ => rfl)) pa_nil))) pa_nil))))
      (pss_cons (ps_set (i := 3) nd rfl (Or.inl rfl) (pe_callTy call_list_of (by rfl) T.list (by decide +kernel) (pa_cons (pe_ix ix_tup (pv 0) pe_int (fun _ _ => rfl)) pa_nil)))
      (pss_cons (ps_for PassesOwn.never rfl (pi_range1 (by rfl) T.range (pa_cons (pe_callB call_len_seq (by rfl) T.len PySem.boot_len (pa_cons (pv 3) pa_nil)) pa_nil)) (pg_name (i := 4) nd rfl (Or.inl rfl))
        (pss_one (ps_if (pt_cmpR op_eq (pe_op op_mod (pe_ix ix_list (pv 2) (pv 4) (fun _ _ => rfl)) pe_int) pe_int (nomark _)) (pss_one (ps_asg pe_str (pg_sub (pv 3) (pv 4) set_list))) pss_nil)))
      (pss_cons (ps_set (i := 5) nd rfl (Or.inl rfl) (pe_callTy call_list_of (by rfl) T.list (by decide +kernel) (pa_cons (pe_ix ix_tup (pv 0) pe_int (fun _ _ => rfl)) pa_nil)))
      (pss_cons (ps_for PassesOwn.never rfl (pi_range1 (by rfl) T.range (pa_cons (pe_callB call_len_seq (by rfl) T.len PySem.boot_len (pa_cons (pv 5) pa_nil)) pa_nil)) (pg_name (i := 6) nd rfl (Or.inl rfl))
        (pss_one (ps_if (pt_cmpR op_eq (pe_op op_mod (pe_ix ix_list (pv 2) (pe_op op_add (pe_callB call_len_seq (by rfl) T.len PySem.boot_len (pa_cons (pv 3) pa_nil)) (pv 6)) (fun _ _ => rfl)) pe_int) pe_int (nomark _)) (pss_one (ps_asg pe_str (pg_sub (pv 5) (pv 6) set_list))) pss_nil)))
      (pss_one (ps_ret (pe_tup (pa_cons (pe_callTy call_tuple_of (by rfl) T.tuple (by decide +kernel) (pa_cons (pv 3) pa_nil)) (pa_cons (pe_callTy call_tuple_of (by rfl) T.tuple (by decide +kernel) (pa_cons (pv 5) pa_nil)) pa_nil))))))))), ?_⟩
    refine ⟨_, rfl, _, rfl, t, _, _, _, rfl, rfl, SqT.of e1, rfl, m, _, rfl, .inr (SqT.of e2), _, rfl, t, _, _, _, rfl, rfl, SqT.of e1, rfl, tt, _, rfl, .inr (SqT.of e3), _, _, rfl, rfl, c, w'.recs.length + w'.pass.length, ?_, by omega, fun H1 ln ns s1 hnl en => ?_⟩
    · rw [hvl, hul]
      show [V.int c, V.int ((w'.recs.length : Int) + (w'.pass.length : Int))] = [V.int c, V.int (((w'.recs.length + w'.pass.length : Nat) : Int))]
      congr 2
    refine ⟨_, rfl, t, _, _, _, rfl, rfl, SqT.of (s1 _ _ e1), rfl, m, _, rfl, .inr (SqT.of (s1 _ _ e2)), fun lm hlm => ?_⟩
    have sm : Same H1 (upd H1 lm (.lst vs)) := same_upd hlm
    refine ⟨_, rfl, lm, _, rfl, .inl (SqL.of upd_same), _, rfl, by omega, by omega, ?_⟩
    rw [hvl]
    refine for_range (fun i σ H' => ∃ (x4 : Option V) (vs' : List V) (ens : List REnt), σ = [some (.ref t), some (.int c), some (.ref ln), some (.ref lm), x4, none, none] ∧ Same H1 H' ∧ vs'.length = w'.recs.length ∧ H' lm = some (.lst vs') ∧ All2 (RV H') vs' ens) ⟨none, vs, C.ms, rfl, sm, hvl, upd_same, a1.mono fun _ _ z => z.same (s1.trans sm)⟩ ?_ ?_
    · rintro i σ H2 hi ⟨x4, vs', ens, rfl, s2, hvl', el, al⟩
      have hi2 : i < w'.recs.length := hi
      have i1 : (0 + (i : Int)).toNat < ns.length := by omega
      refine ⟨_, rfl, _, rfl, ln, _, _, _, rfl, rfl, SqL.of (s2 _ _ en), int_at (by omega) i1, _, _, rfl, rfl, (by show (0 : Int) < 2; decide), rfl, _, rfl, ?_⟩
      by_cases c1 : V.int (ns[(0 + (i : Int)).toNat]'i1 % 2) = V.int 0
      · refine dT c1 ?_
        refine ⟨_, rfl, _, rfl, lm, _, _, i, rfl, rfl, el, by rw [Int.zero_add, hvl']; exact ixN_nat hi2, ?_⟩
        have kp := kp_off el (Off.wr (p := lm) (o := .lst (vs'.set i (.str "open"))) (by simp))
        refine ⟨_, vs'.set i (.str "open"), ens.set i .op, rfl, fun b o e => by rw [upd_ne (ne_of_none e hlm)]; exact s2 b o e, by rw [List.length_set]; exact hvl', upd_same, (al.mono fun _ _ z => z.kp kp).set rfl⟩
      · refine dF c1 ?_
        exact ⟨_, vs', ens, rfl, s2, hvl', el, al⟩
    rintro σ H2 ⟨x4, vs', ens, rfl, s2, hvl', el, al⟩
    have s02 := s1.trans s2
    refine ⟨_, rfl, t, _, _, _, rfl, rfl, SqT.of (s02 _ _ e1), rfl, tt, _, rfl, .inr (SqT.of (s02 _ _ e3)), fun lt hlt => ?_⟩
    have st : Same H2 (upd H2 lt (.lst us)) := same_upd hlt
    refine ⟨_, rfl, lt, _, rfl, .inl (SqL.of upd_same), _, rfl, by omega, by omega, ?_⟩
    rw [hul]
    refine for_range (fun i σ H' => ∃ (x4 x6 : Option V) (us' : List V) (ents : List PEnt), σ = [some (.ref t), some (.int c), some (.ref ln), some (.ref lm), x4, some (.ref lt), x6] ∧ Same H2 H' ∧ us'.length = w'.pass.length ∧ H' lt = some (.lst us') ∧ All2 PV us' ents) ⟨x4, none, us, C.ts, rfl, st, hul, upd_same, a2⟩ ?_ ?_
    · rintro i σ H3 hi ⟨y4, y6, us', ents, rfl, s3, hul', et, au⟩
      have hi2 : i < w'.pass.length := hi
      have i1 : ((vs'.length : Int) + (0 + (i : Int))).toNat < ns.length := by omega
      refine ⟨_, rfl, _, rfl, lm, _, rfl, .inl (SqL.of (s3 _ _ el)), _, rfl, _, _, rfl, rfl, ln, _, _, _, rfl, rfl, SqL.of (s3 _ _ (s2 _ _ en)), int_at (by omega) i1, _, _, rfl, rfl, (by show (0 : Int) < 2; decide), rfl, _, rfl, ?_⟩
      by_cases c1 : V.int (ns[((vs'.length : Int) + (0 + (i : Int))).toNat]'i1 % 2) = V.int 0
      · refine dT c1 ?_
        refine ⟨_, rfl, _, rfl, lt, _, _, i, rfl, rfl, et, by rw [Int.zero_add, hul']; exact ixN_nat hi2, ?_⟩
        refine ⟨_, _, us'.set i (.str "open"), ents.set i .op, rfl, fun b o e => by rw [upd_ne (ne_of_none e hlt)]; exact s3 b o e, by rw [List.length_set]; exact hul', upd_same, au.set rfl⟩
      · refine dF c1 ?_
        exact ⟨_, _, us', ents, rfl, s3, hul', et, au⟩
    · rintro σ H3 ⟨y4, y6, us', ents, rfl, s3, hul', et, au⟩
      refine ⟨_, rfl, lm, _, rfl, .inl ⟨SqL.of (s3 _ _ el), fun b1 hb1 => ?_⟩⟩
      have q1 : Same H3 (upd H3 b1 (.tup vs')) := same_upd hb1
      refine ⟨_, rfl, lt, _, rfl, .inl ⟨SqL.of (q1 _ _ et), fun b2 hb2 => ?_⟩⟩
      have q2 := same_upd (o := .tup us') hb2
      refine ⟨by show 2 ≤ sizeLine; decide, fun b3 hb3 => ?_⟩
      have q3 := same_upd (o := .tup [.ref b1, .ref b2]) hb3
      have q := (q1.trans q2).trans q3
      refine k _ b3 ⟨ens, ents⟩ (((s1.trans s2).trans s3).trans q) ⟨b1, b2, vs', us', upd_same, (q2.trans q3) _ _ upd_same, q3 _ _ upd_same, al.mono fun _ _ z => z.same (s3.trans q), au⟩ ⟨?_, ?_⟩
      · show ens.length = _
        rw [← al.len, hvl']
      · show ents.length = _
        rw [← au.len, hul']
end
end K59
set_option maxHeartbeats 4000000
/-! law -/
namespace K59
open PySem PySem.Spec PyProof.Rows L2 TL
theorem fit_ways {w : Wld} {C : Cs} {ch : Ch} (ok : WldOk w) (fit : Fit w C) (hop : ch.IsOpen C) : ∀ C' ∈ ways w C ch, Fit w C' := by
  intro C' hC'
  cases ch with
  | rcd i =>
    obtain ⟨r, hn⟩ := open_r fit hop
    rw [ways_r hn] at hC'
    obtain ⟨en, _, rfl⟩ := List.mem_map.mp hC'
    exact ⟨by show (C.ms.set i en).length = _; rw [List.length_set]; exact fit.m, fit.t⟩
  | pas i =>
    obtain ⟨p, hn⟩ := open_p fit hop
    have ok := ok.pass i p hn
    rw [ways_p hn (List.getElem?_eq_getElem ok.sta)] at hC'
    obtain ⟨en, _, rfl⟩ := List.mem_map.mp hC'
    exact ⟨fit.m, by show (C.ts.set i en).length = _; rw [List.length_set]; exact fit.t⟩
theorem ways_len {w : Wld} {C : Cs} {ch : Ch} (ok : WldOk w) (fit : Fit w C) (hop : ch.IsOpen C) : 0 < (ways w C ch).length ∧ (ways w C ch).length ≤ 200 := by
  cases ch with
  | rcd i =>
    obtain ⟨r, hn⟩ := open_r fit hop
    rw [ways_r hn, List.length_map]
    unfold waysR
    rw [List.length_cons, List.length_map]
    have := opts_few3 ok hn
    omega
  | pas i =>
    obtain ⟨p, hn⟩ := open_p fit hop
    have o := ok.pass i p hn
    have hs := List.getElem?_eq_getElem o.sta
    have ha := (ok.stas _ _ hs).antennas
    rw [ways_p hn hs, List.length_map]
    unfold waysP
    rw [List.length_cons, List.length_map, List.length_range]
    omega
/-- (kind, number) at p -/
def ChTup (H : Hp) (p : Addr) (ch : Ch) : Prop := H p = some (.tup [.str ch.word, .int (ch.at_ : Int)])
theorem BndAt.kp {H H' : Hp} {b : Addr} (h : BndAt H b) (k : Kp H H') : BndAt H' b := by
  obtain ⟨e, h1, h2⟩ := h
  exact ⟨e, k.tup _ _ h1, k.tup _ _ h2⟩
theorem PapAt.same {H H' : Hp} {t : Addr} {k : Bool} {n : Nat} (h : PapAt H t k n) (s : Same H H') : PapAt H' t k n := by
  obtain ⟨bs, q1, q2, q3⟩ := h
  exact ⟨bs, q1, fun b hb => (q2 b hb).kp s.kp, s _ _ q3⟩
theorem allB_yes {w : Wld} {Cs' : List Cs} {m : Int} (h : ∀ C ∈ Cs', bnd w C ≤ m) : allB w Cs' m true Cs'.length = true := by
  have h1 : (Cs'.all fun C => decide (bnd w C ≤ m)) = true := by
    rw [List.all_eq_true]
    exact fun C hC => decide_eq_true (h C hC)
  unfold allB
  rw [h1]
  simp
theorem allB_lt {w : Wld} {Cs' : List Cs} {m : Int} {n : Nat} {C : Cs} (hC : C ∈ Cs') (h : ¬ bnd w C ≤ m) : allB w Cs' m true n = false := by
  have h1 : (Cs'.all fun C => decide (bnd w C ≤ m)) = false := by
    rw [List.all_eq_false]
    exact ⟨C, hC, by rw [decide_eq_false h]; decide⟩
  unfold allB
  rw [h1]
  simp
theorem allB_ne {w : Wld} {Cs' : List Cs} {m : Int} {n : Nat} (h : n ≠ Cs'.length) : allB w Cs' m true n = false := by
  unfold allB
  rw [decide_eq_false h]
  rfl
/-- the choices found so far, at D -/
def ChSt (H0 : Hp) (D : Addr) (C : Cs) (i : Nat) (H : Hp) : Prop := Same H0 H ∧ ∃ (ps : List Addr) (chs : List Ch), H D = some (.lst (ps.map V.ref)) ∧ All2 (ChTup H) ps chs ∧ (∀ ch ∈ chs, ch.IsOpen C) ∧ chs.length ≤ i
theorem ChSt.keep {H0 H H' : Hp} {D : Addr} {C : Cs} {i : Nat} (h : ChSt H0 D C i H) (s : Same H H') : ChSt H0 D C (i + 1) H' := by
  obtain ⟨s0, ps, chs, e, al, ho, hl⟩ := h
  exact ⟨s0.trans s, ps, chs, s _ _ e, al.mono fun _ _ z => s _ _ z, ho, by omega⟩
theorem ChSt.push {H0 H : Hp} {D p : Addr} {C : Cs} {i : Nat} {ch : Ch} {acc : List V} (h : ChSt H0 D C i H) (hD : H0 D = none) (hp : H p = none) (hc : ch.IsOpen C) (ea : H D = some (.lst acc)) :
    ChSt H0 D C (i + 1) (upd (upd H p (.tup [.str ch.word, .int (ch.at_ : Int)])) D (.lst (acc ++ [V.ref p]))) := by
  obtain ⟨s0, ps, chs, e, al, ho, hl⟩ := h
  obtain rfl : acc = ps.map V.ref := by
    rw [e] at ea
    cases ea
    rfl
  have n : D ≠ p := ne_of_none e hp
  have k1 := (same_upd (o := .tup [.str ch.word, .int (ch.at_ : Int)]) hp).kp
  have k2 := kp_off (H := upd H p (.tup [.str ch.word, .int (ch.at_ : Int)])) (D := D) (H' := upd (upd H p (.tup [.str ch.word, .int (ch.at_ : Int)])) D (.lst (ps.map V.ref ++ [V.ref p]))) (by rw [upd_ne n]; exact e) (Off.wr (by simp))
  refine ⟨fun b o q => ?_, ps ++ [p], chs ++ [ch], by rw [upd_same, List.map_append]; rfl, (al.mono fun _ _ z => k2.tup _ _ (k1.tup _ _ z)).snoc (by show _ = _; rw [upd_ne n.symm]; exact upd_same), fun c hcm => ?_, by rw [List.length_append, List.length_singleton]; omega⟩
  · rw [upd_ne (ne_of_none q hD)]
    exact (s0.to hp) b o q
  · rcases List.mem_append.mp hcm with z | z
    · exact ho c z
    · rw [List.mem_singleton.mp z]
      exact hc
section
variable {P : Program} {w : World} {K : PySem.W.Frag} {mg : Str → Option Value} {base : Heap}
abbrev nLaw : List Str := ["_law_script", "_law_world_here", "_law_case_here", "_law_choices", "_law_kind", "_law_at", "_law_ways_here", "_law_most", "_law_papers", "_law_r", "_law_entry", "_law_p", "_law_way"]
theorem ok_law {f : Addr} {fd : FuncData} (F : Fun K "law" "law" sLaw f fd) (T : Tx K mg) (cC : Cal P w K mg base 1 "_law_cell" ["_law_script", "_law_k"] (spLCell K)) (cW : Cal P w K mg base 8 "_law_world" ["_law_script"] (spLWorld K))
    (cD : Cal P w K mg base 2 "_law_drawn" ["_law_world_here", "_law_cell_here"] (spLDrawn K)) (cA : Cal P w K mg base 2 "_law_case" ["_law_plan", "_law_cell_here"] (spLCase K)) (cY : Cal P w K mg base 2 "_law_ways" ["_law_world_here", "_law_case_here", "_law_kind", "_law_at"] (spLWays K))
    (cB : Cal P w K mg base 3 "_law_bound" ["_law_world_here", "_law_case_here", "_law_divisor", "_law_prices"] (spLBound K)) (cZ : Cal P w K mg base 10 "closes" ["world", "case", "weight", "paper"] (spCloses K)) :
    FnOk P w K mg base CX0 11 f fd ["_law_script"] (spLaw K) := by
  refine F.ok scLaw (fun vs H Q E h => ?_) (fun cdv A outer s H vs Q E hr h => ?_)
  · obtain ⟨a, ns, rfl, _⟩ := h
    rfl
  · obtain ⟨a, ns, rfl, hs, hns, k⟩ := h
    have nd := scLaw.nd
    refine ⟨_, pss_cons (ps_set (i := 1) nd rfl (Or.inr rfl) (pe_f cW (hr.mono (by decide)) (pa_cons (pv 0) pa_nil)))
      (pss_cons (ps_set (i := 2) nd rfl (Or.inl rfl) (pe_f cA (hr.mono (by decide)) (pa_cons (pe_f cD (hr.mono (by decide)) (pa_cons (pv 1) (pa_cons (pe_f cC (hr.mono (by decide)) (pa_cons (pv 0) (pa_cons pe_int pa_nil))) pa_nil))) (pa_cons (pe_f cC (hr.mono (by decide)) (pa_cons (pv 0) (pa_cons pe_int pa_nil))) pa_nil))))
      (pss_cons (ps_setLc (i := 3) (own := [("_law_r", 9), ("_law_entry", 10)]) (g := gTup K 2 (gCons (gName 9) (gCons (gName 10) gNil))) rfl nd rfl rfl (sw_true rfl rfl rfl (by decide +kernel)) (pi_enumT (by rfl) T.enumerate (pa_cons (pe_ix ix_tup (pv 2) pe_int (fun _ _ => rfl)) pa_nil))
        (blkOk_by (own := [("_law_r", 9), ("_law_entry", 10)]) (N := nLaw) (sc := defScope sLaw) (by decide +kernel)) (fun _ _ _ _ _ => pg_tup rfl (pgs_cons (pg_name (i := 9) nd rfl (Or.inl rfl)) (pgs_cons (pg_name (i := 10) nd rfl (Or.inl rfl)) pgs_nil)))
        (tt := tTest (tOp (rEqD K) (tVar 10) (tC (.str "open")))) (fun _ _ _ _ _ => pts_one (pt_cmpR (op_eqD hr.units) (pv 10) pe_str (nomark _))) (fun _ _ _ _ _ => pe_tup (pa_cons pe_str (pa_cons (pv 9) pa_nil))))
      (pss_cons (ps_set (i := 3) nd rfl (Or.inl rfl) (pe_op op_cat (pv 3) (pe_lc (own := [("_law_p", 11), ("_law_entry", 10)]) (g := gTup K 2 (gCons (gName 11) (gCons (gName 10) gNil))) rfl nd (pi_enumT (by rfl) T.enumerate (pa_cons (pe_ix ix_tup (pv 2) pe_int (fun _ _ => rfl)) pa_nil))
        (blkOk_by (own := [("_law_p", 11), ("_law_entry", 10)]) (N := nLaw) (sc := defScope sLaw) (by decide +kernel)) (fun _ _ _ _ _ => pg_tup rfl (pgs_cons (pg_name (i := 11) nd rfl (Or.inl rfl)) (pgs_cons (pg_name (i := 10) nd rfl (Or.inl rfl)) pgs_nil)))
        (tt := tTest (tOp (rEqD K) (tVar 10) (tC (.str "open")))) (fun _ _ _ _ _ => pts_one (pt_cmpR (op_eqD hr.units) (pv 10) pe_str (nomark _))) (fun _ _ _ _ _ => pe_tup (pa_cons pe_str (pa_cons (pv 11) pa_nil))))))
      (pss_cons (ps_for PassesOwn.never rfl (pi_list (pv 3)) (pg_tup rfl (pgs_cons (pg_name (i := 4) nd rfl (Or.inl rfl)) (pgs_cons (pg_name (i := 5) nd rfl (Or.inl rfl)) pgs_nil)))
        (pss_cons (ps_set (i := 6) nd rfl (Or.inl rfl) (pe_f cY (hr.mono (by decide)) (pa_cons (pv 1) (pa_cons (pv 2) (pa_cons (pv 4) (pa_cons (pv 5) pa_nil))))))
        (pss_cons (ps_set (i := 7) nd rfl (Or.inl rfl) (pe_callB (cr_max rfl) (by rfl) T.max (by decide +kernel) (pa_cons (pe_lc (own := [("_law_way", 12)]) (g := gName 12) (tt := tYes) (te := tCall (spLBound K) [] E0 (tCons (tVar 1) (tCons (tVar 12) (tCons (tC (.int 1)) (tCons (tTup tNil) tNil))))) rfl nd (pi_list (pv 6))
          (blkOk_by (own := [("_law_way", 12)]) (N := nLaw) (sc := defScope sLaw) (by decide +kernel)) (fun _ _ _ _ _ => pg_name (i := 12) nd rfl (Or.inl rfl)) (fun _ _ _ _ _ => pts_nil) (fun _ _ _ _ _ => pe_f cB (hr.mono (by decide)) (pa_cons (pv 1) (pa_cons (pv 12) (pa_cons pe_int (pa_cons (pe_tup pa_nil) pa_nil)))))) pa_nil)))
        (pss_cons (ps_set (i := 8) nd rfl (Or.inl rfl) (pe_callTy call_tuple_of (by rfl) T.tuple (by decide +kernel) (pa_cons (pe_lc (own := [("_law_way", 12)]) (g := gName 12) (tt := tYes) rfl nd (pi_list (pv 6))
          (blkOk_by (own := [("_law_way", 12)]) (N := nLaw) (sc := defScope sLaw) (by decide +kernel)) (fun _ _ _ _ _ => pg_name (i := 12) nd rfl (Or.inl rfl)) (fun _ _ _ _ _ => pts_nil) (fun _ _ _ _ _ => pe_tup (pa_cons pe_str (pa_cons pe_int (pa_cons (pe_tup pa_nil) pa_nil))))) pa_nil)))
        (pss_cons (ps_if (pt_cmpR op_isnot_bl (pe_f cZ hr (pa_cons (pv 1) (pa_cons (pv 2) (pa_cons (pv 7) (pa_cons (pe_tup (pa_cons (pv 4) (pa_cons (pv 5) (pa_cons (pv 8) pa_nil)))) pa_nil))))) pe_bl (nomark _)) pss_never pss_nil)
        (pss_cons (ps_if (pt_cmpR op_isnot_bl (pe_f cZ hr (pa_cons (pv 1) (pa_cons (pv 2) (pa_cons (pe_op op_sub (pv 7) pe_int) (pa_cons (pe_tup (pa_cons (pv 4) (pa_cons (pv 5) (pa_cons (pv 8) pa_nil)))) pa_nil))))) pe_bl (nomark _)) pss_never pss_nil)
        (pss_cons (ps_if (pt_cmpR op_isnot_bl (pe_f cZ hr (pa_cons (pv 1) (pa_cons (pv 2) (pa_cons (pv 7) (pa_cons (pe_tup (pa_cons (pv 4) (pa_cons (pv 5) (pa_cons (pe_slice sl_tupA (pv 8) (po_some pe_int) po_none) pa_nil)))) pa_nil))))) pe_bl (nomark _)) pss_never pss_nil)
        (pss_cons (ps_if (pt_cmpR op_isnot_bl (pe_f cZ hr (pa_cons (pv 1) (pa_cons (pv 2) (pa_cons (pv 7) (pa_cons (pe_tup (pa_cons (pv 4) (pa_cons (pv 5) (pa_cons (pe_op op_catA (pv 8) (pe_slice sl_tupA (pv 8) po_none (po_some pe_int))) pa_nil)))) pa_nil))))) pe_bl (nomark _)) pss_never pss_nil)
        (pss_one (ps_if (pt_cmpR op_isnot_bl (pe_f cZ hr (pa_cons (pv 1) (pa_cons (pv 2) (pa_cons (pv 7) (pa_cons (pe_tup (pa_cons (pv 4) (pa_cons (pv 5) (pa_cons (pe_callTy call_list_of (by rfl) T.list (by decide +kernel) (pa_cons (pv 8) pa_nil)) pa_nil)))) pa_nil))))) pe_bl (nomark _)) pss_never pss_nil))))))))))
      (pss_one (ps_ret pe_bl)))))), ?_⟩
    refine ⟨_, rfl, a, ns, rfl, hs, fun H1 W w' s1 hW => ?_⟩
    have wok := hW.ok
    refine ⟨_, rfl, _, rfl, a, ns, 20, rfl, s1.seq hs, by decide, fun c1 => ⟨W, w', c1, rfl, hW, fun H2 t0 C0 s2 hC0 fit0 => ⟨_, rfl, a, ns, 21, rfl, (s1.trans s2).seq hs, by decide, fun c2 => ⟨w', t0, C0, c2, rfl, hC0, fit0, wok, fun H3 c C s3 hC fit => ?_⟩⟩⟩⟩
    have hW3 := hW.same (s2.trans s3)
    clear hW hC0 fit0
    obtain ⟨m, t, vs, us, e1, e2, e3, a1, a2⟩ := hC.ex
    have hvl : vs.length = w'.recs.length := by rw [a1.len, fit.m]
    have hul : us.length = w'.pass.length := by rw [a2.len, fit.t]
    have hnr := wok.nrecs
    have hnp := wok.npass
    -- the choices
    refine ⟨_, rfl, c, _, _, _, rfl, rfl, SqT.of e1, rfl, m, _, rfl, SqT.of e2, fun D hD => ?_⟩
    refine lc_it (walk_enumT (K := K) (a := m) (xs := vs)) (ChSt H3 D C) ⟨same_upd hD, [], [], upd_same, All2.nil, fun ch hch => absurd hch (by simp), Nat.le_refl 0⟩ (fun i H' _ h => SqT.of (h.1 _ _ e2)) ?_ ?_
    · rintro i v H4 H5 hi h4 ⟨TT, vi, vq, rfl, hTT, rfl, hvi, hvq⟩
      obtain rfl : vi = V.int (i : Int) := (Option.some.inj hvi).symm
      obtain ⟨en, hen, hrv⟩ := a1.getL (show vs[i]? = some vq from hvq)
      have s45 := same_upd (o := .tup [.int (i : Int), vq]) hTT
      have s35 := h4.1.trans s45
      have h5 : ChSt H3 D C i (upd H4 TT (.tup [.int (i : Int), vq])) := by
        obtain ⟨q0, ps, chs, q1, q2, q3, q4⟩ := h4
        exact ⟨s35, ps, chs, s45 _ _ q1, q2.mono fun _ _ z => s45 _ _ z, q3, q4⟩
      refine ⟨TT, _, rfl, SqT.of upd_same, rfl, _, _, rfl, _, _, rfl, rfl, rfl, ?_⟩
      cases en with
      | none =>
        obtain rfl : vq = .non := hrv
        refine ⟨_, rfl, _, _, .non, .str _, rfl, by decide +kernel, _, rfl, bF rfl ?_⟩
        exact h4.keep s45
      | op =>
        obtain rfl : vq = .str "open" := hrv
        refine ⟨_, rfl, _, _, .str _, .str _, by decide +kernel, by decide +kernel, _, rfl, bT (by decide +kernel) ?_⟩
        refine ⟨_, rfl, by show 2 ≤ sizeLine; decide, fun p hp => ?_⟩
        obtain ⟨q0, ps, chs, q1, q2, q3, q4⟩ := h5
        exact ⟨_, (same_upd hp) _ _ q1, by rw [List.length_map, q2.len]; exact lt_line (by omega), ChSt.push (ch := .rcd i) ⟨q0, ps, chs, q1, q2, q3, q4⟩ hD hp hen q1⟩
      | opt x y =>
        obtain ⟨tt, rfl, ett⟩ := hrv
        refine ⟨_, rfl, _, _, .tup (SqT.of (s35 _ _ ett)) (.cons (.int _) (.cons (.int _) .nil)), .str _, rfl, by decide +kernel, _, rfl, bF rfl ?_⟩
        exact h4.keep s45
    intro H4 h4
    have s34 := h4.1
    refine ⟨_, rfl, _, rfl, c, _, _, _, rfl, rfl, SqT.of (s34 _ _ e1), rfl, t, _, rfl, SqT.of (s34 _ _ e3), fun D2 hD2 => ?_⟩
    refine lc_it (walk_enumT (K := K) (a := t) (xs := us)) (ChSt H4 D2 C) ⟨same_upd hD2, [], [], upd_same, All2.nil, fun ch hch => absurd hch (by simp), Nat.le_refl 0⟩ (fun i H' _ h => SqT.of (h.1 _ _ (s34 _ _ e3))) ?_ ?_
    · rintro i v H5 H6 hi h5 ⟨TT, vi, vq, rfl, hTT, rfl, hvi, hvq⟩
      obtain rfl : vi = V.int (i : Int) := (Option.some.inj hvi).symm
      obtain ⟨en, hen, hrv⟩ := a2.getL (show us[i]? = some vq from hvq)
      have s56 := same_upd (o := .tup [.int (i : Int), vq]) hTT
      have s46 := h5.1.trans s56
      have h6 : ChSt H4 D2 C i (upd H5 TT (.tup [.int (i : Int), vq])) := by
        obtain ⟨q0, ps, chs, q1, q2, q3, q4⟩ := h5
        exact ⟨s46, ps, chs, s56 _ _ q1, q2.mono fun _ _ z => s56 _ _ z, q3, q4⟩
      refine ⟨TT, _, rfl, SqT.of upd_same, rfl, _, _, rfl, _, _, rfl, rfl, rfl, ?_⟩
      cases en with
      | none =>
        obtain rfl : vq = .non := hrv
        refine ⟨_, rfl, _, _, .non, .str _, rfl, by decide +kernel, _, rfl, bF rfl ?_⟩
        exact h5.keep s56
      | op =>
        obtain rfl : vq = .str "open" := hrv
        refine ⟨_, rfl, _, _, .str _, .str _, by decide +kernel, by decide +kernel, _, rfl, bT (by decide +kernel) ?_⟩
        refine ⟨_, rfl, by show 2 ≤ sizeLine; decide, fun p hp => ?_⟩
        obtain ⟨q0, ps, chs, q1, q2, q3, q4⟩ := h6
        exact ⟨_, (same_upd hp) _ _ q1, by rw [List.length_map, q2.len]; exact lt_line (by omega), ChSt.push (ch := .pas i) ⟨q0, ps, chs, q1, q2, q3, q4⟩ hD2 hp hen q1⟩
      | ant x =>
        obtain rfl : vq = .int x := hrv
        refine ⟨_, rfl, _, _, .int _, .str _, rfl, by decide +kernel, _, rfl, bF rfl ?_⟩
        exact h5.keep s56
    intro H5 h5
    obtain ⟨_, ps1, chs1, d1, d2, d3, d4⟩ := h4
    obtain ⟨s45, ps2, chs2, f1, f2, f3, f4⟩ := h5
    have hps1 := d2.len
    have hps2 := f2.len
    refine ⟨D, D2, _, _, rfl, rfl, s45 _ _ d1, f1, by rw [List.length_map, List.length_map]; exact small5 (by omega), fun D3 hD3 => ?_⟩
    have s56 := same_upd (o := .lst (ps1.map V.ref ++ ps2.map V.ref)) hD3
    have s36 := (s34.trans s45).trans s56
    have eall : (upd H5 D3 (.lst (ps1.map V.ref ++ ps2.map V.ref))) D3 = some (.lst ((ps1 ++ ps2).map V.ref)) := by rw [upd_same, List.map_append]
    have hall : ∀ (i : Nat) (p : Addr), (ps1 ++ ps2)[i]? = some p → ∃ ch : Ch, ChTup (upd H5 D3 (.lst (ps1.map V.ref ++ ps2.map V.ref))) p ch ∧ ch.IsOpen C := by
      intro i p hp
      rcases List.mem_append.mp (List.mem_of_getElem? hp) with z | z
      · obtain ⟨j, hj⟩ := List.mem_iff_getElem?.mp z
        obtain ⟨ch, hch, q⟩ := d2.getL hj
        exact ⟨ch, s56 _ _ (s45 _ _ q), d3 ch (List.mem_of_getElem? hch)⟩
      · obtain ⟨j, hj⟩ := List.mem_iff_getElem?.mp z
        obtain ⟨ch, hch, q⟩ := f2.getL hj
        exact ⟨ch, s56 _ _ q, f3 ch (List.mem_of_getElem? hch)⟩
    generalize ps1 ++ ps2 = ps at eall hall
    generalize upd H5 D3 (.lst (ps1.map V.ref ++ ps2.map V.ref)) = H6 at eall hall s36 ⊢
    refine ⟨_, rfl, D3, rfl, ⟨_, SqL.of eall⟩, ?_⟩
    refine for_list (K := K) (a := D3) (xs := ps.map V.ref) (fun i σ H' => (∃ x4 x5 x6 x7 x8 : Option V, σ = [some (.ref a), some (.ref W.a), some (.ref c), some (.ref D3), x4, x5, x6, x7, x8, none, none, none, none]) ∧ Same H6 H') ⟨⟨none, none, none, none, none, rfl⟩, fun _ _ z => z⟩ (fun i σ H' _ h => SqL.of (h.2 _ _ eall)) ?_ ?_
    · rintro i x σ H7 hx ⟨⟨x4, x5, x6, x7, x8, rfl⟩, s67⟩
      rw [List.getElem?_map] at hx
      cases hpi : ps[i]? with
      | none => rw [hpi] at hx; cases hx
      | some p =>
      rw [hpi] at hx
      cases hx
      obtain ⟨ch, hch, hop⟩ := hall i p hpi
      have s37 := s36.trans s67
      have hwl := ways_len wok fit hop
      refine ⟨p, _, rfl, SqT.of (s67 _ _ hch), rfl, _, _, rfl, _, _, rfl, rfl, ?_⟩
      refine ⟨_, rfl, _, rfl, _, rfl, _, rfl, W, w', c, C, ch, rfl, hW3.same s37, hC.same s37, fit, hop, fun H8 l ls s78 el al => ?_⟩
      have s38 := s37.trans s78
      have hll := al.len
      -- the greatest bound
      refine ⟨_, rfl, l, rfl, ⟨_, SqL.of el⟩, fun D4 hD4 => ?_⟩
      refine lc_map (walk_list (K := K) (a := l) (xs := ls.map V.ref)) (ways w' C ch) (fun _ v C' => v = V.int (bnd w' C')) hD4 (by rw [List.length_map, hll]) (by rw [List.length_map]; omega) (fun H' s => SqL.of (s _ _ el)) (fun _ _ _ _ _ _ z => z) ?_ ?_
      · rintro j C' x Ha Hb Cn Z hb sB _ ⟨rfl, hx⟩ hCn
        obtain ⟨q, hq, cq⟩ := al.get hb
        rw [List.getElem?_map, hq] at hx
        cases hx
        have s3a := s38.trans sB
        refine ⟨rfl, yesI ⟨_, rfl, _, rfl, by decide, fun e0 he0 => ?_⟩⟩
        have se := same_upd (o := .tup []) he0
        exact ⟨W, w', q, e0, C', rfl, hW3.same (s3a.trans se), (cq.same sB).same se, fit_ways wok fit hop C' (List.mem_of_getElem? hb), upd_same, fun Hc sc => hCn _ _ (se.trans sc) rfl⟩
      intro H9 ys s89 e9 al9
      have e9' : H9 D4 = some (.lst (((ways w' C ch).map (bnd w')).map V.int)) := by rw [e9, all2_map al9, List.map_map]; rfl
      refine ⟨D4, _, rfl, SqL.of e9', by rw [List.length_map]; exact hwl.1, fun mm hm1 hm2 => ?_⟩
      obtain ⟨Cm, hCm, hmm⟩ := List.mem_map.mp hm1
      have hmax : ∀ C' ∈ ways w' C ch, bnd w' C' ≤ mm := fun C' h => hm2 _ (List.mem_map.mpr ⟨C', h, rfl⟩)
      have s39 := s38.trans s89
      -- the papers
      refine ⟨_, rfl, l, rfl, ⟨_, SqL.of (s89 _ _ el)⟩, fun D5 hD5 => ?_⟩
      refine lc_map (walk_list (K := K) (a := l) (xs := ls.map V.ref)) (ways w' C ch) (fun H v _ => ∃ b, v = V.ref b ∧ BndAt H b) hD5 (by rw [List.length_map, hll]) (by rw [List.length_map]; omega) (fun H' s => SqL.of (s _ _ (s89 _ _ el))) (fun H H' v b e o z => by
        obtain ⟨acc, e⟩ := e
        obtain ⟨bb, q1, q2⟩ := z
        exact ⟨bb, q1, q2.kp (kp_off e o)⟩) ?_ ?_
      · rintro j C' x Ha Hb Cn Z hb sB _ ⟨rfl, hx⟩ hCn
        refine ⟨rfl, yesI ⟨by decide, fun e0 he0 => ⟨by show 3 ≤ sizeLine; decide, fun b0 hb0 => ?_⟩⟩⟩
        have q1 := same_upd (o := .tup []) he0
        have q2 := same_upd (o := .tup [.str "bound", .int 1, .ref e0]) hb0
        exact hCn _ _ (q1.trans q2) ⟨b0, rfl, e0, upd_same, q2 _ _ upd_same⟩
      intro H10 ys s910 e10 al10
      obtain ⟨bs, rfl, al11⟩ := all2_ref al10
      have hbl : bs.length = (ways w' C ch).length := al11.len
      have hbs : ∀ b ∈ bs, BndAt H10 b := fun b hb => by
        obtain ⟨j, hj⟩ := List.mem_iff_getElem?.mp hb
        obtain ⟨_, _, q⟩ := al11.getL hj
        exact q
      refine ⟨D5, _, rfl, .inl ⟨SqL.of e10, fun t8 ht8 => ?_⟩⟩
      have s1011 := same_upd (o := .tup (bs.map V.ref)) ht8
      have s311 := (s39.trans s910).trans s1011
      have et8 : (upd H10 t8 (.tup (bs.map V.ref))) t8 = some (.tup (bs.map V.ref)) := upd_same
      have hbs' : ∀ b ∈ bs, BndAt (upd H10 t8 (.tup (bs.map V.ref))) b := fun b hb => (hbs b hb).kp s1011.kp
      have s711 : Same H7 (upd H10 t8 (.tup (bs.map V.ref))) := ((s78.trans s89).trans s910).trans s1011
      generalize upd H10 t8 (.tup (bs.map V.ref)) = H11 at et8 hbs' s311 s711 ⊢
      have pap : PapAt H11 t8 true (ways w' C ch).length := ⟨bs, hbl, hbs', et8⟩
      -- as they are
      refine ⟨_, rfl, _, rfl, _, rfl, _, rfl, _, rfl, _, rfl, by show 3 ≤ sizeLine; decide, fun b1 hb1 => ?_⟩
      have q1 := same_upd (o := .tup [.str ch.word, .int (ch.at_ : Int), .ref t8]) hb1
      refine ⟨W, w', c, b1, t8, C, ch, mm, true, _, rfl, hW3.same (s311.trans q1), hC.same (s311.trans q1), fit, hop, upd_same, pap.same q1, fun H12 r1 => ?_⟩
      rw [allB_yes hmax]
      refine ⟨_, _, rfl, rfl, _, rfl, bF (by decide) ?_⟩
      have s12 := q1.trans r1
      -- the weight one less
      refine ⟨_, rfl, _, rfl, _, rfl, _, _, rfl, rfl, _, rfl, _, rfl, _, rfl, by show 3 ≤ sizeLine; decide, fun b2 hb2 => ?_⟩
      have q2 := same_upd (o := .tup [.str ch.word, .int (ch.at_ : Int), .ref t8]) hb2
      have s12' := s12.trans q2
      refine ⟨W, w', c, b2, t8, C, ch, mm - 1, true, _, rfl, hW3.same (s311.trans s12'), hC.same (s311.trans s12'), fit, hop, upd_same, pap.same s12', fun H13 r2 => ?_⟩
      rw [allB_lt hCm (by omega)]
      refine ⟨_, _, rfl, rfl, _, rfl, bF (by decide) ?_⟩
      have s13 := s12'.trans r2
      -- a paper left out
      refine ⟨_, rfl, _, rfl, _, rfl, _, rfl, _, rfl, _, rfl, 1, rfl, ?_⟩
      unfold tNoPart
      show rSlA _ _ _ _ _ _
      refine sl_tr (s13 _ _ et8) fun t9 H14 r3 e14 => ?_
      refine ⟨by show 3 ≤ sizeLine; decide, fun b3 hb3 => ?_⟩
      have ecut : cutV (bs.map V.ref) (some 1) none = (bs.drop 1).map V.ref := by
        have := cut_drop (xs := bs.map V.ref) (i := 1)
        rw [List.map_drop]
        exact this
      rw [ecut] at e14
      have s14 := s13.trans r3
      have q3 := same_upd (o := .tup [.str ch.word, .int (ch.at_ : Int), .ref t9]) hb3
      have s14' := s14.trans q3
      have pap9 : PapAt H14 t9 true (bs.drop 1).length := ⟨bs.drop 1, rfl, fun b hb => (hbs' b (List.mem_of_mem_drop hb)).kp s14.kp, e14⟩
      refine ⟨W, w', c, b3, t9, C, ch, mm, true, _, rfl, hW3.same (s311.trans s14'), hC.same (s311.trans s14'), fit, hop, upd_same, pap9.same q3, fun H15 r4 => ?_⟩
      rw [allB_ne (by rw [List.length_drop]; omega)]
      refine ⟨_, _, rfl, rfl, _, rfl, bF (by decide) ?_⟩
      have s15 := s14'.trans r4
      -- one too many
      refine ⟨_, rfl, _, rfl, _, rfl, _, rfl, _, rfl, _, rfl, _, rfl, ?_⟩
      refine ⟨1, rfl, ?_⟩
      refine sl_tr (s15 _ _ et8) fun t10 H16 r5 e16 => ?_
      have ecut2 : cutV (bs.map V.ref) none (some 1) = (bs.take 1).map V.ref := by
        have := cut_take (xs := bs.map V.ref) (i := 1)
        rw [List.map_take]
        exact this
      rw [ecut2] at e16
      have s16 := s15.trans r5
      refine cat_tr (s16 _ _ et8) e16 (by rw [List.length_map, List.length_map, List.length_take]; omega) fun t11 H17 r6 e17 => ?_
      rw [← List.map_append] at e17
      have s17 := s16.trans r6
      refine ⟨by show 3 ≤ sizeLine; decide, fun b4 hb4 => ?_⟩
      have q4 := same_upd (o := .tup [.str ch.word, .int (ch.at_ : Int), .ref t11]) hb4
      have s17' := s17.trans q4
      have pap11 : PapAt H17 t11 true (bs ++ bs.take 1).length := ⟨bs ++ bs.take 1, rfl, fun b hb => (hbs' b ((List.mem_append.mp hb).elim id List.mem_of_mem_take)).kp s17.kp, e17⟩
      refine ⟨W, w', c, b4, t11, C, ch, mm, true, _, rfl, hW3.same (s311.trans s17'), hC.same (s311.trans s17'), fit, hop, upd_same, pap11.same q4, fun H18 r7 => ?_⟩
      rw [allB_ne (by rw [List.length_append, List.length_take]; omega)]
      refine ⟨_, _, rfl, rfl, _, rfl, bF (by decide) ?_⟩
      have s18 := s17'.trans r7
      -- a list of papers
      refine ⟨_, rfl, _, rfl, _, rfl, _, rfl, _, rfl, _, rfl, t8, _, rfl, .inr (SqT.of (s18 _ _ et8)), fun l9 hl9 => ?_⟩
      have q5 := same_upd (o := .lst (bs.map V.ref)) hl9
      refine ⟨by show 3 ≤ sizeLine; decide, fun b5 hb5 => ?_⟩
      have q6 := same_upd (o := .tup [.str ch.word, .int (ch.at_ : Int), .ref l9]) hb5
      have s19 := s18.trans q5
      have s19' := s19.trans q6
      have papl : PapAt (upd H18 l9 (.lst (bs.map V.ref))) l9 false bs.length := ⟨bs, rfl, fun b hb => (hbs' b hb).kp s19.kp, upd_same⟩
      refine ⟨W, w', c, b5, l9, C, ch, mm, false, _, rfl, hW3.same (s311.trans s19'), hC.same (s311.trans s19'), fit, hop, upd_same, papl.same q6, fun H20 r8 => ?_⟩
      refine ⟨_, _, rfl, rfl, _, rfl, bF (by rfl) ?_⟩
      exact ⟨⟨_, _, _, _, _, rfl⟩, s67.trans (s711.trans (s19'.trans r8))⟩
    · rintro σ H7 ⟨_, _⟩
      exact k H7
end
end K59
set_option maxHeartbeats 0
/-! The head: what the top leaves, read by a hook (printed by gen_head.py) -/
namespace K59
open PySem PySem.Spec PyProof.Rows L2
def names0 : List PySem.Str := ["PassError", "TextFault", "BadPlan", "BadRow", "BadPrice", "DIGITS", "LETTERS", "MOST_DIGITS", "MOST_NAME", "is_number", "is_number_words", "is_name", "Line", "lines_of", "OPEN", "check_case", "with_made", "with_taken", "meet", "lengthened", "has_minute", "minutes_within", "MOST", "Satellite", "Station", "Recording", "Pass", "names_of", "Draft", "World"]
def names1 : List PySem.Str := ["KINDS", "read_line", "read_satellite", "read_recording", "read_pass", "world_text", "found_options", "options", "light_minutes", "is_number_rows", "check_minutes", "check_row", "is_within", "spends_within", "recording_part", "pass_part", "right_side", "base_of", "recording_weight", "is_amount", "check_prices", "recording_gain", "pass_gain", "best_recording", "recording_term", "pass_term", "bound", "made_here", "has_antenna", "taken_here"]
def names2 : List PySem.Str := ["held_spans", "spending", "recording_breaches", "sent_sizes", "pass_breaches", "turn_breaches", "busy_things", "busy_breaches", "first_overfull", "first_empty", "level_breaches", "case_breaches", "is_index", "are_prices", "closes_by_prices", "recording_cases", "pass_cases", "split_cases", "closes_all", "closes", "_law_cell", "_law_draws", "_law_satellite", "_law_recording", "_law_pass", "_law_text", "_law_world", "_law_options", "_law_drawn", "_law_recording_weight"]
def names3 : List PySem.Str := ["_law_recording_part", "_law_pass_part", "_law_right", "_law_gain", "_law_bound", "_law_case", "_law_ways"]
def names : List PySem.Str := names0 ++ names1 ++ names2 ++ names3

def hd0 : He5.DefA := ⟨fun K => He.ga K "is_number_words", "is_number", "is_number", defArgs sIsNumber, defBody sIsNumber, defScope sIsNumber, [], []⟩
def hd1 : He5.DefA := ⟨fun K => He.ga K "is_name", "is_name", "is_name", defArgs sIsName, defBody sIsName, defScope sIsName, [], []⟩
def hd2 : He5.DefA := ⟨fun K => He.ga K "lines_of", "lines_of", "lines_of", defArgs sLinesOf, defBody sLinesOf, defScope sLinesOf, [], []⟩
def hd3 : He5.DefA := ⟨fun K => He.ga K "with_made", "with_made", "with_made", defArgs sWithMade, defBody sWithMade, defScope sWithMade, [], []⟩
def hd4 : He5.DefA := ⟨fun K => He.ga K "with_taken", "with_taken", "with_taken", defArgs sWithTaken, defBody sWithTaken, defScope sWithTaken, [], []⟩
def hd5 : He5.DefA := ⟨fun K => He.ga K "names_of", "names_of", "names_of", defArgs sNamesOf, defBody sNamesOf, defScope sNamesOf, [], []⟩
def hd6 : He5.DefA := ⟨fun K => He.ga K "read_line", "read_line", "read_line", defArgs sReadLine, defBody sReadLine, defScope sReadLine, [], []⟩
def hd7 : He5.DefA := ⟨fun K => He.ga K "read_satellite", "read_satellite", "read_satellite", defArgs sReadSatellite, defBody sReadSatellite, defScope sReadSatellite, [], []⟩
def hd8 : He5.DefA := ⟨fun K => He.ga K "read_recording", "read_recording", "read_recording", defArgs sReadRecording, defBody sReadRecording, defScope sReadRecording, [], []⟩
def hd9 : He5.DefA := ⟨fun K => He.ga K "read_pass", "read_pass", "read_pass", defArgs sReadPass, defBody sReadPass, defScope sReadPass, [], []⟩
def hd10 : He5.DefA := ⟨fun K => He.ga K "world_text", "world_text", "world_text", defArgs sWorldText, defBody sWorldText, defScope sWorldText, [], []⟩
def hd11 : He5.DefA := ⟨fun K => He.ga K "found_options", "found_options", "found_options", defArgs sFoundOptions, defBody sFoundOptions, defScope sFoundOptions, [], []⟩
def hd12 : He5.DefA := ⟨fun K => He.ga K "options", "options", "options", defArgs sOptions, defBody sOptions, defScope sOptions, [], []⟩
def hd13 : He5.DefA := ⟨fun K => He.ga K "base_of", "base_of", "base_of", defArgs sBaseOf, defBody sBaseOf, defScope sBaseOf, [], []⟩
def hd14 : He5.DefA := ⟨fun K => He.ga K "recording_weight", "recording_weight", "recording_weight", defArgs sRecordingWeight, defBody sRecordingWeight, defScope sRecordingWeight, [], []⟩
def hd15 : He5.DefA := ⟨fun K => He.ga K "is_amount", "is_amount", "is_amount", defArgs sIsAmount, defBody sIsAmount, defScope sIsAmount, [], []⟩
def hd16 : He5.DefA := ⟨fun K => He.ga K "check_prices", "check_prices", "check_prices", defArgs sCheckPrices, defBody sCheckPrices, defScope sCheckPrices, [], []⟩
def hd17 : He5.DefA := ⟨fun K => He.ga K "recording_gain", "recording_gain", "recording_gain", defArgs sRecordingGain, defBody sRecordingGain, defScope sRecordingGain, [], []⟩
def hd18 : He5.DefA := ⟨fun K => He.ga K "pass_gain", "pass_gain", "pass_gain", defArgs sPassGain, defBody sPassGain, defScope sPassGain, [], []⟩
def hd19 : He5.DefA := ⟨fun K => He.ga K "best_recording", "best_recording", "best_recording", defArgs sBestRecording, defBody sBestRecording, defScope sBestRecording, [], []⟩
def hd20 : He5.DefA := ⟨fun K => He.ga K "recording_term", "recording_term", "recording_term", defArgs sRecordingTerm, defBody sRecordingTerm, defScope sRecordingTerm, [], []⟩
def hd21 : He5.DefA := ⟨fun K => He.ga K "pass_term", "pass_term", "pass_term", defArgs sPassTerm, defBody sPassTerm, defScope sPassTerm, [], []⟩
def hd22 : He5.DefA := ⟨fun K => He.ga K "bound", "bound", "bound", defArgs sBound, defBody sBound, defScope sBound, [], []⟩
def hd23 : He5.DefA := ⟨fun K => He.ga K "is_index", "is_index", "is_index", defArgs sIsIndex, defBody sIsIndex, defScope sIsIndex, [], []⟩
def hd24 : He5.DefA := ⟨fun K => He.ga K "are_prices", "are_prices", "are_prices", defArgs sArePrices, defBody sArePrices, defScope sArePrices, [], []⟩
def hd25 : He5.DefA := ⟨fun K => He.ga K "closes_by_prices", "closes_by_prices", "closes_by_prices", defArgs sClosesByPrices, defBody sClosesByPrices, defScope sClosesByPrices, [], []⟩
def hd26 : He5.DefA := ⟨fun K => He.ga K "recording_cases", "recording_cases", "recording_cases", defArgs sRecordingCases, defBody sRecordingCases, defScope sRecordingCases, [], []⟩
def hd27 : He5.DefA := ⟨fun K => He.ga K "pass_cases", "pass_cases", "pass_cases", defArgs sPassCases, defBody sPassCases, defScope sPassCases, [], []⟩
def hd28 : He5.DefA := ⟨fun K => He.ga K "split_cases", "split_cases", "split_cases", defArgs sSplitCases, defBody sSplitCases, defScope sSplitCases, [], []⟩
def hd29 : He5.DefA := ⟨fun K => He.ga K "closes_all", "closes_all", "closes_all", defArgs sClosesAll, defBody sClosesAll, defScope sClosesAll, [], []⟩
def hd30 : He5.DefA := ⟨fun K => He.ga K "closes", "closes", "closes", defArgs sCloses, defBody sCloses, defScope sCloses, [], []⟩
def hd31 : He5.DefA := ⟨fun K => He.ga K "_law_cell", "_law_cell", "_law_cell", defArgs sLCell, defBody sLCell, defScope sLCell, [], []⟩
def hd32 : He5.DefA := ⟨fun K => He.ga K "_law_draws", "_law_draws", "_law_draws", defArgs sLDraws, defBody sLDraws, defScope sLDraws, [], []⟩
def hd33 : He5.DefA := ⟨fun K => He.ga K "_law_satellite", "_law_satellite", "_law_satellite", defArgs sLSatellite, defBody sLSatellite, defScope sLSatellite, [], []⟩
def hd34 : He5.DefA := ⟨fun K => He.ga K "_law_recording", "_law_recording", "_law_recording", defArgs sLRecording, defBody sLRecording, defScope sLRecording, [], []⟩
def hd35 : He5.DefA := ⟨fun K => He.ga K "_law_pass", "_law_pass", "_law_pass", defArgs sLPass, defBody sLPass, defScope sLPass, [], []⟩
def hd36 : He5.DefA := ⟨fun K => He.ga K "_law_text", "_law_text", "_law_text", defArgs sLText, defBody sLText, defScope sLText, [], []⟩
def hd37 : He5.DefA := ⟨fun K => He.ga K "_law_world", "_law_world", "_law_world", defArgs sLWorld, defBody sLWorld, defScope sLWorld, [], []⟩
def hd38 : He5.DefA := ⟨fun K => He.ga K "_law_options", "_law_options", "_law_options", defArgs sLOptions, defBody sLOptions, defScope sLOptions, [], []⟩
def hd39 : He5.DefA := ⟨fun K => He.ga K "_law_drawn", "_law_drawn", "_law_drawn", defArgs sLDrawn, defBody sLDrawn, defScope sLDrawn, [], []⟩
def hd40 : He5.DefA := ⟨fun K => He.ga K "_law_recording_weight", "_law_recording_weight", "_law_recording_weight", defArgs sLRecordingWeight, defBody sLRecordingWeight, defScope sLRecordingWeight, [], []⟩
def hd41 : He5.DefA := ⟨fun K => He.ga K "_law_gain", "_law_gain", "_law_gain", defArgs sLGain, defBody sLGain, defScope sLGain, [], []⟩
def hd42 : He5.DefA := ⟨fun K => He.ga K "_law_bound", "_law_bound", "_law_bound", defArgs sLBound, defBody sLBound, defScope sLBound, [], []⟩
def hd43 : He5.DefA := ⟨fun K => He.ga K "_law_case", "_law_case", "_law_case", defArgs sLCase, defBody sLCase, defScope sLCase, [], []⟩
def hd44 : He5.DefA := ⟨fun K => He.ga K "_law_ways", "_law_ways", "_law_ways", defArgs sLWays, defBody sLWays, defScope sLWays, [], []⟩
def hd45 : He5.DefA := ⟨fun K => He.ga K "law", "law", "law", defArgs sLaw, defBody sLaw, defScope sLaw, [], []⟩
def hd46 : He5.DefA := ⟨fun K => He.ma K (He.ga K "Line") "at_end", "at_end", "Line.at_end", defArgs sLineAtEnd, defBody sLineAtEnd, defScope sLineAtEnd, [], []⟩
def hd47 : He5.DefA := ⟨fun K => He.ma K (He.ga K "Line") "peek", "peek", "Line.peek", defArgs sLinePeek, defBody sLinePeek, defScope sLinePeek, [], []⟩
def hd48 : He5.DefA := ⟨fun K => He.ma K (He.ga K "Line") "skip", "skip", "Line.skip", defArgs sLineSkip, defBody sLineSkip, defScope sLineSkip, [], []⟩
def hd49 : He5.DefA := ⟨fun K => He.ma K (He.ga K "Line") "expect", "expect", "Line.expect", defArgs sLineExpect, defBody sLineExpect, defScope sLineExpect, [], []⟩
def hd50 : He5.DefA := ⟨fun K => He.ma K (He.ga K "Line") "take_number", "take_number", "Line.take_number", defArgs sLineTakeNumber, defBody sLineTakeNumber, defScope sLineTakeNumber, [], []⟩
def hd51 : He5.DefA := ⟨fun K => He.ma K (He.ga K "Line") "take_field", "take_field", "Line.take_field", defArgs sLineTakeField, defBody sLineTakeField, defScope sLineTakeField, [], []⟩
def hd52 : He5.DefA := ⟨fun K => He.ma K (He.ga K "Line") "take_new", "take_new", "Line.take_new", defArgs sLineTakeNew, defBody sLineTakeNew, defScope sLineTakeNew, [], []⟩
def hd53 : He5.DefA := ⟨fun K => He.ma K (He.ga K "Line") "take_known", "take_known", "Line.take_known", defArgs sLineTakeKnown, defBody sLineTakeKnown, defScope sLineTakeKnown, [.int 0], []⟩
def hd54 : He5.DefA := ⟨fun K => He.ma K (He.ga K "Line") "finish", "finish", "Line.finish", defArgs sLineFinish, defBody sLineFinish, defScope sLineFinish, [], []⟩
def hd55 : He5.DefA := ⟨fun K => He.ma K (He.ga K "Satellite") "line", "line", "Satellite.line", defArgs sSatelliteLine, defBody sSatelliteLine, defScope sSatelliteLine, [], []⟩
def hd56 : He5.DefA := ⟨fun K => He.ma K (He.ga K "Station") "line", "line", "Station.line", defArgs sStationLine, defBody sStationLine, defScope sStationLine, [], []⟩
def hd57 : He5.DefA := ⟨fun K => He.ma K (He.ga K "Recording") "line", "line", "Recording.line", defArgs sRecordingLine, defBody sRecordingLine, defScope sRecordingLine, [], []⟩
def hd58 : He5.DefA := ⟨fun K => He.ma K (He.ga K "Pass") "line", "line", "Pass.line", defArgs sPassLine, defBody sPassLine, defScope sPassLine, [], []⟩
def hd59 : He5.DefA := ⟨fun K => He.ma K (He.ga K "Line") "__init__", "__init__", "Line.__init__", defArgs sLineInit, defBody sLineInit, defScope sLineInit, [], []⟩
def hd60 : He5.DefA := ⟨fun K => He.ma K (He.ga K "Satellite") "__init__", "__init__", "Satellite.__init__", defArgs sSatelliteInit, defBody sSatelliteInit, defScope sSatelliteInit, [], []⟩
def hd61 : He5.DefA := ⟨fun K => He.ma K (He.ga K "Station") "__init__", "__init__", "Station.__init__", defArgs sStationInit, defBody sStationInit, defScope sStationInit, [], []⟩
def hd62 : He5.DefA := ⟨fun K => He.ma K (He.ga K "Recording") "__init__", "__init__", "Recording.__init__", defArgs sRecordingInit, defBody sRecordingInit, defScope sRecordingInit, [], []⟩
def hd63 : He5.DefA := ⟨fun K => He.ma K (He.ga K "Pass") "__init__", "__init__", "Pass.__init__", defArgs sPassInit, defBody sPassInit, defScope sPassInit, [], []⟩
def hd64 : He5.DefA := ⟨fun K => He.ma K (He.ga K "Draft") "__init__", "__init__", "Draft.__init__", defArgs sDraftInit, defBody sDraftInit, defScope sDraftInit, [], []⟩
def hd65 : He5.DefA := ⟨fun K => He.ma K (He.ga K "World") "__init__", "__init__", "World.__init__", defArgs sWorldInit, defBody sWorldInit, defScope sWorldInit, [], []⟩
def hd66 : He5.DefA := ⟨fun K => He5.wf K (He.ga K "World") "staticmethod" "parse", "parse", "World.parse", defArgs sWorldParse, defBody sWorldParse, defScope sWorldParse, [], []⟩
def hfn0 : List He5.DefA := [hd0, hd1, hd2, hd3, hd4, hd5, hd6, hd7, hd8, hd9, hd10, hd11, hd12, hd13, hd14, hd15, hd16, hd17, hd18, hd19, hd20, hd21, hd22, hd23, hd24, hd25, hd26, hd27, hd28, hd29]
def hfn1 : List He5.DefA := [hd30, hd31, hd32, hd33, hd34, hd35, hd36, hd37, hd38, hd39, hd40, hd41, hd42, hd43, hd44, hd45, hd46, hd47, hd48, hd49, hd50, hd51, hd52, hd53, hd54, hd55, hd56, hd57, hd58, hd59]
def hfn2 : List He5.DefA := [hd60, hd61, hd62, hd63, hd64, hd65, hd66]
def hfn : List He5.DefA := hfn0 ++ hfn1 ++ hfn2
def hfa0 : List He.Fa := [.free "len", .free "all", .free "list", .free "int", .free "str", .free "range", .free "enumerate", .free "tuple", .free "min", .free "max", .free "sum", .free "zip", .free "bool", .free "isinstance", .str "DIGITS" "0123456789", .str "LETTERS" "abcdefghijklmnopqrstuvwxyzABCDEFGHIJKLMNOPQRSTUVWXYZ", .str "OPEN" "open", .int "MOST_DIGITS" 7, .int "MOST_NAME" 15, .int "MOST" 1000000, .glo "KINDS", .glo "Line", .glo "Satellite", .glo "Station", .glo "Recording", .glo "Pass", .glo "Draft", .glo "World", .glo "is_number_words", .glo "is_name"]
def hfa1 : List He.Fa := [.glo "lines_of", .glo "with_made", .glo "with_taken", .glo "names_of", .glo "read_line", .glo "read_satellite", .glo "read_recording", .glo "read_pass", .glo "world_text", .glo "found_options", .glo "options", .glo "base_of", .glo "recording_weight", .glo "is_amount", .glo "check_prices", .glo "recording_gain", .glo "pass_gain", .glo "best_recording", .glo "recording_term", .glo "pass_term", .glo "bound", .glo "is_index", .glo "are_prices", .glo "closes_by_prices", .glo "recording_cases", .glo "pass_cases", .glo "split_cases", .glo "closes_all", .glo "closes", .glo "_law_cell"]
def hfa2 : List He.Fa := [.glo "_law_draws", .glo "_law_satellite", .glo "_law_recording", .glo "_law_pass", .glo "_law_text", .glo "_law_world", .glo "_law_options", .glo "_law_drawn", .glo "_law_recording_weight", .glo "_law_gain", .glo "_law_bound", .glo "_law_case", .glo "_law_ways", .glo "law", .cls "Line", .cls "Satellite", .cls "Station", .cls "Recording", .cls "Pass", .cls "Draft", .cls "World", .mkr "Line", .mkr "Satellite", .mkr "Station", .mkr "Recording", .mkr "Pass", .mkr "Draft", .mkr "World", .meth "Line" "at_end", .meth "Line" "peek"]
def hfa3 : List He.Fa := [.meth "Line" "skip", .meth "Line" "expect", .meth "Line" "take_number", .meth "Line" "take_field", .meth "Line" "take_new", .meth "Line" "take_known", .meth "Line" "finish", .meth "Satellite" "line", .meth "Station" "line", .meth "Recording" "line", .meth "Pass" "line", .noat "Line" "number", .noat "Line" "words", .noat "Line" "place", .noat "Line" "column", .noat "Satellite" "name", .noat "Satellite" "store", .noat "Satellite" "battery", .noat "Satellite" "start_level", .noat "Satellite" "reserve", .noat "Satellite" "charge", .noat "Satellite" "settle", .noat "Satellite" "light", .noat "Station" "name", .noat "Station" "antennas", .noat "Station" "turn", .noat "Recording" "name", .noat "Recording" "satellite", .noat "Recording" "earliest", .noat "Recording" "latest"]
def hfa4 : List He.Fa := [.noat "Recording" "length", .noat "Recording" "size", .noat "Recording" "energy", .noat "Recording" "worth", .noat "Recording" "rank", .noat "Recording" "deadline", .noat "Pass" "name", .noat "Pass" "satellite", .noat "Pass" "station", .noat "Pass" "span", .noat "Pass" "room", .noat "Pass" "energy", .noat "Pass" "fee", .noat "Draft" "horizon", .noat "Draft" "satellites", .noat "Draft" "stations", .noat "Draft" "recordings", .noat "Draft" "passes", .noat "World" "horizon", .noat "World" "satellites", .noat "World" "stations", .noat "World" "recordings", .noat "World" "passes", .noat "World" "choices", .noat "World" "text"]
def hfa : List He.Fa := hfa0 ++ hfa1 ++ hfa2 ++ hfa3 ++ hfa4
/-- a class's own whole number -/
def cvB (K : PySem.W.Frag) (f : Str) (n : Int) : Bool := match PySem.W.findCls K (.ref (He.ga K "World")) (.type "type") f with
  | some (.val (.int i _)) => decide (i = n)
  | _ => false
def objB (K : PySem.W.Frag) : Bool := match K.lookup (He.ga K "KINDS") with
  | some o => decide (o.cls = Value.type "tuple") && o.dict.isNone
  | none => false
/-- what the hook asks besides -/
def exB (K : PySem.W.Frag) : Bool := He.tupB K "KINDS" [.str "satellite", .str "station", .str "recording", .str "pass"] && (objB K && (PySem.W.readsIn K (He.ga K "World") (.type "type") &&
  (He.eqO (PySem.W.specialIn K (.ref (He.ga K "World")) "__getattribute__") (some (some (.builtin "type.__getattribute__"))) && (cvB K "MOST_HORIZON" 500 && (cvB K "MOST_SATELLITES" 3 && (cvB K "MOST_STATIONS" 3 && (cvB K "MOST_RECORDINGS" 10 &&
  (cvB K "MOST_PASSES" 10 && (cvB K "MOST_SHIFT" 20 && (He5.wrapB K (He.ga K "World") "staticmethod" "staticmethod.__get__" "parse" && PySem.W.keepIn K (.ref (He5.wf K (He.ga K "World") "staticmethod" "parse"))))))))))))
/-! which addresses are looked at -/
def rfX (o : Obj) : List Addr := match o.data with
  | .func fd => He.refV fd.code ++ He.refV fd.defaults
  | .cls cd => cd.ns :: (cd.mro.drop 1).flatMap He.refV
  | .dict es _ => es.toList.flatMap fun e => He.refV e.val
  | .fields vs => if o.cls = Value.type "staticmethod" then vs.toList.flatMap He.refV else []
  | _ => []
def gwX (g : Addr → Option Obj) (as : List Addr) : List Addr := as.flatMap fun a => match g a with
  | some o => rfX o
  | none => []
def hgl0 : List Str := ["Line", "Satellite", "Station", "Recording", "Pass", "Draft", "World", "KINDS", "is_number_words", "is_name", "lines_of", "with_made", "with_taken", "names_of", "read_line", "read_satellite", "read_recording", "read_pass", "world_text", "found_options", "options", "base_of", "recording_weight", "is_amount", "check_prices", "recording_gain", "pass_gain", "best_recording", "recording_term", "pass_term"]
def hgl1 : List Str := ["bound", "is_index", "are_prices", "closes_by_prices", "recording_cases", "pass_cases", "split_cases", "closes_all", "closes", "_law_cell", "_law_draws", "_law_satellite", "_law_recording", "_law_pass", "_law_text", "_law_world", "_law_options", "_law_drawn", "_law_recording_weight", "_law_gain", "_law_bound", "_law_case", "_law_ways", "law"]
def hgl : List Str := hgl0 ++ hgl1
def asX0 (g : Addr → Option Obj) : List Addr := hgl.map (He.ga (He.frG g [mainGlobals]))
def asX (g : Addr → Option Obj) : List Addr := [mainGlobals, cStatics] ++ (asX0 g ++ (gwX g (asX0 g) ++ (gwX g (gwX g (asX0 g)) ++ (gwX g (gwX g (gwX g (asX0 g))) ++ gwX g (gwX g (gwX g (gwX g (asX0 g))))))))
abbrev HA : Type := Bool × He.AlD
def obK (K : PySem.W.Frag) : HA := (exB K, He5.obsA hfa hfn K)
def obG (g : Addr → Option Obj) : HA := obK (He.frG g (asX g))
def Says (K : PySem.W.Frag) : Prop := exB K = true ∧ He5.SaysA hfa hfn K
def hk : PySem.W.Hook where
  α := HA
  obs s := obG s.heap.get?
  val _ := (true, He5.valA hfn)
  says _ h := ∃ K : PySem.W.Frag, K.In h ∧ Says K
  of w s e := by
    refine ⟨He.frG s.heap.get? (asX s.heap.get?), He.frG_in, ?_, ?_⟩
    · exact congrArg Prod.fst e
    · exact congrArg Prod.snd e
  keeps w h h' c k := by
    obtain ⟨K, ki, sy⟩ := c
    exact ⟨K, fun a o e => k a o (ki a o e), sy⟩
abbrev R : PySem.W.OpenRow := PySem.W.OpenLaw.row PySem.Challenge.rw_downpass_k59_papers_of_choices
def ob (s : PySem.W.SharedT) : HA := obG (HandSHeadRun.getT s)
theorem ob_eq (s : PySem.W.SharedT) : ob s = hk.obs s.abs := by
  have e : HandSHeadRun.getT s = s.abs.heap.get? := funext (HandSHeadRun.getT_eq s)
  show obG _ = obG _
  rw [e]
theorem run (w : World) : HandSHeadRun.RunEq R (PySem.W.view R.prog [110]) hk ob 20000 names w := by
  intro os
  kernel_rfl
end K59
set_option maxHeartbeats 0
/-! The end: facts, all defs in order (printed by gen_end.py) -/
namespace K59
open PySem PySem.Spec PyProof.Rows L2 TL
theorem ab {a b : Bool} (h : (a && b) = true) : a = true ∧ b = true := Bool.and_eq_true_iff.mp h
theorem cv_of {K : PySem.W.Frag} {f : Str} {n : Int} (h : cvB K f n = true) : ∃ u, ClX.CVal K (cl K "World") (.type "type") f (.int n) u := by
  unfold cvB at h
  split at h
  · rename_i i t e
    have := of_decide_eq_true h
    subst this
    exact ⟨_, e, ⟨t, rfl⟩⟩
  · cases h
theorem obj_of {K : PySem.W.Frag} (h : objB K = true) : ∃ o : Obj, K.lookup (cl K "KINDS") = some o ∧ o.cls = Value.type "tuple" ∧ o.dict = none := by
  unfold objB at h
  split at h
  · rename_i o e
    obtain ⟨h1, h2⟩ := ab h
    exact ⟨o, e, of_decide_eq_true h1, Option.isNone_iff_eq_none.mp h2⟩
  · cases h
theorem tx_of {K : PySem.W.Frag} {h : Heap} {mg : Str → Option Value} (X : K.In h) (G : h.Ns mainGlobals mg) (S : Says K) : Tx K mg := by
  obtain ⟨ex, c⟩ := S
  obtain ⟨x1, ex⟩ := ab ex
  obtain ⟨x2, ex⟩ := ab ex
  obtain ⟨x3, ex⟩ := ab ex
  obtain ⟨x4, ex⟩ := ab ex
  obtain ⟨x5, ex⟩ := ab ex
  obtain ⟨x6, ex⟩ := ab ex
  obtain ⟨x7, ex⟩ := ab ex
  obtain ⟨x8, ex⟩ := ab ex
  obtain ⟨x9, ex⟩ := ab ex
  obtain ⟨x10, ex⟩ := ab ex
  exact {
    len := He.free_ok X G (c.fact 0 (f := .free "len") rfl)
    all := He.free_ok X G (c.fact 1 (f := .free "all") rfl)
    list := He.free_ok X G (c.fact 2 (f := .free "list") rfl)
    int := He.free_ok X G (c.fact 3 (f := .free "int") rfl)
    str := He.free_ok X G (c.fact 4 (f := .free "str") rfl)
    range := He.free_ok X G (c.fact 5 (f := .free "range") rfl)
    enumerate := He.free_ok X G (c.fact 6 (f := .free "enumerate") rfl)
    tuple := He.free_ok X G (c.fact 7 (f := .free "tuple") rfl)
    min := He.free_ok X G (c.fact 8 (f := .free "min") rfl)
    max := He.free_ok X G (c.fact 9 (f := .free "max") rfl)
    sum := He.free_ok X G (c.fact 10 (f := .free "sum") rfl)
    zip := He.free_ok X G (c.fact 11 (f := .free "zip") rfl)
    bool := He.free_ok X G (c.fact 12 (f := .free "bool") rfl)
    isinstance := He.free_ok X G (c.fact 13 (f := .free "isinstance") rfl)
    digits := He.str_ok X G (c.fact 14 (f := .str "DIGITS" "0123456789") rfl)
    letters := He.str_ok X G (c.fact 15 (f := .str "LETTERS" "abcdefghijklmnopqrstuvwxyzABCDEFGHIJKLMNOPQRSTUVWXYZ") rfl)
    mostDigits := He.int_ok X G (c.fact 17 (f := .int "MOST_DIGITS" 7) rfl)
    mostName := He.int_ok X G (c.fact 18 (f := .int "MOST_NAME" 15) rfl)
    most := He.int_ok X G (c.fact 19 (f := .int "MOST" 1000000) rfl)
    open_ := He.str_ok X G (c.fact 16 (f := .str "OPEN" "open") rfl)
    kinds := He.glo_ok X G (c.fact 20 (f := .glo "KINDS") rfl)
    kindsT := He.tupB_ok x1
    kindsO := obj_of x2
    gWorld := He.glo_ok X G (c.fact 27 (f := .glo "World") rfl)
    cLine := He.cls_ok (c.fact 74 (f := .cls "Line") rfl)
    cSat := He.cls_ok (c.fact 75 (f := .cls "Satellite") rfl)
    cSta := He.cls_ok (c.fact 76 (f := .cls "Station") rfl)
    cRcd := He.cls_ok (c.fact 77 (f := .cls "Recording") rfl)
    cPas := He.cls_ok (c.fact 78 (f := .cls "Pass") rfl)
    cDraft := He.cls_ok (c.fact 79 (f := .cls "Draft") rfl)
    cWld := He.cls_ok (c.fact 80 (f := .cls "World") rfl)
    aLine := fun f hf => by
      have hf' : f = "number" ∨ f = "words" ∨ f = "place" ∨ f = "column" := by simpa [nLine] using hf
      rcases hf' with rfl | rfl | rfl | rfl
      · exact He.noat_ok (c.fact 101 (f := .noat "Line" "number") rfl)
      · exact He.noat_ok (c.fact 102 (f := .noat "Line" "words") rfl)
      · exact He.noat_ok (c.fact 103 (f := .noat "Line" "place") rfl)
      · exact He.noat_ok (c.fact 104 (f := .noat "Line" "column") rfl)
    aSat := fun f hf => by
      have hf' : f = "name" ∨ f = "store" ∨ f = "battery" ∨ f = "start_level" ∨ f = "reserve" ∨ f = "charge" ∨ f = "settle" ∨ f = "light" := by simpa [nSat] using hf
      rcases hf' with rfl | rfl | rfl | rfl | rfl | rfl | rfl | rfl
      · exact He.noat_ok (c.fact 105 (f := .noat "Satellite" "name") rfl)
      · exact He.noat_ok (c.fact 106 (f := .noat "Satellite" "store") rfl)
      · exact He.noat_ok (c.fact 107 (f := .noat "Satellite" "battery") rfl)
      · exact He.noat_ok (c.fact 108 (f := .noat "Satellite" "start_level") rfl)
      · exact He.noat_ok (c.fact 109 (f := .noat "Satellite" "reserve") rfl)
      · exact He.noat_ok (c.fact 110 (f := .noat "Satellite" "charge") rfl)
      · exact He.noat_ok (c.fact 111 (f := .noat "Satellite" "settle") rfl)
      · exact He.noat_ok (c.fact 112 (f := .noat "Satellite" "light") rfl)
    aSta := fun f hf => by
      have hf' : f = "name" ∨ f = "antennas" ∨ f = "turn" := by simpa [nSta] using hf
      rcases hf' with rfl | rfl | rfl
      · exact He.noat_ok (c.fact 113 (f := .noat "Station" "name") rfl)
      · exact He.noat_ok (c.fact 114 (f := .noat "Station" "antennas") rfl)
      · exact He.noat_ok (c.fact 115 (f := .noat "Station" "turn") rfl)
    aRcd := fun f hf => by
      have hf' : f = "name" ∨ f = "satellite" ∨ f = "earliest" ∨ f = "latest" ∨ f = "length" ∨ f = "size" ∨ f = "energy" ∨ f = "worth" ∨ f = "rank" ∨ f = "deadline" := by simpa [nRcd] using hf
      rcases hf' with rfl | rfl | rfl | rfl | rfl | rfl | rfl | rfl | rfl | rfl
      · exact He.noat_ok (c.fact 116 (f := .noat "Recording" "name") rfl)
      · exact He.noat_ok (c.fact 117 (f := .noat "Recording" "satellite") rfl)
      · exact He.noat_ok (c.fact 118 (f := .noat "Recording" "earliest") rfl)
      · exact He.noat_ok (c.fact 119 (f := .noat "Recording" "latest") rfl)
      · exact He.noat_ok (c.fact 120 (f := .noat "Recording" "length") rfl)
      · exact He.noat_ok (c.fact 121 (f := .noat "Recording" "size") rfl)
      · exact He.noat_ok (c.fact 122 (f := .noat "Recording" "energy") rfl)
      · exact He.noat_ok (c.fact 123 (f := .noat "Recording" "worth") rfl)
      · exact He.noat_ok (c.fact 124 (f := .noat "Recording" "rank") rfl)
      · exact He.noat_ok (c.fact 125 (f := .noat "Recording" "deadline") rfl)
    aPas := fun f hf => by
      have hf' : f = "name" ∨ f = "satellite" ∨ f = "station" ∨ f = "span" ∨ f = "room" ∨ f = "energy" ∨ f = "fee" := by simpa [nPas] using hf
      rcases hf' with rfl | rfl | rfl | rfl | rfl | rfl | rfl
      · exact He.noat_ok (c.fact 126 (f := .noat "Pass" "name") rfl)
      · exact He.noat_ok (c.fact 127 (f := .noat "Pass" "satellite") rfl)
      · exact He.noat_ok (c.fact 128 (f := .noat "Pass" "station") rfl)
      · exact He.noat_ok (c.fact 129 (f := .noat "Pass" "span") rfl)
      · exact He.noat_ok (c.fact 130 (f := .noat "Pass" "room") rfl)
      · exact He.noat_ok (c.fact 131 (f := .noat "Pass" "energy") rfl)
      · exact He.noat_ok (c.fact 132 (f := .noat "Pass" "fee") rfl)
    aDraft := fun f hf => by
      have hf' : f = "horizon" ∨ f = "satellites" ∨ f = "stations" ∨ f = "recordings" ∨ f = "passes" := by simpa [nDraft] using hf
      rcases hf' with rfl | rfl | rfl | rfl | rfl
      · exact He.noat_ok (c.fact 133 (f := .noat "Draft" "horizon") rfl)
      · exact He.noat_ok (c.fact 134 (f := .noat "Draft" "satellites") rfl)
      · exact He.noat_ok (c.fact 135 (f := .noat "Draft" "stations") rfl)
      · exact He.noat_ok (c.fact 136 (f := .noat "Draft" "recordings") rfl)
      · exact He.noat_ok (c.fact 137 (f := .noat "Draft" "passes") rfl)
    aWld := fun f hf => by
      have hf' : f = "horizon" ∨ f = "satellites" ∨ f = "stations" ∨ f = "recordings" ∨ f = "passes" ∨ f = "choices" ∨ f = "text" := by simpa [nWld] using hf
      rcases hf' with rfl | rfl | rfl | rfl | rfl | rfl | rfl
      · exact He.noat_ok (c.fact 138 (f := .noat "World" "horizon") rfl)
      · exact He.noat_ok (c.fact 139 (f := .noat "World" "satellites") rfl)
      · exact He.noat_ok (c.fact 140 (f := .noat "World" "stations") rfl)
      · exact He.noat_ok (c.fact 141 (f := .noat "World" "recordings") rfl)
      · exact He.noat_ok (c.fact 142 (f := .noat "World" "passes") rfl)
      · exact He.noat_ok (c.fact 143 (f := .noat "World" "choices") rfl)
      · exact He.noat_ok (c.fact 144 (f := .noat "World" "text") rfl)
    rWld := ⟨x3, He.eqO_ok x4⟩
    vHor := cv_of x5
    vSat := cv_of x6
    vSta := cv_of x7
    vRcd := cv_of x8
    vPas := cv_of x9
    vShift := cv_of x10 }
theorem sm_of {K : PySem.W.Frag} (S : Says K) : SMet K (cl K "World") (.type "type") "parse" (He.ma K (cl K "World") "parse") (He5.wf K (cl K "World") "staticmethod" "parse") := by
  obtain ⟨ex, c⟩ := S
  obtain ⟨x1, ex⟩ := ab ex
  obtain ⟨x2, ex⟩ := ab ex
  obtain ⟨x3, ex⟩ := ab ex
  obtain ⟨x4, ex⟩ := ab ex
  obtain ⟨x5, ex⟩ := ab ex
  obtain ⟨x6, ex⟩ := ab ex
  obtain ⟨x7, ex⟩ := ab ex
  obtain ⟨x8, ex⟩ := ab ex
  obtain ⟨x9, ex⟩ := ab ex
  obtain ⟨x10, ex⟩ := ab ex
  obtain ⟨x11, x12⟩ := ab ex
  obtain ⟨h1, h2⟩ := He5.wrapB_ok x11
  exact ⟨h1, h2, x12⟩
theorem facts {P : Program} {w : World} {K : PySem.W.Frag} {h : Heap} {mg : Str → Option Value} {f : Addr} (X : K.In h) (G : h.Ns mainGlobals mg) (hfa : mg ("law" : Str) = some (.ref f)) (S : Says K) :
    ∃ fd : FuncData, (∀ (s : Shared) (v : Value), BindsTo s fd ⟨[v], []⟩ [("_law_script", v)]) ∧ ∀ base : Heap, K.In base → base.Ns mainGlobals mg → FnOk P w K mg base CX0 11 f fd ["_law_script"] (spLaw K) := by
  have T := tx_of X G S
  have sm := sm_of S
  obtain ⟨_, c⟩ := S
  obtain ⟨fd0, F0⟩ : ∃ fd, FunD K "is_number" "is_number" (defArgs sIsNumber) (defBody sIsNumber) (defScope sIsNumber) [] [] (He.ga K "is_number_words") fd := c.def_ 0 (d := hd0) rfl
  obtain ⟨fd1, F1⟩ : ∃ fd, FunD K "is_name" "is_name" (defArgs sIsName) (defBody sIsName) (defScope sIsName) [] [] (He.ga K "is_name") fd := c.def_ 1 (d := hd1) rfl
  obtain ⟨fd2, F2⟩ : ∃ fd, FunD K "lines_of" "lines_of" (defArgs sLinesOf) (defBody sLinesOf) (defScope sLinesOf) [] [] (He.ga K "lines_of") fd := c.def_ 2 (d := hd2) rfl
  obtain ⟨fd3, F3⟩ : ∃ fd, FunD K "with_made" "with_made" (defArgs sWithMade) (defBody sWithMade) (defScope sWithMade) [] [] (He.ga K "with_made") fd := c.def_ 3 (d := hd3) rfl
  obtain ⟨fd4, F4⟩ : ∃ fd, FunD K "with_taken" "with_taken" (defArgs sWithTaken) (defBody sWithTaken) (defScope sWithTaken) [] [] (He.ga K "with_taken") fd := c.def_ 4 (d := hd4) rfl
  obtain ⟨fd5, F5⟩ : ∃ fd, FunD K "names_of" "names_of" (defArgs sNamesOf) (defBody sNamesOf) (defScope sNamesOf) [] [] (He.ga K "names_of") fd := c.def_ 5 (d := hd5) rfl
  obtain ⟨fd6, F6⟩ : ∃ fd, FunD K "read_line" "read_line" (defArgs sReadLine) (defBody sReadLine) (defScope sReadLine) [] [] (He.ga K "read_line") fd := c.def_ 6 (d := hd6) rfl
  obtain ⟨fd7, F7⟩ : ∃ fd, FunD K "read_satellite" "read_satellite" (defArgs sReadSatellite) (defBody sReadSatellite) (defScope sReadSatellite) [] [] (He.ga K "read_satellite") fd := c.def_ 7 (d := hd7) rfl
  obtain ⟨fd8, F8⟩ : ∃ fd, FunD K "read_recording" "read_recording" (defArgs sReadRecording) (defBody sReadRecording) (defScope sReadRecording) [] [] (He.ga K "read_recording") fd := c.def_ 8 (d := hd8) rfl
  obtain ⟨fd9, F9⟩ : ∃ fd, FunD K "read_pass" "read_pass" (defArgs sReadPass) (defBody sReadPass) (defScope sReadPass) [] [] (He.ga K "read_pass") fd := c.def_ 9 (d := hd9) rfl
  obtain ⟨fd10, F10⟩ : ∃ fd, FunD K "world_text" "world_text" (defArgs sWorldText) (defBody sWorldText) (defScope sWorldText) [] [] (He.ga K "world_text") fd := c.def_ 10 (d := hd10) rfl
  obtain ⟨fd11, F11⟩ : ∃ fd, FunD K "found_options" "found_options" (defArgs sFoundOptions) (defBody sFoundOptions) (defScope sFoundOptions) [] [] (He.ga K "found_options") fd := c.def_ 11 (d := hd11) rfl
  obtain ⟨fd12, F12⟩ : ∃ fd, FunD K "options" "options" (defArgs sOptions) (defBody sOptions) (defScope sOptions) [] [] (He.ga K "options") fd := c.def_ 12 (d := hd12) rfl
  obtain ⟨fd13, F13⟩ : ∃ fd, FunD K "base_of" "base_of" (defArgs sBaseOf) (defBody sBaseOf) (defScope sBaseOf) [] [] (He.ga K "base_of") fd := c.def_ 13 (d := hd13) rfl
  obtain ⟨fd14, F14⟩ : ∃ fd, FunD K "recording_weight" "recording_weight" (defArgs sRecordingWeight) (defBody sRecordingWeight) (defScope sRecordingWeight) [] [] (He.ga K "recording_weight") fd := c.def_ 14 (d := hd14) rfl
  obtain ⟨fd15, F15⟩ : ∃ fd, FunD K "is_amount" "is_amount" (defArgs sIsAmount) (defBody sIsAmount) (defScope sIsAmount) [] [] (He.ga K "is_amount") fd := c.def_ 15 (d := hd15) rfl
  obtain ⟨fd16, F16⟩ : ∃ fd, FunD K "check_prices" "check_prices" (defArgs sCheckPrices) (defBody sCheckPrices) (defScope sCheckPrices) [] [] (He.ga K "check_prices") fd := c.def_ 16 (d := hd16) rfl
  obtain ⟨fd17, F17⟩ : ∃ fd, FunD K "recording_gain" "recording_gain" (defArgs sRecordingGain) (defBody sRecordingGain) (defScope sRecordingGain) [] [] (He.ga K "recording_gain") fd := c.def_ 17 (d := hd17) rfl
  obtain ⟨fd18, F18⟩ : ∃ fd, FunD K "pass_gain" "pass_gain" (defArgs sPassGain) (defBody sPassGain) (defScope sPassGain) [] [] (He.ga K "pass_gain") fd := c.def_ 18 (d := hd18) rfl
  obtain ⟨fd19, F19⟩ : ∃ fd, FunD K "best_recording" "best_recording" (defArgs sBestRecording) (defBody sBestRecording) (defScope sBestRecording) [] [] (He.ga K "best_recording") fd := c.def_ 19 (d := hd19) rfl
  obtain ⟨fd20, F20⟩ : ∃ fd, FunD K "recording_term" "recording_term" (defArgs sRecordingTerm) (defBody sRecordingTerm) (defScope sRecordingTerm) [] [] (He.ga K "recording_term") fd := c.def_ 20 (d := hd20) rfl
  obtain ⟨fd21, F21⟩ : ∃ fd, FunD K "pass_term" "pass_term" (defArgs sPassTerm) (defBody sPassTerm) (defScope sPassTerm) [] [] (He.ga K "pass_term") fd := c.def_ 21 (d := hd21) rfl
  obtain ⟨fd22, F22⟩ : ∃ fd, FunD K "bound" "bound" (defArgs sBound) (defBody sBound) (defScope sBound) [] [] (He.ga K "bound") fd := c.def_ 22 (d := hd22) rfl
  obtain ⟨fd23, F23⟩ : ∃ fd, FunD K "is_index" "is_index" (defArgs sIsIndex) (defBody sIsIndex) (defScope sIsIndex) [] [] (He.ga K "is_index") fd := c.def_ 23 (d := hd23) rfl
  obtain ⟨fd24, F24⟩ : ∃ fd, FunD K "are_prices" "are_prices" (defArgs sArePrices) (defBody sArePrices) (defScope sArePrices) [] [] (He.ga K "are_prices") fd := c.def_ 24 (d := hd24) rfl
  obtain ⟨fd25, F25⟩ : ∃ fd, FunD K "closes_by_prices" "closes_by_prices" (defArgs sClosesByPrices) (defBody sClosesByPrices) (defScope sClosesByPrices) [] [] (He.ga K "closes_by_prices") fd := c.def_ 25 (d := hd25) rfl
  obtain ⟨fd26, F26⟩ : ∃ fd, FunD K "recording_cases" "recording_cases" (defArgs sRecordingCases) (defBody sRecordingCases) (defScope sRecordingCases) [] [] (He.ga K "recording_cases") fd := c.def_ 26 (d := hd26) rfl
  obtain ⟨fd27, F27⟩ : ∃ fd, FunD K "pass_cases" "pass_cases" (defArgs sPassCases) (defBody sPassCases) (defScope sPassCases) [] [] (He.ga K "pass_cases") fd := c.def_ 27 (d := hd27) rfl
  obtain ⟨fd28, F28⟩ : ∃ fd, FunD K "split_cases" "split_cases" (defArgs sSplitCases) (defBody sSplitCases) (defScope sSplitCases) [] [] (He.ga K "split_cases") fd := c.def_ 28 (d := hd28) rfl
  obtain ⟨fd29, F29⟩ : ∃ fd, FunD K "closes_all" "closes_all" (defArgs sClosesAll) (defBody sClosesAll) (defScope sClosesAll) [] [] (He.ga K "closes_all") fd := c.def_ 29 (d := hd29) rfl
  obtain ⟨fd30, F30⟩ : ∃ fd, FunD K "closes" "closes" (defArgs sCloses) (defBody sCloses) (defScope sCloses) [] [] (He.ga K "closes") fd := c.def_ 30 (d := hd30) rfl
  obtain ⟨fd31, F31⟩ : ∃ fd, FunD K "_law_cell" "_law_cell" (defArgs sLCell) (defBody sLCell) (defScope sLCell) [] [] (He.ga K "_law_cell") fd := c.def_ 31 (d := hd31) rfl
  obtain ⟨fd32, F32⟩ : ∃ fd, FunD K "_law_draws" "_law_draws" (defArgs sLDraws) (defBody sLDraws) (defScope sLDraws) [] [] (He.ga K "_law_draws") fd := c.def_ 32 (d := hd32) rfl
  obtain ⟨fd33, F33⟩ : ∃ fd, FunD K "_law_satellite" "_law_satellite" (defArgs sLSatellite) (defBody sLSatellite) (defScope sLSatellite) [] [] (He.ga K "_law_satellite") fd := c.def_ 33 (d := hd33) rfl
  obtain ⟨fd34, F34⟩ : ∃ fd, FunD K "_law_recording" "_law_recording" (defArgs sLRecording) (defBody sLRecording) (defScope sLRecording) [] [] (He.ga K "_law_recording") fd := c.def_ 34 (d := hd34) rfl
  obtain ⟨fd35, F35⟩ : ∃ fd, FunD K "_law_pass" "_law_pass" (defArgs sLPass) (defBody sLPass) (defScope sLPass) [] [] (He.ga K "_law_pass") fd := c.def_ 35 (d := hd35) rfl
  obtain ⟨fd36, F36⟩ : ∃ fd, FunD K "_law_text" "_law_text" (defArgs sLText) (defBody sLText) (defScope sLText) [] [] (He.ga K "_law_text") fd := c.def_ 36 (d := hd36) rfl
  obtain ⟨fd37, F37⟩ : ∃ fd, FunD K "_law_world" "_law_world" (defArgs sLWorld) (defBody sLWorld) (defScope sLWorld) [] [] (He.ga K "_law_world") fd := c.def_ 37 (d := hd37) rfl
  obtain ⟨fd38, F38⟩ : ∃ fd, FunD K "_law_options" "_law_options" (defArgs sLOptions) (defBody sLOptions) (defScope sLOptions) [] [] (He.ga K "_law_options") fd := c.def_ 38 (d := hd38) rfl
  obtain ⟨fd39, F39⟩ : ∃ fd, FunD K "_law_drawn" "_law_drawn" (defArgs sLDrawn) (defBody sLDrawn) (defScope sLDrawn) [] [] (He.ga K "_law_drawn") fd := c.def_ 39 (d := hd39) rfl
  obtain ⟨fd40, F40⟩ : ∃ fd, FunD K "_law_recording_weight" "_law_recording_weight" (defArgs sLRecordingWeight) (defBody sLRecordingWeight) (defScope sLRecordingWeight) [] [] (He.ga K "_law_recording_weight") fd := c.def_ 40 (d := hd40) rfl
  obtain ⟨fd41, F41⟩ : ∃ fd, FunD K "_law_gain" "_law_gain" (defArgs sLGain) (defBody sLGain) (defScope sLGain) [] [] (He.ga K "_law_gain") fd := c.def_ 41 (d := hd41) rfl
  obtain ⟨fd42, F42⟩ : ∃ fd, FunD K "_law_bound" "_law_bound" (defArgs sLBound) (defBody sLBound) (defScope sLBound) [] [] (He.ga K "_law_bound") fd := c.def_ 42 (d := hd42) rfl
  obtain ⟨fd43, F43⟩ : ∃ fd, FunD K "_law_case" "_law_case" (defArgs sLCase) (defBody sLCase) (defScope sLCase) [] [] (He.ga K "_law_case") fd := c.def_ 43 (d := hd43) rfl
  obtain ⟨fd44, F44⟩ : ∃ fd, FunD K "_law_ways" "_law_ways" (defArgs sLWays) (defBody sLWays) (defScope sLWays) [] [] (He.ga K "_law_ways") fd := c.def_ 44 (d := hd44) rfl
  obtain ⟨fd45, F45⟩ : ∃ fd, FunD K "law" "law" (defArgs sLaw) (defBody sLaw) (defScope sLaw) [] [] (He.ga K "law") fd := c.def_ 45 (d := hd45) rfl
  obtain ⟨fd46, F46⟩ : ∃ fd, FunD K "at_end" "Line.at_end" (defArgs sLineAtEnd) (defBody sLineAtEnd) (defScope sLineAtEnd) [] [] (He.ma K (He.ga K "Line") "at_end") fd := c.def_ 46 (d := hd46) rfl
  obtain ⟨fd47, F47⟩ : ∃ fd, FunD K "peek" "Line.peek" (defArgs sLinePeek) (defBody sLinePeek) (defScope sLinePeek) [] [] (He.ma K (He.ga K "Line") "peek") fd := c.def_ 47 (d := hd47) rfl
  obtain ⟨fd48, F48⟩ : ∃ fd, FunD K "skip" "Line.skip" (defArgs sLineSkip) (defBody sLineSkip) (defScope sLineSkip) [] [] (He.ma K (He.ga K "Line") "skip") fd := c.def_ 48 (d := hd48) rfl
  obtain ⟨fd49, F49⟩ : ∃ fd, FunD K "expect" "Line.expect" (defArgs sLineExpect) (defBody sLineExpect) (defScope sLineExpect) [] [] (He.ma K (He.ga K "Line") "expect") fd := c.def_ 49 (d := hd49) rfl
  obtain ⟨fd50, F50⟩ : ∃ fd, FunD K "take_number" "Line.take_number" (defArgs sLineTakeNumber) (defBody sLineTakeNumber) (defScope sLineTakeNumber) [] [] (He.ma K (He.ga K "Line") "take_number") fd := c.def_ 50 (d := hd50) rfl
  obtain ⟨fd51, F51⟩ : ∃ fd, FunD K "take_field" "Line.take_field" (defArgs sLineTakeField) (defBody sLineTakeField) (defScope sLineTakeField) [] [] (He.ma K (He.ga K "Line") "take_field") fd := c.def_ 51 (d := hd51) rfl
  obtain ⟨fd52, F52⟩ : ∃ fd, FunD K "take_new" "Line.take_new" (defArgs sLineTakeNew) (defBody sLineTakeNew) (defScope sLineTakeNew) [] [] (He.ma K (He.ga K "Line") "take_new") fd := c.def_ 52 (d := hd52) rfl
  obtain ⟨fd53, F53⟩ : ∃ fd, FunD K "take_known" "Line.take_known" (defArgs sLineTakeKnown) (defBody sLineTakeKnown) (defScope sLineTakeKnown) [.int 0] [] (He.ma K (He.ga K "Line") "take_known") fd := c.def_ 53 (d := hd53) rfl
  obtain ⟨fd54, F54⟩ : ∃ fd, FunD K "finish" "Line.finish" (defArgs sLineFinish) (defBody sLineFinish) (defScope sLineFinish) [] [] (He.ma K (He.ga K "Line") "finish") fd := c.def_ 54 (d := hd54) rfl
  obtain ⟨fd55, F55⟩ : ∃ fd, FunD K "line" "Satellite.line" (defArgs sSatelliteLine) (defBody sSatelliteLine) (defScope sSatelliteLine) [] [] (He.ma K (He.ga K "Satellite") "line") fd := c.def_ 55 (d := hd55) rfl
  obtain ⟨fd56, F56⟩ : ∃ fd, FunD K "line" "Station.line" (defArgs sStationLine) (defBody sStationLine) (defScope sStationLine) [] [] (He.ma K (He.ga K "Station") "line") fd := c.def_ 56 (d := hd56) rfl
  obtain ⟨fd57, F57⟩ : ∃ fd, FunD K "line" "Recording.line" (defArgs sRecordingLine) (defBody sRecordingLine) (defScope sRecordingLine) [] [] (He.ma K (He.ga K "Recording") "line") fd := c.def_ 57 (d := hd57) rfl
  obtain ⟨fd58, F58⟩ : ∃ fd, FunD K "line" "Pass.line" (defArgs sPassLine) (defBody sPassLine) (defScope sPassLine) [] [] (He.ma K (He.ga K "Pass") "line") fd := c.def_ 58 (d := hd58) rfl
  obtain ⟨fd59, F59⟩ : ∃ fd, FunD K "__init__" "Line.__init__" (defArgs sLineInit) (defBody sLineInit) (defScope sLineInit) [] [] (He.ma K (He.ga K "Line") "__init__") fd := c.def_ 59 (d := hd59) rfl
  obtain ⟨fd60, F60⟩ : ∃ fd, FunD K "__init__" "Satellite.__init__" (defArgs sSatelliteInit) (defBody sSatelliteInit) (defScope sSatelliteInit) [] [] (He.ma K (He.ga K "Satellite") "__init__") fd := c.def_ 60 (d := hd60) rfl
  obtain ⟨fd61, F61⟩ : ∃ fd, FunD K "__init__" "Station.__init__" (defArgs sStationInit) (defBody sStationInit) (defScope sStationInit) [] [] (He.ma K (He.ga K "Station") "__init__") fd := c.def_ 61 (d := hd61) rfl
  obtain ⟨fd62, F62⟩ : ∃ fd, FunD K "__init__" "Recording.__init__" (defArgs sRecordingInit) (defBody sRecordingInit) (defScope sRecordingInit) [] [] (He.ma K (He.ga K "Recording") "__init__") fd := c.def_ 62 (d := hd62) rfl
  obtain ⟨fd63, F63⟩ : ∃ fd, FunD K "__init__" "Pass.__init__" (defArgs sPassInit) (defBody sPassInit) (defScope sPassInit) [] [] (He.ma K (He.ga K "Pass") "__init__") fd := c.def_ 63 (d := hd63) rfl
  obtain ⟨fd64, F64⟩ : ∃ fd, FunD K "__init__" "Draft.__init__" (defArgs sDraftInit) (defBody sDraftInit) (defScope sDraftInit) [] [] (He.ma K (He.ga K "Draft") "__init__") fd := c.def_ 64 (d := hd64) rfl
  obtain ⟨fd65, F65⟩ : ∃ fd, FunD K "__init__" "World.__init__" (defArgs sWorldInit) (defBody sWorldInit) (defScope sWorldInit) [] [] (He.ma K (He.ga K "World") "__init__") fd := c.def_ 65 (d := hd65) rfl
  obtain ⟨fd66, F66⟩ : ∃ fd, FunD K "parse" "World.parse" (defArgs sWorldParse) (defBody sWorldParse) (defScope sWorldParse) [] [] (He5.wf K (He.ga K "World") "staticmethod" "parse") fd := c.def_ 66 (d := hd66) rfl
  have e := hfa.symm.trans (He.glo_ok X G (c.fact 73 (f := .glo "law") rfl))
  cases e
  refine ⟨fd45, fun s v => FunD.bindsA (ps := ["_law_script"]) F45 (fun _ _ _ _ _ _ us hl => match us, hl with | [_], _ => rfl) s [v] rfl, fun base _ _ => ?_⟩
  have cIsNumber : Cal P w K mg base 1 "is_number_words" ["word"] spIsNumber := ⟨_, _, ok_isNumber (He5.fun_of F0) T , F0.bindsN (fun _ _ _ _ _ _ us hl => match us, hl with | [_], _ => rfl), F0.kp, He.glo_ok X G (c.fact 28 (f := .glo "is_number_words") rfl)⟩
  have cIsName : Cal P w K mg base 1 "is_name" ["word"] spIsName := ⟨_, _, ok_isName (He5.fun_of F1) T , F1.bindsN (fun _ _ _ _ _ _ us hl => match us, hl with | [_], _ => rfl), F1.kp, He.glo_ok X G (c.fact 29 (f := .glo "is_name") rfl)⟩
  have iLine : CalI P w K mg base 1 "Line" ["self", "number", "text"] (spLineInit K) := ⟨_, _, He.mkr_ok (c.fact 81 (f := .mkr "Line") rfl), ok_lineInit (He5.fun_of F59) T , F59.bindsN (fun _ _ _ _ _ _ us hl => match us, hl with | [_, _, _], _ => rfl), He.glo_ok X G (c.fact 21 (f := .glo "Line") rfl)⟩
  have mAtEnd : CalM P w K mg base 1 (cl K "Line") "at_end" ["self"] [] (spAtEnd K) := ⟨_, _, [], He.meth_ok (c.fact 88 (f := .meth "Line" "at_end") rfl), ok_atEnd (He5.fun_of F46) T , F46.bindsN (fun _ _ _ _ _ _ us hl => match us, hl with | [_], _ => rfl), .nil⟩
  have mPeek : CalM P w K mg base 2 (cl K "Line") "peek" ["self"] [] (spPeek K) := ⟨_, _, [], He.meth_ok (c.fact 89 (f := .meth "Line" "peek") rfl), ok_peek (He5.fun_of F47) T mAtEnd, F47.bindsN (fun _ _ _ _ _ _ us hl => match us, hl with | [_], _ => rfl), .nil⟩
  have mSkip : CalM P w K mg base 1 (cl K "Line") "skip" ["self"] [] (spSkip K) := ⟨_, _, [], He.meth_ok (c.fact 90 (f := .meth "Line" "skip") rfl), ok_skip (He5.fun_of F48) T , F48.bindsN (fun _ _ _ _ _ _ us hl => match us, hl with | [_], _ => rfl), .nil⟩
  have mExpect : CalM P w K mg base 3 (cl K "Line") "expect" ["self", "word"] [] (spExpect K) := ⟨_, _, [], He.meth_ok (c.fact 91 (f := .meth "Line" "expect") rfl), ok_expect (He5.fun_of F49) T mPeek mSkip, F49.bindsN (fun _ _ _ _ _ _ us hl => match us, hl with | [_, _], _ => rfl), .nil⟩
  have mTakeNumber : CalM P w K mg base 3 (cl K "Line") "take_number" ["self", "least", "most"] [] (spTakeNumber K) := ⟨_, _, [], He.meth_ok (c.fact 92 (f := .meth "Line" "take_number") rfl), ok_takeNumber (He5.fun_of F50) T mPeek mSkip cIsNumber, F50.bindsN (fun _ _ _ _ _ _ us hl => match us, hl with | [_, _, _], _ => rfl), .nil⟩
  have mTakeField : CalM P w K mg base 4 (cl K "Line") "take_field" ["self", "word", "least", "most"] [] (spTakeField K) := ⟨_, _, [], He.meth_ok (c.fact 93 (f := .meth "Line" "take_field") rfl), ok_takeField (He5.fun_of F51) T mExpect mTakeNumber, F51.bindsN (fun _ _ _ _ _ _ us hl => match us, hl with | [_, _, _, _], _ => rfl), .nil⟩
  have mTakeNew : CalM P w K mg base 3 (cl K "Line") "take_new" ["self", "taken"] [] (spTakeNew K) := ⟨_, _, [], He.meth_ok (c.fact 94 (f := .meth "Line" "take_new") rfl), ok_takeNew (He5.fun_of F52) T mPeek mSkip cIsName, F52.bindsN (fun _ _ _ _ _ _ us hl => match us, hl with | [_, _], _ => rfl), .nil⟩
  obtain ⟨dsK, vK, bK⟩ := FunD.binds1 (ps := ["self", "names", "least"]) F53 2 0 (by simp) rfl (fun T kV doc pm an cdv ct us its hu hi => match us, hu, its, hi with | [_, _], _, [_], _ => ⟨_, rfl, rfl⟩)
  have mTakeKnown : CalM P w K mg base 3 (cl K "Line") "take_known" ["self", "names", "least"] [.int 0] (spTakeKnown K) := ⟨_, _, dsK, He.meth_ok (c.fact 95 (f := .meth "Line" "take_known") rfl), ok_takeKnown F53 T mPeek mSkip cIsName, bK, vK⟩
  have mFinish : CalM P w K mg base 2 (cl K "Line") "finish" ["self"] [] (spFinish K) := ⟨_, _, [], He.meth_ok (c.fact 96 (f := .meth "Line" "finish") rfl), ok_finish (He5.fun_of F54) T mAtEnd, F54.bindsN (fun _ _ _ _ _ _ us hl => match us, hl with | [_], _ => rfl), .nil⟩
  have cLinesOf : Cal P w K mg base 3 "lines_of" ["text"] (spLinesOf K) := ⟨_, _, ok_linesOf (He5.fun_of F2) T iLine, F2.bindsN (fun _ _ _ _ _ _ us hl => match us, hl with | [_], _ => rfl), F2.kp, He.glo_ok X G (c.fact 30 (f := .glo "lines_of") rfl)⟩
  have cWithMade : Cal P w K mg base 1 "with_made" ["case", "number", "entry"] spWithMade := ⟨_, _, ok_withMade (He5.fun_of F3) T , F3.bindsN (fun _ _ _ _ _ _ us hl => match us, hl with | [_, _, _], _ => rfl), F3.kp, He.glo_ok X G (c.fact 31 (f := .glo "with_made") rfl)⟩
  have cWithTaken : Cal P w K mg base 1 "with_taken" ["case", "number", "entry"] spWithTaken := ⟨_, _, ok_withTaken (He5.fun_of F4) T , F4.bindsN (fun _ _ _ _ _ _ us hl => match us, hl with | [_, _, _], _ => rfl), F4.kp, He.glo_ok X G (c.fact 32 (f := .glo "with_taken") rfl)⟩
  have cNamesOf : Cal P w K mg base 1 "names_of" ["things"] (spNamesOf K) := ⟨_, _, ok_namesOf (He5.fun_of F5) T , F5.bindsN (fun _ _ _ _ _ _ us hl => match us, hl with | [_], _ => rfl), F5.kp, He.glo_ok X G (c.fact 33 (f := .glo "names_of") rfl)⟩
  have iSat : CalI P w K mg base 1 "Satellite" ["self", "name", "store", "power", "charge", "settle", "light"] (spSatInit K) := ⟨_, _, He.mkr_ok (c.fact 82 (f := .mkr "Satellite") rfl), ok_satInit (He5.fun_of F60) T , F60.bindsN (fun _ _ _ _ _ _ us hl => match us, hl with | [_, _, _, _, _, _, _], _ => rfl), He.glo_ok X G (c.fact 22 (f := .glo "Satellite") rfl)⟩
  have iSta : CalI P w K mg base 1 "Station" ["self", "name", "antennas", "turn"] (spStaInit K) := ⟨_, _, He.mkr_ok (c.fact 83 (f := .mkr "Station") rfl), ok_staInit (He5.fun_of F61) T , F61.bindsN (fun _ _ _ _ _ _ us hl => match us, hl with | [_, _, _, _], _ => rfl), He.glo_ok X G (c.fact 23 (f := .glo "Station") rfl)⟩
  have iRcd : CalI P w K mg base 1 "Recording" ["self", "name", "satellite", "window", "amounts", "urgency"] (spRcdInit K) := ⟨_, _, He.mkr_ok (c.fact 84 (f := .mkr "Recording") rfl), ok_rcdInit (He5.fun_of F62) T , F62.bindsN (fun _ _ _ _ _ _ us hl => match us, hl with | [_, _, _, _, _, _], _ => rfl), He.glo_ok X G (c.fact 24 (f := .glo "Recording") rfl)⟩
  have iPas : CalI P w K mg base 1 "Pass" ["self", "name", "satellite", "station", "span", "amounts"] (spPasInit K) := ⟨_, _, He.mkr_ok (c.fact 85 (f := .mkr "Pass") rfl), ok_pasInit (He5.fun_of F63) T , F63.bindsN (fun _ _ _ _ _ _ us hl => match us, hl with | [_, _, _, _, _, _], _ => rfl), He.glo_ok X G (c.fact 25 (f := .glo "Pass") rfl)⟩
  have iDraft : CalI P w K mg base 1 "Draft" ["self", "horizon"] (spDraftInit K) := ⟨_, _, He.mkr_ok (c.fact 86 (f := .mkr "Draft") rfl), ok_draftInit (He5.fun_of F64) T , F64.bindsN (fun _ _ _ _ _ _ us hl => match us, hl with | [_, _], _ => rfl), He.glo_ok X G (c.fact 26 (f := .glo "Draft") rfl)⟩
  have mSatLine : CalM P w K mg base 1 (cl K "Satellite") "line" ["self"] [] (spSatLine K) := ⟨_, _, [], He.meth_ok (c.fact 97 (f := .meth "Satellite" "line") rfl), ok_satLine (He5.fun_of F55) T , F55.bindsN (fun _ _ _ _ _ _ us hl => match us, hl with | [_], _ => rfl), .nil⟩
  have mStaLine : CalM P w K mg base 1 (cl K "Station") "line" ["self"] [] (spStaLine K) := ⟨_, _, [], He.meth_ok (c.fact 98 (f := .meth "Station" "line") rfl), ok_staLine (He5.fun_of F56) T , F56.bindsN (fun _ _ _ _ _ _ us hl => match us, hl with | [_], _ => rfl), .nil⟩
  have mRcdLine : CalM P w K mg base 1 (cl K "Recording") "line" ["self", "world"] [] (spRcdLine K) := ⟨_, _, [], He.meth_ok (c.fact 99 (f := .meth "Recording" "line") rfl), ok_rcdLine (He5.fun_of F57) T , F57.bindsN (fun _ _ _ _ _ _ us hl => match us, hl with | [_, _], _ => rfl), .nil⟩
  have mPasLine : CalM P w K mg base 1 (cl K "Pass") "line" ["self", "world"] [] (spPasLine K) := ⟨_, _, [], He.meth_ok (c.fact 100 (f := .meth "Pass" "line") rfl), ok_pasLine (He5.fun_of F58) T , F58.bindsN (fun _ _ _ _ _ _ us hl => match us, hl with | [_, _], _ => rfl), .nil⟩
  have cFound : Cal P w K mg base 1 "found_options" ["world", "number"] (spFoundOptions K) := ⟨_, _, ok_foundOptions (He5.fun_of F11) T , F11.bindsN (fun _ _ _ _ _ _ us hl => match us, hl with | [_, _], _ => rfl), F11.kp, He.glo_ok X G (c.fact 39 (f := .glo "found_options") rfl)⟩
  have cOptions : Cal P w K mg base 1 "options" ["world", "number"] (spOptions K) := ⟨_, _, ok_options (He5.fun_of F12) T , F12.bindsN (fun _ _ _ _ _ _ us hl => match us, hl with | [_, _], _ => rfl), F12.kp, He.glo_ok X G (c.fact 40 (f := .glo "options") rfl)⟩
  have cWorldText : Cal P w K mg base 2 "world_text" ["world"] (spWorldText K) := ⟨_, _, ok_worldText (He5.fun_of F10) T mSatLine mStaLine mRcdLine mPasLine, F10.bindsN (fun _ _ _ _ _ _ us hl => match us, hl with | [_], _ => rfl), F10.kp, He.glo_ok X G (c.fact 38 (f := .glo "world_text") rfl)⟩
  have iWorld : CalI P w K mg base 3 "World" ["self", "draft"] (spWorldInit K) := ⟨_, _, He.mkr_ok (c.fact 87 (f := .mkr "World") rfl), ok_worldInit (He5.fun_of F65) T cFound cWorldText, F65.bindsN (fun _ _ _ _ _ _ us hl => match us, hl with | [_, _], _ => rfl), He.glo_ok X G (c.fact 27 (f := .glo "World") rfl)⟩
  have cReadSat : Cal P w K mg base 5 "read_satellite" ["world", "line", "name"] (spReadSat K) := ⟨_, _, ok_readSat (He5.fun_of F7) T mTakeField mExpect mAtEnd mTakeNumber iSat, F7.bindsN (fun _ _ _ _ _ _ us hl => match us, hl with | [_, _, _], _ => rfl), F7.kp, He.glo_ok X G (c.fact 35 (f := .glo "read_satellite") rfl)⟩
  have cReadRcd : Cal P w K mg base 5 "read_recording" ["world", "line", "name"] (spReadRcd K) := ⟨_, _, ok_readRcd (He5.fun_of F8) T mTakeField mExpect mTakeKnown cNamesOf iRcd, F8.bindsN (fun _ _ _ _ _ _ us hl => match us, hl with | [_, _, _], _ => rfl), F8.kp, He.glo_ok X G (c.fact 36 (f := .glo "read_recording") rfl)⟩
  have cReadPas : Cal P w K mg base 5 "read_pass" ["world", "line", "name"] (spReadPas K) := ⟨_, _, ok_readPas (He5.fun_of F9) T mTakeField mExpect mTakeKnown cNamesOf iPas, F9.bindsN (fun _ _ _ _ _ _ us hl => match us, hl with | [_, _, _], _ => rfl), F9.kp, He.glo_ok X G (c.fact 37 (f := .glo "read_pass") rfl)⟩
  have cReadLine : Cal P w K mg base 6 "read_line" ["world", "line", "stage"] (spReadLine K) := ⟨_, _, ok_readLine (He5.fun_of F6) T mPeek mSkip mTakeNew mTakeField mFinish cNamesOf iSta cReadSat cReadRcd cReadPas, F6.bindsN (fun _ _ _ _ _ _ us hl => match us, hl with | [_, _, _], _ => rfl), F6.kp, He.glo_ok X G (c.fact 34 (f := .glo "read_line") rfl)⟩
  have gParse := ok_parse (P := P) (w := w) (base := base) (He5.fun_of F66) T cLinesOf mTakeField mFinish iDraft cReadLine iWorld
  have bParse : Binds K fd66 ["text"] [] := F66.bindsN (fun _ _ _ _ _ _ us hl => match us, hl with | [_], _ => rfl)
  have cBaseOf : Cal P w K mg base 1 "base_of" ["world"] (spBaseOf K) := ⟨_, _, ok_baseOf (He5.fun_of F13) T , F13.bindsN (fun _ _ _ _ _ _ us hl => match us, hl with | [_], _ => rfl), F13.kp, He.glo_ok X G (c.fact 41 (f := .glo "base_of") rfl)⟩
  have cWeight : Cal P w K mg base 2 "recording_weight" ["world", "r"] (spRecordingWeight K) := ⟨_, _, ok_recordingWeight (He5.fun_of F14) T cBaseOf, F14.bindsN (fun _ _ _ _ _ _ us hl => match us, hl with | [_, _], _ => rfl), F14.kp, He.glo_ok X G (c.fact 42 (f := .glo "recording_weight") rfl)⟩
  have cIsAmount : Cal P w K mg base 1 "is_amount" ["value", "least"] spIsAmount := ⟨_, _, ok_isAmount (He5.fun_of F15) T , F15.bindsN (fun _ _ _ _ _ _ us hl => match us, hl with | [_, _], _ => rfl), F15.kp, He.glo_ok X G (c.fact 43 (f := .glo "is_amount") rfl)⟩
  have cCheck : Cal P w K mg base 2 "check_prices" ["world", "divisor", "prices"] spCheckPrices := ⟨_, _, ok_checkPrices (He5.fun_of F16) T cIsAmount, F16.bindsN (fun _ _ _ _ _ _ us hl => match us, hl with | [_, _, _], _ => rfl), F16.kp, He.glo_ok X G (c.fact 44 (f := .glo "check_prices") rfl)⟩
  have cGain : Cal P w K mg base 3 "recording_gain" ["world", "divisor", "prices", "r", "option"] (spRecordingGain K) := ⟨_, _, ok_recordingGain (He5.fun_of F17) T cWeight, F17.bindsN (fun _ _ _ _ _ _ us hl => match us, hl with | [_, _, _, _, _], _ => rfl), F17.kp, He.glo_ok X G (c.fact 45 (f := .glo "recording_gain") rfl)⟩
  have cPassGain : Cal P w K mg base 1 "pass_gain" ["world", "divisor", "prices", "p"] (spPassGain K) := ⟨_, _, ok_passGain (He5.fun_of F18) T , F18.bindsN (fun _ _ _ _ _ _ us hl => match us, hl with | [_, _, _, _], _ => rfl), F18.kp, He.glo_ok X G (c.fact 46 (f := .glo "pass_gain") rfl)⟩
  have cBest : Cal P w K mg base 4 "best_recording" ["world", "divisor", "prices", "r"] (spBestRecording K) := ⟨_, _, ok_bestRecording (He5.fun_of F19) T cOptions cGain, F19.bindsN (fun _ _ _ _ _ _ us hl => match us, hl with | [_, _, _, _], _ => rfl), F19.kp, He.glo_ok X G (c.fact 47 (f := .glo "best_recording") rfl)⟩
  have cRTerm : Cal P w K mg base 5 "recording_term" ["world", "divisor", "prices", "r", "entry"] (spRecordingTerm K) := ⟨_, _, ok_recordingTerm (He5.fun_of F20) T cBest cGain, F20.bindsN (fun _ _ _ _ _ _ us hl => match us, hl with | [_, _, _, _, _], _ => rfl), F20.kp, He.glo_ok X G (c.fact 48 (f := .glo "recording_term") rfl)⟩
  have cPTerm : Cal P w K mg base 2 "pass_term" ["world", "divisor", "prices", "p", "entry"] (spPassTerm K) := ⟨_, _, ok_passTerm (He5.fun_of F21) T cPassGain, F21.bindsN (fun _ _ _ _ _ _ us hl => match us, hl with | [_, _, _, _, _], _ => rfl), F21.kp, He.glo_ok X G (c.fact 49 (f := .glo "pass_term") rfl)⟩
  have cBound : Cal P w K mg base 6 "bound" ["world", "case", "divisor", "prices"] (spBound K) := ⟨_, _, ok_bound (He5.fun_of F22) T cCheck cRTerm cPTerm, F22.bindsN (fun _ _ _ _ _ _ us hl => match us, hl with | [_, _, _, _], _ => rfl), F22.kp, He.glo_ok X G (c.fact 50 (f := .glo "bound") rfl)⟩
  have cIsIndex : Cal P w K mg base 1 "is_index" ["value", "count"] spIsIndex := ⟨_, _, ok_isIndex (He5.fun_of F23) T , F23.bindsN (fun _ _ _ _ _ _ us hl => match us, hl with | [_, _], _ => rfl), F23.kp, He.glo_ok X G (c.fact 51 (f := .glo "is_index") rfl)⟩
  have cArePrices : Cal P w K mg base 1 "are_prices" ["prices"] spArePrices := ⟨_, _, ok_arePrices (He5.fun_of F24) T , F24.bindsN (fun _ _ _ _ _ _ us hl => match us, hl with | [_], _ => rfl), F24.kp, He.glo_ok X G (c.fact 52 (f := .glo "are_prices") rfl)⟩
  have cByPrices : Cal P w K mg base 7 "closes_by_prices" ["world", "case", "weight", "divisor", "prices"] (spClosesByPrices K) := ⟨_, _, ok_closesByPrices (He5.fun_of F25) T cArePrices cBound, F25.bindsN (fun _ _ _ _ _ _ us hl => match us, hl with | [_, _, _, _, _], _ => rfl), F25.kp, He.glo_ok X G (c.fact 53 (f := .glo "closes_by_prices") rfl)⟩
  have cRCases : Cal P w K mg base 2 "recording_cases" ["world", "case", "r"] (spRecordingCases K) := ⟨_, _, ok_recordingCases (He5.fun_of F26) T cWithMade cOptions, F26.bindsN (fun _ _ _ _ _ _ us hl => match us, hl with | [_, _, _], _ => rfl), F26.kp, He.glo_ok X G (c.fact 54 (f := .glo "recording_cases") rfl)⟩
  have cPCases : Cal P w K mg base 2 "pass_cases" ["world", "case", "p"] (spPassCases K) := ⟨_, _, ok_passCases (He5.fun_of F27) T cWithTaken, F27.bindsN (fun _ _ _ _ _ _ us hl => match us, hl with | [_, _, _], _ => rfl), F27.kp, He.glo_ok X G (c.fact 55 (f := .glo "pass_cases") rfl)⟩
  have cSplit : Cal P w K mg base 3 "split_cases" ["world", "case", "kind", "index"] (spSplitCases K) := ⟨_, _, ok_splitCases (He5.fun_of F28) T cIsIndex cRCases cPCases, F28.bindsN (fun _ _ _ _ _ _ us hl => match us, hl with | [_, _, _, _], _ => rfl), F28.kp, He.glo_ok X G (c.fact 56 (f := .glo "split_cases") rfl)⟩
  have cClosesB : Cal P w K mg base 8 "closes" ["world", "case", "weight", "paper"] (spClosesB K) := ⟨_, _, ok_closesB (He5.fun_of F30) T cByPrices, F30.bindsN (fun _ _ _ _ _ _ us hl => match us, hl with | [_, _, _, _], _ => rfl), F30.kp, He.glo_ok X G (c.fact 58 (f := .glo "closes") rfl)⟩
  have cClosesAll : Cal P w K mg base 9 "closes_all" ["world", "cases", "weight", "papers"] (spClosesAll K) := ⟨_, _, ok_closesAll (He5.fun_of F29) T cClosesB, F29.bindsN (fun _ _ _ _ _ _ us hl => match us, hl with | [_, _, _, _], _ => rfl), F29.kp, He.glo_ok X G (c.fact 57 (f := .glo "closes_all") rfl)⟩
  have cCloses : Cal P w K mg base 10 "closes" ["world", "case", "weight", "paper"] (spCloses K) := ⟨_, _, ok_closes (He5.fun_of F30) T cSplit cClosesAll, F30.bindsN (fun _ _ _ _ _ _ us hl => match us, hl with | [_, _, _, _], _ => rfl), F30.kp, He.glo_ok X G (c.fact 58 (f := .glo "closes") rfl)⟩
  have cCell : Cal P w K mg base 1 "_law_cell" ["_law_script", "_law_k"] (spLCell K) := ⟨_, _, ok_lCell (He5.fun_of F31) T , F31.bindsN (fun _ _ _ _ _ _ us hl => match us, hl with | [_, _], _ => rfl), F31.kp, He.glo_ok X G (c.fact 59 (f := .glo "_law_cell") rfl)⟩
  have cDraws : Cal P w K mg base 1 "_law_draws" ["_law_cell_here", "_law_count"] spLDraws := ⟨_, _, ok_lDraws (He5.fun_of F32) T , F32.bindsN (fun _ _ _ _ _ _ us hl => match us, hl with | [_, _], _ => rfl), F32.kp, He.glo_ok X G (c.fact 60 (f := .glo "_law_draws") rfl)⟩
  have cLSat : Cal P w K mg base 2 "_law_satellite" ["_law_cell_here", "_law_k"] spLSat := ⟨_, _, ok_lSat (He5.fun_of F33) T cDraws, F33.bindsN (fun _ _ _ _ _ _ us hl => match us, hl with | [_, _], _ => rfl), F33.kp, He.glo_ok X G (c.fact 61 (f := .glo "_law_satellite") rfl)⟩
  have cLRcd : Cal P w K mg base 2 "_law_recording" ["_law_cell_here", "_law_k", "_law_satellites"] spLRcd := ⟨_, _, ok_lRcd (He5.fun_of F34) T cDraws, F34.bindsN (fun _ _ _ _ _ _ us hl => match us, hl with | [_, _, _], _ => rfl), F34.kp, He.glo_ok X G (c.fact 62 (f := .glo "_law_recording") rfl)⟩
  have cLPas : Cal P w K mg base 2 "_law_pass" ["_law_cell_here", "_law_k", "_law_satellites", "_law_stations"] spLPas := ⟨_, _, ok_lPas (He5.fun_of F35) T cDraws, F35.bindsN (fun _ _ _ _ _ _ us hl => match us, hl with | [_, _, _, _], _ => rfl), F35.kp, He.glo_ok X G (c.fact 63 (f := .glo "_law_pass") rfl)⟩
  have cLText : Cal P w K mg base 3 "_law_text" ["_law_script", "_law_recordings", "_law_passes"] (spLText K) := ⟨_, _, ok_lText (He5.fun_of F36) T cCell cDraws cLSat cLRcd cLPas, F36.bindsN (fun _ _ _ _ _ _ us hl => match us, hl with | [_, _, _], _ => rfl), F36.kp, He.glo_ok X G (c.fact 64 (f := .glo "_law_text") rfl)⟩
  have cLWorld : Cal P w K mg base 8 "_law_world" ["_law_script"] (spLWorld K) := ⟨_, _, ok_lWorld (He5.fun_of F37) T cCell cLText sm gParse bParse, F37.bindsN (fun _ _ _ _ _ _ us hl => match us, hl with | [_], _ => rfl), F37.kp, He.glo_ok X G (c.fact 65 (f := .glo "_law_world") rfl)⟩
  have cLOptions : Cal P w K mg base 1 "_law_options" ["_law_world_here", "_law_r"] (spLOptions K) := ⟨_, _, ok_lOptions (He5.fun_of F38) T , F38.bindsN (fun _ _ _ _ _ _ us hl => match us, hl with | [_, _], _ => rfl), F38.kp, He.glo_ok X G (c.fact 66 (f := .glo "_law_options") rfl)⟩
  have cLDrawn : Cal P w K mg base 2 "_law_drawn" ["_law_world_here", "_law_cell_here"] (spLDrawn K) := ⟨_, _, ok_lDrawn (He5.fun_of F39) T cDraws cLOptions, F39.bindsN (fun _ _ _ _ _ _ us hl => match us, hl with | [_, _], _ => rfl), F39.kp, He.glo_ok X G (c.fact 67 (f := .glo "_law_drawn") rfl)⟩
  have cLWeight : Cal P w K mg base 1 "_law_recording_weight" ["_law_world_here", "_law_r"] (spLWeight K) := ⟨_, _, ok_lWeight (He5.fun_of F40) T , F40.bindsN (fun _ _ _ _ _ _ us hl => match us, hl with | [_, _], _ => rfl), F40.kp, He.glo_ok X G (c.fact 68 (f := .glo "_law_recording_weight") rfl)⟩
  have cLGain : Cal P w K mg base 2 "_law_gain" ["_law_world_here", "_law_divisor", "_law_prices", "_law_r", "_law_option"] (spLGain K) := ⟨_, _, ok_lGain (He5.fun_of F41) T cLWeight, F41.bindsN (fun _ _ _ _ _ _ us hl => match us, hl with | [_, _, _, _, _], _ => rfl), F41.kp, He.glo_ok X G (c.fact 69 (f := .glo "_law_gain") rfl)⟩
  have cLBound : Cal P w K mg base 3 "_law_bound" ["_law_world_here", "_law_case_here", "_law_divisor", "_law_prices"] (spLBound K) := ⟨_, _, ok_lBound (He5.fun_of F42) T cLOptions cLGain, F42.bindsN (fun _ _ _ _ _ _ us hl => match us, hl with | [_, _, _, _], _ => rfl), F42.kp, He.glo_ok X G (c.fact 70 (f := .glo "_law_bound") rfl)⟩
  have cLCase : Cal P w K mg base 2 "_law_case" ["_law_plan", "_law_cell_here"] (spLCase K) := ⟨_, _, ok_lCase (He5.fun_of F43) T cDraws, F43.bindsN (fun _ _ _ _ _ _ us hl => match us, hl with | [_, _], _ => rfl), F43.kp, He.glo_ok X G (c.fact 71 (f := .glo "_law_case") rfl)⟩
  have cLWays : Cal P w K mg base 2 "_law_ways" ["_law_world_here", "_law_case_here", "_law_kind", "_law_at"] (spLWays K) := ⟨_, _, ok_lWays (He5.fun_of F44) T cLOptions, F44.bindsN (fun _ _ _ _ _ _ us hl => match us, hl with | [_, _, _, _], _ => rfl), F44.kp, He.glo_ok X G (c.fact 72 (f := .glo "_law_ways") rfl)⟩
  exact ok_law (He5.fun_of F45) T cCell cLWorld cLDrawn cLCase cLWays cLBound cCloses
end K59
set_option maxHeartbeats 0
open PySem PySem.W PySem.Calls PyProof.Rows
theorem PySem.Challenge.cw_downpass_k59_papers_of_choices_holds : PySem.Challenge.rw_downpass_k59_papers_of_choices.Holds := by
  w_on; o_law
  refine HandSHeadRun.head_any (r := OpenLaw.row PySem.Challenge.rw_downpass_k59_papers_of_choices) (q := view (OpenLaw.row PySem.Challenge.rw_downpass_k59_papers_of_choices).prog [110]) (H := K59.hk) (ob := K59.ob) (M := 20000) (loose := K59.names) (d := HandSHeadRun.topDef (OpenLaw.row PySem.Challenge.rw_downpass_k59_papers_of_choices).prog 110) (kwd := []) K59.ob_eq
    (by kernel_rfl) (fun s => by kernel_rfl) K59.run (by kernel_rfl) (by kernel_rfl) (by kernel_rfl) (by rfl) (by first | assumption | decide +kernel) (by decide +kernel) ⟨rfl, rfl, rfl, rfl, rfl, by decide +kernel⟩ ?hw ?hc
  case hw => w_witness2
  case hc =>
    refine L2.walk_ofE (l := PySem.Challenge.rw_downpass_k59_papers_of_choices) (n := 63) (k := 11) (x := "_law_script") (CX := L2.CX0) rfl (by decide) (by kernel_rfl) ⟨rfl, by decide, by decide⟩ ?F (fun _ _ _ _ z => z)
    intro w mg fa h Y G hmg0
    obtain ⟨K, KX, c⟩ := Y
    have hmg : mg ("law" : PySem.Str) = some (.ref fa) := by
      have e : (HandSHeadRun.topDef (OpenLaw.row PySem.Challenge.rw_downpass_k59_papers_of_choices).prog 110).name = ("law" : PySem.Str) := by kernel_rfl
      rw [← e]
      exact hmg0
    obtain ⟨fd, hb, hF⟩ := K59.facts (P := (PySem.Challenge.rw_downpass_k59_papers_of_choices).prog) (w := w) KX G hmg c
    exact ⟨K, fd, K59.spLaw K, KX, hb, fun H a ns hl _ hS => ⟨a, ns, rfl, hS, hl, fun _ => rfl⟩, hF⟩
