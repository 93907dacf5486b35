import PyProof.Rows.All
import Wide.All
import OpenK.AllK
import Wide.FinOn
import HandS.ForMost
import HandS.Evl
import KE.GoesEnum
import HandS.TupSets
import HandS.Style
import HandS.SetFor
import KE.SortData
import KE.KDictDisplayH
import KE.KDictKeyed
import KE.KDictCopyH
import HandS.Exc
import HandS.ExcInit
import HandS.ExcField
import HandS.ExcIs
import HandS.ClsMeth
import KE.KStateDown
import HandS.WordsExc
import HandS.Defaults
import HandS.Head0
import HandS.Head1
import HandS.Head2
import HandS.HeadEnd
import HandS.HeadHook1
import HandS.HeadHook2
import HandS.IsInst
import HandS.TupAny
import HandS.TupMul
import HandS.NoneIn
import HandS.StrMore
import HandS.Wide
import HandS.More
import PySem.Challenge.RW_twothreads_k24_whole_long_runs
section
set_option Elab.async false
set_option linter.all false
set_option maxRecDepth 100000
set_option maxHeartbeats 2000000
/-! What is walked, further: enumerate of a tuple, of a text; zip of a text and a tuple. -/
namespace R1
open PySem
open PySem.Sem (wp)
set_option maxHeartbeats 1000000 in
theorem meets_enum1 {v : Value} {o : Obj} {H : Heap → Prop} (B : Begins v o H) :
    Meets (Builtin.«enumerate.__new__» ⟨[.type "enumerate", v], []⟩) (fun _ R s => H s.heap ∧
      R (.ok (.ret (.ref (s.heap.push o).objs.size))) { s with heap := (s.heap.push o).push { cls := .type "enumerate", data := .fields #[.none, .bool false, .ref s.heap.objs.size, rawInt 0, .none, .none] } }) :=
  .of_wp fun prog w A R s h => by
    obtain ⟨hp, g, d, tk, os⟩ := s
    obtain ⟨h1, h⟩ := h
    have hsub := sub_enumerate
    have q1 : ∀ {A' : Around} {E : Value → Shared → Prop} {Q : Value → Shared → Prop}, Q (.ref hp.objs.size) ⟨hp.push o, g, d, tk, os⟩ → wpAny (model prog w) A' (pyIter v) Q E ⟨hp, g, d, tk, os⟩ :=
      fun q => B.iter prog w _ _ ⟨hp, g, d, tk, os⟩ _ h1 q
    wp_walk using q1
    refine wpAny_stack_any fun st => wpAny_pure ?_
    split
    · rename_i c _ _ _ _ _
      cases (c == Value.type "enumerate")
      · wp_walk using q1
        exact ⟨_, rfl, h⟩
      · wp_walk using q1
        exact ⟨_, rfl, h⟩
    · wp_walk using q1
      exact ⟨_, rfl, h⟩
section
variable {prog : Program} {w : World} {A : Around} {E : Value → Shared → Prop} {s : Shared}
theorem enum_begins1 {v : Value} {o : Obj} {H : Heap → Prop} {Q : Value → Shared → Prop} (B : Begins v o H) (h1 : H s.heap)
    (h : ∀ h', IsEnum h' (s.heap.objs.size + 1) s.heap.objs.size 0 .none → h'.get? s.heap.objs.size = some o → h'.objs.size = s.heap.objs.size + 2 →
      (∀ b o, s.heap.get? b = some o → h'.get? b = some o) → Q (.ref (s.heap.objs.size + 1)) { s with heap := h' }) :
    wpAny (model prog w) A (call (.type "enumerate") [v]) Q E s := by
  refine callType_new F.called_enumerate (by decide) (F.typeCall_enumerate_1 _) (F.newCall_enumerate_1 _) (fun obj => F.args_object_init_2 obj _) F.entry_enumerate_new
    (meets_enum1 B) ⟨h1, ?_⟩
  have hz : (s.heap.push o).objs.size = s.heap.objs.size + 1 := Heap.size_push ..
  show _ ∧ _
  rw [hz]
  have he : IsEnum ((s.heap.push o).push { cls := .type "enumerate", data := .fields #[.none, .bool false, .ref s.heap.objs.size, rawInt 0, .none, .none] }) (s.heap.objs.size + 1) s.heap.objs.size 0 .none := by
    have := Heap.get?_push_size (s.heap.push o) (o := { cls := .type "enumerate", data := .fields #[.none, .bool false, .ref s.heap.objs.size, rawInt 0, .none, .none] }) rfl
    rw [hz] at this; exact this
  refine ⟨⟨_, he, rfl⟩, h _ he (Heap.get?_push_of_some _ (Heap.get?_push_size _ B.free)) (by rw [Heap.size_push, hz]) fun b o x => Heap.get?_push_of_some _ (Heap.get?_push_of_some _ x)⟩
end
end R1
namespace L2
open PySem PySem.Spec PyProof.Rows
/-! ### enumerate(tuple) -/
def IteT (K : PySem.W.Frag) (a : Addr) : It :=
  ⟨fun i H => ∃ (xs : List V) (x : V), SqT K H a xs ∧ xs[i]? = some x, fun i H v H' => ∃ T x, v = .ref T ∧ H T = none ∧ H' = upd H T (.tup [.int (i : Nat), x]) ∧ ∀ xs, SqT K H a xs → xs[i]? = some x, fun i H => ∃ xs : List V, SqT K H a xs ∧ xs.length = i⟩
theorem tup_ne {h : Heap} {a b : Addr} {its : Array Value} {o : Obj} {c : String} (p : IsTup h a its) (e : h.get? b = some o) (hc : o.cls = .type c) (d : c ≠ "tuple") : a ≠ b := by
  rintro rfl
  obtain ⟨o', e', c', _⟩ := p
  rw [e] at e'
  cases e'
  rw [hc] at c'
  injection c' with c'
  exact d c'
theorem turn_enumT {P : Program} {w : World} {K : PySem.W.Frag} {elts : List Expr} {kk : Nat} {tpos : Pos} (a e it : Addr) :
    Turn P w K (.Tuple elts kk tpos) (IteT K a) [e, it] e (fun i h => (∃ old, IsEnum h e it ((i : Nat) : Int) old) ∧ h.IsTupleIter it a i ∧ e ≠ it) where
  mem := by simp
  obj := fun i h st b hb => by
    obtain ⟨⟨old, he⟩, ⟨o, ho, hc, hd⟩, _⟩ := st
    have e' : b = e ∨ b = it := by simpa using hb
    rcases e' with z | z
    · rw [z]; exact ⟨_, he, fun v q => nomatch q⟩
    · rw [z]; exact ⟨o, ho, fun v q => by rw [hd] at q; cases q⟩
  keep := fun i h h' st k => let ⟨⟨old, he⟩, hi, hne⟩ := st; ⟨⟨old, k e (by simp) _ he⟩, hi.at fun o q => k it (by simp) o q, hne⟩
  item := by
    intro X hP hw hK hc i pins s σ H E I hf st hg
    subst hP hw hK
    obtain ⟨⟨old, he⟩, hit, hne⟩ := st
    obtain ⟨xs, x, hq, hx⟩ := hg
    obtain ⟨its, rv, p, hz⟩ := I.tuple hq
    obtain ⟨u, hu, ru⟩ := rv.get hx
    have hel : e < s.heap.objs.size := Heap.lt_size he
    have hil : it < s.heap.objs.size := by obtain ⟨_, q, _⟩ := hit; exact Heap.lt_size q
    have nai : a ≠ it := by obtain ⟨o, q, c, _⟩ := hit; exact tup_ne p q c (by decide)
    have nae : a ≠ e := tup_ne p he rfl (by decide)
    have D := Draws.tuple (prog := X.prog) (w := X.w) (A := X.A.in1) (I.ok.hd hc) it a nai its.toArray
    refine wpAny_pyNext_enum_itemD D he ⟨hit, p⟩ (by simpa using (List.getElem?_eq_some_iff.mp hu).1) hne (by simp [hne, Ne.symm nae]) fun y h' tk hy ho hst' hT hsz hk => ?_
    have ey : y = u := by
      have : its.toArray[i]? = some y := hy
      rw [List.getElem?_toArray, hu] at this
      exact (Option.some.inj this).symm
    subst ey
    refine ⟨_, rfl, wpAny_letOwnedTupleGo_enum (s := { s with heap := h', toks := tk + 1 }) ho fun h'' he' sb => ?_⟩
    have hT2 : h''.get? s.heap.objs.size = some { cls := .type "tuple", data := .seq #[.int i tk, y] } := (sb.2 _ (Nat.ne_of_gt hel)).trans hT
    have new : ObjOk X.prog X.w (upd H s.heap.objs.size (.tup [.int (i : Nat), x])) h'' s.heap.objs.size (.tup [.int (i : Nat), x]) :=
      ⟨by show 2 ≤ sizeLine; decide, [.int i tk, y], .cons ⟨_, rfl⟩ (.cons ru .nil), ⟨_, hT2, rfl, _, rfl⟩⟩
    have I1 : Inv X pins σ (upd H s.heap.objs.size (.tup [.int (i : Nat), x])) { s with heap := h'', toks := tk + 1 } :=
      I.turnedNew (ch := [e, it]) (fun b ob hb q => (sb.2 b (fun z => hb (by simp [z]))).trans (hk b ob (fun z => hb (by simp [z])) (fun z => hb (by simp [z])) q)) hf (Nat.le_refl _) new
    refine ⟨.ref s.heap.objs.size, _, I1, rfl, ⟨_, x, rfl, I.hok.fresh (Nat.le_refl _), rfl, fun ys hy => by rw [I.tuple_inj hy hq]; exact hx⟩, ⟨⟨y, ?_⟩, hst'.1.at fun o q => (sb.2 it (Ne.symm hne)).trans q, hne⟩, fun b hb => ?_⟩
    · have e1 : ((i + 1 : Nat) : Int) = (i : Int) + 1 := by omega
      rw [e1]; exact he'
    · have hb' : b < s.heap.objs.size := by
        have e' : b = e ∨ b = it := by simpa using hb
        rcases e' with z | z
        · rw [z]; exact hel
        · rw [z]; exact hil
      rw [upd_ne (Nat.ne_of_lt hb')]
      exact (hf b hb).1
  done := by
    intro X hP hw hK hc i pins s σ H E I hf st hg
    subst hP hw hK
    obtain ⟨⟨old, he⟩, hit, hne⟩ := st
    obtain ⟨xs, hq, hx⟩ := hg
    obtain ⟨its, rv, p, hz⟩ := I.tuple hq
    obtain ⟨f0, f1, f2, f3, f4, f5⟩ := hf it (by simp)
    have nai : a ≠ it := by obtain ⟨o, q, c, _⟩ := hit; exact tup_ne p q c (by decide)
    have D := Draws.tuple (prog := X.prog) (w := X.w) (A := X.A.in1) (I.ok.hd hc) it a nai its.toArray
    have hl := rv.length
    have en : its.toArray.size = i := by simp; omega
    exact wpAny_pyNext_enum_endD D he (by rw [en]; exact ⟨hit, p⟩) fun h' eb => ⟨rfl, I.turned (t' := s.toks) (fun b o hb q => eb b o hb q) f0 f1 f3 f4 f5⟩
  self := fun A i s Q E st h => let ⟨⟨_, he⟩, _⟩ := st; wpAny_pyIter_enum he h
def iEnumT (K : PySem.W.Frag) (ta : TA) : TI := fun σ H R => ta σ H fun vs H1 => ∃ a xs, vs = [.ref a] ∧ SqT K H1 a xs ∧ R (IteT K a) H1
theorem pi_enumT {X : Cx} {e : Expr} {ta : TA} {p pos tpos : Pos} {elts : List Expr} {kk : Nat} (hg : Gl X "enumerate") (hm : X.mg "enumerate" = none) (ha : PA X [e] ta) (hs : starEach [e] X.env = [(false, eval e X.env)] := by rfl) :
    PI X (.Tuple elts kk tpos) (.Call (.Name "enumerate" p) [e] [] pos) (iEnumT X.K ta) := by
  refine ⟨fun pins s σ H R I h => ?_⟩
  refine Call_ (ld_blt I hg hm boot_enumerate (PyProof.Rows.callWith_type1 (thn (ha.run pos pins s σ H _ I h) fun us s1 ⟨vs, H1, I1, r1, q1⟩ => ?_) hs rfl))
  obtain ⟨a, xs, ex, hq, q⟩ := q1
  subst ex
  cases r1 with
  | cons r rr =>
    cases rr
    cases r
    obtain ⟨its, rv, p', hz⟩ := I1.tuple hq
    refine R1.enum_begins1 (begins_tuple a its.toArray) (show s1.heap.IsTuple a its.toArray from p') fun h' he hit hsz hk => wpAny_pyIter_enum he ?_
    have I2 : Inv X pins σ H1 { s1 with heap := h' } := I1.kept (t' := s1.toks) hk
    refine ⟨s1.heap.objs.size + 1, [s1.heap.objs.size + 1, s1.heap.objs.size], _, _, H1, rfl, I2, turn_enumT a (s1.heap.objs.size + 1) s1.heap.objs.size, ⟨⟨.none, he⟩, ⟨_, hit, rfl, rfl⟩, Nat.succ_ne_self _⟩, fun b hb => ?_, q⟩
    have e' : b = s1.heap.objs.size + 1 ∨ b = s1.heap.objs.size := by simpa using hb
    have hle : s1.heap.objs.size ≤ b := by
      rcases e' with z | z
      · rw [z]; exact Nat.le_add_right _ _
      · rw [z]; exact Nat.le_refl _
    exact I1.fpOk hle (I1.hok.fresh hle)
/-! ### enumerate(text) -/
def IteS (x : Str) : It :=
  ⟨fun i _ => i < x.cps.size, fun i H v H' => ∃ T c, v = .ref T ∧ H T = none ∧ H' = upd H T (.tup [.int (i : Nat), .str ⟨#[c]⟩]) ∧ x.cps[i]? = some c, fun i _ => i = x.cps.size⟩
theorem turn_enumS {P : Program} {w : World} {K : PySem.W.Frag} {elts : List Expr} {kk : Nat} {tpos : Pos} (x : Str) (t : Tok) (e it : Addr) :
    Turn P w K (.Tuple elts kk tpos) (IteS x) [e, it] e (fun i h => (∃ old, IsEnum h e it ((i : Nat) : Int) old) ∧ h.IsStrIter it (strIterType x) x t i ∧ e ≠ it) where
  mem := by simp
  obj := fun i h st b hb => by
    obtain ⟨⟨old, he⟩, ⟨o, ho, hc, hd⟩, _⟩ := st
    have e' : b = e ∨ b = it := by simpa using hb
    rcases e' with z | z
    · rw [z]; exact ⟨_, he, fun v q => nomatch q⟩
    · rw [z]; exact ⟨o, ho, fun v q => by rw [hd] at q; cases q⟩
  keep := fun i h h' st k => let ⟨⟨old, he⟩, ⟨o, ho, hc, hd⟩, hne⟩ := st; ⟨⟨old, k e (by simp) _ he⟩, ⟨o, k it (by simp) _ ho, hc, hd⟩, hne⟩
  item := by
    intro X hP hw hK hc i pins s σ H E I hf st hg
    subst hP hw hK
    obtain ⟨⟨old, he⟩, hit, hne⟩ := st
    have hel : e < s.heap.objs.size := Heap.lt_size he
    have hil : it < s.heap.objs.size := by obtain ⟨_, q, _⟩ := hit; exact Heap.lt_size q
    have D := Draws.text (prog := X.prog) (w := X.w) (A := X.A.in1) (I.ok.hd hc) it x t
    refine wpAny_pyNext_enum_itemD D he hit hg hne (by simp [hne]) fun y h' tk hy ho hst' hT hsz hk => ?_
    obtain ⟨c, u, hcx, rfl⟩ := hy
    refine ⟨_, rfl, wpAny_letOwnedTupleGo_enum (s := { s with heap := h', toks := tk + 1 }) ho fun h'' he' sb => ?_⟩
    have hT2 : h''.get? s.heap.objs.size = some { cls := .type "tuple", data := .seq #[.int i tk, .str ⟨#[c]⟩ u] } := (sb.2 _ (Nat.ne_of_gt hel)).trans hT
    have new : ObjOk X.prog X.w (upd H s.heap.objs.size (.tup [.int (i : Nat), .str ⟨#[c]⟩])) h'' s.heap.objs.size (.tup [.int (i : Nat), .str ⟨#[c]⟩]) :=
      ⟨by show 2 ≤ sizeLine; decide, [.int i tk, .str ⟨#[c]⟩ u], .cons ⟨_, rfl⟩ (.cons ⟨_, rfl⟩ .nil), ⟨_, hT2, rfl, _, rfl⟩⟩
    have I1 : Inv X pins σ (upd H s.heap.objs.size (.tup [.int (i : Nat), .str ⟨#[c]⟩])) { s with heap := h'', toks := tk + 1 } :=
      I.turnedNew (ch := [e, it]) (fun b ob hb q => (sb.2 b (fun z => hb (by simp [z]))).trans (hk b ob (fun z => hb (by simp [z])) (fun z => hb (by simp [z])) q)) hf (Nat.le_refl _) new
    refine ⟨.ref s.heap.objs.size, _, I1, rfl, ⟨_, c, rfl, I.hok.fresh (Nat.le_refl _), rfl, hcx⟩, ⟨⟨.str ⟨#[c]⟩ u, ?_⟩, ?_, hne⟩, fun b hb => ?_⟩
    · have e1 : ((i + 1 : Nat) : Int) = (i : Int) + 1 := by omega
      rw [e1]; exact he'
    · obtain ⟨o, ho, hc, hd⟩ := hst'
      exact ⟨o, (sb.2 it (Ne.symm hne)).trans ho, hc, hd⟩
    · have hb' : b < s.heap.objs.size := by
        have e' : b = e ∨ b = it := by simpa using hb
        rcases e' with z | z
        · rw [z]; exact hel
        · rw [z]; exact hil
      rw [upd_ne (Nat.ne_of_lt hb')]
      exact (hf b hb).1
  done := by
    intro X hP hw hK hc i pins s σ H E I hf st hg
    subst hP hw hK
    obtain ⟨⟨old, he⟩, hit, hne⟩ := st
    have hg : i = x.cps.size := hg
    subst hg
    obtain ⟨f0, f1, f2, f3, f4, f5⟩ := hf it (by simp)
    have D := Draws.text (prog := X.prog) (w := X.w) (A := X.A.in1) (I.ok.hd hc) it x t
    exact wpAny_pyNext_enum_endD D he hit fun h' eb => ⟨rfl, I.turned (t' := s.toks) (fun b o hb q => eb b o hb q) f0 f1 f3 f4 f5⟩
  self := fun A i s Q E st h => let ⟨⟨_, he⟩, _⟩ := st; wpAny_pyIter_enum he h
def iEnumS (ta : TA) : TI := fun σ H R => ta σ H fun vs H1 => ∃ x, vs = [.str x] ∧ R (IteS x) H1
theorem pi_enumS {X : Cx} {e : Expr} {ta : TA} {p pos tpos : Pos} {elts : List Expr} {kk : Nat} (hg : Gl X "enumerate") (hm : X.mg "enumerate" = none) (ha : PA X [e] ta) (hs : starEach [e] X.env = [(false, eval e X.env)] := by rfl) :
    PI X (.Tuple elts kk tpos) (.Call (.Name "enumerate" p) [e] [] pos) (iEnumS ta) := by
  refine ⟨fun pins s σ H R I h => ?_⟩
  refine Call_ (ld_blt I hg hm boot_enumerate (PyProof.Rows.callWith_type1 (thn (ha.run pos pins s σ H _ I h) fun us s1 ⟨vs, H1, I1, r1, q1⟩ => ?_) hs rfl))
  obtain ⟨x, ex, q⟩ := q1
  subst ex
  cases r1 with
  | cons r rr =>
    cases rr
    obtain ⟨t, rfl⟩ := r
    refine R1.enum_begins1 (begins_text x t) trivial fun h' he hit hsz hk => wpAny_pyIter_enum he ?_
    have I2 : Inv X pins σ H1 { s1 with heap := h' } := I1.kept (t' := s1.toks) hk
    refine ⟨s1.heap.objs.size + 1, [s1.heap.objs.size + 1, s1.heap.objs.size], _, _, H1, rfl, I2, turn_enumS x t (s1.heap.objs.size + 1) s1.heap.objs.size, ⟨⟨.none, he⟩, ⟨_, hit, rfl, rfl⟩, Nat.succ_ne_self _⟩, fun b hb => ?_, q⟩
    have e' : b = s1.heap.objs.size + 1 ∨ b = s1.heap.objs.size := by simpa using hb
    have hle : s1.heap.objs.size ≤ b := by
      rcases e' with z | z
      · rw [z]; exact Nat.le_add_right _ _
      · rw [z]; exact Nat.le_refl _
    exact I1.fpOk hle (I1.hok.fresh hle)
/-! ### zip(text, tuple) -/
def ItzST (K : PySem.W.Frag) (x : Str) (b : Addr) : It :=
  ⟨fun i H => ∃ (ys : List V) (y : V), i < x.cps.size ∧ SqT K H b ys ∧ ys[i]? = some y,
    fun i H v H' => ∃ T c y, v = .ref T ∧ H T = none ∧ H' = upd H T (.tup [.str ⟨#[c]⟩, y]) ∧ x.cps[i]? = some c ∧ ∀ ys, SqT K H b ys → ys[i]? = some y,
    fun i H => ∃ ys : List V, SqT K H b ys ∧ i ≤ x.cps.size ∧ i ≤ ys.length ∧ (i = x.cps.size ∨ i = ys.length)⟩
theorem turn_zipST {P : Program} {w : World} {K : PySem.W.Frag} {elts : List Expr} {kk : Nat} {tpos : Pos} {x : Str} {t : Tok} {b z TI TO i1 i2 : Addr} (S : ZipSep2 z TI TO i1 i2 [i1] [i2]) :
    Turn P w K (.Tuple elts kk tpos) (ItzST K x b) [z, TI, TO, i1, i2] z (fun i h => IsZip h z TI TO .none ∧ IsPair h TI (.ref i1) (.ref i2) ∧ (∃ x y, IsPair h TO x y ∧ b ≠ TO) ∧ h.IsStrIter i1 (strIterType x) x t i ∧ h.IsTupleIter i2 b i) where
  mem := by simp
  obj := fun i h st c hc => by
    obtain ⟨hz, hTI, ⟨x, y, hTO, _⟩, ⟨o1, e1, _, d1⟩, ⟨o2, e2, _, d2⟩⟩ := st
    have e' : c = z ∨ c = TI ∨ c = TO ∨ c = i1 ∨ c = i2 := by simpa using hc
    rcases e' with q | q | q | q | q
    · rw [q]; exact ⟨_, hz, fun v q => nomatch q⟩
    · rw [q]; exact ⟨_, hTI, fun v q => nomatch q⟩
    · rw [q]; exact ⟨_, hTO, fun v q => nomatch q⟩
    · rw [q]; exact ⟨o1, e1, fun v q => by rw [d1] at q; cases q⟩
    · rw [q]; exact ⟨o2, e2, fun v q => by rw [d2] at q; cases q⟩
  keep := fun i h h' st k => by
    obtain ⟨hz, hTI, ⟨x, y, hTO, nb⟩, ⟨o1, e1, c1, d1⟩, h2⟩ := st
    exact ⟨k z (by simp) _ hz, k TI (by simp) _ hTI, ⟨x, y, k TO (by simp) _ hTO, nb⟩, ⟨o1, k i1 (by simp) _ e1, c1, d1⟩, h2.at fun o q => k i2 (by simp) o q⟩
  item := by
    intro X hP hw hK hc i pins s σ H E I hf st hg
    subst hP hw hK
    obtain ⟨hz, hTI, ⟨x0, y0, hTO, nbTO⟩, h1, h2⟩ := st
    obtain ⟨ys, y, hlt, hqy, hy⟩ := hg
    obtain ⟨its2, rv2, p2, _⟩ := I.tuple hqy
    obtain ⟨u2, hu2, ru2⟩ := rv2.get hy
    have hzl : z < s.heap.objs.size := Heap.lt_size hz
    have nbz : b ≠ z := tup_ne p2 hz rfl (by decide)
    have nb1 : b ≠ i1 := by
      obtain ⟨o, q, c, _⟩ := h1
      refine tup_ne p2 q c ?_
      unfold strIterType
      split <;> decide
    have nb2 : b ≠ i2 := by obtain ⟨o, q, c, _⟩ := h2; exact tup_ne p2 q c (by decide)
    have S2 : ZipSep2 z TI TO i1 i2 [i1] [i2, b] :=
      { TIz := S.TIz, TOz := S.TOz, TITO := S.TITO, TIi1 := S.TIi1, mem1 := S.mem1, zf1 := S.zf1, Tf1 := S.Tf1, TIi2 := S.TIi2, mem2 := by simp,
        zf2 := by have := S.zf2; simp at this; simp [this, Ne.symm nbz], Tf2 := by have := S.Tf2; simp at this; simp [this, Ne.symm nbTO],
        sep1_2 := by have := S.sep1_2; simp at this; simp [this, Ne.symm nb1], sep2_1 := S.sep2_1 }
    have D1 := Draws.text (prog := X.prog) (w := X.w) (A := X.A.in1) (I.ok.hd hc) i1 x t
    have D2 := Draws.tuple (prog := X.prog) (w := X.w) (A := X.A.in1) (I.ok.hd hc) i2 b nb2 its2.toArray
    refine wpAny_pyNext_zipD2_item S2 D1 D2 hz hTI hTO h1 ⟨h2, p2⟩ hlt (by simpa using (List.getElem?_eq_some_iff.mp hu2).1) fun a1 a2 h' tk q1 q2 z' TO' s1' s2' hT hsz hk => ?_
    obtain ⟨c, t1, hcx, rfl⟩ := q1
    have e2 : a2 = u2 := by
      have : its2.toArray[i]? = some a2 := q2
      rw [List.getElem?_toArray, hu2] at this
      exact (Option.some.inj this).symm
    subst e2
    refine ⟨_, rfl, wpAny_letOwnedTupleGo_zip (s := { s with heap := h', toks := tk }) z' fun h'' z'' sb => ?_⟩
    have hT2 : h''.get? s.heap.objs.size = some { cls := .type "tuple", data := .seq #[.str ⟨#[c]⟩ t1, a2] } := (sb.2 _ (Nat.ne_of_gt hzl)).trans hT
    have new : ObjOk X.prog X.w (upd H s.heap.objs.size (.tup [.str ⟨#[c]⟩, y])) h'' s.heap.objs.size (.tup [.str ⟨#[c]⟩, y]) :=
      ⟨by show 2 ≤ sizeLine; decide, [.str ⟨#[c]⟩ t1, a2], .cons ⟨_, rfl⟩ (.cons ru2 .nil), ⟨_, hT2, rfl, _, rfl⟩⟩
    have I1 : Inv X pins σ (upd H s.heap.objs.size (.tup [.str ⟨#[c]⟩, y])) { s with heap := h'', toks := tk } :=
      I.turnedNew (t' := tk) (ch := [z, TI, TO, i1, i2]) (fun c o hb q => (sb.2 c (fun q' => hb (by simp [q']))).trans (hk c o (fun q' => hb (by simp [q'])) (fun q' => hb (by simp [q'])) (fun q' => hb (by simp [q'])) (fun q' => hb (by simp [q'])) q)) hf (Nat.le_refl _) new
    refine ⟨.ref s.heap.objs.size, _, I1, rfl, ⟨_, c, y, rfl, I.hok.fresh (Nat.le_refl _), rfl, hcx, fun l hl => by rw [I.tuple_inj hl hqy]; exact hy⟩, ⟨z'', ?_, ⟨.str ⟨#[c]⟩ t1, a2, ?_, nbTO⟩, ?_, ?_⟩, fun c hcm => ?_⟩
    · have hTIi2 : TI ≠ i2 := S.TIi2
      exact (sb.2 _ S.TIz).trans (hk _ _ S.TIz S.TITO S.TIi1 hTIi2 hTI)
    · exact (sb.2 _ S.TOz).trans TO'
    · obtain ⟨o, ho, hc1, hd1⟩ := s1'
      have n1z : i1 ≠ z := fun q => S.zf1 (by simp [q])
      exact ⟨o, (sb.2 _ n1z).trans ho, hc1, hd1⟩
    · have n2z : i2 ≠ z := fun q => S.zf2 (by simp [q])
      exact s2'.1.at fun o q => (sb.2 _ n2z).trans q
    · have hlt : c < s.heap.objs.size := by
        have e' : c = z ∨ c = TI ∨ c = TO ∨ c = i1 ∨ c = i2 := by simpa using hcm
        rcases e' with q | q | q | q | q
        · rw [q]; exact hzl
        · rw [q]; exact Heap.lt_size hTI
        · rw [q]; exact Heap.lt_size hTO
        · rw [q]; obtain ⟨_, e1, _⟩ := h1; exact Heap.lt_size e1
        · rw [q]; obtain ⟨_, e2, _⟩ := h2; exact Heap.lt_size e2
      rw [upd_ne (Nat.ne_of_lt hlt)]
      exact (hf c hcm).1
  done := by
    intro X hP hw hK hc i pins s σ H E I hf st hg
    subst hP hw hK
    obtain ⟨hz, hTI, ⟨x0, y0, hTO, nbTO⟩, h1, h2⟩ := st
    obtain ⟨ys, hqy, hle1, hle2, hend⟩ := hg
    obtain ⟨its2, rv2, p2, _⟩ := I.tuple hqy
    have l2 := rv2.length
    have nbz : b ≠ z := tup_ne p2 hz rfl (by decide)
    have nb1 : b ≠ i1 := by
      obtain ⟨o, q, c, _⟩ := h1
      refine tup_ne p2 q c ?_
      unfold strIterType
      split <;> decide
    have nb2 : b ≠ i2 := by obtain ⟨o, q, c, _⟩ := h2; exact tup_ne p2 q c (by decide)
    have S2 : ZipSep2 z TI TO i1 i2 [i1] [i2, b] :=
      { TIz := S.TIz, TOz := S.TOz, TITO := S.TITO, TIi1 := S.TIi1, mem1 := S.mem1, zf1 := S.zf1, Tf1 := S.Tf1, TIi2 := S.TIi2, mem2 := by simp,
        zf2 := by have := S.zf2; simp at this; simp [this, Ne.symm nbz], Tf2 := by have := S.Tf2; simp at this; simp [this, Ne.symm nbTO],
        sep1_2 := by have := S.sep1_2; simp at this; simp [this, Ne.symm nb1], sep2_1 := S.sep2_1 }
    have D1 := Draws.text (prog := X.prog) (w := X.w) (A := X.A.in1) (I.ok.hd hc) i1 x t
    have D2 := Draws.tuple (prog := X.prog) (w := X.w) (A := X.A.in1) (I.ok.hd hc) i2 b nb2 its2.toArray
    exact wpAny_pyNext_zipD2_end S2 D1 D2 hz hTI hTO h1 ⟨h2, p2⟩ hle1 (by simp; omega) (by rcases hend with q | q; exact .inl q; exact .inr (by simp; omega)) fun h' tk hk => ⟨rfl, I.turnedL (t' := tk) (ch := [z, TI, TO, i1, i2]) (fun c o hb q =>
      hk c o (fun q' => hb (by simp [q'])) (fun q' => hb (by simp [q'])) (fun q' => hb (by simp [q'])) (fun q' => hb (by simp [q'])) q) hf⟩
  self := fun A i s Q E st h => wpAny_pyIter_zip st.1 h
def iZipST (K : PySem.W.Frag) (ta : TA) : TI := fun σ H R => ta σ H fun vs H1 => ∃ x b ys, vs = [.str x, .ref b] ∧ SqT K H1 b ys ∧ R (ItzST K x b) H1
theorem pi_zipST {X : Cx} {e e2 : Expr} {ta : TA} {p pos tpos : Pos} {elts : List Expr} {kk : Nat} (hg : Gl X "zip") (hm : X.mg "zip" = none) (ha : PA X [e, e2] ta)
    (hs : starEach [e, e2] X.env = (false, eval e X.env) :: starEach [e2] X.env := by rfl) (hpl : (backTo pos (starEach [e2] X.env)).any (·.1) = false := by rfl) :
    PI X (.Tuple elts kk tpos) (.Call (.Name "zip" p) [e, e2] [] pos) (iZipST X.K ta) := by
  refine ⟨fun pins s σ H R I h => ?_⟩
  refine Call_ (ld_blt I hg hm PyProof.Rows.boot_zip (PyProof.Rows.callWith_type1 (thn (ha.run pos pins s σ H _ I h) fun us s1 ⟨vs, H1, I1, r1, q1⟩ => ?_) hs hpl))
  obtain ⟨x, b, ys, ex, hqy, q⟩ := q1
  subst ex
  cases r1 with
  | cons r rr =>
    cases rr with
    | cons r' rr =>
      cases rr
      obtain ⟨t, rfl⟩ := r
      cases r'
      obtain ⟨its2, rv2, p2, _⟩ := I1.tuple hqy
      have lb : b < s1.heap.objs.size := p2.lt
      refine zip_begins2 (begins_text x t) (begins_tuple b its2.toArray) trivial (show s1.heap.IsTuple b its2.toArray from p2) fun h' hz hTI hTO h1 h2 hsz hk => wpAny_pyIter_zip hz ?_
      have I2 : Inv X pins σ H1 { s1 with heap := h' } := I1.kept (t' := s1.toks) hk
      refine ⟨s1.heap.objs.size + 4, [s1.heap.objs.size + 4, s1.heap.objs.size + 2, s1.heap.objs.size + 3, s1.heap.objs.size, s1.heap.objs.size + 1], _, _, H1, rfl, I2, turn_zipST (zip_sep2 (fp1 := []) (fp2 := []) (by simp) (by simp)), ⟨hz, hTI, ⟨_, _, hTO, Nat.ne_of_lt (Nat.lt_of_lt_of_le lb (Nat.le_add_right _ _))⟩, ⟨_, h1, rfl, rfl⟩, ⟨_, h2, rfl, rfl⟩⟩, fun c hcm => ?_, q⟩
      have e' : c = s1.heap.objs.size + 4 ∨ c = s1.heap.objs.size + 2 ∨ c = s1.heap.objs.size + 3 ∨ c = s1.heap.objs.size ∨ c = s1.heap.objs.size + 1 := by simpa using hcm
      have hle : s1.heap.objs.size ≤ c := by
        rcases e' with z | z | z | z | z
        · rw [z]; exact Nat.le_add_right _ _
        · rw [z]; exact Nat.le_add_right _ _
        · rw [z]; exact Nat.le_add_right _ _
        · rw [z]; exact Nat.le_refl _
        · rw [z]; exact Nat.le_add_right _ _
      exact I1.fpOk hle (I1.hok.fresh hle)
end L2
end

section
set_option Elab.async false
set_option linter.all false
set_option maxRecDepth 100000
set_option maxHeartbeats 2000000
/-! Further rules: text * int, repr(bool), text[::-1], sorted of tuples, list.remove of texts, displays and update with tuple keys. -/
namespace L2
open PySem PySem.Spec PyProof.Rows
section
variable {X : Cx}
/-! ### text * int -/
def repS (z : Str) (n : Nat) : Str := ⟨(List.replicate n z.cps.toList).flatten.toArray⟩
theorem foldl_cps (xs : Array Nat) : ∀ (n : Nat) (acc : Array Nat), (List.replicate n xs).foldl (fun a b => a ++ b) acc = acc ++ (List.replicate n xs.toList).flatten.toArray
  | 0, acc => by simp
  | n + 1, acc => by
    rw [List.replicate_succ, List.foldl_cons, foldl_cps xs n, List.replicate_succ, List.flatten_cons, Array.append_assoc]
    congr 1
    apply Array.toList_inj.mp
    simp
theorem op_repS : OpR X (binaryOp .Mult) (fun x y H Q => ∃ z n, x = .str z ∧ y = .int n ∧ 0 ≤ n ∧ n ≤ 1000 ∧ z.length ≤ 1000 ∧ Q (.str (repS z n.toNat)) H) := by
  intro pins s σ H x y v u Q I rx ry h
  obtain ⟨z, n, rfl, rfl, h0, h1, hz, q⟩ := h
  obtain ⟨t, rfl⟩ := rx
  obtain ⟨t', rfl⟩ := ry
  have e2 : z.length * n.toNat ≤ 1000 * 1000 := Nat.mul_le_mul hz (by omega)
  refine P.mul_str ?_ (fun h3 _ => ?_) (fun _ _ => ?_) ?_
  · rw [decide_eq_false (by omega), decide_eq_false (by omega)] <;> rfl
  · have h4 : (2 ^ 63 - 1) / n ≥ (2 ^ 63 - 1) / 1000 := by
      have hn : 0 < n := by omega
      exact (Int.le_ediv_iff_mul_le hn).mpr (Int.le_trans (Int.mul_le_mul_of_nonneg_left h1 (by decide)) (by decide))
    have h5 : ((2 : Int) ^ 63 - 1) / 1000 = 9223372036854775 := by decide
    have h6 : ((z.length : Nat) : Int) ≤ 1000 := by omega
    omega
  · unfold Builtin.Str.tooLong
    refine decide_eq_false ?_
    rw [sizeLine_eq]
    omega
  · by_cases c1 : n < 1
    · rw [if_pos c1]
      have e : n = 0 := by omega
      subst e
      exact ⟨by decide, .str _, H, I.tok _, ⟨_, rfl⟩, q⟩
    · rw [if_neg c1]
      by_cases c2 : (n == 1 || z.length == 0) = true
      · rw [if_pos c2]
        refine ⟨.str _, H, I, ⟨t, rfl⟩, ?_⟩
        have e : repS z n.toNat = z := by
          rcases Bool.or_eq_true_iff.mp c2 with c | c
          · have : n = 1 := by simpa using c
            subst this
            show (⟨(List.replicate 1 z.cps.toList).flatten.toArray⟩ : Str) = z
            simp
          · have c3 : z.length = 0 := by simpa using c
            have e3 : z.cps = #[] := Array.eq_empty_of_size_eq_zero c3
            obtain ⟨zc⟩ := z
            have e3 : zc = #[] := e3
            subst e3
            show (⟨(List.replicate n.toNat ([] : List Nat)).flatten.toArray⟩ : Str) = _
            simp
        rw [e] at q
        exact q
      · rw [if_neg c2]
        have e : (⟨(List.replicate n.toNat z.cps).foldl (· ++ ·) #[]⟩ : Str) = repS z n.toNat := by
          unfold repS
          congr 1
          rw [foldl_cps]
          simp
        rw [e]
        refine ⟨?_, .str _, H, I.tok _, ⟨_, rfl⟩, q⟩
        show (List.replicate n.toNat z.cps.toList).flatten.toArray.size ≤ sizeLine
        rw [List.size_toArray, List.length_flatten, List.map_replicate, List.sum_replicate_nat, Array.length_toList, Nat.mul_comm, sizeLine_eq]
        have : z.cps.size * n.toNat ≤ 1000 * 1000 := e2
        omega
/-! ### repr(bool) -/
theorem call_reprB : CallR X (.builtin "repr") (fun xs H Q => ∃ b, xs = [.bl b] ∧ Q (.str (if b then "True" else "False")) H) := by
  intro pins s σ H xs us Q I r h
  obtain ⟨b, rfl, q⟩ := h
  cases r with
  | cons r rr =>
    cases rr
    cases r
    exact P.repr_of_bool ⟨.str _, H, I.tok _, ⟨_, rfl⟩, q⟩
/-! ### text[::-1] -/
theorem kr_text (z : Str) : (Builtin.Str.strSliceIndices none none (-1) z.length).filterMap (z.cps[·]?) = z.cps.toList.reverse := by
  have e : Builtin.Str.strSliceIndices none none (-1) z.length = sliceRange ((z.length : Int) - 1) (-1) (-1) := by
    first
      | rfl
      | simp [Builtin.Str.strSliceIndices]
  rw [e, PySem.W.krv_sliceRange, PySem.W.krv_range, List.filterMap_reverse]
  congr 1
  exact PySem.W.krv_all z.cps
def tRevS (te : TE) : TE := fun σ H Q => te σ H fun x H1 => ∃ z, x = .str z ∧ z.length ≤ sizeLine ∧ Q (.str ⟨z.cps.toList.reverse.toArray⟩) H1
theorem pe_revS {e : Expr} {te : TE} {k : Nat} {p1 p2 p3 pos : Pos} (he : PE X e te) : PE X (.Subscript e (.Slice none none (some (.UnaryOp .USub (.Constant (.int 1) k p1) p2)) p3) pos) (tRevS te) := by
  refine ⟨fun pins s σ H Q I h => ?_⟩
  refine Subscript_ (thn (he.run pins s σ H _ I h) fun v s1 ⟨x, H1, I1, r1, q1⟩ => ?_)
  obtain ⟨z, ex, hz, q⟩ := q1
  subst ex
  obtain ⟨t, rfl⟩ := r1
  have hst : PO X (some (.UnaryOp .USub (.Constant (.int 1) k p1) p2)) (tPart (tUn (rU fun i => .int (-i)) (tC (.int 1)))) := po_some (pe_un un_neg pe_int)
  refine wpAny_Slice (thn (po_none.run pins s1 σ H1 (fun o H2 => o = none ∧ H2 = H1) I1 ⟨rfl, rfl⟩) fun vl s2 ⟨l, H2, I2, pl, el, e2⟩ => ?_)
  subst el e2
  refine thn (po_none.run pins s2 σ H2 (fun o H3 => o = none ∧ H3 = H2) I2 ⟨rfl, rfl⟩) fun vu s3 ⟨u, H3, I3, pu, eu, e3⟩ => ?_
  subst eu e3
  refine thn (hst.run pins s3 σ H3 (fun o H4 => o = some (-1) ∧ H4 = H3) I3 ⟨1, rfl, -1, rfl, rfl, rfl⟩) fun vs s4 ⟨o, H4, I4, ps, eo, e4⟩ => ?_
  subst eo e4
  obtain ⟨l1, rfl, el1⟩ := IsPart.raw pl
  obtain ⟨u1, rfl, eu1⟩ := IsPart.raw pu
  obtain ⟨st1, rfl, est⟩ := IsPart.raw ps
  have I5 : Inv X pins σ H4 { s4 with heap := s4.heap.push { cls := .type "slice", data := .fields #[partValue l1, partValue u1, partValue st1] } } := I4.kept (t' := s4.toks) fun b ob q => Heap.get?_push_of_some _ q
  refine tail_any (ops := [.str z t, .ref s4.heap.objs.size]) (typeIs_str _ _ _) (F.slot_str_getitem.lookup) ?_ (by with_unfolding_all rfl)
  refine wpAny_getItem_str_slice (l := l1) (u := u1) (st := st1) ⟨_, Heap.get?_push_size _ rfl, rfl, rfl⟩ (by rw [est]; rfl) ?_
  show Made.post (if ((st1.map (·.1)).getD 1 == 1 && (Builtin.Str.strSliceIndices (l1.map (·.1)) (u1.map (·.1)) ((st1.map (·.1)).getD 1) z.length).length == z.length) = true then Made.val (.str z t)
    else Made.str ⟨((Builtin.Str.strSliceIndices (l1.map (·.1)) (u1.map (·.1)) ((st1.map (·.1)).getD 1) z.length).filterMap (z.cps[·]?)).toArray⟩) (EP X pins σ Q) _
  rw [el1, eu1, est]
  show Made.post (if ((-1 : Int) == 1 && _) = true then Made.val (.str z t) else Made.str ⟨((Builtin.Str.strSliceIndices none none (-1) z.length).filterMap (z.cps[·]?)).toArray⟩) (EP X pins σ Q) _
  rw [kr_text, if_neg (by simp)]
  refine ⟨?_, .str _, H4, I5.tok _, ⟨_, rfl⟩, q⟩
  show z.cps.toList.reverse.toArray.size ≤ sizeLine
  rw [List.size_toArray, List.length_reverse, Array.length_toList]
  exact hz
/-! ### sorted of data -/
theorem eachIs_vals : ∀ {bs : List (V × PyData)} {us : List Value}, Vals (bs.map (·.1)) us → PySem.W.EachIs (fun v (b : V × PyData) => RelV b.1 v) us bs
  | [], _, r => by
    rw [List.map_nil] at r
    cases r
    exact .nil
  | b :: bs, _, r => by
    rw [List.map_cons] at r
    cases r with
    | cons h t => exact .cons h (eachIs_vals t)
theorem vals_eachIs : ∀ {us : List Value} {bs : List (V × PyData)}, PySem.W.EachIs (fun v (b : V × PyData) => RelV b.1 v) us bs → Vals (bs.map (·.1)) us
  | _, _, .nil => .nil
  | _, _, .cons h t => .cons h (vals_eachIs t)
theorem eachIs_reads {pins : List (Addr × Obj)} {σ : St} {H : Hp} {s : Shared} (I : Inv X pins σ H s) : ∀ {bs : List (V × PyData)} {us : List Value}, Vals (bs.map (·.1)) us → (∀ b ∈ bs, Dp X.K H b.1 b.2) →
    PySem.W.EachIs (fun v (b : V × PyData) => ∃ as, Reads s.heap v b.2 as) us bs
  | [], _, r, _ => by
    rw [List.map_nil] at r
    cases r
    exact .nil
  | b :: bs, _, r, hd => by
    rw [List.map_cons] at r
    cases r with
    | cons h t => exact .cons (Dp.reads I b.2 b.1 _ (hd b List.mem_cons_self) h) (eachIs_reads I t fun c hc => hd c (List.mem_cons_of_mem _ hc))
def rSortD (K : PySem.W.Frag) : List V → Hp → VK → Prop := fun vs H Q => ∃ (a : Addr) (bs : List (V × PyData)), vs = [V.ref a] ∧ SqL K H a (bs.map (·.1)) ∧ (∀ b ∈ bs, Dp K H b.1 b.2) ∧ PySem.W.AllAlike (bs.map (·.2)) ∧ PySem.W.Sortable (bs.map (·.2)) ∧ (∀ b ∈ bs, b.2.depth ≤ 60) ∧
  ∀ p, H p = none → Q (.ref p) (upd H p (.lst ((bs.mergeSort (PySem.W.dataLe false (·.2))).map (·.1))))
theorem cr_sortD (hu : X.A.units + 64 < cLine) : CallR X (.builtin "sorted") (rSortD X.K) := by
  intro pins s σ H vs us Q I r h
  obtain ⟨a, bs, rfl, hs, hd, hal, hk, hdep, q⟩ := h
  obtain ⟨its, rv, hl, hz⟩ := I.list hs
  rw [Vals.ref1 r]
  rw [List.length_map] at hz
  refine PySem.W.sorted_data (R := fun v (b : V × PyData) => RelV b.1 v) (enc := (·.2)) (vs := its) hl.isList (eachIs_vals rv) (eachIs_reads I rv hd) hal hk hz (fun b hb => by have := hdep b hb; omega) fun out ho eo => ?_
  obtain ⟨ep, he'⟩ := PyProof.Rows.sortedAll_at s.heap its (List.toArray out)
  have rv' := vals_eachIs eo
  have hlen : ((bs.mergeSort (PySem.W.dataLe false (·.2))).map (·.1)).length ≤ sizeLine := by
    rw [List.length_map, List.length_mergeSort]
    exact hz
  exact ⟨.ref _, upd H (s.heap.objs.size + 1) (.lst ((bs.mergeSort (PySem.W.dataLe false (·.2))).map (·.1))), I.laid (t' := s.toks) (fun _ _ => PyProof.Rows.sortedAll_old) (Nat.le_succ _) ⟨hlen, out, ep, rv', he'⟩, rfl, q _ (I.hok.fresh (Nat.le_succ _))⟩
/-! ### list.remove of a text -/
theorem erase_mapS : ∀ (l : List Str) (j : Nat), (l.map V.str).eraseIdx j = (l.eraseIdx j).map V.str
  | [], j => by simp
  | a :: r, 0 => by simp
  | a :: r, j + 1 => by
    have ih := erase_mapS r j
    simp [ih]
end
end L2
end

section
set_option Elab.async false
set_option linter.all false
set_option maxRecDepth 100000
set_option maxHeartbeats 2000000
/-! Further rules: list.remove of texts; displays and update with tuple keys; two small whole numbers hash apart. -/
namespace L2
open PySem PySem.Spec PyProof.Rows
section
variable {X : Cx}
/-! ### list.remove of a text -/
def rRemS : V → List V → Hp → VK → Prop := fun x xs H Q => ∃ (l : Addr) (ns : List Str) (k : Str) (j : Nat), x = .ref l ∧ xs = [.str k] ∧ H l = some (.lst (ns.map V.str)) ∧ ns[j]? = some k ∧ (∀ m : Nat, m < j → ns[m]? ≠ some k) ∧ Q .non (upd H l (.lst ((ns.eraseIdx j).map V.str)))
theorem mt_removeS : MtM X "list.remove" rRemS := by
  intro pins s σ H x xs v us Q I rx rxs h
  obtain ⟨l, ns, k, j, rfl, rfl, hH, hj, hno, q⟩ := h
  cases rx
  obtain ⟨u, rfl, ru⟩ := rxs.one
  obtain ⟨t, rfl⟩ := ru
  obtain ⟨z, its, n, r, hl, e⟩ := I.lstM hH
  have hi := strs_of_vals r
  rw [List.length_map] at hl z
  have hjn : j < ns.length := (List.getElem?_eq_some_iff.mp hj).1
  have hjl : j < its.toArray.size := by rw [List.size_toArray]; omega
  refine call_meets PySem.F.slot_list_remove ⟨_, e, rfl⟩ PySem.F.entry_list_remove (PySem.F.args_list_remove_2 _ _)
    (MeetsSeq.list_remove l its.toArray n (.str k t) (PyProof.Rows.isStrOf k) (fun y hy => eq_isStrOf k t hi y (by simpa using hy)) j hjl ?_ ?_ (by rw [List.size_toArray]; omega)) ⟨e, ?_⟩
  · obtain ⟨tj, hjt⟩ := hi.get j k hj
    obtain ⟨h1, h2⟩ := List.getElem?_eq_some_iff.mp hjt
    have e1 : its.toArray[j] = .str k tj := by simpa using h2
    rw [e1]
    exact beq_self_eq_true k
  · intro m hm hmj
    have hmn : m < ns.length := by omega
    obtain ⟨tm, hmt⟩ := hi.get m _ (List.getElem?_eq_getElem hmn)
    obtain ⟨h1, h2⟩ := List.getElem?_eq_some_iff.mp hmt
    have e1 : its.toArray[m] = .str ns[m] tm := by simpa using h2
    rw [e1]
    refine beq_eq_false_iff_ne.mpr fun e2 => hno m hmj ?_
    rw [List.getElem?_eq_getElem hmn, e2]
  · have rr := r.eraseIdx j
    rw [erase_mapS] at rr
    refine ⟨.non, _, I.lset (its' := its.eraseIdx j) (t' := s.toks) hH e ?_ rr ?_, rfl, q⟩
    · show its.toArray.eraseIdxIfInBounds j = (its.eraseIdx j).toArray
      rw [List.eraseIdxIfInBounds_toArray]
    · have z2 := len_erase ns j
      rw [List.length_map]
      omega
/-! ### displays with tuple keys, update -/
def mergeT (kvs more : List (List Key × V)) : List (List Key × V) := more.foldl (fun acc kv => putK acc kv.1 kv.2) kvs
theorem length_mergeT : ∀ (more kvs : List (List Key × V)), (mergeT kvs more).length ≤ kvs.length + more.length
  | [], kvs => by show kvs.length ≤ kvs.length + 0; omega
  | p :: r, kvs => by
    have h1 := length_mergeT r (putK kvs p.1 p.2)
    have h2 := length_putK kvs p.1 p.2
    show (mergeT (putK kvs p.1 p.2) r).length ≤ _
    rw [List.length_cons]; omega
theorem KT.merge {H : Hp} : ∀ {more : List (List Key × V)} {rs : List (List Key × Addr × Value)} {kvs : List (List Key × V)} {vs : List (List Key × Addr × Value)}, KT H more rs → KT H kvs vs → KT H (mergeT kvs more) (storedAllH vs rs) := by
  intro more rs kvs vs r
  unfold KT at r
  induction r generalizing kvs vs with
  | nil => intro q; exact q
  | @cons p q ps qs h t ih =>
    intro r0
    have e : KT H (putK kvs p.1 p.2) (storedH vs q.1 q.2.1 q.2.2) := by
      have := r0.put p.1 h.2.1 h.2.2
      rw [← h.1]; exact this
    exact ih e
/-- the keys as they were made: the address of each key's tuple -/
def KeysAt (H : Hp) : List (V × V) → List (List Key × V) → Prop := Paired fun p kv => (∃ b, p.1 = .ref b ∧ H b = some (.tup (kv.1.map kV))) ∧ p.2 = kv.2
theorem carriesH_of {P : Program} {w : World} {H : Hp} {h : Heap} (ok : HOk P w H h) : ∀ {ps : List (V × V)} {kvs : List (List Key × V)} {ws : List (Value × Value)}, KeysAt H ps kvs → VV ps ws → ∃ rs, CarriesH (tupleKind (mixKind P w)) h ws rs ∧ KT H kvs rs
  | [], kvs, ws, k, r => by
    unfold KeysAt at k
    cases k
    cases r
    exact ⟨[], True.intro, .nil⟩
  | p :: ps, kvs, ws, k, r => by
    unfold KeysAt at k
    cases k with
    | @cons a kv as kvs' hk tk =>
      cases r with
      | @cons a' b as' bs hr tr =>
        obtain ⟨rs, c, q⟩ := carriesH_of ok (show KeysAt H ps kvs' from tk) tr
        obtain ⟨⟨b0, e1, e2⟩, e3⟩ := hk
        obtain ⟨u1, u2⟩ := b
        obtain ⟨r1, r2⟩ := hr
        rw [e1] at r1
        have r1' : u1 = Value.ref b0 := r1
        exact ⟨(kv.1, b0, u2) :: rs, ⟨r1', rfl, key_of ok e2, c⟩, .cons ⟨rfl, e2, by rw [← e3]; exact r2⟩ q⟩
def tDispT (trs : List (TE × TE)) : TE := fun σ H Q => ∀ p, H p = none → tPairs trs σ (upd H p (.dT [])) fun ps H2 => H2 p = some (.dT []) ∧ ∃ kvs : List (List Key × V), KeysAt H2 ps kvs ∧ kvs.length ≤ 15 ∧ Q (.ref p) (upd H2 p (.dT (mergeT [] kvs)))
theorem pe_dispT {pos : Pos} {keys : List (Option Expr)} {values : List Expr} {trs : List (TE × TE)} (hu : X.A.units + 1 < cLine) (h : PPs X pos keys values trs) (hall : keys.all (·.isSome) = true) (hl : keys.length = values.length) (h0 : keys ≠ [])
    (h15 : keys.length ≤ 15) : PE X (.Dict keys values pos) (tDispT trs) := by
  refine ⟨fun pins s σ H Q I q => ?_⟩
  have hn := I.hok.fresh (Nat.le_refl s.heap.objs.size)
  have I1 := I.laid (a := s.heap.objs.size) (o := .dT []) (h' := s.heap.push { cls := .type "dict", data := .dict #[] }) (t' := s.toks) (fun _ _ q => Heap.get?_push_of_some _ q) (Nat.le_refl _) (dt_empty s.heap I.big)
  have hpl := pairTrees_length keys values X.env pos hall hl
  have h0' : pairTrees keys values X.env pos ≠ [] := fun he => h0 (by rw [he] at hpl; exact List.length_eq_zero_iff.mp hpl.symm)
  rw [arm_eval_Dict, zip_pairTrees keys values X.env pos hall hl, dictDisplay_pairs _ h0' (by rw [hpl]; omega)]
  refine wpAny_bind (wpAny_standAt (wpAny_bind (wpAny_subDictH (knd := tupleKind (mixKind X.prog X.w)) (Q := fun d s' => wpAny (model X.prog X.w) X.A (pure (Value.ref d)) (EP X pins σ Q) X.xe s') (show X.A.units < cLine by omega) (by rw [hpl]; exact h15)
    (thn (h.run pins _ σ _ _ I1 (q _ hn)) fun ws s2 ⟨ps, H2, I2, rel, e, kvs, ek, lk, q2⟩ => ?_))))
  obtain ⟨rs, c, rk⟩ := carriesH_of I2.hok ek rel
  obtain ⟨z, hd, xs0, r0, dd⟩ := dt_of I2.hok e
  cases r0
  refine ⟨rs, c, dd, fun h' tk dk hs => wpAny_pure ⟨.ref s.heap.objs.size, _, ?_, rfl, q2⟩⟩
  have hz : (mergeT [] kvs).length ≤ sizeLine := by
    have h1 := length_mergeT kvs []
    rw [List.length_nil] at h1
    rw [sizeLine_eq]; omega
  obtain ⟨ob, es, ep, h1, h2, h3, h4, h5, h6⟩ := dk
  refine d_write I2 (by rw [e]; exact True.intro) hs ⟨ob, h1⟩ ⟨hz, hd, _, (KT.merge rk .nil).keeps fun c ys ec => ?_, ob, es, ep, h1, h2, h3, h4, h6⟩
  rw [upd_ne (ne_of ec e (fun z => nomatch z))]
  exact ec
/-- d.update(d2), d's own keys kept; where d is empty the new keys' hashes differ -/
def hashT (P : Program) (w : World) (k : List Key) : Int := tupleKeyHash (mixKind P w) k
def rUpdT (P : Program) (w : World) : V → List V → Hp → VK → Prop := fun x xs H Q => ∃ (a b : Addr) (kvs more : List (List Key × V)), x = .ref a ∧ xs = [.ref b] ∧ H a = some (.dT kvs) ∧ H b = some (.dT more) ∧ a ≠ b ∧
  (kvs ≠ [] ∨ (more.map fun p => hashT P w p.1).Nodup) ∧ kvs.length + more.length ≤ 16000000 ∧ Q .non (upd H a (.dT (mergeT kvs more)))
theorem mt_updT (hu : X.A.units + 1 < cLine) : MtR X "dict.update" (rUpdT X.prog X.w) := by
  intro pins s σ H x xs v us Q I rx rxs h
  obtain ⟨a, b, kvs, more, rfl, rfl, ha, hb, nab, hap, hsz, q⟩ := h
  cases rx
  obtain ⟨u, rfl, ru⟩ := rxs.one
  cases ru
  obtain ⟨z1, hd1, xs1, r1, dd1⟩ := dt_of I.hok ha
  obtain ⟨z2, hd2, xs2, r2, dd2⟩ := dt_of I.hok hb
  have l1 := Paired.length r1
  have l2 := Paired.length r2
  have hk : more.map (·.1) = xs2.map (·.1) := by
    clear hap hsz q l2 z2 dd2 hb
    induction r2 with
    | nil => rfl
    | cons h t ih => rw [List.map_cons, List.map_cons, ih, h.1]
  refine call_update_dictH (knd := tupleKind (mixKind X.prog X.w)) (tupleKind_room_in1 hu) nab hd2 dd1 dd2 ?_ (by rw [← l1, ← l2, sizeLine_eq]; omega) fun h' dd' _ hs => ?_
  · rcases hap with q | q
    · exact .inl fun e => q (by rw [e] at l1; exact List.length_eq_zero_iff.mp l1)
    · refine .inr ⟨fun x hx => ?_, ?_⟩
      · obtain ⟨_, _, _, _, _, _, _, his, _⟩ := dd2
        obtain ⟨o, items, n, h1, h2, _⟩ := his x hx
        exact ⟨o, h1, h2⟩
      · have e : xs2.map (fun x => (tupleKind (mixKind X.prog X.w)).hash x.1) = more.map fun p => hashT X.prog X.w p.1 := by
          have := congrArg (List.map (hashT X.prog X.w)) hk
          rw [List.map_map, List.map_map] at this
          exact this.symm
        rw [e]
        exact q
  · have hz : (mergeT kvs more).length ≤ sizeLine := by
      have h1 := length_mergeT more kvs
      rw [sizeLine_eq]; omega
    obtain ⟨ob, es, ep, h1, h2, h3, h4, h5, h6⟩ := dd'
    refine ⟨.non, upd H a (.dT (mergeT kvs more)), d_write (t' := s.toks) I (by rw [ha]; exact True.intro) hs ⟨ob, h1⟩ ⟨hz, hd1, _, (KT.merge r2 r1).keeps fun c ys ec => ?_, ob, es, ep, h1, h2, h3, h4, h6⟩, rfl, q⟩
    rw [upd_ne (ne_of ec ha (fun z => nomatch z))]
    exact ec
end
end L2
end

section
set_option Elab.async false
set_option linter.all false
set_option maxRecDepth 100000
set_option maxHeartbeats 2000000
/-! Two pairs of small whole numbers hash apart. -/
namespace HsX
open PySem
inductive TR where
  | e
  | one (k : Nat)
  | nd (l r : TR)
def ins : Nat → Nat → TR → Option TR
  | 0, _, _ => none
  | _ + 1, k, .e => some (.one k)
  | f + 1, k, .one k' =>
    match Nat.beq k k' with
    | true => none
    | false =>
      match Nat.beq (k % 2) (k' % 2) with
      | true =>
        (match ins f (k / 2) (.one (k' / 2)) with
        | some t => (match Nat.beq (k % 2) 0 with | true => some (.nd t .e) | false => some (.nd .e t))
        | none => none)
      | false => match Nat.beq (k % 2) 0 with | true => some (.nd (.one (k / 2)) (.one (k' / 2))) | false => some (.nd (.one (k' / 2)) (.one (k / 2)))
  | f + 1, k, .nd l r =>
    match Nat.beq (k % 2) 0 with
    | true =>
      (match ins f (k / 2) l with
      | some t => some (.nd t r)
      | none => none)
    | false =>
      match ins f (k / 2) r with
      | some t => some (.nd l t)
      | none => none
def mem : Nat → TR → Prop
  | _, .e => False
  | x, .one k => x = k
  | x, .nd l r => if x % 2 = 0 then mem (x / 2) l else mem (x / 2) r
theorem bt {a b : Nat} (h : a = b) : Nat.beq a b = true := by rw [h]; exact Nat.beq_refl b
theorem bf {a b : Nat} (h : ¬ a = b) : Nat.beq a b = false := by
  cases e : Nat.beq a b with
  | false => rfl
  | true => exact absurd (Nat.eq_of_beq_eq_true e) h
theorem ins_ok : ∀ (f k : Nat) (t t' : TR), ins f k t = some t' → ¬ mem k t ∧ ∀ x, mem x t' ↔ x = k ∨ mem x t := by
  intro f
  induction f with
  | zero => intro k t t' h; cases t <;> simp [ins] at h
  | succ f ih =>
    intro k t t' h
    cases t with
    | e =>
      simp only [ins] at h
      cases h
      exact ⟨fun z => z, fun x => by simp [mem]⟩
    | one k' =>
      simp only [ins] at h
      by_cases c1 : k = k'
      · rw [bt c1] at h; cases h
      rw [bf c1] at h
      refine ⟨fun z => c1 z, fun x => ?_⟩
      simp only at h
      by_cases c2 : k % 2 = k' % 2
      · rw [bt c2] at h
        simp only at h
        cases hs : ins f (k / 2) (.one (k' / 2)) with
        | none => rw [hs] at h; cases h
        | some s =>
          rw [hs] at h
          obtain ⟨_, i2⟩ := ih _ _ _ hs
          have q := i2 (x / 2)
          simp only [mem] at q h ⊢
          by_cases c3 : k % 2 = 0
          · rw [bt c3] at h
            rw [← Option.some.inj h]
            by_cases c4 : x % 2 = 0
            · simp only [mem, if_pos c4, q]; omega
            · simp only [mem, if_neg c4]
              exact ⟨fun z => z.elim, fun z => by omega⟩
          · rw [bf c3] at h
            rw [← Option.some.inj h]
            by_cases c4 : x % 2 = 0
            · simp only [mem, if_pos c4]
              exact ⟨fun z => z.elim, fun z => by omega⟩
            · simp only [mem, if_neg c4, q]; omega
      · rw [bf c2] at h
        simp only at h
        by_cases c3 : k % 2 = 0
        · rw [bt c3] at h
          rw [← Option.some.inj h]
          by_cases c4 : x % 2 = 0
          · simp only [mem, if_pos c4]; omega
          · simp only [mem, if_neg c4]; omega
        · rw [bf c3] at h
          rw [← Option.some.inj h]
          by_cases c4 : x % 2 = 0
          · simp only [mem, if_pos c4]; omega
          · simp only [mem, if_neg c4]; omega
    | nd l r =>
      simp only [ins] at h
      by_cases c3 : k % 2 = 0
      · rw [bt c3] at h
        simp only at h
        cases hs : ins f (k / 2) l with
        | none => rw [hs] at h; cases h
        | some s =>
          rw [hs] at h
          obtain ⟨i1, i2⟩ := ih _ _ _ hs
          rw [← Option.some.inj h]
          refine ⟨by simp only [mem, if_pos c3]; exact i1, fun x => ?_⟩
          have q := i2 (x / 2)
          by_cases c4 : x % 2 = 0
          · simp only [mem, if_pos c4, q]
            constructor
            · rintro (z | z)
              · exact .inl (by omega)
              · exact .inr z
            · rintro (z | z)
              · exact .inl (by omega)
              · exact .inr z
          · simp only [mem, if_neg c4]
            exact ⟨.inr, fun z => z.resolve_left (by omega)⟩
      · rw [bf c3] at h
        simp only at h
        cases hs : ins f (k / 2) r with
        | none => rw [hs] at h; cases h
        | some s =>
          rw [hs] at h
          obtain ⟨i1, i2⟩ := ih _ _ _ hs
          rw [← Option.some.inj h]
          refine ⟨by simp only [mem, if_neg c3]; exact i1, fun x => ?_⟩
          have q := i2 (x / 2)
          by_cases c4 : x % 2 = 0
          · simp only [mem, if_pos c4]
            exact ⟨.inr, fun z => z.resolve_left (by omega)⟩
          · simp only [mem, if_neg c4, q]
            constructor
            · rintro (z | z)
              · exact .inl (by omega)
              · exact .inr z
            · rintro (z | z)
              · exact .inl (by omega)
              · exact .inr z
def insAll : List Nat → TR → Bool
  | [], _ => true
  | k :: ks, t => match ins 80 k t with
    | some t' => insAll ks t'
    | none => false
theorem insAll_ok : ∀ (l : List Nat) (t : TR), insAll l t = true → l.Nodup ∧ ∀ x ∈ l, ¬ mem x t := by
  intro l
  induction l with
  | nil => intro t _; exact ⟨List.nodup_nil, fun x hx => nomatch hx⟩
  | cons k ks ih =>
    intro t h
    unfold insAll at h
    cases hs : ins 80 k t with
    | none => rw [hs] at h; cases h
    | some t' =>
      rw [hs] at h
      obtain ⟨i1, i2⟩ := ins_ok _ _ _ _ hs
      obtain ⟨j1, j2⟩ := ih t' h
      refine ⟨List.nodup_cons.mpr ⟨fun hk => j2 k hk ((i2 k).mpr (.inl rfl)), j1⟩, fun x hx => ?_⟩
      rcases List.mem_cons.mp hx with rfl | hx
      · exact i1
      · exact fun hm => j2 x hx ((i2 x).mpr (.inr hm))
/-- the hash of the pair (i, j), as the model has it -/
def h2 (i j : Nat) : Int := reduceHash (Builtin.Tuple.tupleHashOf [hashInt (i : Int), hashInt (j : Int)])
def kh (p : Nat × Nat) : Nat := (h2 p.1 p.2 + 18446744073709551616).toNat
def sq (n : Nat) : List (Nat × Nat) := (List.range n).flatMap fun i => (List.range n).map fun j => (i, j)
theorem mem_sq {n i j : Nat} (hi : i < n) (hj : j < n) : (i, j) ∈ sq n := by
  unfold sq
  rw [List.mem_flatMap]
  exact ⟨i, List.mem_range.mpr hi, List.mem_map.mpr ⟨j, List.mem_range.mpr hj, rfl⟩⟩
theorem apart81 : insAll ((sq 81).map kh) .e = true := by decide +kernel
theorem inj_of {α β : Type} {f : α → β} : ∀ {l : List α}, (l.map f).Nodup → ∀ x ∈ l, ∀ y ∈ l, f x = f y → x = y := by
  intro l
  induction l with
  | nil => intro _ x hx; cases hx
  | cons a l ih =>
    intro h x hx y hy e
    rw [List.map_cons, List.nodup_cons] at h
    rcases List.mem_cons.mp hx with e1 | hx
    · rcases List.mem_cons.mp hy with e2 | hy
      · rw [e1, e2]
      · refine absurd ?_ h.1
        rw [← e1, e]
        exact List.mem_map.mpr ⟨y, hy, rfl⟩
    · rcases List.mem_cons.mp hy with e2 | hy
      · refine absurd ?_ h.1
        rw [← e2, ← e]
        exact List.mem_map.mpr ⟨x, hx, rfl⟩
      · exact ih h.2 x hx y hy e
theorem h2_inj {i j k l : Nat} (hi : i < 81) (hj : j < 81) (hk : k < 81) (hl : l < 81) (e : h2 i j = h2 k l) : i = k ∧ j = l := by
  have := inj_of (insAll_ok _ _ apart81).1 (i, j) (mem_sq hi hj) (k, l) (mem_sq hk hl) (by show (h2 i j + _).toNat = (h2 k l + _).toNat; rw [e])
  injection this with a b
  exact ⟨a, b⟩
end HsX
namespace L2
open PySem
theorem hashT_pair (P : Program) (w : World) (i j : Nat) : hashT P w [Sum.inl (i : Int), Sum.inl (j : Int)] = HsX.h2 i j := rfl
end L2
end

section
set_option Elab.async false
set_option linter.all false
set_option maxRecDepth 100000
set_option maxHeartbeats 4000000
/-! enumerate over a zip of two texts: zip's own tuple may be alive at the next draw, so the next of zip is shown for both ways. -/
namespace R6
open PySem
open PySem.Sem (wp)
abbrev ZRec (h : Heap) (z TI TO : Addr) (f0 : Value) (f1 : Bool) : Prop :=
  h.get? z = some { cls := .type "zip", dict := none, data := .fields #[f0, .bool f1, .bool false, .ref TI, .ref TO], slots := #[] }
def ZAny (h : Heap) (z TI TO : Addr) : Prop := ∃ f0 f1, (f0 = .none ∨ ∃ n : Nat, f0 = rawInt n) ∧ ZRec h z TI TO f0 f1
section
variable {prog : Program} {w : World} {A : Around} {E : Value → Shared → Prop} {s : Shared} {z TI TO i1 i2 : Addr} {fp1 fp2 : List Addr} {n1 n2 i : Nat} {P1 P2 : Nat → Value → Prop} {St1 St2 : Nat → Heap → Prop} {a1 a2 : Value}
theorem alive_any {M : Model} {a : Addr} {Q : Option Obj → Shared → Prop} (h : Q (s.heap.get? a) s) : wpAny M A (loadIfAlive a) Q E s := fun Γ p _ => by
  show wp M Γ (loadIfAlive a) _ _ p s
  simp only [loadIfAlive, Sem.wp_loadIfAlive]
  exact h
/-- the free way or the busy way: what field 0 says -/
theorem free_any {f0 : Value} {f1 : Bool} {Q : Bool → Shared → Prop} (h0 : f0 = .none ∨ ∃ n : Nat, f0 = rawInt n) (hz : ZRec s.heap z TI TO f0 f1)
    (hf : Q true s) (hb : ∀ h' , ZRec h' z TI TO f0 true → Heap.SameBut z s.heap h' → Q false { s with heap := h' }) :
    wpAny (model prog w) A (Builtin.SmallTypes.ownedTupleIsFree (.ref z)) Q E s := by
  unfold Builtin.SmallTypes.ownedTupleIsFree
  rcases h0 with e | ⟨n, e⟩
  · subst e
    exact wpAny_bind (wpAny_field hz rfl (x := .none) rfl (wpAny_pure hf))
  · subst e
    refine wpAny_bind (wpAny_field hz rfl (x := rawInt n) rfl ?_)
    refine wpAny_bind (alive_any ?_)
    cases hg : s.heap.get? (Int.toNat (n : Int)) with
    | none => exact wpAny_pure hf
    | some o =>
      refine wpAny_bind (wpAny_field hz rfl (x := .bool f1) rfl ?_)
      cases f1 with
      | true => exact wpAny_pure (hb s.heap hz ⟨rfl, fun _ _ => rfl⟩)
      | false =>
        refine wpAny_bind ?_
        refine wpAny_setField_rec hz (by simp) fun h' hz' hs' => ?_
        exact wpAny_pure (hb h' hz' hs')
theorem iter_z {z TI TO : Addr} {f0 : Value} {f1 : Bool} {Q : Value → Shared → Prop} (hz : ZRec s.heap z TI TO f0 f1) (h : Q (.ref z) s) : wpAny (model prog w) A (pyIter (.ref z)) Q E s := by
  have hT : s.TypeIs (.ref z) "zip" := ⟨_, hz, rfl⟩
  refine wpAny_pyIter_slot hT F.slot_zip_iter (wpAny_call_entry F.slot_zip_iter hT F.entry_zip_iter ?_ (F.args_zip_iter_1 _))
  show wpAny _ _ (ret (.ref z)) _ _ s
  exact wpAny_pure ⟨_, rfl, "zip", _, hT, F.slot_zip_next.lookup, h⟩
theorem zip_item {Q : Value → Shared → Prop} (S : ZipSep2 z TI TO i1 i2 fp1 fp2) (D1 : Draws prog w A i1 fp1 n1 P1 St1) (D2 : Draws prog w A i2 fp2 n2 P2 St2)
    (hz : ZAny s.heap z TI TO) (hTI : IsTupOf2 s.heap TI (.ref i1) (.ref i2)) (hTO : IsTupOf2 s.heap TO a1 a2) (st1 : St1 i s.heap) (st2 : St2 i s.heap) (hlt1 : i < n1) (hlt2 : i < n2)
    (hQ : ∀ x1 x2 h' tk, P1 i x1 → P2 i x2 → ZAny h' z TI TO → (∃ b1 b2, IsTupOf2 h' TO b1 b2) → St1 (i + 1) h' → St2 (i + 1) h' → IsTupOf2 h' s.heap.objs.size x1 x2 → h'.objs.size = s.heap.objs.size + 1 →
      (∀ c o, c ≠ z → c ≠ TO → c ≠ i1 → c ≠ i2 → s.heap.get? c = some o → h'.get? c = some o) → Q (.ref s.heap.objs.size) { s with heap := h', toks := tk }) :
    wpAny (model prog w) A (Builtin.«zip.__next__» ⟨[.ref z], []⟩) (fun fin s' => ∃ v, fin = .done (.ret v) ∧ Q v s') E s := by
  obtain ⟨hp, g, d, tk0, os⟩ := s
  obtain ⟨f0, f1, h0, hz⟩ := hz
  replace hz : ZRec hp z TI TO f0 f1 := hz
  show wpAny _ _ (field (.ref z) 2 >>= _) _ _ _
  refine wpAny_bind (wpAny_field hz rfl (x := .bool false) rfl ?_)
  show wpAny _ _ (field (.ref z) 3 >>= _) _ _ _
  refine wpAny_bind (wpAny_field hz rfl (x := .ref TI) rfl ?_)
  refine wpAny_bind (wpAny_seqItems hTI rfl ?_)
  show wpAny _ _ (Builtin.SmallTypes.ownedTupleIsFree (.ref z) >>= _) _ _ _
  refine wpAny_bind (free_any h0 hz ?_ fun g0 hz0 hs0 => ?_)
  · simp only [if_true]
    refine wpAny_bind (wpAny_rule ?_)
    refine wpAny_bind (wpAny_field hz rfl (x := .ref TO) rfl ?_)
    refine wpAny_bind (wpAny_setField_rec hz (by simp) fun g0 hz0 hs0 => ?_)
    replace hz0 : ZRec g0 z TI TO .ellipsis f1 := hz0
    replace hs0 : Heap.SameBut z hp g0 := hs0
    refine wpAny_bind ?_
    simp only [List.zipIdx_cons, List.zipIdx_nil, List.forIn_cons, List.forIn_nil]
    refine wpAny_bind (wpAny_bind (wpAny_onRaise ?_))
    show wpAny _ _ (Builtin.SmallTypes.nextOf (.ref i1) >>= _) _ _ ⟨g0, g, d, tk0, os⟩
    refine wpAny_bind (D1.item i _ _ _ hlt1 (D1.over st1 hs0 S.zf1) fun x1 p1 tk1 hx1 sn1 hp1 => wpAny_pure ?_)
    replace hp1 : Heap.SameBut i1 g0 p1 := hp1
    have hU1 : IsTupOf2 p1 TO a1 a2 := hp1.extBut _ _ S.Ti1 (hs0.extBut _ _ S.TOz hTO)
    refine wpAny_bind (wpAny_seqItems (s := ⟨p1, g, d, tk1, os⟩) hU1 rfl ?_)
    refine wpAny_bind (updateSeq_IsTupOf2 (s := ⟨p1, g, d, tk1, os⟩) hU1 fun g1 hT1 hs1 => ?_)
    replace hT1 : IsTupOf2 g1 TO x1 a2 := hT1
    replace hs1 : Heap.SameBut TO p1 g1 := hs1
    refine wpAny_bind (wpAny_letGo (wpAny_pure ?_))
    refine wpAny_bind (wpAny_bind (wpAny_onRaise ?_))
    show wpAny _ _ (Builtin.SmallTypes.nextOf (.ref i2) >>= _) _ _ ⟨g1, g, d, tk1, os⟩
    refine wpAny_bind (D2.item i _ _ _ hlt2 (D2.over (D2.over (D2.over st2 hs0 S.zf2) hp1 S.sep1_2) hs1 S.Tf2) fun x2 p2 tk2 hx2 sn2 hp2 => wpAny_pure ?_)
    replace hp2 : Heap.SameBut i2 g1 p2 := hp2
    have hU2 : IsTupOf2 p2 TO x1 a2 := hp2.extBut _ _ S.Ti2 hT1
    refine wpAny_bind (wpAny_seqItems (s := ⟨p2, g, d, tk2, os⟩) hU2 rfl ?_)
    refine wpAny_bind (updateSeq_IsTupOf2 (s := ⟨p2, g, d, tk2, os⟩) hU2 fun g2 hT2 hs2 => ?_)
    replace hT2 : IsTupOf2 g2 TO x1 x2 := hT2
    replace hs2 : Heap.SameBut TO p2 g2 := hs2
    refine wpAny_bind (wpAny_letGo (wpAny_pure (wpAny_pure ?_)))
    refine wpAny_bind (wpAny_seqItems (s := ⟨g2, g, d, tk2, os⟩) hT2 rfl ?_)
    refine wpAny_bind (wpAny_newTuple ?_)
    have hsz : g2.objs.size = hp.objs.size := by rw [hs2.1, hp2.1, hs1.1, hp1.1, hs0.1]
    have hzz : ZRec g2 z TI TO .ellipsis f1 := (hs2.extBut _ _ S.TOz.symm (hp2.extBut _ _ S.zi2 (hs1.extBut _ _ S.TOz.symm (hp1.extBut _ _ S.zi1 hz0))))
    have hkk : ∀ c o, c ≠ z → c ≠ TO → c ≠ i1 → c ≠ i2 → hp.get? c = some o → g2.get? c = some o := fun c o cz cT c1 c2 e =>
      (hs2.extBut _ _ cT (hp2.extBut _ _ c2 (hs1.extBut _ _ cT (hp1.extBut _ _ c1 (hs0.extBut _ _ cz e)))))
    have hj1 : St1 (i + 1) g2 := (D1.over (D1.over (D1.over sn1 hs1 S.Tf1) hp2 S.sep2_1) hs2 S.Tf1)
    have hj2 : St2 (i + 1) g2 := (D2.over sn2 hs2 S.Tf2)
    have hzlt : z < g2.objs.size := Heap.lt_size hzz
    show wpAny _ _ (Builtin.SmallTypes.ownedTupleHandOut (.ref z) (.ref g2.objs.size) >>= _) _ _ ⟨g2.push { cls := .type "tuple", data := .seq #[x1, x2] }, g, d, tk2, os⟩
    refine wpAny_bind ?_
    unfold Builtin.SmallTypes.ownedTupleHandOut
    have hz₆ : ZRec (g2.push { cls := .type "tuple", data := .seq #[x1, x2] }) z TI TO .ellipsis f1 := Heap.get?_push_of_some _ hzz
    refine wpAny_bind (wpAny_setField_rec hz₆ (by simp) fun h₇ hz₇ hs₇ => ?_)
    replace hz₇ : ZRec h₇ z TI TO (rawInt g2.objs.size) f1 := hz₇
    refine wpAny_setField_rec hz₇ (by simp) fun h₈ hz₈ hs₈ => ?_
    replace hz₈ : ZRec h₈ z TI TO (rawInt g2.objs.size) false := hz₈
    replace hs₇ : Heap.SameBut z (g2.push { cls := .type "tuple", data := .seq #[x1, x2] }) h₇ := hs₇
    replace hs₈ : Heap.SameBut z h₇ h₈ := hs₈
    have up : ∀ c o, c ≠ z → g2.get? c = some o → h₈.get? c = some o := fun c o c1 e => hs₈.extBut _ _ c1 (hs₇.extBut _ _ c1 (Heap.get?_push_of_some _ e))
    have hT₈ : IsTupOf2 h₈ g2.objs.size x1 x2 := hs₈.extBut _ _ (Nat.ne_of_gt hzlt) (hs₇.extBut _ _ (Nat.ne_of_gt hzlt) (Heap.get?_push_size _ rfl))
    have hz8 : h₈.objs.size = g2.objs.size + 1 := by rw [hs₈.1, hs₇.1, Heap.size_push]
    rw [hsz] at hz₈ hT₈ hz8
    refine wpAny_pure ⟨_, rfl, ?_⟩
    show Q (.ref g2.objs.size) ⟨h₈, g, d, tk2, os⟩
    rw [hsz]
    exact hQ x1 x2 h₈ tk2 hx1 hx2 ⟨_, _, .inr ⟨_, rfl⟩, hz₈⟩ ⟨_, _, up _ _ S.TOz hT2⟩ (D1.frame _ _ _ hj1 fun b hb o e => up b o (fun q => S.zf1 (q ▸ hb)) e) (D2.frame _ _ _ hj2 fun b hb o e => up b o (fun q => S.zf2 (q ▸ hb)) e) hT₈ hz8 fun c o cz cT c1 c2 e => up c o cz (hkk c o cz cT c1 c2 e)
  · replace hs0 : Heap.SameBut z hp g0 := hs0
    simp only [Bool.false_eq_true, if_false, List.forIn_toArray, List.forIn_cons, List.forIn_nil]
    refine wpAny_bind (wpAny_bind (wpAny_bind (wpAny_holding ?_)))
    show wpAny _ _ (Builtin.SmallTypes.nextOf (.ref i1) >>= _) _ _ ⟨g0, g, d, tk0, os⟩
    refine wpAny_bind (D1.item i _ _ _ hlt1 (D1.over st1 hs0 S.zf1) fun x1 p1 tk1 hx1 sn1 hp1 => wpAny_pure (wpAny_pure ?_))
    replace hp1 : Heap.SameBut i1 g0 p1 := hp1
    refine wpAny_bind (wpAny_bind (wpAny_holding ?_))
    show wpAny _ _ (Builtin.SmallTypes.nextOf (.ref i2) >>= _) _ _ ⟨p1, g, d, tk1, os⟩
    refine wpAny_bind (D2.item i _ _ _ hlt2 (D2.over (D2.over st2 hs0 S.zf2) hp1 S.sep1_2) fun x2 p2 tk2 hx2 sn2 hp2 => wpAny_pure (wpAny_pure (wpAny_pure ?_)))
    replace hp2 : Heap.SameBut i2 p1 p2 := hp2
    refine wpAny_bind (wpAny_newTuple ?_ (by show (2 : Nat) ≤ sizeLine; decide))
    have hsz : p2.objs.size = hp.objs.size := by rw [hp2.1, hp1.1, hs0.1]
    have hzz : ZRec p2 z TI TO f0 true := hp2.extBut _ _ S.zi2 (hp1.extBut _ _ S.zi1 hz0)
    have hTT : IsTupOf2 p2 TO a1 a2 := hp2.extBut _ _ S.Ti2 (hp1.extBut _ _ S.Ti1 (hs0.extBut _ _ S.TOz hTO))
    refine wpAny_pure ⟨_, rfl, ?_⟩
    show Q (.ref p2.objs.size) ⟨p2.push { cls := .type "tuple", data := .seq #[x1, x2] }, g, d, tk2, os⟩
    have hT : IsTupOf2 (p2.push { cls := .type "tuple", data := .seq #[x1, x2] }) p2.objs.size x1 x2 := Heap.get?_push_size _ rfl
    have hs3 : (p2.push { cls := .type "tuple", data := .seq #[x1, x2] }).objs.size = p2.objs.size + 1 := Heap.size_push ..
    rw [hsz] at hT hs3 ⊢
    exact hQ x1 x2 _ tk2 hx1 hx2 ⟨_, _, h0, Heap.get?_push_of_some _ hzz⟩ ⟨_, _, Heap.get?_push_of_some _ hTT⟩ (D1.frame _ _ _ (D1.over sn1 hp2 S.sep2_1) fun b hb o e => Heap.get?_push_of_some _ e) (D2.frame _ _ _ sn2 fun b hb o e => Heap.get?_push_of_some _ e) hT hs3
      fun c o cz cT c1 c2 e => Heap.get?_push_of_some _ (hp2.extBut _ _ c2 (hp1.extBut _ _ c1 (hs0.extBut _ _ cz e)))
theorem zip_stop {Q : Fin → Shared → Prop} (S : ZipSep2 z TI TO i1 i2 fp1 fp2) (D1 : Draws prog w A i1 fp1 n1 P1 St1) (D2 : Draws prog w A i2 fp2 n2 P2 St2)
    (hz : ZAny s.heap z TI TO) (hTI : IsTupOf2 s.heap TI (.ref i1) (.ref i2)) (hTO : IsTupOf2 s.heap TO a1 a2) (st1 : St1 i s.heap) (st2 : St2 i s.heap) (hle1 : i ≤ n1) (hle2 : i ≤ n2) (hend : i = n1 ∨ i = n2)
    (hE : ∀ h' tk e, (∀ c o, c ≠ z → c ≠ TO → c ≠ i1 → c ≠ i2 → s.heap.get? c = some o → h'.get? c = some o) → (∃ o, h'.get? e = some o ∧ o.cls = .type "StopIteration") → E (.ref e) { s with heap := h', toks := tk }) :
    wpAny (model prog w) A (Builtin.«zip.__next__» ⟨[.ref z], []⟩) Q E s := by
  obtain ⟨hp, g, d, tk0, os⟩ := s
  obtain ⟨f0, f1, h0, hz⟩ := hz
  replace hz : ZRec hp z TI TO f0 f1 := hz
  show wpAny _ _ (field (.ref z) 2 >>= _) _ _ _
  refine wpAny_bind (wpAny_field hz rfl (x := .bool false) rfl ?_)
  show wpAny _ _ (field (.ref z) 3 >>= _) _ _ _
  refine wpAny_bind (wpAny_field hz rfl (x := .ref TI) rfl ?_)
  refine wpAny_bind (wpAny_seqItems hTI rfl ?_)
  show wpAny _ _ (Builtin.SmallTypes.ownedTupleIsFree (.ref z) >>= _) _ _ _
  refine wpAny_bind (free_any h0 hz ?_ fun g0 hz0 hs0 => ?_)
  · simp only [if_true]
    refine wpAny_bind (wpAny_rule ?_)
    refine wpAny_bind (wpAny_field hz rfl (x := .ref TO) rfl ?_)
    refine wpAny_bind (wpAny_setField_rec hz (by simp) fun g0 hz0 hs0 => ?_)
    replace hz0 : ZRec g0 z TI TO .ellipsis f1 := hz0
    replace hs0 : Heap.SameBut z hp g0 := hs0
    refine wpAny_bind ?_
    simp only [List.zipIdx_cons, List.zipIdx_nil, List.forIn_cons, List.forIn_nil]
    refine wpAny_bind (wpAny_bind (wpAny_onRaise ?_))
    show wpAny _ _ (Builtin.SmallTypes.nextOf (.ref i1) >>= _) _ _ ⟨g0, g, d, tk0, os⟩
    by_cases hlt1 : i < n1
    · refine wpAny_bind (D1.item i _ _ _ hlt1 (D1.over st1 hs0 S.zf1) fun x1 p1 tk1 hx1 sn1 hp1 => wpAny_pure ?_)
      replace hp1 : Heap.SameBut i1 g0 p1 := hp1
      have hU1 : IsTupOf2 p1 TO a1 a2 := hp1.extBut _ _ S.Ti1 (hs0.extBut _ _ S.TOz hTO)
      refine wpAny_bind (wpAny_seqItems (s := ⟨p1, g, d, tk1, os⟩) hU1 rfl ?_)
      refine wpAny_bind (updateSeq_IsTupOf2 (s := ⟨p1, g, d, tk1, os⟩) hU1 fun g1 hT1 hs1 => ?_)
      replace hT1 : IsTupOf2 g1 TO x1 a2 := hT1
      replace hs1 : Heap.SameBut TO p1 g1 := hs1
      refine wpAny_bind (wpAny_letGo (wpAny_pure ?_))
      have hi2 : i = n2 := by omega
      refine wpAny_bind (wpAny_bind (wpAny_onRaise ?_))
      show wpAny _ _ (Builtin.SmallTypes.nextOf (.ref i2) >>= _) _ _ ⟨g1, g, d, tk1, os⟩
      refine wpAny_bind (D2.done ⟨g1, g, d, tk1, os⟩ _ _ (by rw [← hi2]; exact (D2.over (D2.over (D2.over st2 hs0 S.zf2) hp1 S.sep1_2) hs1 S.Tf2)) fun q e hq he => ?_)
      replace hq : Heap.ExtBut i2 g1 q := hq
      obtain ⟨oe, hoe, hce⟩ := he
      replace hoe : q.get? e = some oe := hoe
      have hzq : ZRec q z TI TO .ellipsis f1 := hq _ _ S.zi2 (hs1.extBut _ _ S.TOz.symm (hp1.extBut _ _ S.zi1 hz0))
      have hez : e ≠ z := fun x => by subst x; rw [hzq] at hoe; cases hoe; simp at hce
      refine wpAny_setField_rec (s := ⟨q, g, d, tk1, os⟩) hzq (by simp) fun q' _ hq' => ?_
      replace hq' : Heap.SameBut z q q' := hq'
      exact hE q' tk1 e (fun c o cz cT c1 c2 x => hq'.extBut _ _ cz (hq _ _ c2 (hs1.extBut _ _ cT (hp1.extBut _ _ c1 (hs0.extBut _ _ cz x))))) ⟨oe, hq'.extBut _ _ hez hoe, hce⟩
    · have hi1 : i = n1 := by omega
      refine wpAny_bind (D1.done ⟨g0, g, d, tk0, os⟩ _ _ (by rw [← hi1]; exact (D1.over st1 hs0 S.zf1)) fun q e hq he => ?_)
      replace hq : Heap.ExtBut i1 g0 q := hq
      obtain ⟨oe, hoe, hce⟩ := he
      replace hoe : q.get? e = some oe := hoe
      have hzq : ZRec q z TI TO .ellipsis f1 := hq _ _ S.zi1 hz0
      have hez : e ≠ z := fun x => by subst x; rw [hzq] at hoe; cases hoe; simp at hce
      refine wpAny_setField_rec (s := ⟨q, g, d, tk0, os⟩) hzq (by simp) fun q' _ hq' => ?_
      replace hq' : Heap.SameBut z q q' := hq'
      exact hE q' tk0 e (fun c o cz cT c1 c2 x => hq'.extBut _ _ cz (hq _ _ c1 (hs0.extBut _ _ cz x))) ⟨oe, hq'.extBut _ _ hez hoe, hce⟩
  · replace hs0 : Heap.SameBut z hp g0 := hs0
    simp only [Bool.false_eq_true, if_false, List.forIn_toArray, List.forIn_cons, List.forIn_nil]
    refine wpAny_bind (wpAny_bind (wpAny_bind (wpAny_holding ?_)))
    show wpAny _ _ (Builtin.SmallTypes.nextOf (.ref i1) >>= _) _ _ ⟨g0, g, d, tk0, os⟩
    by_cases hlt1 : i < n1
    · refine wpAny_bind (D1.item i _ _ _ hlt1 (D1.over st1 hs0 S.zf1) fun x1 p1 tk1 hx1 sn1 hp1 => wpAny_pure (wpAny_pure ?_))
      replace hp1 : Heap.SameBut i1 g0 p1 := hp1
      have hi2 : i = n2 := by omega
      refine wpAny_bind (wpAny_bind (wpAny_holding ?_))
      show wpAny _ _ (Builtin.SmallTypes.nextOf (.ref i2) >>= _) _ _ ⟨p1, g, d, tk1, os⟩
      refine wpAny_bind (D2.done ⟨p1, g, d, tk1, os⟩ _ _ (by rw [← hi2]; exact (D2.over (D2.over st2 hs0 S.zf2) hp1 S.sep1_2)) fun q e hq he => ?_)
      replace hq : Heap.ExtBut i2 p1 q := hq
      exact hE q tk1 e (fun c o cz cT c1 c2 x => hq _ _ c2 (hp1.extBut _ _ c1 (hs0.extBut _ _ cz x))) he
    · have hi1 : i = n1 := by omega
      refine wpAny_bind (D1.done ⟨g0, g, d, tk0, os⟩ _ _ (by rw [← hi1]; exact (D1.over st1 hs0 S.zf1)) fun q e hq he => ?_)
      replace hq : Heap.ExtBut i1 g0 q := hq
      exact hE q tk0 e (fun c o cz cT c1 c2 x => hq _ _ c1 (hs0.extBut _ _ cz x)) he
theorem next_zip {Q : Value → Shared → Prop} (hz : ZAny s.heap z TI TO) (h : wpAny (model prog w) A.in1 (Builtin.«zip.__next__» ⟨[.ref z], []⟩) (fun fin s' => ∃ v, fin = .done (.ret v) ∧ Q v s') E s) :
    wpAny (model prog w) A (Builtin.SmallTypes.nextOf (.ref z)) Q E s := by
  obtain ⟨f0, f1, h0, hz⟩ := hz
  have hT : s.TypeIs (.ref z) "zip" := ⟨_, hz, rfl⟩
  unfold Builtin.SmallTypes.nextOf
  exact wpAny_bind (wpAny_callSpecial?_slot (name := Str.ofString "__next__") hT F.slot_zip_next
    (wpAny_call_entry F.slot_zip_next hT F.entry_zip_next (wpAny_mono h (fun fin s' q => let ⟨v, e, q⟩ := q; ⟨v, e, wpAny_pure q⟩) fun _ _ x => x) (F.args_zip_next_1 _)))
theorem meets_enumZ {z TI TO : Addr} :
    Meets (Builtin.«enumerate.__new__» ⟨[.type "enumerate", .ref z], []⟩) (fun _ R s => ZAny s.heap z TI TO ∧
      R (.ok (.ret (.ref s.heap.objs.size))) { s with heap := s.heap.push { cls := .type "enumerate", data := .fields #[.none, .bool false, .ref z, rawInt 0, .none, .none] } }) :=
  .of_wp fun prog w A R s h => by
    obtain ⟨hp, g, d, tk, os⟩ := s
    obtain ⟨h1, h⟩ := h
    have hsub := sub_enumerate
    have q1 : ∀ {A' : Around} {E : Value → Shared → Prop} {Q : Value → Shared → Prop}, Q (.ref z) ⟨hp, g, d, tk, os⟩ → wpAny (model prog w) A' (pyIter (.ref z)) Q E ⟨hp, g, d, tk, os⟩ :=
      fun q => by
        obtain ⟨f0, f1, h0, hz⟩ := h1
        exact iter_z hz q
    wp_walk using q1
    refine wpAny_stack_any fun st => wpAny_pure ?_
    split
    · rename_i c _ _ _ _ _
      cases (c == Value.type "enumerate")
      · wp_walk using q1
        exact ⟨_, rfl, h⟩
      · wp_walk using q1
        exact ⟨_, rfl, h⟩
    · wp_walk using q1
      exact ⟨_, rfl, h⟩
theorem enum_beginsZ {z TI TO : Addr} {Q : Value → Shared → Prop} (h1 : ZAny s.heap z TI TO)
    (h : ∀ h', IsEnum h' s.heap.objs.size z 0 .none → h'.objs.size = s.heap.objs.size + 1 →
      (∀ b o, s.heap.get? b = some o → h'.get? b = some o) → Q (.ref s.heap.objs.size) { s with heap := h' }) :
    wpAny (model prog w) A (call (.type "enumerate") [.ref z]) Q E s := by
  refine callType_new F.called_enumerate (by decide) (F.typeCall_enumerate_1 _) (F.newCall_enumerate_1 _) (fun obj => F.args_object_init_2 obj _) F.entry_enumerate_new
    meets_enumZ ⟨h1, ?_⟩
  have he : IsEnum (s.heap.push { cls := .type "enumerate", data := .fields #[.none, .bool false, .ref z, rawInt 0, .none, .none] }) s.heap.objs.size z 0 .none :=
    Heap.get?_push_size s.heap (o := { cls := .type "enumerate", data := .fields #[.none, .bool false, .ref z, rawInt 0, .none, .none] }) rfl
  exact ⟨⟨_, he, rfl⟩, h _ he (Heap.size_push ..) fun b o x => Heap.get?_push_of_some _ x⟩
/-- the next of enumerate, whatever it draws from -/
theorem enum_item {e it : Addr} {i : Nat} {Q : Value → Shared → Prop}
    {old : Value} (he : IsEnum s.heap e it i old)
    (hn : wpAny (model prog w) A (Builtin.SmallTypes.nextOf (.ref it)) (fun x s1 => IsEnum s1.heap e it i old ∧ ∀ h', IsEnumOut h' e it ((i : Int) + 1) x s1.heap.objs.size →
      h'.get? s1.heap.objs.size = some { cls := .type "tuple", data := .seq #[.int i s1.toks, x] } → h'.objs.size = s1.heap.objs.size + 1 →
      (∀ b o, b ≠ e → s1.heap.get? b = some o → h'.get? b = some o) → Q (.ref s1.heap.objs.size) { s1 with heap := h', toks := s1.toks + 1 }) E s) :
    wpAny (model prog w) A (Builtin.«enumerate.__next__» ⟨[.ref e], []⟩) (fun fin s' => ∃ v, fin = .done (.ret v) ∧ Q v s') E s := by
  obtain ⟨hp, g, d, tk₀, os⟩ := s
  show wpAny _ _ (field (.ref e) 2 >>= _) _ _ _
  refine wpAny_bind (wpAny_field he rfl (x := .ref it) rfl ?_)
  refine wpAny_bind (wpAny_mono hn (fun x s1 hq => ?_) fun _ _ x => x)
  obtain ⟨h₁, g, d, tk, os⟩ := s1
  obtain ⟨he₁, hQ⟩ := hq
  show wpAny _ _ (field (.ref e) 3 >>= _) _ _ ⟨h₁, g, d, tk, os⟩
  refine wpAny_bind (wpAny_field he₁ rfl (x := rawInt i) rfl ?_)
  show wpAny _ _ (field (.ref e) 4 >>= _) _ _ ⟨h₁, g, d, tk, os⟩
  refine wpAny_bind (wpAny_field he₁ rfl (x := .none) rfl ?_)
  show wpAny _ _ (mkInt i >>= _) _ _ ⟨h₁, g, d, tk, os⟩
  refine wpAny_bind (wpAny_mkInt ?_)
  show wpAny _ _ (setField (.ref e) 3 (rawInt ((i : Int) + 1)) >>= _) _ _ ⟨h₁, g, d, tk + 1, os⟩
  refine wpAny_bind (wpAny_setField_rec he₁ (by simp) fun h₂ he₂ hs₂ => ?_)
  replace hs₂ : Heap.SameBut e h₁ h₂ := hs₂
  replace he₂ : IsEnum h₂ e it ((i : Int) + 1) old := he₂
  show wpAny _ _ (setField (.ref e) 4 .none >>= _) _ _ ⟨h₂, g, d, tk + 1, os⟩
  refine wpAny_bind (wpAny_setField_rec he₂ (by simp) fun h₃ he₃ hs₃ => ?_)
  replace hs₃ : Heap.SameBut e h₂ h₃ := hs₃
  replace he₃ : IsEnum h₃ e it ((i : Int) + 1) old := he₃
  show wpAny _ _ (newTuple [.int i tk, x] >>= _) _ _ ⟨h₃, g, d, tk + 1, os⟩
  refine wpAny_bind (wpAny_newTuple ?_)
  have he₄ : IsEnum (h₃.push { cls := .type "tuple", data := .seq #[.int i tk, x] }) e it ((i : Int) + 1) old := Heap.get?_push_of_some _ he₃
  generalize hh₄ : h₃.push { cls := .type "tuple", data := .seq #[.int i tk, x] } = h₄ at he₄
  have hsz : h₃.objs.size = h₁.objs.size := by rw [hs₃.1, hs₂.1]
  have hel : e < h₁.objs.size := Heap.lt_size he₁
  have ht₄ : h₄.get? h₁.objs.size = some { cls := .type "tuple", data := .seq #[.int i tk, x] } := by rw [← hh₄, ← hsz]; exact Heap.get?_push_size _ rfl
  have hz₄ : h₄.objs.size = h₁.objs.size + 1 := by rw [← hh₄, Heap.size_push, hsz]
  have hk₄ : ∀ b o, b ≠ e → h₁.get? b = some o → h₄.get? b = some o := fun b o hbe hb => by
    rw [← hh₄]; exact Heap.get?_push_of_some _ (hs₃.extBut b o hbe (hs₂.extBut b o hbe hb))
  show wpAny _ _ (Builtin.SmallTypes.ownedTupleIsFree (.ref e) >>= _) _ _ ⟨h₄, g, d, tk + 1, os⟩
  rw [hsz]
  refine wpAny_bind ?_
  unfold Builtin.SmallTypes.ownedTupleIsFree
  refine wpAny_bind (wpAny_field he₄ rfl (x := .none) rfl (wpAny_pure ?_))
  simp only [if_true]
  refine wpAny_bind (wpAny_rule ?_)
  refine wpAny_bind (wpAny_field he₄ rfl (x := old) rfl ?_)
  refine wpAny_bind (wpAny_setField_rec he₄ (by simp) fun h₅ he₅ hs₅ => ?_)
  replace hs₅ : Heap.SameBut e h₄ h₅ := hs₅
  replace he₅ : IsEnum h₅ e it ((i : Int) + 1) x := he₅
  show wpAny _ _ (Builtin.SmallTypes.ownedTupleHandOut (.ref e) (.ref h₁.objs.size) >>= _) _ _ ⟨h₅, g, d, tk + 1, os⟩
  refine wpAny_bind ?_
  unfold Builtin.SmallTypes.ownedTupleHandOut
  refine wpAny_bind (wpAny_setField_rec he₅ (by simp) fun h₆ he₆ hs₆ => ?_)
  replace hs₆ : Heap.SameBut e h₅ h₆ := hs₆
  replace he₆ : IsEnumOut h₆ e it ((i : Int) + 1) x h₁.objs.size := he₆
  refine wpAny_setField_rec he₆ (by simp) fun h₇ he₇ hs₇ => ?_
  replace hs₇ : Heap.SameBut e h₆ h₇ := hs₇
  replace he₇ : IsEnumOut h₇ e it ((i : Int) + 1) x h₁.objs.size := he₇
  refine wpAny_bind (wpAny_letGo (wpAny_pure ⟨_, rfl, hQ h₇ he₇ ?_ ?_ ?_⟩))
  · exact hs₇.extBut _ _ (Nat.ne_of_gt hel) (hs₆.extBut _ _ (Nat.ne_of_gt hel) (hs₅.extBut _ _ (Nat.ne_of_gt hel) ht₄))
  · rw [hs₇.1, hs₆.1, hs₅.1, hz₄]
  · exact fun b o hbe hb => hs₇.extBut b o hbe (hs₆.extBut b o hbe (hs₅.extBut b o hbe (hk₄ b o hbe hb)))
theorem pyNext_enum {e it : Addr} {i : Nat} {Q : Option Value → Shared → Prop} {old : Value} (he : IsEnum s.heap e it i old)
    (hn : wpAny (model prog w) A.in1 (Builtin.SmallTypes.nextOf (.ref it)) (fun x s1 => IsEnum s1.heap e it i old ∧ ∀ h', IsEnumOut h' e it ((i : Int) + 1) x s1.heap.objs.size →
      h'.get? s1.heap.objs.size = some { cls := .type "tuple", data := .seq #[.int i s1.toks, x] } → h'.objs.size = s1.heap.objs.size + 1 →
      (∀ b o, b ≠ e → s1.heap.get? b = some o → h'.get? b = some o) → Q (some (.ref s1.heap.objs.size)) { s1 with heap := h', toks := s1.toks + 1 })
      (fun x s1 => ∃ a o, x = .ref a ∧ s1.heap.get? a = some o ∧ o.cls = .type "StopIteration" ∧ Q none s1) s) :
    wpAny (model prog w) A (pyNext (.ref e)) Q E s := by
  have hT : s.TypeIs (.ref e) "enumerate" := ⟨_, he, rfl⟩
  unfold pyNext
  refine wpAny_bind (wpAny_attempt (wpAny_callSpecial?_slot (name := Str.ofString "__next__") hT F.slot_enumerate_next
    (wpAny_call_entry F.slot_enumerate_next hT F.entry_enumerate_next (wpAny_mono (enum_item (Q := fun v s => Q (some v) s) he hn) (fun fin s' q => ?_) fun x s1 q => ?_) (F.args_enumerate_next_1 _))))
  · obtain ⟨v, rfl, q⟩ := q
    exact ⟨v, rfl, wpAny_pure q⟩
  · obtain ⟨a, o, ex, ho, hc, q⟩ := q
    subst ex
    refine wpAny_bind (wpAny_isInstance (T := "StopIteration") (b := true) ⟨o, ho, hc⟩ isSubtype_stop ?_)
    exact wpAny_pure q
end
end R6
namespace L2
open PySem PySem.Spec PyProof.Rows
/-! ### enumerate(zip(text, text)) -/
def IteZ (x y : Str) : It :=
  ⟨fun i _ => i < x.cps.size ∧ i < y.cps.size,
    fun i H v H' => ∃ T1 T2 c1 c2, v = .ref T2 ∧ H T1 = none ∧ T2 ≠ T1 ∧ H T2 = none ∧ H' = upd (upd H T1 (.tup [.str ⟨#[c1]⟩, .str ⟨#[c2]⟩])) T2 (.tup [.int (i : Nat), .ref T1]) ∧ x.cps[i]? = some c1 ∧ y.cps[i]? = some c2,
    fun i _ => i ≤ x.cps.size ∧ i ≤ y.cps.size ∧ (i = x.cps.size ∨ i = y.cps.size)⟩
theorem turn_enumZ {P : Program} {w : World} {K : PySem.W.Frag} {elts : List Expr} {kk : Nat} {tpos : Pos} {x y : Str} {t u : Tok} {e z TI TO i1 i2 : Addr} (S : ZipSep2 z TI TO i1 i2 [i1] [i2]) (he : e ≠ z ∧ e ≠ TI ∧ e ≠ TO ∧ e ≠ i1 ∧ e ≠ i2) :
    Turn P w K (.Tuple elts kk tpos) (IteZ x y) [e, z, TI, TO, i1, i2] e (fun i h => (∃ old, IsEnum h e z ((i : Nat) : Int) old) ∧ R6.ZAny h z TI TO ∧ IsTupOf2 h TI (.ref i1) (.ref i2) ∧ (∃ b1 b2, IsTupOf2 h TO b1 b2) ∧ h.IsStrIter i1 (strIterType x) x t i ∧ h.IsStrIter i2 (strIterType y) y u i) where
  mem := by simp
  obj := fun i h st c hc => by
    obtain ⟨⟨old, he⟩, ⟨f0, f1, h0, hz⟩, hTI, ⟨b1, b2, hTO⟩, ⟨o1, e1, _, d1⟩, ⟨o2, e2, _, d2⟩⟩ := st
    have e' : c = e ∨ c = z ∨ c = TI ∨ c = TO ∨ c = i1 ∨ c = i2 := by simpa using hc
    rcases e' with q | q | q | q | q | q
    · rw [q]; exact ⟨_, he, fun v q => nomatch q⟩
    · rw [q]; exact ⟨_, hz, fun v q => nomatch q⟩
    · rw [q]; exact ⟨_, hTI, fun v q => nomatch q⟩
    · rw [q]; exact ⟨_, hTO, fun v q => nomatch q⟩
    · rw [q]; exact ⟨o1, e1, fun v q => by rw [d1] at q; cases q⟩
    · rw [q]; exact ⟨o2, e2, fun v q => by rw [d2] at q; cases q⟩
  keep := fun i h h' st k => by
    obtain ⟨⟨old, he⟩, ⟨f0, f1, h0, hz⟩, hTI, ⟨b1, b2, hTO⟩, ⟨o1, e1, c1, d1⟩, ⟨o2, e2, c2, d2⟩⟩ := st
    exact ⟨⟨old, k e (by simp) _ he⟩, ⟨f0, f1, h0, k z (by simp) _ hz⟩, k TI (by simp) _ hTI, ⟨b1, b2, k TO (by simp) _ hTO⟩, ⟨o1, k i1 (by simp) _ e1, c1, d1⟩, ⟨o2, k i2 (by simp) _ e2, c2, d2⟩⟩
  item := by
    intro X hP hw hK hc i pins s σ H E I hf st hg
    subst hP hw hK
    obtain ⟨⟨old, hen⟩, hz, hTI, ⟨b1, b2, hTO⟩, h1, h2⟩ := st
    obtain ⟨l1, l2⟩ := hg
    have D1 := Draws.text (prog := X.prog) (w := X.w) (A := X.A.in1.in1) (I.ok.hd hc) i1 x t
    have D2 := Draws.text (prog := X.prog) (w := X.w) (A := X.A.in1.in1) (I.ok.hd hc) i2 y u
    have hel : e < s.heap.objs.size := Heap.lt_size hen
    have hzl : z < s.heap.objs.size := by obtain ⟨_, _, _, q⟩ := hz; exact Heap.lt_size q
    have hfl : ∀ c ∈ [e, z, TI, TO, i1, i2], c < s.heap.objs.size := fun c hc => by
      have e' : c = e ∨ c = z ∨ c = TI ∨ c = TO ∨ c = i1 ∨ c = i2 := by simpa using hc
      rcases e' with q | q | q | q | q | q
      · rw [q]; exact hel
      · rw [q]; exact hzl
      · rw [q]; exact Heap.lt_size hTI
      · rw [q]; exact Heap.lt_size hTO
      · rw [q]; obtain ⟨_, q, _⟩ := h1; exact Heap.lt_size q
      · rw [q]; obtain ⟨_, q, _⟩ := h2; exact Heap.lt_size q
    refine R6.pyNext_enum hen (R6.next_zip hz (R6.zip_item S D1 D2 hz hTI hTO h1 h2 l1 l2 fun x1 x2 h' tk q1 q2 z' TO' s1' s2' hT hsz hk => ?_))
    obtain ⟨c1, t1, hc1, rfl⟩ := q1
    obtain ⟨c2, t2, hc2, rfl⟩ := q2
    have en' : IsEnum h' e z ((i : Nat) : Int) old := hk e _ he.1 he.2.2.1 he.2.2.2.1 he.2.2.2.2 hen
    refine ⟨en', fun h'' ho hT2 hsz2 hk2 => ⟨_, rfl, ?_⟩⟩
    refine wpAny_letOwnedTupleGo_enum (s := { s with heap := h'', toks := tk + 1 }) ho fun h3 he3 sb => ?_
    have hsz' : h'.objs.size = s.heap.objs.size + 1 := hsz
    have new1 : ObjOk X.prog X.w (upd H s.heap.objs.size (.tup [.str ⟨#[c1]⟩, .str ⟨#[c2]⟩])) h' s.heap.objs.size (.tup [.str ⟨#[c1]⟩, .str ⟨#[c2]⟩]) :=
      ⟨by show 2 ≤ sizeLine; decide, [.str ⟨#[c1]⟩ t1, .str ⟨#[c2]⟩ t2], .cons ⟨_, rfl⟩ (.cons ⟨_, rfl⟩ .nil), ⟨_, hT, rfl, _, rfl⟩⟩
    have I1 : Inv X pins σ (upd H s.heap.objs.size (.tup [.str ⟨#[c1]⟩, .str ⟨#[c2]⟩])) { s with heap := h', toks := tk } :=
      I.turnedNew (t' := tk) (ch := [e, z, TI, TO, i1, i2]) (fun c o hb q => hk c o (fun q' => hb (by simp [q'])) (fun q' => hb (by simp [q'])) (fun q' => hb (by simp [q'])) (fun q' => hb (by simp [q'])) q) hf (Nat.le_refl _) new1
    have hf1 : ∀ b ∈ [e, z, TI, TO, i1, i2], FpOk X pins (upd H s.heap.objs.size (.tup [.str ⟨#[c1]⟩, .str ⟨#[c2]⟩])) b := fun b hb =>
      ⟨by rw [upd_ne (Nat.ne_of_lt (hfl b hb))]; exact (hf b hb).1, (hf b hb).2⟩
    have hT3 : h3.get? h'.objs.size = some { cls := .type "tuple", data := .seq #[.int i tk, .ref s.heap.objs.size] } := (sb.2 _ (by rw [hsz']; exact Nat.ne_of_gt (Nat.lt_succ_of_lt hel))).trans hT2
    have new2 : ObjOk X.prog X.w (upd (upd H s.heap.objs.size (.tup [.str ⟨#[c1]⟩, .str ⟨#[c2]⟩])) h'.objs.size (.tup [.int (i : Nat), .ref s.heap.objs.size])) h3 h'.objs.size (.tup [.int (i : Nat), .ref s.heap.objs.size]) :=
      ⟨by show 2 ≤ sizeLine; decide, [.int i tk, .ref s.heap.objs.size], .cons ⟨_, rfl⟩ (.cons rfl .nil), ⟨_, hT3, rfl, _, rfl⟩⟩
    have I2 : Inv X pins σ (upd (upd H s.heap.objs.size (.tup [.str ⟨#[c1]⟩, .str ⟨#[c2]⟩])) h'.objs.size (.tup [.int (i : Nat), .ref s.heap.objs.size])) { s with heap := h3, toks := tk + 1 } :=
      I1.turnedNew (t' := tk + 1) (ch := [e, z, TI, TO, i1, i2]) (fun c o hb q => (sb.2 c (fun q' => hb (by simp [q']))).trans (hk2 c o (fun q' => hb (by simp [q'])) q)) hf1 (Nat.le_refl _) new2
    refine ⟨.ref h'.objs.size, _, I2, rfl, ⟨s.heap.objs.size, h'.objs.size, c1, c2, rfl, I.hok.fresh (Nat.le_refl _), by rw [hsz']; exact Nat.succ_ne_self _, I.hok.fresh (by rw [hsz']; exact Nat.le_succ _), rfl, hc1, hc2⟩, ⟨⟨.ref s.heap.objs.size, ?_⟩, ?_, ?_, ?_, ?_, ?_⟩, fun c hcm => ?_⟩
    · have e1 : ((i + 1 : Nat) : Int) = (i : Int) + 1 := by omega
      rw [e1]; exact he3
    · obtain ⟨f0, f1, h0, hz'⟩ := z'
      exact ⟨f0, f1, h0, (sb.2 _ (Ne.symm he.1)).trans (hk2 _ _ (Ne.symm he.1) hz')⟩
    · exact (sb.2 _ (Ne.symm he.2.1)).trans (hk2 _ _ (Ne.symm he.2.1) (hk _ _ S.TIz S.TITO S.TIi1 S.TIi2 hTI))
    · obtain ⟨d1, d2, hTO'⟩ := TO'
      exact ⟨d1, d2, (sb.2 _ (Ne.symm he.2.2.1)).trans (hk2 _ _ (Ne.symm he.2.2.1) hTO')⟩
    · obtain ⟨o, ho, hc', hd'⟩ := s1'
      exact ⟨o, (sb.2 _ (Ne.symm he.2.2.2.1)).trans (hk2 _ _ (Ne.symm he.2.2.2.1) ho), hc', hd'⟩
    · obtain ⟨o, ho, hc', hd'⟩ := s2'
      exact ⟨o, (sb.2 _ (Ne.symm he.2.2.2.2)).trans (hk2 _ _ (Ne.symm he.2.2.2.2) ho), hc', hd'⟩
    · have hl := hfl c hcm
      rw [upd_ne (by rw [hsz']; exact Nat.ne_of_lt (Nat.lt_succ_of_lt hl)), upd_ne (Nat.ne_of_lt hl)]
      exact (hf c hcm).1
  done := by
    intro X hP hw hK hc i pins s σ H E I hf st hg
    subst hP hw hK
    obtain ⟨⟨old, hen⟩, hz, hTI, ⟨b1, b2, hTO⟩, h1, h2⟩ := st
    obtain ⟨l1, l2, l3⟩ := hg
    have D1 := Draws.text (prog := X.prog) (w := X.w) (A := X.A.in1.in1) (I.ok.hd hc) i1 x t
    have D2 := Draws.text (prog := X.prog) (w := X.w) (A := X.A.in1.in1) (I.ok.hd hc) i2 y u
    refine R6.pyNext_enum hen (R6.next_zip hz (R6.zip_stop S D1 D2 hz hTI hTO h1 h2 l1 l2 l3 fun h' tk a hk ha => ?_))
    obtain ⟨o, ho, hcl⟩ := ha
    exact ⟨a, o, rfl, ho, hcl, rfl, I.turnedL (t' := tk) (ch := [e, z, TI, TO, i1, i2]) (fun c o hb q =>
      hk c o (fun q' => hb (by simp [q'])) (fun q' => hb (by simp [q'])) (fun q' => hb (by simp [q'])) (fun q' => hb (by simp [q'])) q) hf⟩
  self := fun A i s Q E st h => let ⟨⟨_, he⟩, _⟩ := st; wpAny_pyIter_enum he h
def iEnumZ (ta : TA) : TI := fun σ H R => ta σ H fun vs H1 => ∃ x y, vs = [.str x, .str y] ∧ R (IteZ x y) H1
theorem pi_enumZ {X : Cx} {e1 e2 : Expr} {ta : TA} {p pos tpos p2 pos2 : Pos} {elts : List Expr} {kk : Nat} (hg : Gl X "enumerate") (hm : X.mg "enumerate" = none) (hgz : Gl X "zip") (hmz : X.mg "zip" = none) (ha : PA X [e1, e2] ta)
    (hs : starEach [.Call (.Name "zip" p2) [e1, e2] [] pos2] X.env = [(false, eval (.Call (.Name "zip" p2) [e1, e2] [] pos2) X.env)] := by rfl)
    (hs2 : starEach [e1, e2] X.env = (false, eval e1 X.env) :: starEach [e2] X.env := by rfl) (hpl : (backTo pos2 (starEach [e2] X.env)).any (·.1) = false := by rfl) :
    PI X (.Tuple elts kk tpos) (.Call (.Name "enumerate" p) [.Call (.Name "zip" p2) [e1, e2] [] pos2] [] pos) (iEnumZ ta) := by
  refine ⟨fun pins s σ H R I h => ?_⟩
  refine Call_ (ld_blt I hg hm boot_enumerate (PyProof.Rows.callWith_type1 ?_ hs rfl))
  rw [hs]
  show wpAny _ _ (spliced [(false, eval (.Call (.Name "zip" p2) [e1, e2] [] pos2) X.env)]) _ _ _
  refine Calls.spliced_cons ?_
  refine Call_ (ld_blt I hgz hmz PyProof.Rows.boot_zip (PyProof.Rows.callWith_type1 (thn (ha.run pos2 pins s σ H _ I h) fun us s1 ⟨vs, H1, I1, r1, q1⟩ => ?_) hs2 hpl))
  obtain ⟨x, y, ex, q⟩ := q1
  subst ex
  cases r1 with
  | cons r rr =>
    cases rr with
    | cons r' rr =>
      cases rr
      obtain ⟨t, rfl⟩ := r
      obtain ⟨u, rfl⟩ := r'
      refine zip_begins2 (begins_text x t) (begins_text y u) trivial trivial fun h' hz hTI hTO h1 h2 hsz hk => Calls.spliced_nil ?_
      have hza : R6.ZAny h' (s1.heap.objs.size + 4) (s1.heap.objs.size + 2) (s1.heap.objs.size + 3) := ⟨_, _, .inl rfl, hz⟩
      refine R6.enum_beginsZ (s := { s1 with heap := h' }) hza fun h3 he3 hsz3 hk3 => wpAny_pyIter_enum he3 ?_
      have I2 : Inv X pins σ H1 { s1 with heap := h3 } := I1.kept (t' := s1.toks) fun b o e => hk3 b o (hk b o e)
      have hsz' : h'.objs.size = s1.heap.objs.size + 5 := hsz
      refine ⟨h'.objs.size, [h'.objs.size, s1.heap.objs.size + 4, s1.heap.objs.size + 2, s1.heap.objs.size + 3, s1.heap.objs.size, s1.heap.objs.size + 1], _, _, H1, rfl, I2, turn_enumZ (t := t) (u := u) (zip_sep2 (fp1 := []) (fp2 := []) (by simp) (by simp)) ⟨?_, ?_, ?_, ?_, ?_⟩, ⟨⟨.none, he3⟩, ⟨_, _, .inl rfl, hk3 _ _ hz⟩, hk3 _ _ hTI, ⟨_, _, hk3 _ _ hTO⟩, ⟨_, hk3 _ _ h1, rfl, rfl⟩, ⟨_, hk3 _ _ h2, rfl, rfl⟩⟩, fun c hcm => ?_, q⟩
      · rw [hsz']; exact Nat.ne_of_gt (by omega)
      · rw [hsz']; exact Nat.ne_of_gt (by omega)
      · rw [hsz']; exact Nat.ne_of_gt (by omega)
      · rw [hsz']; exact Nat.ne_of_gt (by omega)
      · rw [hsz']; exact Nat.ne_of_gt (by omega)
      have e' : c = h'.objs.size ∨ c = s1.heap.objs.size + 4 ∨ c = s1.heap.objs.size + 2 ∨ c = s1.heap.objs.size + 3 ∨ c = s1.heap.objs.size ∨ c = s1.heap.objs.size + 1 := by simpa using hcm
      have hle : s1.heap.objs.size ≤ c := by
        rw [hsz'] at e'
        rcases e' with z | z | z | z | z | z <;> rw [z]
        · exact Nat.le_add_right _ _
        · exact Nat.le_add_right _ _
        · exact Nat.le_add_right _ _
        · exact Nat.le_add_right _ _
        · exact Nat.le_refl _
        · exact Nat.le_add_right _ _
      exact I1.fpOk hle (I1.hok.fresh hle)
end L2
end

section
set_option Elab.async false
set_option linter.all false
set_option maxRecDepth 100000
set_option maxHeartbeats 4000000
/-! An own error that is caught, kept in a name, and looked at behind the suite; an __init__ that calls its own base's. -/
namespace L2
open PySem PySem.Spec PyProof.Rows
/-! ### T.__init__(self, ..), T an own class over ValueError without own __init__ -/
section
variable {X : Cx} {o e : Expr} {es : List Expr} {to te : TE} {ta : TA} {f : Str} {p p' p1 p2 pos : Pos}
theorem pe_veinitC {T : Addr} {x : Str} {mc : Value} {pl : Sem Bool} (hg : Gl X x) (hm : X.mg x = some (.ref T)) (rd : ClX.CRead X.K T mc) (vV : PySem.W.findCls X.K (.ref T) mc "__init__" = some (.val (.builtin "ValueError.__init__"))) (ha : PA X (e :: es) ta)
    (hdb : (x == ("__debug__" : Str)) = false := by decide)
    (hc : eval (.Call (.Attribute (.Name x p1) "__init__" p2) (e :: es) [] pos) X.env = (do
      let ov ← eval (.Name x p1) X.env
      standAt p2.atName
      let (f, first) ← holding [ov] (getMethod ov "__init__" pl)
      callWith pos f first (backTo pos (starEach (e :: es) X.env)) (backToKw pos (keywordEach [] X.env))) := by rfl)
    (he : starEach (e :: es) X.env = (false, eval e X.env) :: starEach es X.env := by rfl) (hpl : (backTo pos (starEach es X.env)).any (·.1) = false := by rfl) :
    PE X (.Call (.Attribute (.Name x p1) "__init__" p2) (e :: es) [] pos) (tVeI X.K ta) := by
  refine ⟨fun pins s σ H Q I h => ?_⟩
  refine PySem.W.methodCall_KW (ld_glob I hg hm ?_ hdb) hc
  refine PySem.W.method_cls I.kIn rd.ga (PySem.W.cls_value I.kIn rd.rd vV (by decide +kernel) ?_)
  show wpAny _ _ (callWith pos (Value.builtin "ValueError.__init__") [] (backTo pos (starEach (e :: es) X.env)) []) _ _ _
  refine PyProof.Rows.callWith_method1 (thn (ha.run pos pins _ σ H _ (I.tok _) h) fun us s1 ⟨vs, H1, I1, r1, a, C, ws, ev, hl, T, ea, q⟩ => ?_) he hpl
  subst ev
  cases r1 with
  | @cons _ u0 _ ur ra rw' =>
    obtain rfl : u0 = Value.ref a := ra
    have hlen : ur.length ≤ sizeLine := by
      rw [← Paired.length rw', sizeLine_eq]
      omega
    exact oinit_ok T I1 ea hlen fun s' J => ⟨.non, H1, J, rfl, q⟩
end
/-! ### a caught error that outlives its suite -/
/-- at a: an error of the class cls, its dict d -/
def exh (a : Addr) (cls : Value) (d : Option Addr) : HO := .ext fun h => ∃ (oe : Obj) (vs : Array Value), h.get? a = some oe ∧ Zc cls d oe ∧ oe.data = .fields vs
theorem exh_ok {P : Program} {w : World} {H : Hp} {h : Heap} {a : Addr} {cls : Value} {d : Option Addr} {oe : Obj} {vs : Array Value} (e : h.get? a = some oe) (z : Zc cls d oe) (hd : oe.data = .fields vs) : ObjOk P w H h a (exh a cls d) :=
  ⟨⟨oe, vs, e, z, hd⟩, ⟨_, e⟩, fun h1 h2 q k => by
    obtain ⟨o, v, e1, z1, d1⟩ := q
    exact ⟨o, v, k _ e1, z1, d1⟩⟩
theorem exh_at {P : Program} {w : World} {H : Hp} {h : Heap} {a : Addr} {cls : Value} {d : Option Addr} (hok : HOk P w H h) (he : H a = some (exh a cls d)) : ∃ (oe : Obj) (vs : Array Value), h.get? a = some oe ∧ Zc cls d oe ∧ oe.data = .fields vs := by
  have x : ObjOk P w H h a (.ext fun h => ∃ (oe : Obj) (vs : Array Value), h.get? a = some oe ∧ Zc cls d oe ∧ oe.data = .fields vs) := hok a _ he
  exact x.1
/-- a pinned object that is not the base's may be tracked -/
theorem Inv.track {X : Cx} {pins : List (Addr × Obj)} {σ : St} {H : Hp} {s : Shared} {a : Addr} {oe : Obj} {vs : Array Value} {cls : Value} {d : Option Addr} (I : Inv X ((a, oe) :: pins) σ H s) (n0 : X.s_0.heap.get? a = none)
    (np : ∀ p ∈ X.pn ++ pins, p.1 ≠ a) (hz : Zc cls d oe) (hd : oe.data = .fields vs) : Inv X pins σ (upd H a (exh a cls d)) s := by
  obtain ⟨ha, na, nL, nF, _⟩ := I.pin (a, oe) (List.mem_append_right _ List.mem_cons_self)
  replace ha : s.heap.get? a = some oe := ha
  replace na : H a = none := na
  replace nL : a ≠ X.env.locals := nL
  have ne0 : ∀ b o, X.s_0.heap.get? b = some o → b ≠ a := fun b o e z => by
    rw [z, n0] at e
    cases e
  have neS : ∀ b o, H b = some o → b ≠ a := fun b o e z => by
    rw [z, na] at e
    cases e
  refine ⟨I.ok, I.os, I.bare, ⟨I.base.keep, I.base.slot, fun b o e n hx => ?_, I.base.there, fun b xs e => ?_, fun b o u e => ?_, fun b ps e => ?_⟩, I.loc, I.cell, ?_, fun x c e => ?_, fun p hp => ?_, fun b u e => ?_, I.len⟩
  · rw [upd_ne (ne0 b o e)]
    exact I.base.free b o e n hx
  · have q := I.base.tups b xs e
    rw [upd_ne (neS b _ q)]
    exact q
  · have q := I.base.frzs b o u e
    rw [upd_ne (neS b _ q)]
    exact q
  · obtain ⟨m, q⟩ := I.base.tbls b ps e
    rw [upd_ne (neS b _ q)]
    exact ⟨m, q⟩
  · rw [upd_ne (Ne.symm nL)]
    exact I.free
  · have nc : c ≠ a := fun z => by
      obtain ⟨v, o, ho, hcd⟩ := I.cell x c e
      rw [z, ha] at ho
      cases ho
      rw [hd] at hcd
      cases hcd
    rw [upd_ne nc]
    exact I.freeC x c e
  · obtain ⟨e1, e2, e3⟩ := I.pin p (by
      rcases List.mem_append.mp hp with z | z
      · exact List.mem_append_left _ z
      · exact List.mem_append_right _ (List.mem_cons_of_mem _ z))
    exact ⟨e1, by rw [upd_ne (np p hp)]; exact e2, e3⟩
  · by_cases hb : b = a
    · subst hb
      rw [upd_same] at e
      cases e
      exact exh_ok ha hz hd
    · rw [upd_ne hb] at e
      exact (I.hok b u e).stay (fun c v _ q => q) (fun c q => by rw [upd_ne (neS c _ q)]; exact q) fun c xs q => by rw [upd_ne (neS c _ q)]; exact q
/-- what 'except x as n: suite' wishes, n's slot i; behind the suite the error is known still -/
def wKeep (K : PySem.W.Frag) (c : Value) (i : Nat) (ts : Addr → Value → Option Addr → TS) (D : Ends) : WX := fun cls d σ H =>
  PySem.W.exmOne K cls c = some true ∧ ∀ a, H a = none → ts a cls d { nx := fun σ' H' => H' a = none → D.nx (σ'.set i none) (upd H' a (exh a cls d)), rt := fun _ _ => False, bk := fun _ _ => False, ct := fun _ _ => False } (σ.set i (some (.ref a))) H
section
variable {X : Cx} {x n : Str} {c : Value} {i : Nat} {body suite : List Stmt} {b₀ : Stmt} {np pos pos' : Pos} {tb : WX → TS} {ts : Addr → Value → Option Addr → TS} {Wout : WX}
theorem ps_try_keep (hex : X.ex = []) (hs : X.stack = X.env :: X.outer) (hf : X.env.frame = some X.env.locals) (hN : X.N.Nodup) (hi : X.N[i]? = some n) (hln : X.env.kindOf n = some .local) (hc : Names X x c)
    (hb : ∀ (W : WX) (pn : List (Addr × Obj)) (xe : Value → Shared → Prop), Takes (X.tr pn xe) W → PassesOwn (model X.prog X.w) X.A X.env xe → PSs (X.tr pn xe) body (tb W))
    (hsu : ∀ (a : Addr) (oe : Obj) (cls : Value) (d : Option Addr) (pn : List (Addr × Obj)), Zc cls d oe → (∃ vs, oe.data = .fields vs) → PSs (X.suite a ((a, oe) :: pn)) (b₀ :: suite) (ts a cls d)) :
    PS X (.Try body [.ExceptHandler (some (.Name x np)) (some n) (b₀ :: suite) pos'] [] [] pos) (fun D σ H => tb (wKeep X.K c i ts D) D σ H) := by
  refine ⟨fun pins s σ H D I h => ?_⟩
  have ok := I.ok
  have hfr : X.A.frames = some (X.env :: X.outer) := by rw [ok.frames, hs]
  have hloc : Loc X.env.scope n := .inl hln
  refine wpAny_Try_except ?_
  refine wpAny_mono ((hb (wKeep X.K c i ts D) (X.pn ++ pins) (fun e s₁ => wpAny (model X.prog X.w) X.A (noteFrame e X.env) (fun _ s₂ => wpAny (model X.prog X.w) X.A (setFlight e none) (fun _ s₃ =>
    wpAny (model X.prog X.w) X.A (handleBy e X.env [.ExceptHandler (some (.Name x np)) (some n) (b₀ :: suite) pos']) (SP X pins D) X.xe s₃) X.xe s₂) X.xe s₁) (fun u s' xx => ?_) PassesOwn.looking).run [] s σ H D (I.toTry _) h) (fun f s1 hsp => ?_) (fun e s1 he => he)
  · -- the catch
    obtain ⟨a, B, sI, pins', σ', H', cls, d, rfl, J', nb, up, sky, na, os, ag, hb1, hyes⟩ := xx
    have J : Inv X pins σ' H' sI := J'.ofTry ok
    have sky' : Sky B (X.env :: X.outer) a (Zc cls d) X.env.locals s'.heap := by rw [← hs]; exact sky
    show wpAny (model X.prog X.w) X.A (noteFrame (.ref a) X.env) _ _ _
    refine Sky.land Zc.steady hfr hf sky' fun h3 fl3 up3 => ?_
    have J3 : Inv X pins σ' H' { s' with heap := h3 } := J.landed nb fl3.1 (up.trans up3) os ag
    obtain ⟨oe3, vs3, he3, hz3, hd3⟩ := fl3.there
    have notFr : ∀ {h : Heap} {o : Obj} {vs : Array Value}, h.FunFrames B (X.env :: X.outer) → h.get? a = some o → o.data = .fields vs → a ∉ frs (X.env :: X.outer) := fun {h o vs} ff e dd hm => by
      obtain ⟨_, o', e', hnf⟩ := ff.mem hm
      rw [e] at e'; cases e'
      exact hnf _ dd
    have nfr := notFr fl3.2.2.1 he3 hd3
    have nL : a ≠ X.env.locals := fun z => nfr (List.mem_filterMap.mpr ⟨X.env, List.mem_cons_self, by rw [hf, z]⟩)
    have nF : a ∉ X.fs := fun hm => by
      obtain ⟨e, he, q⟩ := List.mem_filterMap.mp hm
      exact nfr (List.mem_filterMap.mpr ⟨e, List.mem_cons_of_mem _ he, q⟩)
    have nBa : B.get? a = none := fl3.2.1
    have nsI : sI.heap.get? a = none := by
      cases e : sI.heap.get? a with
      | none => rfl
      | some o =>
        have z := nb a o e (by show a ∉ frs X.stack; rw [hs]; exact nfr)
        rw [nBa] at z
        cases z
    have n0 : X.s_0.heap.get? a = none := by
      cases e : X.s_0.heap.get? a with
      | none => rfl
      | some o =>
        obtain ⟨o', z⟩ := J.base.there a o e (by rw [hex]; exact fun z => nomatch z)
        rw [nsI] at z
        cases z
    have npn : ∀ p ∈ X.pn ++ pins, p.1 ≠ a := fun p hp z => by
      have q := (J.pin p hp).1
      rw [z, nsI] at q
      cases q
    have S3 := J3.suite he3 hd3 na nL nF
    refine wpAny_handleBy_cons (codeAny_handlers_test ?_) (by intro q; cases q)
    have LT : PySem.W.Looks (model X.prog X.w) h3 (typeOf (.ref a)) cls := fun A Q E s k q => wpAny_typeOf_ref (k _ _ he3) (by rw [hz3.1]; exact q)
    have LM := PySem.W.exm_one (M := model X.prog X.w) (J3.kIn) LT hb1
    have test : ∀ {Q : Value → Shared → Prop} {E : Value → Shared → Prop}, Q c { s' with heap := h3 } → wpAny (model X.prog X.w) (X.A.mark (some (.ref a))) (eval (.Name x np) X.env) Q E { s' with heap := h3 } := fun {Q E} q => by
      obtain ⟨hg, hdbg, hm | ⟨hm, hv, hnn⟩⟩ := hc
      · exact ld_glob (X := X.suite a ((a, oe3) :: (X.pn ++ pins))) S3 hg hm q hdbg
      · exact ld_blt (X := X.suite a ((a, oe3) :: (X.pn ++ pins))) S3 hg hm hv q hnn hdbg
    refine test (LM.here ?_)
    refine codeAny_handlers_suite_as ?_
    refine HandSPX.lands_againZ fl3 fun h4 fl4 up4 => ?_
    have J4 : Inv X pins σ' H' { s' with heap := h4 } := J.landed nb fl4.1 ((up.trans up3).trans up4) os ag
    obtain ⟨oe4, vs4, he4, hz4, hd4⟩ := fl4.there
    have S4 := J4.suite he4 hd4 na nL nF
    refine store_ok (X := X.suite a ((a, oe4) :: (X.pn ++ pins))) (v := .ref a) S4 hN hi hloc rfl (fun s5 S5 => ?_) (.inr hln)
    refine wpAny_mono ((hsu a oe4 cls d (X.pn ++ pins) hz4 ⟨_, hd4⟩).run [] s5 _ H' _ S5 (hyes a na)) (fun f s6 hsp => ?_) (fun _ _ z => False.elim z)
    cases f with
    | next =>
      obtain ⟨σ6, H6, S6, q6⟩ := hsp
      have pin6 := S6.pin
      have n6 : H6 a = none := (pin6 (a, oe4) (List.mem_append_left _ List.mem_cons_self)).2.1
      have J6 : Inv X ((a, oe4) :: pins) σ6 H6 s6 := ⟨ok, S6.os, S6.bare, S6.base, S6.loc, S6.cell, S6.free, S6.freeC, fun p hp => pin6 p (List.mem_append_left _ (by
        rcases List.mem_append.mp hp with z | z
        · exact List.mem_cons_of_mem _ (List.mem_append_left _ z)
        · rcases List.mem_cons.mp z with z | z
          · rw [z]; exact List.mem_cons_self
          · exact List.mem_cons_of_mem _ (List.mem_append_right _ z))), S6.hok, S6.len⟩
      refine gone_ok J6 hN hi hln fun s7 J7 => ⟨_, _, J7.track n0 npn hz4 hd4, q6 n6⟩
    | brk =>
      obtain ⟨σ6, H6, S6, q6⟩ := hsp
      exact False.elim q6
    | cont =>
      obtain ⟨σ6, H6, S6, q6⟩ := hsp
      exact False.elim q6
    | ret u =>
      obtain ⟨v6, σ6, H6, S6, r6, q6⟩ := hsp
      exact False.elim q6
  · cases f with
    | next =>
      obtain ⟨σ', H', J', q⟩ := hsp
      exact wpAny_execs_nil ⟨σ', H', J'.ofTry ok, q⟩
    | brk =>
      obtain ⟨σ', H', J', q⟩ := hsp
      exact ⟨σ', H', J'.ofTry ok, q⟩
    | cont =>
      obtain ⟨σ', H', J', q⟩ := hsp
      exact ⟨σ', H', J'.ofTry ok, q⟩
    | ret u =>
      obtain ⟨v, σ', H', J', r, q⟩ := hsp
      exact ⟨v, σ', H', J'.ofTry ok, r, q⟩
end
/-! ### isinstance of it, its field -/
theorem ex_exact {K : PySem.W.Frag} {x c : Value} {T : Heap → Prop} (ty : ∀ (M : Model) (h : Heap), T h → PySem.W.Looks M h (typeOf x) c) : Answers (fun s => T s.heap) x c true := by
  intro dep tk prog w A R s hs
  obtain ⟨h0, g, d, tt, os⟩ := s
  obtain ⟨p, hq⟩ := hs
  have LT := ty (model prog w) h0 p
  unfold Builtin.«isinstance.nested»
  refine wpAny_bind (LT.at ?_)
  rw [if_pos (by simp)]
  exact wpAny_bind (wpAny_rule (wpAny_pure (hq tt)))
def rIsH (C : Addr) : List V → Hp → VK → Prop := fun xs H Q => ∃ (a : Addr) (d : Option Addr) (k : V), xs = [.ref a, k] ∧ (∀ u, RelV k u → u = .ref C) ∧ H a = some (exh a (.ref C) d) ∧ Q (.bl true) H
theorem call_isH {X : Cx} {C : Addr} : CallR X (.builtin "isinstance") (rIsH C) := by
  intro pins s σ H xs us Q I r h
  obtain ⟨a, d, k, rfl, hk, e, q⟩ := h
  cases r with
  | cons rx rr =>
    cases rr with
    | cons rt rr =>
      cases rr
      cases rx
      have ec := hk _ rt
      subst ec
      obtain ⟨oe, vs, hget, hz, hv⟩ := exh_at I.hok e
      refine PySem.call_isinstance (S := fun _ R s => (s.heap.get? a = some oe) ∧ ∀ tk, R (.ok (.ret (.bool true))) { s with toks := tk })
        (fun prog w A R s hs => isinstance_outer (ex_exact (K := X.K) (T := fun h => h.get? a = some oe) (fun M h p => fun A Q E s k q => wpAny_typeOf_ref (k _ _ p) (by rw [hz.1]; exact q)) 0 _ prog w A R s hs) (by intro z; cases z)) ⟨hget, fun tk => ⟨.bl true, H, I.kept (t' := tk) fun _ _ z => z, rfl, q⟩⟩
/-- n.f, n a caught error kept -/
def tXh (C : Addr) (f : Str) (te : TE) : TE := fun σ H Q => te σ H fun x H1 => ∃ (a dd : Addr) (fs : List (Str × V)) (v : V), x = .ref a ∧ H1 a = some (exh a (.ref C) (some dd)) ∧ H1 dd = some (.xd fs) ∧ fs.lookup f = some v ∧ Q v H1
theorem pe_xh {X : Cx} {C : Addr} {e : Expr} {te : TE} {pos : Pos} {n : Str} (T : XfC X.K C) (hno : PySem.W.findIn X.K (.ref C) n = some none) (he : PE X e te)
    (hb : attributeBase e n X.env (eval e X.env) = eval e X.env := by rfl) : PE X (.Attribute e n pos) (tXh C n te) := by
  refine ⟨fun pins s σ H Q I h => ?_⟩
  refine attr_of hb (thn (he.run pins s σ H _ I h) fun u s1 hh => ?_)
  obtain ⟨x, H1, I1, rx, a, dd, fs, v, ex, ea, ed, l, q⟩ := hh
  subst ex
  obtain rfl : u = Value.ref a := rx
  obtain ⟨oe, vs, ha, hz, hd⟩ := exh_at I1.hok ea
  have hx : ObjOk X.prog X.w H1 s1.heap dd (.xd fs) := I1.hok dd _ ed
  obtain ⟨mA, hns, hr⟩ := hx
  obtain ⟨od, ho, hl⟩ := lookIn_ns hns
  obtain ⟨u, hu, ru⟩ := RelO.some_of (v := v) (o := mA n) (by rw [← l]; exact hr n)
  have J : PySem.W.InstAt s1.heap a oe C (some od) := ⟨ha, hz.1, by unfold PySem.W.notCls; rw [hd] <;> rfl, by rw [hz.2]; exact ho⟩
  exact HandSPX.exc_get I1.kIn J T.ga T.gg T.exC (PySem.W.findObj_own T.hdC hno rfl (by rw [hl, hu])) (handed_of ru) ⟨v, H1, I1.tok _, ru, q⟩
end L2
end

section
set_option autoImplicit false
namespace TT

/-! ## runs: true is a letter of a, false of b -/
abbrev Run := List Bool
def cA (r : Run) : Nat := r.count true
def cB (r : Run) : Nat := r.count false
/-- how many steps of a stand ahead of the j-th step of b -/
def row : Run → Nat → Nat
  | [], _ => 0
  | true :: r, j => row r j + 1
  | false :: _, 0 => 0
  | false :: r, j + 1 => row r j
/-- the place of the i-th step of thread x -/
def pos (x : Bool) : Run → Nat → Nat
  | [], _ => 0
  | y :: r, i => if y = x then (match i with | 0 => 0 | k + 1 => pos x r k + 1) else pos x r i + 1
def places (x : Bool) (r : Run) : List Nat := (List.range r.length).filter fun i => r[i]? == some x

@[simp] theorem cA_nil : cA [] = 0 := rfl
@[simp] theorem cB_nil : cB [] = 0 := rfl
@[simp] theorem cA_t (r : Run) : cA (true :: r) = cA r + 1 := by simp [cA]
@[simp] theorem cA_f (r : Run) : cA (false :: r) = cA r := by simp [cA]
@[simp] theorem cB_t (r : Run) : cB (true :: r) = cB r := by simp [cB]
@[simp] theorem cB_f (r : Run) : cB (false :: r) = cB r + 1 := by simp [cB]
theorem cA_app (r s : Run) : cA (r ++ s) = cA r + cA s := by simp [cA]
theorem cB_app (r s : Run) : cB (r ++ s) = cB r + cB s := by simp [cB]
theorem cAB (r : Run) : cA r + cB r = r.length := by
  induction r with
  | nil => rfl
  | cons x r ih => cases x <;> simp <;> omega

theorem places_eq (x : Bool) (r : Run) : places x r = (List.range (r.count x)).map (pos x r) := by
  induction r with
  | nil => rfl
  | cons y r ih =>
    have e : places x (y :: r) = (if y = x then [0] else []) ++ (places x r).map (· + 1) := by
      unfold places
      rw [List.length_cons, List.range_succ_eq_map, List.filter_cons, List.filter_map]
      have e2 : ((fun i => (y :: r)[i]? == some x) ∘ Nat.succ) = fun i => r[i]? == some x := by
        funext i; simp
      rw [e2]
      by_cases h : y = x <;> simp [h]
    rw [e, ih]
    by_cases h : y = x
    · subst h
      simp only [if_true, List.count_cons_self, List.range_succ_eq_map, List.map_cons, List.map_map]
      have : pos y (y :: r) 0 = 0 := by simp [pos]
      rw [this]
      show 0 :: _ = 0 :: _
      congr 1
      apply List.map_congr_left
      intro i _
      simp [pos]
    · rw [if_neg h, List.count_cons_of_ne (by simpa using h), List.map_map]
      show List.map _ _ = _
      apply List.map_congr_left
      intro i _
      simp [pos, h]

theorem places_len (x : Bool) (r : Run) : (places x r).length = r.count x := by rw [places_eq]; simp
theorem places_get (x : Bool) (r : Run) {i : Nat} (h : i < r.count x) : (places x r)[i]? = some (pos x r i) := by
  rw [places_eq]; simp [h]

/-- which of two steps comes first -/
theorem pos_lt (r : Run) : ∀ (i j : Nat), i < cA r → j < cB r → ((pos true r i < pos false r j ↔ i < row r j) ∧ pos true r i ≠ pos false r j) := by
  induction r with
  | nil => intro i j h; simp at h
  | cons x r ih =>
    intro i j hi hj
    cases x with
    | true =>
      simp only [cA_t, cB_t] at hi hj
      cases i with
      | zero => simp [pos, row]
      | succ k =>
        have := ih k j (by omega) hj
        simp only [pos, row, if_true]
        simp only [Bool.true_eq_false, if_false]
        omega
    | false =>
      simp only [cA_f, cB_f] at hi hj
      cases j with
      | zero => simp [pos, row]
      | succ k =>
        have := ih i k hi (by omega)
        simp only [pos, row, if_true]
        simp only [Bool.false_eq_true, if_false]
        omega

theorem row_le (r : Run) : ∀ j, row r j ≤ cA r := by
  induction r with
  | nil => intro j; simp [row]
  | cons x r ih =>
    intro j
    cases x with
    | true => simpa [row] using ih j
    | false => cases j with
      | zero => simp [row]
      | succ j => simpa [row] using ih j
theorem row_mono1 (r : Run) : ∀ j, j + 1 < cB r → row r j ≤ row r (j + 1) := by
  induction r with
  | nil => intro j h; simp at h
  | cons x r ih =>
    intro j h
    cases x with
    | true => simpa [row] using ih j (by simpa using h)
    | false => cases j with
      | zero => simp [row]
      | succ j => simpa [row] using ih j (by simpa using h)
theorem row_mono (r : Run) {j k : Nat} (h : j ≤ k) (hk : k < cB r) : row r j ≤ row r k := by
  induction k with
  | zero => have : j = 0 := by omega
            subst this; exact Nat.le_refl _
  | succ k ih =>
    by_cases e : j = k + 1
    · subst e; exact Nat.le_refl _
    · exact Nat.le_trans (ih (by omega) (by omega)) (row_mono1 r k hk)
/-- the rows behind a cut -/
theorem row_app (l s : Run) : ∀ j, row (l ++ s) j = if j < cB l then row l j else cA l + row s (j - cB l) := by
  induction l with
  | nil => intro j; simp
  | cons x l ih =>
    intro j
    cases x with
    | true =>
      simp only [List.cons_append, row, ih, cB_t, cA_t]
      split <;> omega
    | false => cases j with
      | zero => simp [row]
      | succ j =>
        simp only [List.cons_append, row, ih, cB_f, cA_f]
        by_cases h : j < cB l
        · rw [if_pos h, if_pos (by omega)]
        · rw [if_neg h, if_neg (by omega), Nat.add_sub_add_right]
theorem row_ext : ∀ (r s : Run), cA r = cA s → cB r = cB s → (∀ j, j < cB r → row r j = row s j) → r = s := by
  intro r
  induction r with
  | nil =>
    intro s h1 h2 _
    have := cAB s
    simp at h1 h2
    have : s.length = 0 := by omega
    exact (List.eq_nil_of_length_eq_zero this).symm
  | cons x r ih =>
    intro s h1 h2 h3
    cases s with
    | nil => cases x <;> simp at h1 h2
    | cons y s =>
      cases x with
      | true => cases y with
        | true =>
          simp only [cA_t, cB_t] at h1 h2 h3
          rw [ih s (by omega) h2 fun j hj => by have := h3 j hj; simpa [row] using this]
        | false =>
          simp only [cA_t, cB_t, cA_f, cB_f] at h1 h2 h3
          have := h3 0 (by omega)
          simp [row] at this
      | false => cases y with
        | true =>
          simp only [cA_t, cB_t, cA_f, cB_f] at h1 h2 h3
          have := h3 0 (by omega)
          simp [row] at this
        | false =>
          simp only [cA_f, cB_f] at h1 h2 h3
          rw [ih s h1 (by omega) fun j hj => by have := h3 (j + 1) (by omega); simpa [row] using this]

/-! ## exchanges -/
/-- the letters at p and behind it exchanged -/
def swp (r : Run) (p : Nat) : Run := r.take p ++ ((r.drop (p + 1)).take 1 ++ ((r.drop p).take 1 ++ r.drop (p + 2)))
theorem swp_split (l s : Run) (x y : Bool) : swp (l ++ x :: y :: s) l.length = l ++ y :: x :: s := by
  have e1 : l ++ x :: y :: s = (l ++ [x]) ++ y :: s := by simp
  have e2 : l ++ x :: y :: s = (l ++ [x, y]) ++ s := by simp
  have d0 : (l ++ x :: y :: s).drop l.length = x :: y :: s := List.drop_left
  have d1 : (l ++ x :: y :: s).drop (l.length + 1) = y :: s := by
    rw [e1]; exact List.drop_left' (by simp)
  have d2 : (l ++ x :: y :: s).drop (l.length + 2) = s := by
    rw [e2]; exact List.drop_left' (by simp)
  unfold swp
  rw [d0, d1, d2, List.take_left]
  simp
theorem split_at (r : Run) {p : Nat} (h : p + 1 < r.length) : ∃ l x y s, r = l ++ x :: y :: s ∧ l.length = p ∧ r[p]? = some x ∧ r[p + 1]? = some y ∧ r.take p = l := by
  refine ⟨r.take p, r[p], r[p + 1], r.drop (p + 2), ?_, by simp; omega, by simp, by simp, rfl⟩
  have e1 : r.drop p = r[p] :: r.drop (p + 1) := List.drop_eq_getElem_cons (by omega)
  have e2 : r.drop (p + 1) = r[p + 1] :: r.drop (p + 2) := List.drop_eq_getElem_cons (by omega)
  rw [← e2, ← e1, List.take_append_drop]
theorem cA_swp (r : Run) {p : Nat} (h : p + 1 < r.length) : cA (swp r p) = cA r ∧ cB (swp r p) = cB r := by
  obtain ⟨l, x, y, s, rfl, rfl, _⟩ := split_at r h
  rw [swp_split]
  simp only [cA_app, cB_app]
  cases x <;> cases y <;> simp
theorem swp_len (r : Run) {p : Nat} (h : p + 1 < r.length) : (swp r p).length = r.length := by
  rw [← cAB, ← cAB, (cA_swp r h).1, (cA_swp r h).2]

/-- the steps at p, p + 1 of h stand unlike in g: (i, j) their numbers -/
def Goes (g h : Run) (p : Nat) : Prop := p + 1 < h.length ∧
  ((h[p]? = some true ∧ h[p + 1]? = some false ∧ row g (cB (h.take p)) ≤ cA (h.take p)) ∨ (h[p]? = some false ∧ h[p + 1]? = some true ∧ cA (h.take p) < row g (cB (h.take p))))
theorem Goes.ne {g h : Run} {p : Nat} (w : Goes g h p) : h[p]? ≠ h[p + 1]? := by
  rcases w.2 with ⟨a, b, _⟩ | ⟨a, b, _⟩ <;> rw [a, b] <;> decide

/-- one exchange of unlike letters: the rows -/
theorem row_ab (l s : Run) (j : Nat) : row (l ++ true :: false :: s) j = if j = cB l then cA l + 1 else row (l ++ false :: true :: s) j := by
  rw [row_app, row_app]
  by_cases h : j < cB l
  · rw [if_pos h, if_pos h, if_neg (by omega)]
  · rw [if_neg h, if_neg h]
    by_cases e : j = cB l
    · subst e; simp [row]
    · rw [if_neg e]
      obtain ⟨k, hk⟩ : ∃ k, j - cB l = k + 1 := ⟨j - cB l - 1, by omega⟩
      rw [hk]; simp [row]
theorem row_ba (l s : Run) (j : Nat) : row (l ++ false :: true :: s) j = if j = cB l then cA l else row (l ++ true :: false :: s) j := by
  rw [row_app, row_app]
  by_cases h : j < cB l
  · rw [if_pos h, if_pos h, if_neg (by omega)]
  · rw [if_neg h, if_neg h]
    by_cases e : j = cB l
    · subst e; simp [row]
    · rw [if_neg e]
      obtain ⟨k, hk⟩ : ∃ k, j - cB l = k + 1 := ⟨j - cB l - 1, by omega⟩
      rw [hk]; simp [row]
/-- of a step that is taken: the j-th row moves by one towards g's, the others stay -/
theorem Goes.rows {g h : Run} {p : Nat} (w : Goes g h p) : cB (h.take p) < cB h ∧ cA (h.take p) < cA h ∧ (∀ k, k ≠ cB (h.take p) → row (swp h p) k = row h k) ∧
    ((row h (cB (h.take p)) = cA (h.take p) + 1 ∧ row (swp h p) (cB (h.take p)) = cA (h.take p) ∧ row g (cB (h.take p)) ≤ cA (h.take p)) ∨
     (row h (cB (h.take p)) = cA (h.take p) ∧ row (swp h p) (cB (h.take p)) = cA (h.take p) + 1 ∧ cA (h.take p) < row g (cB (h.take p)))) := by
  obtain ⟨hp, w⟩ := w
  obtain ⟨l, x, y, s, rfl, rfl, hx, hy, ht⟩ := split_at h hp
  rw [swp_split]
  rw [ht] at w ⊢
  rcases w with ⟨a, b, q⟩ | ⟨a, b, q⟩
  · have e1 : x = true := by rw [a] at hx; exact (Option.some.inj hx).symm
    have e2 : y = false := by rw [b] at hy; exact (Option.some.inj hy).symm
    subst e1 e2
    refine ⟨by simp [cB_app], by simp [cA_app], fun k hk => by rw [row_ab, if_neg hk], .inl ⟨by rw [row_ab, if_pos rfl], by rw [row_ba, if_pos rfl], q⟩⟩
  · have e1 : x = false := by rw [a] at hx; exact (Option.some.inj hx).symm
    have e2 : y = true := by rw [b] at hy; exact (Option.some.inj hy).symm
    subst e1 e2
    refine ⟨by simp [cB_app], by simp [cA_app], fun k hk => by rw [row_ba, if_neg hk], .inr ⟨by rw [row_ba, if_pos rfl], by rw [row_ab, if_pos rfl], q⟩⟩

/-- how many pairs of steps stand unlike -/
def unl (g h : Run) : Nat := ((List.range (cB h)).map fun j => ((row h j : Int) - (row g j : Int)).natAbs).sum
theorem sum_one {f f' : Nat → Nat} {j n : Nat} (hj : j < n) (h1 : f j = f' j + 1) (h2 : ∀ k, k ≠ j → f k = f' k) : ((List.range n).map f).sum = ((List.range n).map f').sum + 1 := by
  induction n with
  | zero => omega
  | succ n ih =>
    rw [List.range_succ, List.map_append, List.map_append, List.sum_append, List.sum_append]
    simp only [List.map_cons, List.map_nil, List.sum_cons, List.sum_nil]
    by_cases e : j = n
    · subst e
      have : (List.range j).map f = (List.range j).map f' := List.map_congr_left fun k hk => h2 k (by have := List.mem_range.mp hk; omega)
      rw [this, h1]; omega
    · have := ih (by omega)
      rw [this, h2 n (by omega)]; omega
theorem Goes.unl {g h : Run} {p : Nat} (w : Goes g h p) : TT.unl g h = TT.unl g (swp h p) + 1 := by
  have hb := (cA_swp h w.1).2
  obtain ⟨h1, _, h2, h3⟩ := w.rows
  unfold TT.unl
  rw [hb]
  refine sum_one h1 ?_ fun k hk => by rw [h2 k hk]
  rcases h3 with ⟨a, b, c⟩ | ⟨a, b, c⟩ <;> rw [a, b] <;> omega

theorem row_split (h : Run) : ∀ j, j < cB h → ∃ p s, h = p ++ false :: s ∧ cB p = j ∧ cA p = row h j := by
  induction h with
  | nil => intro j hj; simp at hj
  | cons x h ih =>
    intro j hj
    cases x with
    | true =>
      obtain ⟨p, s, e, a, b⟩ := ih j (by simpa using hj)
      exact ⟨true :: p, s, by rw [e]; rfl, by simpa using a, by simp [row, b]⟩
    | false => cases j with
      | zero => exact ⟨[], h, rfl, rfl, rfl⟩
      | succ j =>
        obtain ⟨p, s, e, a, b⟩ := ih j (by simpa using hj)
        exact ⟨false :: p, s, by rw [e]; rfl, by simpa using a, by simp [row, b]⟩
theorem goes_at {g : Run} (l s : Run) (x y : Bool) (w : (x = true ∧ y = false ∧ row g (cB l) ≤ cA l) ∨ (x = false ∧ y = true ∧ cA l < row g (cB l))) : Goes g (l ++ x :: y :: s) l.length := by
  refine ⟨by simp, ?_⟩
  have e1 : (l ++ x :: y :: s)[l.length]? = some x := by simp
  have e2 : (l ++ x :: y :: s)[l.length + 1]? = some y := by simp
  rw [e1, e2, List.take_left]
  rcases w with ⟨rfl, rfl, q⟩ | ⟨rfl, rfl, q⟩
  · exact .inl ⟨rfl, rfl, q⟩
  · exact .inr ⟨rfl, rfl, q⟩
/-- nothing to be exchanged: the run is there -/
theorem done_of {g h : Run} (hA : cA h = cA g) (hB : cB h = cB g) (no : ∀ p, p + 1 < h.length → ¬ Goes g h p) : h = g := by
  have lo : ∀ j, j < cB h → row h j ≤ row g j := by
    intro j
    induction j with
    | zero =>
      intro hj
      obtain ⟨p, s, e, a, b⟩ := row_split h 0 hj
      rcases List.eq_nil_or_concat p with rfl | ⟨l, x, rfl⟩
      · simp at b; omega
      · cases x with
        | false => rw [List.concat_eq_append, cB_app] at a; simp at a
        | true =>
          rw [List.concat_eq_append] at *
          have e' : h = l ++ true :: false :: s := by rw [e]; simp
          rw [cA_app] at b
          rw [cB_app] at a
          simp at a b
          rw [← b]
          refine Nat.lt_of_not_le fun q => no l.length (by rw [e']; simp) ?_
          rw [e']
          exact goes_at l s true false (.inl ⟨rfl, rfl, by rw [a]; exact q⟩)
    | succ j ih =>
      intro hj
      obtain ⟨p, s, e, a, b⟩ := row_split h (j + 1) hj
      rcases List.eq_nil_or_concat p with rfl | ⟨l, x, rfl⟩
      · simp at a
      · rw [List.concat_eq_append] at *
        cases x with
        | false =>
          rw [cA_app] at b
          rw [cB_app] at a
          simp at a b
          have e' : h = l ++ false :: (false :: s) := by rw [e]; simp
          have q : row h j = cA l := by
            rw [e', row_app, if_neg (by omega), show j - cB l = 0 by omega]
            simp [row]
          have := ih (by omega)
          have := row_mono1 g j (by omega)
          omega
        | true =>
          have e' : h = l ++ true :: false :: s := by rw [e]; simp
          rw [cA_app] at b
          rw [cB_app] at a
          simp at a b
          rw [← b]
          refine Nat.lt_of_not_le fun q => no l.length (by rw [e']; simp) ?_
          rw [e']
          exact goes_at l s true false (.inl ⟨rfl, rfl, by rw [a]; exact q⟩)
  have hi : ∀ d j, j + d + 1 = cB h → row g j ≤ row h j := by
    intro d
    induction d with
    | zero =>
      intro j hj
      obtain ⟨p, s, e, a, b⟩ := row_split h j (by omega)
      cases s with
      | nil =>
        have : cA h = cA p := by rw [e, cA_app]; simp
        have := row_le g j
        omega
      | cons y s =>
        cases y with
        | false => rw [e, cB_app] at hj; simp at hj; omega
        | true =>
          rw [← b]
          refine Nat.le_of_not_lt fun q => no p.length (by rw [e]; simp) ?_
          rw [e]
          exact goes_at p s false true (.inr ⟨rfl, rfl, by rw [a]; exact q⟩)
    | succ d ih =>
      intro j hj
      obtain ⟨p, s, e, a, b⟩ := row_split h j (by omega)
      have i1 := ih (j + 1) (by omega)
      have i2 := row_mono1 g j (by omega)
      cases s with
      | nil => rw [e, cB_app] at hj; simp at hj; omega
      | cons y s =>
        cases y with
        | false =>
          have q : row h (j + 1) = cA p := by
            rw [e, row_app, if_neg (by omega), show j + 1 - cB p = 1 by omega]
            simp [row]
          omega
        | true =>
          rw [← b]
          refine Nat.le_of_not_lt fun q => no p.length (by rw [e]; simp) ?_
          rw [e]
          exact goes_at p s false true (.inr ⟨rfl, rfl, by rw [a]; exact q⟩)
  refine row_ext h g hA hB fun j hj => ?_
  have := lo j hj
  have := hi (cB h - j - 1) j (by omega)
  omega
theorem unl_self (g : Run) : unl g g = 0 := by
  unfold unl
  have : (List.range (cB g)).map (fun j => ((row g j : Int) - (row g j : Int)).natAbs) = (List.range (cB g)).map fun _ => 0 := List.map_congr_left fun k _ => by omega
  rw [this]
  induction cB g with
  | zero => rfl
  | succ n ih => rw [List.range_succ, List.map_append, List.sum_append, ih]; rfl

/-! ## the loop of exchanges -/
def path (one : Run) (f : List Nat) : Run := f.foldl swp one
theorem path_snoc (one : Run) (f : List Nat) (p : Nat) : path one (f ++ [p]) = swp (path one f) p := by simp [path]
/-- the places found so far, each a step that goes towards g; every row between its start and g's -/
structure Way (g one : Run) (f : List Nat) : Prop where
  good : ∀ k p, f[k]? = some p → Goes g (path one (f.take k)) p
  mid : ∀ j, (row one j ≤ row g j → row one j ≤ row (path one f) j ∧ row (path one f) j ≤ row g j) ∧ (row g j ≤ row one j → row g j ≤ row (path one f) j ∧ row (path one f) j ≤ row one j)
  cnt : cA (path one f) = cA one ∧ cB (path one f) = cB one
  num : f.length + unl g (path one f) = unl g one
theorem Way.nil (g one : Run) : Way g one [] := ⟨fun k p h => by simp at h, fun j => ⟨fun h => ⟨Nat.le_refl _, h⟩, fun h => ⟨h, Nat.le_refl _⟩⟩, ⟨rfl, rfl⟩, by simp [path]⟩
theorem Way.snoc {g one : Run} {f : List Nat} {p : Nat} (w : Way g one f) (h : Goes g (path one f) p) : Way g one (f ++ [p]) := by
  obtain ⟨r1, r2, r3, r4⟩ := h.rows
  refine ⟨fun k q hk => ?_, fun j => ?_, ?_, ?_⟩
  · by_cases hl : k < f.length
    · rw [List.getElem?_append_left hl] at hk
      rw [List.take_append_of_le_length (by omega)]
      exact w.good k q hk
    · have : k = f.length := by
        have := (List.getElem?_eq_some_iff.mp hk).1
        simp at this; omega
      subst this
      simp at hk
      subst hk
      rw [List.take_left]
      exact h
  · rw [path_snoc]
    have m := w.mid j
    by_cases e : j = cB ((path one f).take p)
    · subst e
      rcases r4 with ⟨a, b, c⟩ | ⟨a, b, c⟩
      · constructor <;> intro q
        · have := m.1 q; omega
        · have := m.2 q; omega
      · constructor <;> intro q
        · have := m.1 q; omega
        · have := m.2 q; omega
    · rw [r3 j e]; exact m
  · rw [path_snoc]
    have := cA_swp (path one f) h.1
    exact ⟨this.1.trans w.cnt.1, this.2.trans w.cnt.2⟩
  · rw [path_snoc, List.length_append, List.length_singleton, ← w.num, h.unl]; omega
theorem Way.unlike {g one : Run} {f : List Nat} {p : Nat} (w : Way g one f) (h : Goes g (path one f) p) :
    (cA ((path one f).take p) < row one (cB ((path one f).take p)) ∧ row g (cB ((path one f).take p)) ≤ cA ((path one f).take p)) ∨
    (row one (cB ((path one f).take p)) ≤ cA ((path one f).take p) ∧ cA ((path one f).take p) < row g (cB ((path one f).take p))) := by
  obtain ⟨r1, r2, r3, r4⟩ := h.rows
  have m := w.mid (cB ((path one f).take p))
  rcases r4 with ⟨a, b, c⟩ | ⟨a, b, c⟩
  · exact .inl ⟨by by_cases q : row one (cB ((path one f).take p)) ≤ row g (cB ((path one f).take p))
                   · have := m.1 q; omega
                   · have := m.2 (by omega); omega, c⟩
  · exact .inr ⟨by by_cases q : row one (cB ((path one f).take p)) ≤ row g (cB ((path one f).take p))
                   · have := m.1 q; omega
                   · have := m.2 (by omega); omega, c⟩
/-- the exchange at p leaves what lies ahead of p - 1 -/
theorem goes_before {g h : Run} {p q : Nat} (hp : p + 1 < h.length) (hq : q + 1 < p) : Goes g (swp h p) q ↔ Goes g h q := by
  have e : (swp h p).length = h.length := swp_len h hp
  have t : ∀ k, k < p → (swp h p)[k]? = h[k]? := fun k hk => by
    unfold swp
    rw [List.getElem?_append_left (by simp; omega), List.getElem?_take_of_lt hk]
  have tk : (swp h p).take q = h.take q := by
    unfold swp
    rw [List.take_append_of_le_length (by simp; omega), List.take_take, Nat.min_eq_left (by omega)]
  unfold Goes
  rw [e, t q (by omega), t (q + 1) (by omega), tk]
/-- no place ahead of p goes -/
def Clean (g h : Run) (p : Nat) : Prop := ∀ q, q < p → ¬ Goes g h q
theorem Clean.step {g h : Run} {p : Nat} (c : Clean g h p) (n : ¬ Goes g h p) : Clean g h (p + 1) := fun q hq => by
  by_cases e : q = p
  · subst e; exact n
  · exact c q (by omega)
theorem Clean.swap {g h : Run} {p : Nat} (c : Clean g h p) (w : Goes g h p) : Clean g (swp h p) (p - 1) := fun q hq => by
  rw [goes_before w.1 (by omega)]
  exact c q (by omega)
theorem Clean.all {g h : Run} {p : Nat} (c : Clean g h p) (hp : h.length ≤ p + 1) (hA : cA h = cA g) (hB : cB h = cB g) : h = g :=
  done_of hA hB fun q hq => c q (by omega)
end TT
end

section
set_option autoImplicit false
namespace TT
/-! ## threads -/
inductive Wd where
  | lock | share | free | read | write | work
  deriving DecidableEq
def Wd.takes : Wd → Bool
  | .lock => true
  | .share => true
  | _ => false
abbrev Th (N : Type) := List (Wd × N)
section
variable {N : Type} [DecidableEq N]
/-- what is held: names, how; in the sequence of taking -/
abbrev Hd (N : Type) := List (N × Wd)
def look (d : Hd N) (n : N) : Option Wd := (d.find? fun p => decide (p.1 = n)).map (·.2)
def kstep (d : Hd N) (s : Wd × N) : Hd N :=
  if s.1.takes = true then d ++ [(s.2, s.1)] else if s.1 = .free then d.filter (fun p => !decide (p.1 = s.2)) else d
def kept (t : Th N) (i : Nat) : Hd N := (t.take i).foldl kstep []
def okStep (d : Hd N) (s : Wd × N) : Prop := (s.1.takes = true → look d s.2 = none) ∧ (s.1 = .free → look d s.2 ≠ none)
structure WF (t : Th N) : Prop where
  ok : ∀ i s, t[i]? = some s → okStep (kept t i) s
  fin : kept t t.length = []

theorem kept_zero (t : Th N) : kept t 0 = [] := by simp [kept]
theorem kept_succ {t : Th N} {i : Nat} {s : Wd × N} (h : t[i]? = some s) : kept t (i + 1) = kstep (kept t i) s := by
  unfold kept
  rw [List.take_add_one, h]
  simp
theorem look_nil (n : N) : look ([] : Hd N) n = none := rfl
theorem look_snoc (d : Hd N) (m : N) (w : Wd) (n : N) : look (d ++ [(m, w)]) n = match look d n with | some x => some x | none => if m = n then some w else none := by
  unfold look
  rw [List.find?_append]
  cases h : d.find? fun p => decide (p.1 = n) with
  | some x => simp
  | none => by_cases e : m = n <;> simp [e]
theorem look_drop (d : Hd N) (m n : N) : look (d.filter fun p => !decide (p.1 = m)) n = if m = n then none else look d n := by
  induction d with
  | nil => simp [look]
  | cons p d ih =>
    unfold look at *
    by_cases e : p.1 = m
    · rw [List.filter_cons_of_neg (by simp [e]), ih]
      by_cases f : m = n
      · simp [f]
      · rw [if_neg f, if_neg f, List.find?_cons_of_neg (by rw [e]; simpa using f)]
    · rw [List.filter_cons_of_pos (by simp [e])]
      by_cases f : p.1 = n
      · have : m ≠ n := fun q => e (f.trans q.symm)
        rw [List.find?_cons_of_pos (by simpa using f), if_neg this, List.find?_cons_of_pos (by simpa using f)]
      · rw [List.find?_cons_of_neg (by simpa using f), ih, List.find?_cons_of_neg (by simpa using f)]

def hold (t : Th N) (n : N) (i : Nat) : Option Wd := look (kept t i) n
theorem hold_zero (t : Th N) (n : N) : hold t n 0 = none := by unfold hold; rw [kept_zero]; rfl
section
variable {t : Th N} (wf : WF t)
include wf
theorem hold_end (n : N) : hold t n t.length = none := by unfold hold; rw [wf.fin]; rfl
theorem hold_take {i : Nat} {w : Wd} {n : N} (h : t[i]? = some (w, n)) (hw : w.takes = true) : hold t n i = none ∧ hold t n (i + 1) = some w := by
  have := (wf.ok i _ h).1 hw
  refine ⟨this, ?_⟩
  unfold hold
  rw [kept_succ h]
  unfold kstep
  rw [if_pos hw, look_snoc, this]
  simp
theorem hold_free {i : Nat} {n : N} (h : t[i]? = some (.free, n)) : hold t n i ≠ none ∧ hold t n (i + 1) = none := by
  refine ⟨(wf.ok i _ h).2 rfl, ?_⟩
  unfold hold
  rw [kept_succ h]
  unfold kstep
  rw [if_neg (by simp [Wd.takes]), if_pos rfl, look_drop, if_pos rfl]
omit wf in
theorem hold_else {i : Nat} {w : Wd} {m n : N} (h : t[i]? = some (w, m)) (hn : m ≠ n ∨ (w.takes = false ∧ w ≠ .free)) : hold t n (i + 1) = hold t n i := by
  unfold hold
  rw [kept_succ h]
  unfold kstep
  by_cases a : w.takes = true
  · have hm : m ≠ n := by
      rcases hn with q | q
      · exact q
      · rw [q.1] at a; cases a
    rw [if_pos a, look_snoc]
    cases look (kept t i) n <;> simp [hm]
  · rw [if_neg a]
    by_cases b : w = .free
    · have hm : m ≠ n := by
        rcases hn with q | q
        · exact q
        · exact absurd b q.2
      rw [if_pos b, look_drop, if_neg hm]
    · rw [if_neg b]
/-- still held: the step is neither taking nor freeing it, or just took it -/
theorem hold_back {n : N} {i : Nat} {w : Wd} (hi : i < t.length) (h : hold t n (i + 1) = some w) : hold t n i = some w ∨ (hold t n i = none ∧ t[i]? = some (w, n) ∧ w.takes = true) := by
  obtain ⟨⟨v, m⟩, hs⟩ : ∃ s, t[i]? = some s := ⟨t[i], by simp [hi]⟩
  by_cases hm : m = n
  · subst hm
    by_cases a : v.takes = true
    · have := hold_take wf hs a
      rw [this.2] at h
      cases h
      exact .inr ⟨this.1, hs, a⟩
    · by_cases b : v = .free
      · subst b
        rw [(hold_free wf hs).2] at h
        cases h
      · rw [hold_else hs (.inr ⟨by simpa using a, b⟩)] at h
        exact .inl h
  · rw [hold_else hs (.inl hm)] at h
    exact .inl h
theorem hold_on {n : N} {i : Nat} {w : Wd} (hi : i < t.length) (h : hold t n i = some w) : hold t n (i + 1) = some w ∨ (hold t n (i + 1) = none ∧ t[i]? = some (.free, n)) := by
  obtain ⟨⟨v, m⟩, hs⟩ : ∃ s, t[i]? = some s := ⟨t[i], by simp [hi]⟩
  by_cases hm : m = n
  · subst hm
    by_cases a : v.takes = true
    · rw [(hold_take wf hs a).1] at h
      cases h
    · by_cases b : v = .free
      · subst b
        exact .inr ⟨(hold_free wf hs).2, hs⟩
      · rw [hold_else hs (.inr ⟨by simpa using a, b⟩)]
        exact .inl h
  · rw [hold_else hs (.inl hm)]
    exact .inl h

/-- a section -/
structure Sec (t : Th N) (b e : Nat) (w : Wd) (n : N) : Prop where
  at_b : t[b]? = some (w, n)
  tk : w.takes = true
  at_e : t[e]? = some (.free, n)
  lt : b < e
  on : ∀ k, b < k → k ≤ e → hold t n k = some w
theorem sec_of_take {b : Nat} {w : Wd} {n : N} (h : t[b]? = some (w, n)) (hw : w.takes = true) : ∃ e, Sec t b e w n := by
  have hb : b < t.length := (List.getElem?_eq_some_iff.mp h).1
  have go : ∀ d k, k + d = t.length → b < k → (∀ k', b < k' → k' ≤ k → hold t n k' = some w) → ∃ e, Sec t b e w n := by
    intro d
    induction d with
    | zero =>
      intro k hk hb' hon
      have := hon k hb' (Nat.le_refl _)
      rw [show k = t.length by omega, hold_end wf] at this
      cases this
    | succ d ih =>
      intro k hk hb' hon
      rcases hold_on wf (i := k) (by omega) (hon k hb' (Nat.le_refl _)) with q | ⟨_, q⟩
      · refine ih (k + 1) (by omega) (by omega) fun k' h1 h2 => ?_
        by_cases e : k' = k + 1
        · subst e; exact q
        · exact hon k' h1 (by omega)
      · exact ⟨k, h, hw, q, hb', hon⟩
  refine go (t.length - (b + 1)) (b + 1) (by omega) (by omega) fun k' h1 h2 => ?_
  rw [show k' = b + 1 by omega]
  exact (hold_take wf h hw).2
theorem take_of_hold {n : N} {w : Wd} : ∀ {i : Nat}, i ≤ t.length → hold t n i = some w → ∃ b, b < i ∧ t[b]? = some (w, n) ∧ w.takes = true ∧ ∀ k, b < k → k ≤ i → hold t n k = some w := by
  intro i
  induction i with
  | zero => intro _ h; rw [hold_zero] at h; cases h
  | succ i ih =>
    intro hi h
    rcases hold_back wf (by omega) h with q | ⟨_, q, hw⟩
    · obtain ⟨b, h1, h2, h3, h4⟩ := ih (by omega) q
      refine ⟨b, by omega, h2, h3, fun k k1 k2 => ?_⟩
      by_cases e : k = i + 1
      · subst e; exact h
      · exact h4 k k1 (by omega)
    · refine ⟨i, by omega, q, hw, fun k k1 k2 => ?_⟩
      rw [show k = i + 1 by omega]; exact h
theorem sec_of_hold {n : N} {w : Wd} {i : Nat} (hi : i ≤ t.length) (h : hold t n i = some w) : ∃ b e, Sec t b e w n ∧ b < i ∧ i ≤ e := by
  obtain ⟨b, h1, h2, h3, h4⟩ := take_of_hold wf hi h
  obtain ⟨e, s⟩ := sec_of_take wf h2 h3
  refine ⟨b, e, s, h1, Nat.le_of_not_lt fun q => ?_⟩
  have a1 := (hold_free wf s.at_e).2
  have a2 := h4 (e + 1) (by have := s.lt; omega) (by omega)
  rw [a1] at a2; cases a2
theorem sec_of_free {e : Nat} {n : N} (h : t[e]? = some (.free, n)) : ∃ b w, Sec t b e w n := by
  have he : e < t.length := (List.getElem?_eq_some_iff.mp h).1
  obtain ⟨w, hw⟩ : ∃ w, hold t n e = some w := Option.ne_none_iff_exists'.mp (hold_free wf h).1
  obtain ⟨b, h1, h2, h3, h4⟩ := take_of_hold wf (by omega) hw
  exact ⟨b, w, h2, h3, h, h1, h4⟩
theorem Sec.hold_e {b e : Nat} {w : Wd} {n : N} (s : Sec t b e w n) : hold t n e = some w := s.on e s.lt (Nat.le_refl _)
theorem Sec.uniq_b {b e b' : Nat} {w w' : Wd} {n n' : N} (s : Sec t b e w n) (s' : Sec t b' e w' n') : b = b' ∧ w = w' ∧ n = n' := by
  have e1 : n = n' := by
    have := s.at_e.symm.trans s'.at_e
    simpa using this
  subst e1
  have e2 : w = w' := by
    have := (s.hold_e wf).symm.trans (s'.hold_e wf)
    simpa using this
  subst e2
  refine ⟨?_, rfl, rfl⟩
  rcases Nat.lt_trichotomy b b' with q | q | q
  · have a1 := s.on b' q (by have := s'.lt; omega)
    rw [(hold_take wf s'.at_b s'.tk).1] at a1; cases a1
  · exact q
  · have a1 := s'.on b q (by have := s.lt; omega)
    rw [(hold_take wf s.at_b s.tk).1] at a1; cases a1
theorem Sec.no_free {b e k : Nat} {w : Wd} {n : N} (s : Sec t b e w n) (h1 : b ≤ k) (h2 : k < e) : t[k]? ≠ some (.free, n) := fun q => by
  by_cases hb : b = k
  · subst hb
    have := s.at_b.symm.trans q
    have e1 : w = .free := by simpa using congrArg (Option.map Prod.fst) this
    have := s.tk
    rw [e1] at this; cases this
  · have a1 := (hold_free wf q).2
    rw [s.on (k + 1) (by omega) (by omega)] at a1; cases a1
theorem Sec.uniq_e {b e e' : Nat} {w w' : Wd} {n n' : N} (s : Sec t b e w n) (s' : Sec t b e' w' n') : e = e' ∧ w = w' ∧ n = n' := by
  have e1 : w = w' ∧ n = n' := by
    have := s.at_b.symm.trans s'.at_b
    simpa using this
  obtain ⟨rfl, rfl⟩ := e1
  refine ⟨?_, rfl, rfl⟩
  rcases Nat.lt_trichotomy e e' with q | q | q
  · exact absurd s.at_e (s'.no_free wf (by have := s.lt; omega) q)
  · exact q
  · exact absurd s'.at_e (s.no_free wf (by have := s'.lt; omega) q)
end

/-! ## sections in the sequence of their begins -/
def endOf (t : Th N) (b : Nat) (n : N) : Nat := b + (t.drop b).findIdx fun s => decide (s = (.free, n))
abbrev Part (N : Type) := Nat × Nat × Wd × N
def partAt (t : Th N) (b : Nat) : Option (Part N) := match t[b]? with
  | some s => if s.1.takes = true then some (b, endOf t b s.2, s.1, s.2) else none
  | none => none
def parts (t : Th N) : List (Part N) := (List.range t.length).filterMap (partAt t)
theorem endOf_sec {t : Th N} (wf : WF t) {b e : Nat} {w : Wd} {n : N} (s : Sec t b e w n) : endOf t b n = e := by
  have hb := s.lt
  have he : e < t.length := (List.getElem?_eq_some_iff.mp s.at_e).1
  unfold endOf
  have : (t.drop b).findIdx (fun s => decide (s = (Wd.free, n))) = e - b := by
    rw [List.findIdx_eq (by rw [List.length_drop]; omega)]
    refine ⟨?_, fun j hj => ?_⟩
    · rw [List.getElem_drop]
      have := (List.getElem?_eq_some_iff.mp s.at_e).2
      simp only [show b + (e - b) = e by omega, this, decide_true]
    · rw [List.getElem_drop]
      have := s.no_free wf (k := b + j) (by omega) (by omega)
      rw [List.getElem?_eq_getElem (by omega)] at this
      simpa using this
  omega
theorem mem_parts {t : Th N} (wf : WF t) {b e : Nat} {w : Wd} {n : N} : (b, e, w, n) ∈ parts t ↔ Sec t b e w n := by
  unfold parts
  rw [List.mem_filterMap]
  constructor
  · rintro ⟨k, hk, h⟩
    unfold partAt at h
    cases hs : t[k]? with
    | none => rw [hs] at h; cases h
    | some s =>
      rw [hs] at h
      simp only at h
      by_cases a : s.1.takes = true
      · rw [if_pos a] at h
        cases h
        obtain ⟨e, q⟩ := sec_of_take wf (w := s.1) (n := s.2) hs a
        rw [endOf_sec wf q]
        exact q
      · rw [if_neg a] at h; cases h
  · intro s
    refine ⟨b, List.mem_range.mpr (List.getElem?_eq_some_iff.mp s.at_b).1, ?_⟩
    unfold partAt
    rw [s.at_b]
    simp only [s.tk, if_true]
    rw [endOf_sec wf s]
theorem parts_sorted (t : Th N) : (parts t).Pairwise fun p q => p.1 < q.1 := by
  unfold parts
  rw [List.pairwise_filterMap]
  refine List.Pairwise.imp ?_ List.pairwise_lt_range
  intro a b hab x hx y hy
  have e1 : ∀ (k : Nat) (z : Part N), partAt t k = some z → z.1 = k := by
    intro k z hz
    unfold partAt at hz
    split at hz
    · split at hz
      · cases hz; rfl
      · cases hz
    · cases hz
  rw [e1 a x hx, e1 b y hy]
  exact hab
end
end TT
end

section
set_option autoImplicit false
namespace TT
/-! ## contests, states, runs of a pair -/
section
variable {N : Type} [DecidableEq N]
structure Con (N : Type) where
  ab : Nat
  ae : Nat
  bb : Nat
  be : Nat
  dat : Bool
  nm : N
def lockMeet (p q : Part N) : Bool := decide (p.2.2.2 = q.2.2.2) && !(decide (p.2.2.1 = .share) && decide (q.2.2.1 = .share))
def lockCon (p q : Part N) : Con N := ⟨p.1, p.2.1, q.1, q.2.1, false, p.2.2.2⟩
def lockCons (A B : Th N) : List (Con N) := (parts A).flatMap fun p => ((parts B).filter (lockMeet p)).map (lockCon p)
def Wd.rw : Wd → Bool
  | .read => true
  | .write => true
  | _ => false
abbrev Acc (N : Type) := Nat × Wd × N
def accs (t : Th N) : List (Acc N) := (List.range t.length).filterMap fun k => match t[k]? with
  | some s => if s.1.rw = true then some (k, s.1, s.2) else none
  | none => none
def dataMeet (p q : Acc N) : Bool := decide (p.2.2 = q.2.2) && !(decide (p.2.1 = .read) && decide (q.2.1 = .read))
def dataCon (p q : Acc N) : Con N := ⟨p.1, p.1, q.1, q.1, true, p.2.2⟩
def dataCons (A B : Th N) : List (Con N) := (accs A).flatMap fun p => ((accs B).filter (dataMeet p)).map (dataCon p)
def cons (A B : Th N) : List (Con N) := lockCons A B ++ dataCons A B
/-- the shape of a contest -/
theorem con_shape {A B : Th N} (wa : WF A) (wb : WF B) {c : Con N} (h : c ∈ cons A B) :
    (c.ab = c.ae ∧ c.bb = c.be ∧ c.ae < A.length ∧ c.bb < B.length) ∨
    ∃ w v, Sec A c.ab c.ae w c.nm ∧ Sec B c.bb c.be v c.nm ∧ ¬ (w = .share ∧ v = .share) := by
  rcases List.mem_append.mp h with h | h
  · right
    obtain ⟨p, hp, h⟩ := List.mem_flatMap.mp h
    obtain ⟨q, hq, h⟩ := List.mem_map.mp h
    obtain ⟨hq', hm⟩ := List.mem_filter.mp hq
    obtain ⟨p1, p2, p3, p4⟩ := p
    obtain ⟨q1, q2, q3, q4⟩ := q
    subst h
    unfold lockMeet at hm
    simp only [Bool.and_eq_true, decide_eq_true_eq, Bool.not_eq_true', Bool.and_eq_false_iff, decide_eq_false_iff_not] at hm
    obtain ⟨e, hm⟩ := hm
    subst e
    refine ⟨p3, q3, (mem_parts wa).mp hp, (mem_parts wb).mp hq', fun z => ?_⟩
    rcases hm with q | q
    · exact q z.1
    · exact q z.2
  · left
    obtain ⟨p, hp, h⟩ := List.mem_flatMap.mp h
    obtain ⟨q, hq, h⟩ := List.mem_map.mp h
    obtain ⟨hq', hm⟩ := List.mem_filter.mp hq
    have lt : ∀ {t : Th N} {p : Acc N}, p ∈ accs t → p.1 < t.length := fun {t p} hp => by
      obtain ⟨k, hk, e⟩ := List.mem_filterMap.mp hp
      split at e
      · split at e
        · cases e; exact List.mem_range.mp hk
        · cases e
      · cases e
    subst h
    exact ⟨rfl, rfl, lt hp, lt hq'⟩
/-- who holds what at once -/
def openB (ka kb : Hd N) : Bool := (ka.filter fun p => (look kb p.1).isSome).all fun p => decide (look ka p.1 = some .share) && decide (look kb p.1 = some .share)
def openAt (A B : Th N) (i j : Nat) : Bool := openB (kept A i) (kept B j)
theorem look_mem {d : Hd N} {n : N} {w : Wd} (h : look d n = some w) : (n, w) ∈ d := by
  unfold look at h
  cases e : d.find? fun p => decide (p.1 = n) with
  | none => rw [e] at h; cases h
  | some p =>
    rw [e] at h
    have h1 := List.mem_of_find?_eq_some e
    have h2 := List.find?_some e
    simp only [decide_eq_true_eq] at h2
    obtain ⟨a, b⟩ := p
    simp only [Option.map_some, Option.some.injEq] at h
    subst h h2
    exact h1
theorem mem_look {d : Hd N} {p : N × Wd} (h : p ∈ d) : (look d p.1).isSome = true := by
  unfold look
  rw [Option.isSome_map, List.find?_isSome]
  exact ⟨p, h, by simp⟩
theorem openAt_iff {A B : Th N} {i j : Nat} : openAt A B i j = true ↔ ∀ n w v, hold A n i = some w → hold B n j = some v → w = .share ∧ v = .share := by
  unfold openAt openB hold
  rw [List.all_eq_true]
  constructor
  · intro h n w v hw hv
    have := h (n, w) (List.mem_filter.mpr ⟨look_mem hw, by simp [hv]⟩)
    simp only [hw, hv, Bool.and_eq_true, decide_eq_true_eq, Option.some.injEq] at this
    exact this
  · intro h p hp
    obtain ⟨hp, hs⟩ := List.mem_filter.mp hp
    obtain ⟨w, hw⟩ := Option.isSome_iff_exists.mp (mem_look hp)
    obtain ⟨v, hv⟩ := Option.isSome_iff_exists.mp hs
    obtain ⟨rfl, rfl⟩ := h p.1 w v hw hv
    simp [hw, hv]
structure IsRun (A B : Th N) (r : Run) : Prop where
  a : cA r = A.length
  b : cB r = B.length
  op : ∀ p s, r = p ++ s → openAt A B (cA p) (cB p) = true
def isRunB (A B : Th N) (r : Run) : Bool := decide (cA r = A.length) && decide (cB r = B.length) && (List.range r.length).all fun k => openAt A B (cA (r.take (k + 1))) (cB (r.take (k + 1)))
theorem open_zero (A B : Th N) : openAt A B 0 0 = true := by
  rw [openAt_iff]
  intro n w v h
  rw [hold_zero] at h; cases h
theorem isRunB_iff {A B : Th N} {r : Run} : isRunB A B r = true ↔ IsRun A B r := by
  unfold isRunB
  simp only [Bool.and_eq_true, decide_eq_true_eq, List.all_eq_true, List.mem_range]
  constructor
  · rintro ⟨⟨h1, h2⟩, h3⟩
    refine ⟨h1, h2, fun p s e => ?_⟩
    cases hp : p.length with
    | zero =>
      rw [List.length_eq_zero_iff.mp hp]
      exact open_zero A B
    | succ k =>
      have := h3 k (by rw [e, List.length_append]; omega)
      rw [e, ← hp, List.take_left] at this
      exact this
  · rintro ⟨h1, h2, h3⟩
    exact ⟨⟨h1, h2⟩, fun k _ => h3 _ (r.drop (k + 1)) (by simp)⟩
/-- the winner of a contest: a's -/
def aWins (r : Run) (c : Con N) : Bool := decide (c.ae < row r c.bb)
def concB (A B : Th N) (i j : Nat) : Bool := (cons A B).any fun c => (decide (i = c.ab) || decide (i = c.ae)) && (decide (j = c.bb) || decide (j = c.be))
theorem conc_iff {A B : Th N} {i j : Nat} : concB A B i j = true ↔ ∃ c ∈ cons A B, (i = c.ab ∨ i = c.ae) ∧ (j = c.bb ∨ j = c.be) := by
  unfold concB
  simp [List.any_eq_true]
theorem col_split (h : Run) : ∀ i, i < cA h → ∃ p s, h = p ++ true :: s ∧ cA p = i := by
  induction h with
  | nil => intro i hi; simp at hi
  | cons x h ih =>
    intro i hi
    cases x with
    | true =>
      cases i with
      | zero => exact ⟨[], h, rfl, rfl⟩
      | succ i =>
        obtain ⟨p, s, e, q⟩ := ih i (by simp at hi; omega)
        exact ⟨true :: p, s, by rw [e]; rfl, by simp [q]⟩
    | false =>
      obtain ⟨p, s, e, q⟩ := ih i (by simp at hi; exact hi)
      exact ⟨false :: p, s, by rw [e]; rfl, by simp [q]⟩
section
variable {A B : Th N} (wa : WF A) (wb : WF B)
include wa wb
theorem not_both {r p s : Run} (R : IsRun A B r) (e : r = p ++ s) {ab ae bb be : Nat} {w v : Wd} {n : N} (sa : Sec A ab ae w n) (sb : Sec B bb be v n) (hn : ¬ (w = .share ∧ v = .share))
    (h1 : ab < cA p) (h2 : cA p ≤ ae) (h3 : bb < cB p) (h4 : cB p ≤ be) : False :=
  hn (openAt_iff.mp (R.op p s e) n w v (sa.on _ h1 h2) (sb.on _ h3 h4))
/-- b's section comes first if its begin does -/
theorem b_first {r : Run} (R : IsRun A B r) {ab ae bb be : Nat} {w v : Wd} {n : N} (sa : Sec A ab ae w n) (sb : Sec B bb be v n) (hn : ¬ (w = .share ∧ v = .share)) (h : row r bb ≤ ae) : row r be ≤ ab := by
  have hbe : be < cB r := by rw [R.b]; exact (List.getElem?_eq_some_iff.mp sb.at_e).1
  have hae : ae < cA r := by rw [R.a]; exact (List.getElem?_eq_some_iff.mp sa.at_e).1
  obtain ⟨p, s, e, e1, e2⟩ := row_split r be hbe
  apply Classical.byContradiction
  intro hlt
  by_cases hge : row r be ≤ ae
  · exact not_both wa wb R e sa sb hn (by omega) (by omega) (by rw [e1]; exact sb.lt) (by omega)
  · obtain ⟨q, t, eq, q1⟩ := col_split r ae hae
    have r1 := row_app q (true :: t) bb
    rw [← eq] at r1
    have r2 := row_app q (true :: t) be
    rw [← eq] at r2
    have l1 : bb < cB q := Nat.lt_of_not_le fun z => by
      rw [if_neg (by omega)] at r1
      have : row (true :: t) (bb - cB q) = row t (bb - cB q) + 1 := rfl
      omega
    have l2 : cB q ≤ be := Nat.le_of_not_lt fun z => by
      rw [if_pos z] at r2
      have := row_le q be
      omega
    exact not_both wa wb R eq sa sb hn (by rw [q1]; exact sa.lt) (by omega) l1 l2
/-- the winners tell the sequence of every concerned pair -/
theorem conc_rows {r : Run} (R : IsRun A B r) {c : Con N} (hc : c ∈ cons A B) {i j : Nat} (hi : i = c.ab ∨ i = c.ae) (hj : j = c.bb ∨ j = c.be) : decide (i < row r j) = aWins r c := by
  unfold aWins
  rcases con_shape wa wb hc with ⟨e1, e2, _, _⟩ | ⟨w, v, sa, sb, hn⟩
  · have : i = c.ae := by rcases hi with q | q <;> omega
    have : j = c.bb := by rcases hj with q | q <;> omega
    subst i j
    rfl
  · have la := sa.lt
    have lb := sb.lt
    have hbe : c.be < cB r := by rw [R.b]; exact (List.getElem?_eq_some_iff.mp sb.at_e).1
    have m := row_mono r (Nat.le_of_lt lb) hbe
    by_cases q : c.ae < row r c.bb
    · rw [decide_eq_true q, decide_eq_true]
      rcases hi with z | z <;> rcases hj with y | y <;> subst i j <;> omega
    · have b := b_first wa wb R sa sb hn (by omega)
      rw [decide_eq_false q, decide_eq_false]
      rcases hi with z | z <;> rcases hj with y | y <;> subst i j <;> omega
theorem same_rows {r g : Run} (R : IsRun A B r) (G : IsRun A B g) (h : ∀ c ∈ cons A B, aWins r c = aWins g c) {i j : Nat} (hc : concB A B i j = true) : i < row r j ↔ i < row g j := by
  obtain ⟨c, hc, hi, hj⟩ := conc_iff.mp hc
  have e := (conc_rows wa wb R hc hi hj).trans ((h c hc).trans (conc_rows wa wb G hc hi hj).symm)
  simpa using e
theorem way_free {one g : Run} (R : IsRun A B one) (G : IsRun A B g) (h : ∀ c ∈ cons A B, aWins one c = aWins g c) {f : List Nat} {p : Nat} (w : Way g one f) (hp : Goes g (path one f) p) :
    concB A B (cA ((path one f).take p)) (cB ((path one f).take p)) = false := by
  cases e : concB A B (cA ((path one f).take p)) (cB ((path one f).take p)) with
  | false => rfl
  | true =>
    have := same_rows wa wb R G h e
    rcases w.unlike hp with q | q <;> omega
/-- an exchange of two letters that stand in no contest -/
theorem exch {r : Run} (R : IsRun A B r) {p : Nat} (hp : p + 1 < r.length) (hne : r[p]? ≠ r[p + 1]?) (hc : concB A B (cA (r.take p)) (cB (r.take p)) = false) :
    IsRun A B (swp r p) ∧ ∀ c ∈ cons A B, aWins (swp r p) c = aWins r c := by
  have cnt := cA_swp r hp
  obtain ⟨l, x, y, s, rfl, rfl, hx, hy, ht⟩ := split_at r hp
  rw [ht] at hc
  rw [hx, hy] at hne
  rw [swp_split] at cnt ⊢
  have hxy : x ≠ y := fun e => hne (by rw [e])
  have key : ∀ c ∈ cons A B, ¬ ((cA l = c.ab ∨ cA l = c.ae) ∧ (cB l = c.bb ∨ cB l = c.be)) := fun c h z => by
    rw [conc_iff.mpr ⟨c, h, z⟩] at hc; cases hc
  have lA : cA l < A.length := by
    rw [← R.a]
    simp only [cA_app]
    cases x <;> cases y <;> simp at hxy ⊢ <;> omega
  have lB : cB l < B.length := by
    rw [← R.b]
    simp only [cB_app]
    cases x <;> cases y <;> simp at hxy ⊢ <;> omega
  have o0 := R.op l (x :: y :: s) rfl
  have o1 := R.op (l ++ [x]) (y :: s) (by simp)
  have o2 := R.op (l ++ [x, y]) s (by simp)
  have inLock : ∀ {ab ae bb be : Nat} {w v : Wd} {n : N}, Sec A ab ae w n → Sec B bb be v n → ¬ (w = .share ∧ v = .share) → ∃ c ∈ cons A B, c.ab = ab ∧ c.ae = ae ∧ c.bb = bb ∧ c.be = be := fun {ab ae bb be w v n} sa sb hn => by
    refine ⟨lockCon (ab, ae, w, n) (bb, be, v, n), List.mem_append_left _ (List.mem_flatMap.mpr ⟨_, (mem_parts wa).mpr sa, List.mem_map.mpr ⟨_, List.mem_filter.mpr ⟨(mem_parts wb).mpr sb, ?_⟩, rfl⟩⟩), rfl, rfl, rfl, rfl⟩
    unfold lockMeet
    simp only [Bool.and_eq_true, decide_true, true_and, Bool.not_eq_true', Bool.and_eq_false_iff, decide_eq_false_iff_not]
    by_cases q : w = .share
    · exact .inr fun z => hn ⟨q, z⟩
    · exact .inl q
  have new : openAt A B (cA (l ++ [y])) (cB (l ++ [y])) = true := by
    rw [openAt_iff] at o0 o1 o2 ⊢
    intro n w v hw hv
    apply Classical.byContradiction
    intro hn
    cases x with
    | true =>
      cases y with
      | true => exact absurd rfl hxy
      | false =>
        simp only [cA_app, cB_app, cA_t, cB_t, cA_f, cB_f, cA_nil, cB_nil, Nat.add_zero, Nat.zero_add] at o0 o1 o2 hw hv
        obtain ⟨ab, ae, sa, a1, a2⟩ := sec_of_hold wa (by omega) hw
        obtain ⟨bb, be, sb, b1, b2⟩ := sec_of_hold wb (by omega) hv
        obtain ⟨c, hc1, e1, e2, e3, e4⟩ := inLock sa sb hn
        have ea : ae = cA l := by
          apply Classical.byContradiction
          intro z
          exact hn (o2 n w v (sa.on _ (by omega) (by omega)) hv)
        have eb : bb = cB l := by
          apply Classical.byContradiction
          intro z
          exact hn (o0 n w v hw (sb.on _ (by omega) (by omega)))
        exact key c hc1 ⟨.inr (by omega), .inl (by omega)⟩
    | false =>
      cases y with
      | false => exact absurd rfl hxy
      | true =>
        simp only [cA_app, cB_app, cA_t, cB_t, cA_f, cB_f, cA_nil, cB_nil, Nat.add_zero, Nat.zero_add] at o0 o1 o2 hw hv
        obtain ⟨ab, ae, sa, a1, a2⟩ := sec_of_hold wa (by omega) hw
        obtain ⟨bb, be, sb, b1, b2⟩ := sec_of_hold wb (by omega) hv
        obtain ⟨c, hc1, e1, e2, e3, e4⟩ := inLock sa sb hn
        have ea : ab = cA l := by
          apply Classical.byContradiction
          intro z
          exact hn (o0 n w v (sa.on _ (by omega) (by omega)) hv)
        have eb : be = cB l := by
          apply Classical.byContradiction
          intro z
          exact hn (o2 n w v hw (sb.on _ (by omega) (by omega)))
        exact key c hc1 ⟨.inl (by omega), .inr (by omega)⟩
  refine ⟨⟨cnt.1.trans R.a, cnt.2.trans R.b, fun q t e => ?_⟩, fun c hc1 => ?_⟩
  · rcases List.append_eq_append_iff.mp e with ⟨u, hu, e'⟩ | ⟨u, hu, e'⟩
    · -- q = l ++ u
      cases u with
      | nil =>
        rw [hu, List.append_nil]
        exact o0
      | cons u0 u =>
        cases u with
        | nil =>
          have : u0 = y := by
            have := e'
            simp at this
            exact this.1.symm
          rw [hu, this]
          exact new
        | cons u1 u =>
          have h0 : u0 = y ∧ u1 = x ∧ s = u ++ t := by
            have := e'
            simp at this
            exact ⟨this.1.symm, this.2.1.symm, this.2.2⟩
          obtain ⟨rfl, rfl, rfl⟩ := h0
          have := R.op (l ++ u1 :: u0 :: u) t (by simp)
          rw [hu]
          simp only [cA_app, cB_app] at this ⊢
          cases u0 <;> cases u1 <;> simpa using this
    · exact R.op q (u ++ x :: y :: s) (by rw [hu]; simp)
  · unfold aWins
    have k := key c hc1
    cases x with
    | true =>
      cases y with
      | true => exact absurd rfl hxy
      | false =>
        have := row_ab l s c.bb
        by_cases z : c.bb = cB l
        · rw [if_pos z] at this
          have h2 := row_ba l s c.bb
          rw [if_pos z] at h2
          have : c.ae ≠ cA l := fun y => k ⟨.inr y.symm, .inl z.symm⟩
          by_cases hh : c.ae < row (l ++ false :: true :: s) c.bb
          · rw [decide_eq_true hh, decide_eq_true (by omega)]
          · rw [decide_eq_false hh, decide_eq_false (by omega)]
        · rw [if_neg z] at this
          rw [this]
    | false =>
      cases y with
      | false => exact absurd rfl hxy
      | true =>
        have := row_ab l s c.bb
        by_cases z : c.bb = cB l
        · rw [if_pos z] at this
          have h2 := row_ba l s c.bb
          rw [if_pos z] at h2
          have : c.ae ≠ cA l := fun y => k ⟨.inr y.symm, .inl z.symm⟩
          by_cases hh : c.ae < row (l ++ true :: false :: s) c.bb
          · rw [decide_eq_true hh, decide_eq_true (by omega)]
          · rw [decide_eq_false hh, decide_eq_false (by omega)]
        · rw [if_neg z] at this
          rw [this]
/-- one thread behind the other -/
theorem serial_ab : IsRun A B (List.replicate A.length true ++ List.replicate B.length false) := by
  refine ⟨by simp [cA, List.count_replicate], by simp [cB, List.count_replicate], fun p s e => ?_⟩
  have hz : cB p = 0 ∨ cA p = A.length := by
    rcases List.append_eq_append_iff.mp e with ⟨u, hu, e'⟩ | ⟨u, hu, e'⟩
    · right
      have : u = List.replicate u.length false := by
        rw [List.eq_replicate_iff]
        refine ⟨rfl, fun b hb => ?_⟩
        exact (List.mem_replicate.mp (by rw [e']; exact List.mem_append_left _ hb)).2
      rw [hu, this]
      simp [cA, List.count_replicate]
    · left
      have : p = List.replicate p.length true := by
        rw [List.eq_replicate_iff]
        refine ⟨rfl, fun b hb => ?_⟩
        exact (List.mem_replicate.mp (by rw [hu]; exact List.mem_append_left _ hb)).2
      rw [this]
      simp [cB, List.count_replicate]
  rw [openAt_iff]
  intro n w v h1 h2
  rcases hz with z | z
  · rw [z, hold_zero] at h2; cases h2
  · rw [z, hold_end wa] at h1; cases h1
theorem serial_ba : IsRun A B (List.replicate B.length false ++ List.replicate A.length true) := by
  refine ⟨by simp [cA, List.count_replicate], by simp [cB, List.count_replicate], fun p s e => ?_⟩
  have hz : cA p = 0 ∨ cB p = B.length := by
    rcases List.append_eq_append_iff.mp e with ⟨u, hu, e'⟩ | ⟨u, hu, e'⟩
    · right
      have : u = List.replicate u.length true := by
        rw [List.eq_replicate_iff]
        refine ⟨rfl, fun b hb => ?_⟩
        exact (List.mem_replicate.mp (by rw [e']; exact List.mem_append_left _ hb)).2
      rw [hu, this]
      simp [cB, List.count_replicate]
    · left
      have : p = List.replicate p.length false := by
        rw [List.eq_replicate_iff]
        refine ⟨rfl, fun b hb => ?_⟩
        exact (List.mem_replicate.mp (by rw [hu]; exact List.mem_append_left _ hb)).2
      rw [this]
      simp [cA, List.count_replicate]
  rw [openAt_iff]
  intro n w v h1 h2
  rcases hz with z | z
  · rw [z, hold_zero] at h1; cases h1
  · rw [z, hold_end wb] at h2; cases h2
end
/-- the beginning of a run -/
structure IsPre (A B : Th N) (r : Run) : Prop where
  a : cA r ≤ A.length
  b : cB r ≤ B.length
  op : ∀ p s, r = p ++ s → openAt A B (cA p) (cB p) = true
theorem IsPre.nil (A B : Th N) : IsPre A B [] := ⟨by simp, by simp, fun p s e => by
  have := List.append_eq_nil_iff.mp e.symm
  rw [this.1]
  exact open_zero A B⟩
theorem IsPre.snoc {A B : Th N} {r : Run} {x : Bool} (h : IsPre A B r) (ha : cA (r ++ [x]) ≤ A.length) (hb : cB (r ++ [x]) ≤ B.length) (ho : openAt A B (cA (r ++ [x])) (cB (r ++ [x])) = true) : IsPre A B (r ++ [x]) :=
  ⟨ha, hb, fun p s e => by
    rcases List.append_eq_append_iff.mp e with ⟨u, hu, e'⟩ | ⟨u, hu, e'⟩
    · cases u with
      | nil => rw [hu, List.append_nil]; exact h.op r [] (by simp)
      | cons u0 u =>
        have : u0 = x ∧ u = [] := by
          have := e'
          simp at this
          exact ⟨this.1.symm, this.2.1⟩
        rw [hu, this.1, this.2]
        exact ho
    · exact h.op p u hu⟩
theorem IsPre.done {A B : Th N} {r : Run} (h : IsPre A B r) (hl : A.length + B.length ≤ r.length) : IsRun A B r := by
  have := cAB r
  have := h.a
  have := h.b
  exact ⟨by omega, by omega, h.op⟩
end
end TT
end

section
set_option autoImplicit false
namespace TT
section
variable {N : Type} [DecidableEq N]
/-! ## a thread that is being made: ks the names held, in the sequence of taking -/
structure Gen (t : Th N) (ks : List N) : Prop where
  ok : ∀ i s, t[i]? = some s → okStep (kept t i) s
  keys : (kept t t.length).map (·.1) = ks
  nd : ks.Nodup
theorem kept_app {t u : Th N} {i : Nat} (h : i ≤ t.length) : kept (t ++ u) i = kept t i := by
  unfold kept
  rw [List.take_append_of_le_length h]
theorem Gen.nil : Gen ([] : Th N) [] := ⟨fun i s h => by simp at h, by simp [kept], List.nodup_nil⟩
theorem look_none {d : Hd N} {n : N} : look d n = none ↔ n ∉ d.map (·.1) := by
  unfold look
  rw [Option.map_eq_none_iff, List.find?_eq_none]
  simp
  constructor
  · intro h x hx; exact h n x hx rfl
  · intro h a b hab e; subst e; exact h b hab
theorem Gen.step {t : Th N} {ks ks' : List N} {s : Wd × N} (g : Gen t ks) (h : okStep (kept t t.length) s) (hk : (kstep (kept t t.length) s).map (·.1) = ks') (hn : ks'.Nodup) : Gen (t ++ [s]) ks' := by
  refine ⟨fun i x hx => ?_, ?_, hn⟩
  · by_cases e : i < t.length
    · rw [List.getElem?_append_left e] at hx
      rw [kept_app (by omega)]
      exact g.ok i x hx
    · have hl : i < (t ++ [s]).length := (List.getElem?_eq_some_iff.mp hx).1
      have : i = t.length := by simp at hl; omega
      subst this
      rw [kept_app (Nat.le_refl _)]
      simp at hx
      subst hx
      exact h
  · rw [List.length_append, List.length_singleton, kept_succ (s := s) (by simp), kept_app (Nat.le_refl _)]
    exact hk
theorem Gen.take {t : Th N} {ks : List N} {w : Wd} {n : N} (g : Gen t ks) (hw : w.takes = true) (hn : n ∉ ks) : Gen (t ++ [(w, n)]) (ks ++ [n]) := by
  refine g.step ⟨fun _ => look_none.mpr (by rw [g.keys]; exact hn), fun q => ?_⟩ ?_ ?_
  · have e : w = .free := q
    subst e; cases hw
  · unfold kstep
    rw [if_pos (show ((w, n) : Wd × N).1.takes = true from hw), List.map_append, g.keys]
    rfl
  · rw [List.nodup_append]
    refine ⟨g.nd, by simp, fun a ha b hb => ?_⟩
    simp at hb
    subst hb
    exact fun e => hn (e ▸ ha)
theorem Gen.free {t : Th N} {ks : List N} {n : N} (g : Gen t ks) (hn : n ∈ ks) : Gen (t ++ [(.free, n)]) (ks.erase n) := by
  refine g.step ⟨fun q => absurd (show Wd.free.takes = true from q) (by decide), fun _ => fun q => (look_none.mp q) (by rw [g.keys]; exact hn)⟩ ?_ (g.nd.erase n)
  unfold kstep
  rw [if_neg (by simp [Wd.takes]), if_pos rfl, g.nd.erase_eq_filter, ← g.keys]
  rw [List.filter_map]
  congr 1
theorem Gen.other {t : Th N} {ks : List N} {w : Wd} {n : N} (g : Gen t ks) (hw : w.takes = false) (hf : w ≠ .free) : Gen (t ++ [(w, n)]) ks := by
  refine g.step ⟨fun q => ?_, fun q => absurd q hf⟩ ?_ g.nd
  · have e : w.takes = true := q
    rw [hw] at e; cases e
  · unfold kstep
    rw [if_neg (by show ¬ (w.takes = true); rw [hw]; decide), if_neg hf]
    exact g.keys
theorem Gen.frees {ks : List N} : ∀ {t : Th N}, Gen t ks → Gen (t ++ ks.map fun n => (Wd.free, n)) [] := by
  induction ks with
  | nil => intro t g; simpa using g
  | cons k ks ih =>
    intro t g
    have g1 := g.free (n := k) (by simp)
    rw [List.erase_cons_head] at g1
    have := ih g1
    simpa using this
theorem Gen.wf {t : Th N} (g : Gen t []) : WF t := ⟨g.ok, by have := g.keys; simpa using this⟩
theorem Gen.done {t : Th N} {ks : List N} (g : Gen t ks) : WF (t ++ ks.map fun n => (Wd.free, n)) := g.frees.wf
/-! ## pairs without contests -/
theorem rep_work (k : Nat) (n : N) : Gen (List.replicate k (Wd.work, n)) [] := by
  induction k with
  | zero => exact .nil
  | succ k ih =>
    rw [List.replicate_succ']
    exact ih.other rfl (by decide)
theorem parts_mem {t : Th N} {p : Part N} (h : p ∈ parts t) : (p.2.2.1, p.2.2.2) ∈ t ∧ p.2.2.1.takes = true := by
  obtain ⟨k, hk, e⟩ := List.mem_filterMap.mp h
  unfold partAt at e
  split at e
  · rename_i s hs
    split at e
    · rename_i ht
      cases e
      exact ⟨List.mem_of_getElem? hs, ht⟩
    · cases e
  · cases e
theorem accs_mem {t : Th N} {p : Acc N} (h : p ∈ accs t) : (p.2.1, p.2.2) ∈ t ∧ p.2.1.rw = true := by
  obtain ⟨k, hk, e⟩ := List.mem_filterMap.mp h
  split at e
  · rename_i s hs
    split at e
    · rename_i ht
      cases e
      exact ⟨List.mem_of_getElem? hs, ht⟩
    · cases e
  · cases e
theorem cons_nil {A B : Th N} (h : ∀ x ∈ A, ∀ y ∈ B, x.2 = y.2 → (x.1.takes = true → y.1.takes = true → x.1 = .share ∧ y.1 = .share) ∧ (x.1.rw = true → y.1.rw = true → x.1 = .read ∧ y.1 = .read)) : cons A B = [] := by
  unfold cons lockCons dataCons
  rw [List.append_eq_nil_iff]
  constructor
  · rw [List.flatMap_eq_nil_iff]
    intro p hp
    rw [List.map_eq_nil_iff, List.filter_eq_nil_iff]
    intro q hq
    obtain ⟨p1, p2⟩ := parts_mem hp
    obtain ⟨q1, q2⟩ := parts_mem hq
    unfold lockMeet
    by_cases e : p.2.2.2 = q.2.2.2
    · have := (h _ p1 _ q1 e).1 p2 q2
      simp
      exact fun _ => this
    · simp [e]
  · rw [List.flatMap_eq_nil_iff]
    intro p hp
    rw [List.map_eq_nil_iff, List.filter_eq_nil_iff]
    intro q hq
    obtain ⟨p1, p2⟩ := accs_mem hp
    obtain ⟨q1, q2⟩ := accs_mem hq
    unfold dataMeet
    by_cases e : p.2.2 = q.2.2
    · have := (h _ p1 _ q1 e).2 p2 q2
      simp
      exact fun _ => this
    · simp [e]
theorem cons_work (k m : Nat) (n n' : N) : cons (List.replicate k (Wd.work, n)) (List.replicate m (Wd.work, n')) = [] :=
  cons_nil fun x hx y hy _ => by
    have e1 := (List.mem_replicate.mp hx).2
    have e2 := (List.mem_replicate.mp hy).2
    subst e1 e2
    simp [Wd.takes, Wd.rw]
/-- the block of the first thread | of the second -/
def blA (a b c d : N) : Th N := [(.lock, a), (.read, d), (.free, a), (.share, b), (.free, b)]
def blB (a b c d : N) : Th N := [(.lock, c), (.free, c), (.read, d), (.share, b), (.free, b)]
def reps (k : Nat) (t : Th N) : Th N := (List.replicate k t).flatten
theorem reps_succ (k : Nat) (t : Th N) : reps (k + 1) t = reps k t ++ t := by
  unfold reps
  rw [List.replicate_succ', List.flatten_append]
  simp
theorem mem_reps {k : Nat} {t : Th N} {x : Wd × N} (h : x ∈ reps k t) : x ∈ t := by
  unfold reps at h
  obtain ⟨l, hl, hx⟩ := List.mem_flatten.mp h
  rw [(List.mem_replicate.mp hl).2] at hx
  exact hx
theorem gen_blA (k : Nat) (a b c d : N) : Gen (reps k (blA a b c d)) [] := by
  induction k with
  | zero => exact .nil
  | succ k ih =>
    rw [reps_succ]
    have g1 := ih.take (w := .lock) (n := a) rfl (by simp)
    have g2 := g1.other (w := .read) (n := d) rfl (by decide)
    have g3 := g2.free (n := a) (by simp)
    have e3 : ([] ++ [a] : List N).erase a = [] := by simp
    rw [e3] at g3
    have g4 := g3.take (w := .share) (n := b) rfl (by simp)
    have g5 := g4.free (n := b) (by simp)
    have e5 : ([] ++ [b] : List N).erase b = [] := by simp
    rw [e5] at g5
    simpa [blA] using g5
theorem gen_blB (k : Nat) (a b c d : N) : Gen (reps k (blB a b c d)) [] := by
  induction k with
  | zero => exact .nil
  | succ k ih =>
    rw [reps_succ]
    have g1 := ih.take (w := .lock) (n := c) rfl (by simp)
    have g3 := g1.free (n := c) (by simp)
    have e3 : ([] ++ [c] : List N).erase c = [] := by simp
    rw [e3] at g3
    have g2 := g3.other (w := .read) (n := d) rfl (by decide)
    have g4 := g2.take (w := .share) (n := b) rfl (by simp)
    have g5 := g4.free (n := b) (by simp)
    have e5 : ([] ++ [b] : List N).erase b = [] := by simp
    rw [e5] at g5
    simpa [blB] using g5
theorem cons_bl (k m : Nat) {a b c d : N} (h : [a, b, c, d].Nodup) : cons (reps k (blA a b c d)) (reps m (blB a b c d)) = [] := by
  simp at h
  refine cons_nil fun x hx y hy => ?_
  have h1 := mem_reps hx
  have h2 := mem_reps hy
  unfold blA at h1
  unfold blB at h2
  obtain ⟨⟨n1, n2, n3⟩, ⟨n4, n5⟩, n6⟩ := h
  have n1' : ¬ b = a := fun e => n1 e.symm
  have n2' : ¬ c = a := fun e => n2 e.symm
  have n4' : ¬ c = b := fun e => n4 e.symm
  have n3' : ¬ d = a := fun e => n3 e.symm
  have n5' : ¬ d = b := fun e => n5 e.symm
  have n6' : ¬ d = c := fun e => n6 e.symm
  simp only [List.mem_cons, List.not_mem_nil, or_false] at h1 h2
  rcases h1 with rfl | rfl | rfl | rfl | rfl <;> rcases h2 with rfl | rfl | rfl | rfl | rfl <;> simp [Wd.takes, Wd.rw, n1, n2, n3, n4, n5, n6, n1', n2', n3', n4', n5', n6']
/-! ## sections by their ends -/
/-- the last taking of n ahead of step k -/
def taken (t : Th N) (n : N) : Nat → Option (Nat × Wd)
  | 0 => none
  | k + 1 => match t[k]? with
    | some s => if s.1.takes = true ∧ s.2 = n then some (k, s.1) else taken t n k
    | none => taken t n k
theorem taken_sec {t : Th N} (wf : WF t) {b e : Nat} {w : Wd} {n : N} (s : Sec t b e w n) {k : Nat} (h1 : b < k) (h2 : k ≤ e) : taken t n k = some (b, w) := by
  induction k with
  | zero => omega
  | succ k ih =>
    unfold taken
    by_cases q : b = k
    · subst q
      rw [s.at_b]
      simp [s.tk]
    · have := ih (by omega) (by omega)
      cases hk : t[k]? with
      | none => exact this
      | some x =>
        show (if x.1.takes = true ∧ x.2 = n then some (k, x.1) else taken t n k) = _
        have : ¬ (x.1.takes = true ∧ x.2 = n) := fun z => by
          obtain ⟨x1, x2⟩ := x
          obtain ⟨z1, z2⟩ := z
          subst z2
          have a := (hold_take wf hk z1).1
          rw [s.on k (by omega) (by omega)] at a
          cases a
        rw [if_neg this]
        assumption
def endAt (t : Th N) (k : Nat) : Option (Part N) := match t[k]? with
  | some s => if s.1 = .free then (taken t s.2 k).map fun p => (p.1, k, p.2, s.2) else none
  | none => none
def ended (t : Th N) (k : Nat) : List (Part N) := (List.range k).filterMap (endAt t)
theorem mem_ended {t : Th N} (wf : WF t) {b e : Nat} {w : Wd} {n : N} : (b, e, w, n) ∈ ended t t.length ↔ Sec t b e w n := by
  unfold ended
  rw [List.mem_filterMap]
  constructor
  · rintro ⟨k, hk, h⟩
    unfold endAt at h
    cases hs : t[k]? with
    | none => rw [hs] at h; cases h
    | some s =>
      obtain ⟨s1, s2⟩ := s
      rw [hs] at h
      by_cases a : s1 = .free
      · subst a
        obtain ⟨b', w', q⟩ := sec_of_free wf hs
        simp only [if_true] at h
        rw [taken_sec wf q q.lt (Nat.le_refl _)] at h
        simp only [Option.map_some, Option.some.injEq, Prod.mk.injEq] at h
        obtain ⟨rfl, rfl, rfl, rfl⟩ := h
        exact q
      · simp only [if_neg a] at h
        cases h
  · intro s
    refine ⟨e, List.mem_range.mpr (List.getElem?_eq_some_iff.mp s.at_e).1, ?_⟩
    unfold endAt
    rw [s.at_e]
    simp only [if_true]
    rw [taken_sec wf s s.lt (Nat.le_refl _)]
    rfl
theorem endAt_e {t : Th N} {k : Nat} {z : Part N} (h : endAt t k = some z) : z.2.1 = k := by
  unfold endAt at h
  split at h
  · split at h
    · obtain ⟨p, _, rfl⟩ := Option.map_eq_some_iff.mp h
      rfl
    · cases h
  · cases h
theorem nodup_of_lt {α : Type} {f : α → Nat} {l : List α} (h : l.Pairwise fun a b => f a < f b) : l.Nodup :=
  List.Pairwise.imp (fun {a b} q e => by rw [e] at q; exact Nat.lt_irrefl _ q) h
theorem ended_nodup (t : Th N) (k : Nat) : (ended t k).Nodup := by
  refine nodup_of_lt (f := fun z => z.2.1) ?_
  unfold ended
  rw [List.pairwise_filterMap]
  refine List.Pairwise.imp ?_ List.pairwise_lt_range
  intro a b hab x hx y hy
  rw [endAt_e hx, endAt_e hy]
  exact hab
theorem ended_perm {t : Th N} (wf : WF t) : (ended t t.length).Perm (parts t) := by
  rw [List.perm_ext_iff_of_nodup (ended_nodup t _) (nodup_of_lt (f := fun z => z.1) (parts_sorted t))]
  rintro ⟨b, e, w, n⟩
  rw [mem_ended wf, mem_parts wf]
theorem sorted_parts {t : Th N} (wf : WF t) {le : Part N → Part N → Bool} (h : ∀ p ∈ ended t t.length, ∀ q ∈ ended t t.length, le p q = decide (p.1 ≤ q.1)) : (ended t t.length).mergeSort le = parts t := by
  have e1 := List.map_mergeSort (r := le) (s := fun p q : Part N => decide (p.1 ≤ q.1)) (f := id) (l := ended t t.length) h
  rw [List.map_id, List.map_id] at e1
  rw [e1]
  have p1 := (List.mergeSort_perm (ended t t.length) fun p q : Part N => decide (p.1 ≤ q.1)).trans (ended_perm wf)
  have s1 := List.pairwise_mergeSort (le := fun p q : Part N => decide (p.1 ≤ q.1)) (fun a b c h1 h2 => by simp at h1 h2 ⊢; omega) (fun a b => by simp; omega) (ended t t.length)
  have s2 : (parts t).Pairwise fun p q => decide (p.1 ≤ q.1) = true := List.Pairwise.imp (fun {a b} q => by simp; omega) (parts_sorted t)
  refine List.Perm.eq_of_pairwise (le := fun p q : Part N => decide (p.1 ≤ q.1) = true) ?_ s1 s2 p1
  rintro ⟨b, e, w, n⟩ ⟨b', e', w', n'⟩ ha hb h1 h2
  have hb1 := (mem_parts wf).mp hb
  have ha1 := (mem_parts wf).mp (p1.mem_iff.mp ha)
  simp at h1 h2
  have : b = b' := by omega
  subst this
  obtain ⟨rfl, rfl, rfl⟩ := ha1.uniq_e wf hb1
  rfl
/-! ## the first of what a filter leaves -/
theorem filter_head {f : Nat → Bool} {n e : Nat} (he : e < n) (h1 : f e = true) (h0 : ∀ k, k < e → f k = false) : ∃ r, (List.range n).filter f = e :: r := by
  have : n = e + ((n - e - 1) + 1) := by omega
  rw [this, List.range_add, List.filter_append]
  have z : (List.range e).filter f = [] := by
    rw [List.filter_eq_nil_iff]
    intro k hk
    rw [h0 k (List.mem_range.mp hk)]
    decide
  rw [z, List.nil_append, List.range_succ_eq_map, List.map_cons, List.filter_cons, if_pos (by simpa using h1)]
  exact ⟨_, rfl⟩
theorem ends_head {t : Th N} (wf : WF t) {b : Nat} {w : Wd} {n : N} (h : t[b]? = some (w, n)) (hw : w.takes = true) :
    ∃ r, (List.range (t.length - b)).filter (fun d => decide (t[b + d]? = some (Wd.free, n))) = (endOf t b n - b) :: r ∧ b ≤ endOf t b n ∧ endOf t b n < t.length := by
  obtain ⟨e, s⟩ := sec_of_take wf h hw
  have hl := s.lt
  have he : e < t.length := (List.getElem?_eq_some_iff.mp s.at_e).1
  rw [endOf_sec wf s]
  obtain ⟨r, hr⟩ := filter_head (f := fun d => decide (t[b + d]? = some (Wd.free, n))) (n := t.length - b) (e := e - b) (by omega) (by simp only [show b + (e - b) = e by omega, s.at_e, decide_true]) (fun k hk => by
    have := s.no_free wf (k := b + k) (by omega) (by omega)
    simpa using this)
  exact ⟨r, hr, by omega, he⟩
end
/-! ## rows, as they are counted -/
theorem rows_eq (r : Run) : ((List.range r.length).filter fun i => r[i]? == some false).map (fun i => cA (r.take i)) = (List.range (cB r)).map (row r) := by
  induction r with
  | nil => rfl
  | cons x r ih =>
    rw [List.length_cons, List.range_succ_eq_map, List.filter_cons, List.filter_map]
    have e : ((fun i => (x :: r)[i]? == some false) ∘ Nat.succ) = fun i => r[i]? == some false := by
      funext i; simp
    rw [e]
    cases x with
    | true =>
      have : (((true :: r)[0]? == some false) = true) ↔ False := by simp
      rw [if_neg (by simp), List.map_map]
      have e2 : ((fun i => cA ((true :: r).take i)) ∘ Nat.succ) = (· + 1) ∘ fun i => cA (r.take i) := by
        funext i; simp
      rw [e2, ← List.map_map, ih, List.map_map, cB_t]
      rfl
    | false =>
      rw [if_pos (by simp), List.map_cons, List.map_map]
      have e2 : ((fun i => cA ((false :: r).take i)) ∘ Nat.succ) = fun i => cA (r.take i) := by
        funext i; simp
      rw [e2, ih, cB_f, List.range_succ_eq_map, List.map_cons, List.map_map]
      rfl
theorem row_serial_ab (n m j : Nat) (h : j < m) : row (List.replicate n true ++ List.replicate m false) j = n := by
  rw [row_app, if_neg (by simp [cB, List.count_replicate])]
  have e1 : cA (List.replicate n true) = n := by simp [cA]
  have e2 : cB (List.replicate n true) = 0 := by simp [cB, List.count_replicate]
  have e3 : ∀ m j, row (List.replicate m false) j = 0 := by
    intro m
    induction m with
    | zero => intro j; rfl
    | succ m ih =>
      intro j
      cases j with
      | zero => rfl
      | succ j => exact ih j
  rw [e1, e3]
  rfl
theorem row_serial_ba (n m j : Nat) (h : j < m) : row (List.replicate m false ++ List.replicate n true) j = 0 := by
  rw [row_app, if_pos (by simpa [cB] using h)]
  induction m generalizing j with
  | zero => rfl
  | succ m ih =>
    cases j with
    | zero => rfl
    | succ j => exact ih j (by omega)
theorem unl_serial (n m : Nat) : unl (List.replicate m false ++ List.replicate n true) (List.replicate n true ++ List.replicate m false) = n * m := by
  unfold unl
  have e1 : cB (List.replicate n true ++ List.replicate m false) = m := by simp [cB, List.count_replicate]
  rw [e1]
  have e2 : (List.range m).map (fun j => ((row (List.replicate n true ++ List.replicate m false) j : Int) - (row (List.replicate m false ++ List.replicate n true) j : Int)).natAbs) = (List.range m).map fun _ => n :=
    List.map_congr_left fun j hj => by
      rw [row_serial_ab n m j (List.mem_range.mp hj), row_serial_ba n m j (List.mem_range.mp hj)]
      omega
  rw [e2]
  clear e1 e2
  induction m with
  | zero => simp
  | succ m ih =>
    rw [List.range_succ, List.map_append, List.sum_append, ih]
    simp
    rw [Nat.mul_succ]
end TT
end

section
set_option Elab.async false
set_option linter.all false
set_option maxRecDepth 100000
set_option maxHeartbeats 4000000
namespace HdX
open PySem PySem.Spec PyProof.Rows L2

def top (i : Nat) : Stmt := PySem.Challenge.pw_twothreads_k24_whole_long_runs.main.body.getD i (.Pass ⟨0, 0, 0, 0⟩)
abbrev s_CannotExchange___init__ : Stmt := inClass (top 4) 0
abbrev s_is_integer : Stmt := top 12
abbrev s_sections : Stmt := top 13
abbrev s_accesses : Stmt := top 14
abbrev s_lock_contests : Stmt := top 16
abbrev s_data_contests : Stmt := top 17
abbrev s_contests : Stmt := top 18
abbrev s_holdings : Stmt := top 20
abbrev s_Plane___init__ : Stmt := inClass (top 21) 0
abbrev s_Plane_is_open_at : Stmt := inClass (top 21) 1
abbrev s_is_run : Stmt := top 25
abbrev s_check_run : Stmt := top 26
abbrev s_serial_run : Stmt := top 27
abbrev s_places_of : Stmt := top 28
abbrev s_winners_of : Stmt := top 29
abbrev s_winners : Stmt := top 30
abbrev s_alike : Stmt := top 31
abbrev s_concerned : Stmt := top 32
abbrev s_step_pair : Stmt := top 33
abbrev s_swapped : Stmt := top 34
abbrev s_exchanged : Stmt := top 35
abbrev s_check_alike : Stmt := top 36
abbrev s_exchanges : Stmt := top 37
abbrev s_distance : Stmt := top 38
abbrev s_w_start : Stmt := top 40
abbrev s_w_draw : Stmt := top 41
abbrev s_w_choice : Stmt := top 42
abbrev s_w_names : Stmt := top 43
abbrev s_w_thread : Stmt := top 44
abbrev s_w_parts : Stmt := top 45
abbrev s_w_contests : Stmt := top 46
abbrev s_w_pair : Stmt := top 47
abbrev s_w_kept : Stmt := top 48
abbrev s_w_is_open : Stmt := top 49
abbrev s_w_winners : Stmt := top 50
abbrev s_w_walk : Stmt := top 51
abbrev s_w_concerned : Stmt := top 52
abbrev s_w_turned : Stmt := top 53
abbrev s_w_mixed : Stmt := top 54
abbrev s_w_is_run : Stmt := top 55
abbrev s_w_unlike : Stmt := top 56
abbrev s_w_row_right : Stmt := top 57
abbrev s_w_texts_right : Stmt := top 58
abbrev s_w_told : Stmt := top 59
abbrev s_w_places_right : Stmt := top 60
abbrev s_w_free_pair : Stmt := top 61
abbrev s_law : Stmt := top 62
def d_CannotExchange___init__ : He.DefD := ⟨("CannotExchange", some "__init__"), "__init__", "CannotExchange.__init__", defArgs s_CannotExchange___init__, defBody s_CannotExchange___init__, defScope s_CannotExchange___init__, [], []⟩
def d_is_integer : He.DefD := ⟨("is_integer", none), "is_integer", "is_integer", defArgs s_is_integer, defBody s_is_integer, defScope s_is_integer, [], []⟩
def d_sections : He.DefD := ⟨("sections", none), "sections", "sections", defArgs s_sections, defBody s_sections, defScope s_sections, [], []⟩
def d_accesses : He.DefD := ⟨("accesses", none), "accesses", "accesses", defArgs s_accesses, defBody s_accesses, defScope s_accesses, [], []⟩
def d_lock_contests : He.DefD := ⟨("lock_contests", none), "lock_contests", "lock_contests", defArgs s_lock_contests, defBody s_lock_contests, defScope s_lock_contests, [], []⟩
def d_data_contests : He.DefD := ⟨("data_contests", none), "data_contests", "data_contests", defArgs s_data_contests, defBody s_data_contests, defScope s_data_contests, [], []⟩
def d_contests : He.DefD := ⟨("contests", none), "contests", "contests", defArgs s_contests, defBody s_contests, defScope s_contests, [], []⟩
def d_holdings : He.DefD := ⟨("holdings", none), "holdings", "holdings", defArgs s_holdings, defBody s_holdings, defScope s_holdings, [], []⟩
def d_Plane___init__ : He.DefD := ⟨("Plane", some "__init__"), "__init__", "Plane.__init__", defArgs s_Plane___init__, defBody s_Plane___init__, defScope s_Plane___init__, [], []⟩
def d_Plane_is_open_at : He.DefD := ⟨("Plane", some "is_open_at"), "is_open_at", "Plane.is_open_at", defArgs s_Plane_is_open_at, defBody s_Plane_is_open_at, defScope s_Plane_is_open_at, [], []⟩
def d_is_run : He.DefD := ⟨("is_run", none), "is_run", "is_run", defArgs s_is_run, defBody s_is_run, defScope s_is_run, [], []⟩
def d_check_run : He.DefD := ⟨("check_run", none), "check_run", "check_run", defArgs s_check_run, defBody s_check_run, defScope s_check_run, [], []⟩
def d_serial_run : He.DefD := ⟨("serial_run", none), "serial_run", "serial_run", defArgs s_serial_run, defBody s_serial_run, defScope s_serial_run, [], []⟩
def d_places_of : He.DefD := ⟨("places_of", none), "places_of", "places_of", defArgs s_places_of, defBody s_places_of, defScope s_places_of, [], []⟩
def d_winners_of : He.DefD := ⟨("winners_of", none), "winners_of", "winners_of", defArgs s_winners_of, defBody s_winners_of, defScope s_winners_of, [], []⟩
def d_winners : He.DefD := ⟨("winners", none), "winners", "winners", defArgs s_winners, defBody s_winners, defScope s_winners, [], []⟩
def d_alike : He.DefD := ⟨("alike", none), "alike", "alike", defArgs s_alike, defBody s_alike, defScope s_alike, [], []⟩
def d_concerned : He.DefD := ⟨("concerned", none), "concerned", "concerned", defArgs s_concerned, defBody s_concerned, defScope s_concerned, [], []⟩
def d_step_pair : He.DefD := ⟨("step_pair", none), "step_pair", "step_pair", defArgs s_step_pair, defBody s_step_pair, defScope s_step_pair, [], []⟩
def d_swapped : He.DefD := ⟨("swapped", none), "swapped", "swapped", defArgs s_swapped, defBody s_swapped, defScope s_swapped, [], []⟩
def d_exchanged : He.DefD := ⟨("exchanged", none), "exchanged", "exchanged", defArgs s_exchanged, defBody s_exchanged, defScope s_exchanged, [], []⟩
def d_check_alike : He.DefD := ⟨("check_alike", none), "check_alike", "check_alike", defArgs s_check_alike, defBody s_check_alike, defScope s_check_alike, [], []⟩
def d_exchanges : He.DefD := ⟨("exchanges", none), "exchanges", "exchanges", defArgs s_exchanges, defBody s_exchanges, defScope s_exchanges, [], []⟩
def d_distance : He.DefD := ⟨("distance", none), "distance", "distance", defArgs s_distance, defBody s_distance, defScope s_distance, [], []⟩
def d_w_start : He.DefD := ⟨("_law_start", none), "_law_start", "_law_start", defArgs s_w_start, defBody s_w_start, defScope s_w_start, [], []⟩
def d_w_draw : He.DefD := ⟨("_law_draw", none), "_law_draw", "_law_draw", defArgs s_w_draw, defBody s_w_draw, defScope s_w_draw, [], []⟩
def d_w_choice : He.DefD := ⟨("_law_choice", none), "_law_choice", "_law_choice", defArgs s_w_choice, defBody s_w_choice, defScope s_w_choice, [], []⟩
def d_w_names : He.DefD := ⟨("_law_names", none), "_law_names", "_law_names", defArgs s_w_names, defBody s_w_names, defScope s_w_names, [], []⟩
def d_w_thread : He.DefD := ⟨("_law_thread", none), "_law_thread", "_law_thread", defArgs s_w_thread, defBody s_w_thread, defScope s_w_thread, [], []⟩
def d_w_parts : He.DefD := ⟨("_law_parts", none), "_law_parts", "_law_parts", defArgs s_w_parts, defBody s_w_parts, defScope s_w_parts, [], []⟩
def d_w_contests : He.DefD := ⟨("_law_contests", none), "_law_contests", "_law_contests", defArgs s_w_contests, defBody s_w_contests, defScope s_w_contests, [], []⟩
def d_w_pair : He.DefD := ⟨("_law_pair", none), "_law_pair", "_law_pair", defArgs s_w_pair, defBody s_w_pair, defScope s_w_pair, [], []⟩
def d_w_kept : He.DefD := ⟨("_law_kept", none), "_law_kept", "_law_kept", defArgs s_w_kept, defBody s_w_kept, defScope s_w_kept, [], []⟩
def d_w_is_open : He.DefD := ⟨("_law_is_open", none), "_law_is_open", "_law_is_open", defArgs s_w_is_open, defBody s_w_is_open, defScope s_w_is_open, [], []⟩
def d_w_winners : He.DefD := ⟨("_law_winners", none), "_law_winners", "_law_winners", defArgs s_w_winners, defBody s_w_winners, defScope s_w_winners, [], []⟩
def d_w_walk : He.DefD := ⟨("_law_walk", none), "_law_walk", "_law_walk", defArgs s_w_walk, defBody s_w_walk, defScope s_w_walk, [], []⟩
def d_w_concerned : He.DefD := ⟨("_law_concerned", none), "_law_concerned", "_law_concerned", defArgs s_w_concerned, defBody s_w_concerned, defScope s_w_concerned, [], []⟩
def d_w_turned : He.DefD := ⟨("_law_turned", none), "_law_turned", "_law_turned", defArgs s_w_turned, defBody s_w_turned, defScope s_w_turned, [], []⟩
def d_w_mixed : He.DefD := ⟨("_law_mixed", none), "_law_mixed", "_law_mixed", defArgs s_w_mixed, defBody s_w_mixed, defScope s_w_mixed, [], []⟩
def d_w_is_run : He.DefD := ⟨("_law_is_run", none), "_law_is_run", "_law_is_run", defArgs s_w_is_run, defBody s_w_is_run, defScope s_w_is_run, [], []⟩
def d_w_unlike : He.DefD := ⟨("_law_unlike", none), "_law_unlike", "_law_unlike", defArgs s_w_unlike, defBody s_w_unlike, defScope s_w_unlike, [], []⟩
def d_w_row_right : He.DefD := ⟨("_law_row_right", none), "_law_row_right", "_law_row_right", defArgs s_w_row_right, defBody s_w_row_right, defScope s_w_row_right, [], []⟩
def d_w_texts_right : He.DefD := ⟨("_law_texts_right", none), "_law_texts_right", "_law_texts_right", defArgs s_w_texts_right, defBody s_w_texts_right, defScope s_w_texts_right, [], []⟩
def d_w_told : He.DefD := ⟨("_law_told", none), "_law_told", "_law_told", defArgs s_w_told, defBody s_w_told, defScope s_w_told, [], []⟩
def d_w_places_right : He.DefD := ⟨("_law_places_right", none), "_law_places_right", "_law_places_right", defArgs s_w_places_right, defBody s_w_places_right, defScope s_w_places_right, [], []⟩
def d_w_free_pair : He.DefD := ⟨("_law_free_pair", none), "_law_free_pair", "_law_free_pair", defArgs s_w_free_pair, defBody s_w_free_pair, defScope s_w_free_pair, [], []⟩
def d_law : He.DefD := ⟨("law", none), "law", "law", defArgs s_law, defBody s_law, defScope s_law, [], []⟩
def fn : List He.DefD := [d_CannotExchange___init__, d_is_integer, d_sections, d_accesses, d_lock_contests, d_data_contests, d_contests, d_holdings, d_Plane___init__, d_Plane_is_open_at, d_is_run, d_check_run, d_serial_run, d_places_of, d_winners_of, d_winners, d_alike, d_concerned, d_step_pair, d_swapped, d_exchanged, d_check_alike, d_exchanges, d_distance, d_w_start, d_w_draw, d_w_choice, d_w_names, d_w_thread, d_w_parts, d_w_contests, d_w_pair, d_w_kept, d_w_is_open, d_w_winners, d_w_walk, d_w_concerned, d_w_turned, d_w_mixed, d_w_is_run, d_w_unlike, d_w_row_right, d_w_texts_right, d_w_told, d_w_places_right, d_w_free_pair, d_law]
def fa1 : List He.Fa := [.glo "is_integer", .glo "sections", .glo "accesses", .glo "lock_contests", .glo "data_contests", .glo "contests", .glo "holdings", .glo "is_run", .glo "check_run", .glo "serial_run", .glo "places_of", .glo "winners_of", .glo "winners", .glo "alike", .glo "concerned", .glo "step_pair", .glo "swapped", .glo "exchanged", .glo "check_alike", .glo "exchanges", .glo "distance", .glo "_law_start", .glo "_law_draw", .glo "_law_choice", .glo "_law_names", .glo "_law_thread", .glo "_law_parts", .glo "_law_contests", .glo "_law_pair", .glo "_law_kept", .glo "_law_is_open", .glo "_law_winners", .glo "_law_walk", .glo "_law_concerned", .glo "_law_turned", .glo "_law_mixed", .glo "_law_is_run", .glo "_law_unlike"]
def fa2 : List He.Fa := [.glo "_law_row_right", .glo "_law_texts_right", .glo "_law_told", .glo "_law_places_right", .glo "_law_free_pair", .glo "law", .glo "Plane", .glo "CannotExchange", .glo "ThreadError", .str "LOCK" "lock", .str "SHARE" "share", .str "FREE" "free", .str "READ" "read", .str "WRITE" "write", .str "LETTERS" "ab", .str "TURNED" "ba", .free "isinstance", .free "int", .free "bool", .free "str", .free "len", .free "sum", .free "range", .free "enumerate", .free "zip", .free "sorted", .free "tuple", .free "all", .free "dict", .free "max", .free "min", .free "abs", .free "repr", .cls "Plane", .noat "Plane" "sizes", .noat "Plane" "end", .noat "Plane" "held_by", .mkr "Plane", .meth "Plane" "is_open_at"]
def fa : List He.Fa := fa1 ++ fa2
def ls1 : List Str := ["_wall", "ThreadError", "BadRun", "CannotExchange", "NotAlike", "LOCK", "SHARE", "FREE", "READ", "WRITE", "is_integer", "sections", "accesses", "lock_contests", "data_contests", "contests", "holdings", "Plane", "LETTERS", "TURNED", "is_run", "check_run", "serial_run", "places_of", "winners_of", "winners", "alike", "concerned"]
def ls2 : List Str := ["step_pair", "swapped", "exchanged", "check_alike", "exchanges", "distance", "_law_start", "_law_draw", "_law_choice", "_law_names", "_law_thread", "_law_parts", "_law_contests", "_law_pair", "_law_kept", "_law_is_open", "_law_winners", "_law_walk", "_law_concerned", "_law_turned", "_law_mixed", "_law_is_run", "_law_unlike", "_law_row_right", "_law_texts_right", "_law_told", "_law_places_right", "_law_free_pair"]
def ls : List Str := ls1 ++ ls2

/-! ### what the walks take of the text -/
structure Tx (K : PySem.W.Frag) (mg : Str → Option Value) : Prop where
  at_ : ∃ h : Heap, K.In h ∧ h.Ns mainGlobals mg
  c : He.SaysD fa fn K
section
variable {K : PySem.W.Frag} {mg : Str → Option Value} (T : Tx K mg)
include T
theorem Tx.glo {x : Str} (c : (He.Fa.glo x).ok K = true) : mg x = some (.ref (He.ga K x)) := let ⟨_, X, G⟩ := T.at_; He.glo_ok X G c
theorem Tx.free {x : Str} (c : (He.Fa.free x).ok K = true) : mg x = none := let ⟨_, X, G⟩ := T.at_; He.free_ok X G c
theorem Tx.str {x z : Str} (c : (He.Fa.str x z).ok K = true) : ∃ t, mg x = some (.str z t) := let ⟨_, X, G⟩ := T.at_; He.str_ok X G c

theorem Tx.g_is_integer : mg "is_integer" = some (.ref (He.ga K "is_integer")) := T.glo (T.c.fact 0 (f := .glo "is_integer") rfl)
theorem Tx.g_sections : mg "sections" = some (.ref (He.ga K "sections")) := T.glo (T.c.fact 1 (f := .glo "sections") rfl)
theorem Tx.g_accesses : mg "accesses" = some (.ref (He.ga K "accesses")) := T.glo (T.c.fact 2 (f := .glo "accesses") rfl)
theorem Tx.g_lock_contests : mg "lock_contests" = some (.ref (He.ga K "lock_contests")) := T.glo (T.c.fact 3 (f := .glo "lock_contests") rfl)
theorem Tx.g_data_contests : mg "data_contests" = some (.ref (He.ga K "data_contests")) := T.glo (T.c.fact 4 (f := .glo "data_contests") rfl)
theorem Tx.g_contests : mg "contests" = some (.ref (He.ga K "contests")) := T.glo (T.c.fact 5 (f := .glo "contests") rfl)
theorem Tx.g_holdings : mg "holdings" = some (.ref (He.ga K "holdings")) := T.glo (T.c.fact 6 (f := .glo "holdings") rfl)
theorem Tx.g_is_run : mg "is_run" = some (.ref (He.ga K "is_run")) := T.glo (T.c.fact 7 (f := .glo "is_run") rfl)
theorem Tx.g_check_run : mg "check_run" = some (.ref (He.ga K "check_run")) := T.glo (T.c.fact 8 (f := .glo "check_run") rfl)
theorem Tx.g_serial_run : mg "serial_run" = some (.ref (He.ga K "serial_run")) := T.glo (T.c.fact 9 (f := .glo "serial_run") rfl)
theorem Tx.g_places_of : mg "places_of" = some (.ref (He.ga K "places_of")) := T.glo (T.c.fact 10 (f := .glo "places_of") rfl)
theorem Tx.g_winners_of : mg "winners_of" = some (.ref (He.ga K "winners_of")) := T.glo (T.c.fact 11 (f := .glo "winners_of") rfl)
theorem Tx.g_winners : mg "winners" = some (.ref (He.ga K "winners")) := T.glo (T.c.fact 12 (f := .glo "winners") rfl)
theorem Tx.g_alike : mg "alike" = some (.ref (He.ga K "alike")) := T.glo (T.c.fact 13 (f := .glo "alike") rfl)
theorem Tx.g_concerned : mg "concerned" = some (.ref (He.ga K "concerned")) := T.glo (T.c.fact 14 (f := .glo "concerned") rfl)
theorem Tx.g_step_pair : mg "step_pair" = some (.ref (He.ga K "step_pair")) := T.glo (T.c.fact 15 (f := .glo "step_pair") rfl)
theorem Tx.g_swapped : mg "swapped" = some (.ref (He.ga K "swapped")) := T.glo (T.c.fact 16 (f := .glo "swapped") rfl)
theorem Tx.g_exchanged : mg "exchanged" = some (.ref (He.ga K "exchanged")) := T.glo (T.c.fact 17 (f := .glo "exchanged") rfl)
theorem Tx.g_check_alike : mg "check_alike" = some (.ref (He.ga K "check_alike")) := T.glo (T.c.fact 18 (f := .glo "check_alike") rfl)
theorem Tx.g_exchanges : mg "exchanges" = some (.ref (He.ga K "exchanges")) := T.glo (T.c.fact 19 (f := .glo "exchanges") rfl)
theorem Tx.g_distance : mg "distance" = some (.ref (He.ga K "distance")) := T.glo (T.c.fact 20 (f := .glo "distance") rfl)
theorem Tx.g__law_start : mg "_law_start" = some (.ref (He.ga K "_law_start")) := T.glo (T.c.fact 21 (f := .glo "_law_start") rfl)
theorem Tx.g__law_draw : mg "_law_draw" = some (.ref (He.ga K "_law_draw")) := T.glo (T.c.fact 22 (f := .glo "_law_draw") rfl)
theorem Tx.g__law_choice : mg "_law_choice" = some (.ref (He.ga K "_law_choice")) := T.glo (T.c.fact 23 (f := .glo "_law_choice") rfl)
theorem Tx.g__law_names : mg "_law_names" = some (.ref (He.ga K "_law_names")) := T.glo (T.c.fact 24 (f := .glo "_law_names") rfl)
theorem Tx.g__law_thread : mg "_law_thread" = some (.ref (He.ga K "_law_thread")) := T.glo (T.c.fact 25 (f := .glo "_law_thread") rfl)
theorem Tx.g__law_parts : mg "_law_parts" = some (.ref (He.ga K "_law_parts")) := T.glo (T.c.fact 26 (f := .glo "_law_parts") rfl)
theorem Tx.g__law_contests : mg "_law_contests" = some (.ref (He.ga K "_law_contests")) := T.glo (T.c.fact 27 (f := .glo "_law_contests") rfl)
theorem Tx.g__law_pair : mg "_law_pair" = some (.ref (He.ga K "_law_pair")) := T.glo (T.c.fact 28 (f := .glo "_law_pair") rfl)
theorem Tx.g__law_kept : mg "_law_kept" = some (.ref (He.ga K "_law_kept")) := T.glo (T.c.fact 29 (f := .glo "_law_kept") rfl)
theorem Tx.g__law_is_open : mg "_law_is_open" = some (.ref (He.ga K "_law_is_open")) := T.glo (T.c.fact 30 (f := .glo "_law_is_open") rfl)
theorem Tx.g__law_winners : mg "_law_winners" = some (.ref (He.ga K "_law_winners")) := T.glo (T.c.fact 31 (f := .glo "_law_winners") rfl)
theorem Tx.g__law_walk : mg "_law_walk" = some (.ref (He.ga K "_law_walk")) := T.glo (T.c.fact 32 (f := .glo "_law_walk") rfl)
theorem Tx.g__law_concerned : mg "_law_concerned" = some (.ref (He.ga K "_law_concerned")) := T.glo (T.c.fact 33 (f := .glo "_law_concerned") rfl)
theorem Tx.g__law_turned : mg "_law_turned" = some (.ref (He.ga K "_law_turned")) := T.glo (T.c.fact 34 (f := .glo "_law_turned") rfl)
theorem Tx.g__law_mixed : mg "_law_mixed" = some (.ref (He.ga K "_law_mixed")) := T.glo (T.c.fact 35 (f := .glo "_law_mixed") rfl)
theorem Tx.g__law_is_run : mg "_law_is_run" = some (.ref (He.ga K "_law_is_run")) := T.glo (T.c.fact 36 (f := .glo "_law_is_run") rfl)
theorem Tx.g__law_unlike : mg "_law_unlike" = some (.ref (He.ga K "_law_unlike")) := T.glo (T.c.fact 37 (f := .glo "_law_unlike") rfl)
theorem Tx.g__law_row_right : mg "_law_row_right" = some (.ref (He.ga K "_law_row_right")) := T.glo (T.c.fact 38 (f := .glo "_law_row_right") rfl)
theorem Tx.g__law_texts_right : mg "_law_texts_right" = some (.ref (He.ga K "_law_texts_right")) := T.glo (T.c.fact 39 (f := .glo "_law_texts_right") rfl)
theorem Tx.g__law_told : mg "_law_told" = some (.ref (He.ga K "_law_told")) := T.glo (T.c.fact 40 (f := .glo "_law_told") rfl)
theorem Tx.g__law_places_right : mg "_law_places_right" = some (.ref (He.ga K "_law_places_right")) := T.glo (T.c.fact 41 (f := .glo "_law_places_right") rfl)
theorem Tx.g__law_free_pair : mg "_law_free_pair" = some (.ref (He.ga K "_law_free_pair")) := T.glo (T.c.fact 42 (f := .glo "_law_free_pair") rfl)
theorem Tx.g_law : mg "law" = some (.ref (He.ga K "law")) := T.glo (T.c.fact 43 (f := .glo "law") rfl)
theorem Tx.g_Plane : mg "Plane" = some (.ref (He.ga K "Plane")) := T.glo (T.c.fact 44 (f := .glo "Plane") rfl)
theorem Tx.g_CannotExchange : mg "CannotExchange" = some (.ref (He.ga K "CannotExchange")) := T.glo (T.c.fact 45 (f := .glo "CannotExchange") rfl)
theorem Tx.g_ThreadError : mg "ThreadError" = some (.ref (He.ga K "ThreadError")) := T.glo (T.c.fact 46 (f := .glo "ThreadError") rfl)
theorem Tx.c_LOCK : ∃ t, mg "LOCK" = some (.str "lock" t) := T.str (T.c.fact 47 (f := .str "LOCK" "lock") rfl)
theorem Tx.c_SHARE : ∃ t, mg "SHARE" = some (.str "share" t) := T.str (T.c.fact 48 (f := .str "SHARE" "share") rfl)
theorem Tx.c_FREE : ∃ t, mg "FREE" = some (.str "free" t) := T.str (T.c.fact 49 (f := .str "FREE" "free") rfl)
theorem Tx.c_READ : ∃ t, mg "READ" = some (.str "read" t) := T.str (T.c.fact 50 (f := .str "READ" "read") rfl)
theorem Tx.c_WRITE : ∃ t, mg "WRITE" = some (.str "write" t) := T.str (T.c.fact 51 (f := .str "WRITE" "write") rfl)
theorem Tx.c_LETTERS : ∃ t, mg "LETTERS" = some (.str "ab" t) := T.str (T.c.fact 52 (f := .str "LETTERS" "ab") rfl)
theorem Tx.c_TURNED : ∃ t, mg "TURNED" = some (.str "ba" t) := T.str (T.c.fact 53 (f := .str "TURNED" "ba") rfl)
theorem Tx.b_isinstance : mg "isinstance" = none := T.free (T.c.fact 54 (f := .free "isinstance") rfl)
theorem Tx.b_int : mg "int" = none := T.free (T.c.fact 55 (f := .free "int") rfl)
theorem Tx.b_bool : mg "bool" = none := T.free (T.c.fact 56 (f := .free "bool") rfl)
theorem Tx.b_str : mg "str" = none := T.free (T.c.fact 57 (f := .free "str") rfl)
theorem Tx.b_len : mg "len" = none := T.free (T.c.fact 58 (f := .free "len") rfl)
theorem Tx.b_sum : mg "sum" = none := T.free (T.c.fact 59 (f := .free "sum") rfl)
theorem Tx.b_range : mg "range" = none := T.free (T.c.fact 60 (f := .free "range") rfl)
theorem Tx.b_enumerate : mg "enumerate" = none := T.free (T.c.fact 61 (f := .free "enumerate") rfl)
theorem Tx.b_zip : mg "zip" = none := T.free (T.c.fact 62 (f := .free "zip") rfl)
theorem Tx.b_sorted : mg "sorted" = none := T.free (T.c.fact 63 (f := .free "sorted") rfl)
theorem Tx.b_tuple : mg "tuple" = none := T.free (T.c.fact 64 (f := .free "tuple") rfl)
theorem Tx.b_all : mg "all" = none := T.free (T.c.fact 65 (f := .free "all") rfl)
theorem Tx.b_dict : mg "dict" = none := T.free (T.c.fact 66 (f := .free "dict") rfl)
theorem Tx.b_max : mg "max" = none := T.free (T.c.fact 67 (f := .free "max") rfl)
theorem Tx.b_min : mg "min" = none := T.free (T.c.fact 68 (f := .free "min") rfl)
theorem Tx.b_abs : mg "abs" = none := T.free (T.c.fact 69 (f := .free "abs") rfl)
theorem Tx.b_repr : mg "repr" = none := T.free (T.c.fact 70 (f := .free "repr") rfl)
theorem Tx.k_Plane : Cls K (He.ga K "Plane") := He.cls_ok (T.c.fact 71 (f := .cls "Plane") rfl)
theorem Tx.n_Plane_sizes : NoAttr K (He.ga K "Plane") "sizes" := He.noat_ok (T.c.fact 72 (f := .noat "Plane" "sizes") rfl)
theorem Tx.n_Plane_end : NoAttr K (He.ga K "Plane") "end" := He.noat_ok (T.c.fact 73 (f := .noat "Plane" "end") rfl)
theorem Tx.n_Plane_held_by : NoAttr K (He.ga K "Plane") "held_by" := He.noat_ok (T.c.fact 74 (f := .noat "Plane" "held_by") rfl)
theorem Tx.m_Plane : Mk K (He.ga K "Plane") (He.ma K (He.ga K "Plane") "__init__") := He.mkr_ok (T.c.fact 75 (f := .mkr "Plane") rfl)
theorem Tx.h_Plane_is_open_at : Meth K (He.ga K "Plane") "is_open_at" (He.ma K (He.ga K "Plane") "is_open_at") := He.meth_ok (T.c.fact 76 (f := .meth "Plane" "is_open_at") rfl)
theorem Tx.f_CannotExchange___init__ : ∃ fd : FuncData, FunD K "__init__" "CannotExchange.__init__" (defArgs s_CannotExchange___init__) (defBody s_CannotExchange___init__) (defScope s_CannotExchange___init__) [] [] (He.fAd K ("CannotExchange", some "__init__")) fd := T.c.def_ 0 (d := d_CannotExchange___init__) rfl
theorem Tx.f_is_integer : ∃ fd : FuncData, FunD K "is_integer" "is_integer" (defArgs s_is_integer) (defBody s_is_integer) (defScope s_is_integer) [] [] (He.fAd K ("is_integer", none)) fd := T.c.def_ 1 (d := d_is_integer) rfl
theorem Tx.f_sections : ∃ fd : FuncData, FunD K "sections" "sections" (defArgs s_sections) (defBody s_sections) (defScope s_sections) [] [] (He.fAd K ("sections", none)) fd := T.c.def_ 2 (d := d_sections) rfl
theorem Tx.f_accesses : ∃ fd : FuncData, FunD K "accesses" "accesses" (defArgs s_accesses) (defBody s_accesses) (defScope s_accesses) [] [] (He.fAd K ("accesses", none)) fd := T.c.def_ 3 (d := d_accesses) rfl
theorem Tx.f_lock_contests : ∃ fd : FuncData, FunD K "lock_contests" "lock_contests" (defArgs s_lock_contests) (defBody s_lock_contests) (defScope s_lock_contests) [] [] (He.fAd K ("lock_contests", none)) fd := T.c.def_ 4 (d := d_lock_contests) rfl
theorem Tx.f_data_contests : ∃ fd : FuncData, FunD K "data_contests" "data_contests" (defArgs s_data_contests) (defBody s_data_contests) (defScope s_data_contests) [] [] (He.fAd K ("data_contests", none)) fd := T.c.def_ 5 (d := d_data_contests) rfl
theorem Tx.f_contests : ∃ fd : FuncData, FunD K "contests" "contests" (defArgs s_contests) (defBody s_contests) (defScope s_contests) [] [] (He.fAd K ("contests", none)) fd := T.c.def_ 6 (d := d_contests) rfl
theorem Tx.f_holdings : ∃ fd : FuncData, FunD K "holdings" "holdings" (defArgs s_holdings) (defBody s_holdings) (defScope s_holdings) [] [] (He.fAd K ("holdings", none)) fd := T.c.def_ 7 (d := d_holdings) rfl
theorem Tx.f_Plane___init__ : ∃ fd : FuncData, FunD K "__init__" "Plane.__init__" (defArgs s_Plane___init__) (defBody s_Plane___init__) (defScope s_Plane___init__) [] [] (He.fAd K ("Plane", some "__init__")) fd := T.c.def_ 8 (d := d_Plane___init__) rfl
theorem Tx.f_Plane_is_open_at : ∃ fd : FuncData, FunD K "is_open_at" "Plane.is_open_at" (defArgs s_Plane_is_open_at) (defBody s_Plane_is_open_at) (defScope s_Plane_is_open_at) [] [] (He.fAd K ("Plane", some "is_open_at")) fd := T.c.def_ 9 (d := d_Plane_is_open_at) rfl
theorem Tx.f_is_run : ∃ fd : FuncData, FunD K "is_run" "is_run" (defArgs s_is_run) (defBody s_is_run) (defScope s_is_run) [] [] (He.fAd K ("is_run", none)) fd := T.c.def_ 10 (d := d_is_run) rfl
theorem Tx.f_check_run : ∃ fd : FuncData, FunD K "check_run" "check_run" (defArgs s_check_run) (defBody s_check_run) (defScope s_check_run) [] [] (He.fAd K ("check_run", none)) fd := T.c.def_ 11 (d := d_check_run) rfl
theorem Tx.f_serial_run : ∃ fd : FuncData, FunD K "serial_run" "serial_run" (defArgs s_serial_run) (defBody s_serial_run) (defScope s_serial_run) [] [] (He.fAd K ("serial_run", none)) fd := T.c.def_ 12 (d := d_serial_run) rfl
theorem Tx.f_places_of : ∃ fd : FuncData, FunD K "places_of" "places_of" (defArgs s_places_of) (defBody s_places_of) (defScope s_places_of) [] [] (He.fAd K ("places_of", none)) fd := T.c.def_ 13 (d := d_places_of) rfl
theorem Tx.f_winners_of : ∃ fd : FuncData, FunD K "winners_of" "winners_of" (defArgs s_winners_of) (defBody s_winners_of) (defScope s_winners_of) [] [] (He.fAd K ("winners_of", none)) fd := T.c.def_ 14 (d := d_winners_of) rfl
theorem Tx.f_winners : ∃ fd : FuncData, FunD K "winners" "winners" (defArgs s_winners) (defBody s_winners) (defScope s_winners) [] [] (He.fAd K ("winners", none)) fd := T.c.def_ 15 (d := d_winners) rfl
theorem Tx.f_alike : ∃ fd : FuncData, FunD K "alike" "alike" (defArgs s_alike) (defBody s_alike) (defScope s_alike) [] [] (He.fAd K ("alike", none)) fd := T.c.def_ 16 (d := d_alike) rfl
theorem Tx.f_concerned : ∃ fd : FuncData, FunD K "concerned" "concerned" (defArgs s_concerned) (defBody s_concerned) (defScope s_concerned) [] [] (He.fAd K ("concerned", none)) fd := T.c.def_ 17 (d := d_concerned) rfl
theorem Tx.f_step_pair : ∃ fd : FuncData, FunD K "step_pair" "step_pair" (defArgs s_step_pair) (defBody s_step_pair) (defScope s_step_pair) [] [] (He.fAd K ("step_pair", none)) fd := T.c.def_ 18 (d := d_step_pair) rfl
theorem Tx.f_swapped : ∃ fd : FuncData, FunD K "swapped" "swapped" (defArgs s_swapped) (defBody s_swapped) (defScope s_swapped) [] [] (He.fAd K ("swapped", none)) fd := T.c.def_ 19 (d := d_swapped) rfl
theorem Tx.f_exchanged : ∃ fd : FuncData, FunD K "exchanged" "exchanged" (defArgs s_exchanged) (defBody s_exchanged) (defScope s_exchanged) [] [] (He.fAd K ("exchanged", none)) fd := T.c.def_ 20 (d := d_exchanged) rfl
theorem Tx.f_check_alike : ∃ fd : FuncData, FunD K "check_alike" "check_alike" (defArgs s_check_alike) (defBody s_check_alike) (defScope s_check_alike) [] [] (He.fAd K ("check_alike", none)) fd := T.c.def_ 21 (d := d_check_alike) rfl
theorem Tx.f_exchanges : ∃ fd : FuncData, FunD K "exchanges" "exchanges" (defArgs s_exchanges) (defBody s_exchanges) (defScope s_exchanges) [] [] (He.fAd K ("exchanges", none)) fd := T.c.def_ 22 (d := d_exchanges) rfl
theorem Tx.f_distance : ∃ fd : FuncData, FunD K "distance" "distance" (defArgs s_distance) (defBody s_distance) (defScope s_distance) [] [] (He.fAd K ("distance", none)) fd := T.c.def_ 23 (d := d_distance) rfl
theorem Tx.f_w_start : ∃ fd : FuncData, FunD K "_law_start" "_law_start" (defArgs s_w_start) (defBody s_w_start) (defScope s_w_start) [] [] (He.fAd K ("_law_start", none)) fd := T.c.def_ 24 (d := d_w_start) rfl
theorem Tx.f_w_draw : ∃ fd : FuncData, FunD K "_law_draw" "_law_draw" (defArgs s_w_draw) (defBody s_w_draw) (defScope s_w_draw) [] [] (He.fAd K ("_law_draw", none)) fd := T.c.def_ 25 (d := d_w_draw) rfl
theorem Tx.f_w_choice : ∃ fd : FuncData, FunD K "_law_choice" "_law_choice" (defArgs s_w_choice) (defBody s_w_choice) (defScope s_w_choice) [] [] (He.fAd K ("_law_choice", none)) fd := T.c.def_ 26 (d := d_w_choice) rfl
theorem Tx.f_w_names : ∃ fd : FuncData, FunD K "_law_names" "_law_names" (defArgs s_w_names) (defBody s_w_names) (defScope s_w_names) [] [] (He.fAd K ("_law_names", none)) fd := T.c.def_ 27 (d := d_w_names) rfl
theorem Tx.f_w_thread : ∃ fd : FuncData, FunD K "_law_thread" "_law_thread" (defArgs s_w_thread) (defBody s_w_thread) (defScope s_w_thread) [] [] (He.fAd K ("_law_thread", none)) fd := T.c.def_ 28 (d := d_w_thread) rfl
theorem Tx.f_w_parts : ∃ fd : FuncData, FunD K "_law_parts" "_law_parts" (defArgs s_w_parts) (defBody s_w_parts) (defScope s_w_parts) [] [] (He.fAd K ("_law_parts", none)) fd := T.c.def_ 29 (d := d_w_parts) rfl
theorem Tx.f_w_contests : ∃ fd : FuncData, FunD K "_law_contests" "_law_contests" (defArgs s_w_contests) (defBody s_w_contests) (defScope s_w_contests) [] [] (He.fAd K ("_law_contests", none)) fd := T.c.def_ 30 (d := d_w_contests) rfl
theorem Tx.f_w_pair : ∃ fd : FuncData, FunD K "_law_pair" "_law_pair" (defArgs s_w_pair) (defBody s_w_pair) (defScope s_w_pair) [] [] (He.fAd K ("_law_pair", none)) fd := T.c.def_ 31 (d := d_w_pair) rfl
theorem Tx.f_w_kept : ∃ fd : FuncData, FunD K "_law_kept" "_law_kept" (defArgs s_w_kept) (defBody s_w_kept) (defScope s_w_kept) [] [] (He.fAd K ("_law_kept", none)) fd := T.c.def_ 32 (d := d_w_kept) rfl
theorem Tx.f_w_is_open : ∃ fd : FuncData, FunD K "_law_is_open" "_law_is_open" (defArgs s_w_is_open) (defBody s_w_is_open) (defScope s_w_is_open) [] [] (He.fAd K ("_law_is_open", none)) fd := T.c.def_ 33 (d := d_w_is_open) rfl
theorem Tx.f_w_winners : ∃ fd : FuncData, FunD K "_law_winners" "_law_winners" (defArgs s_w_winners) (defBody s_w_winners) (defScope s_w_winners) [] [] (He.fAd K ("_law_winners", none)) fd := T.c.def_ 34 (d := d_w_winners) rfl
theorem Tx.f_w_walk : ∃ fd : FuncData, FunD K "_law_walk" "_law_walk" (defArgs s_w_walk) (defBody s_w_walk) (defScope s_w_walk) [] [] (He.fAd K ("_law_walk", none)) fd := T.c.def_ 35 (d := d_w_walk) rfl
theorem Tx.f_w_concerned : ∃ fd : FuncData, FunD K "_law_concerned" "_law_concerned" (defArgs s_w_concerned) (defBody s_w_concerned) (defScope s_w_concerned) [] [] (He.fAd K ("_law_concerned", none)) fd := T.c.def_ 36 (d := d_w_concerned) rfl
theorem Tx.f_w_turned : ∃ fd : FuncData, FunD K "_law_turned" "_law_turned" (defArgs s_w_turned) (defBody s_w_turned) (defScope s_w_turned) [] [] (He.fAd K ("_law_turned", none)) fd := T.c.def_ 37 (d := d_w_turned) rfl
theorem Tx.f_w_mixed : ∃ fd : FuncData, FunD K "_law_mixed" "_law_mixed" (defArgs s_w_mixed) (defBody s_w_mixed) (defScope s_w_mixed) [] [] (He.fAd K ("_law_mixed", none)) fd := T.c.def_ 38 (d := d_w_mixed) rfl
theorem Tx.f_w_is_run : ∃ fd : FuncData, FunD K "_law_is_run" "_law_is_run" (defArgs s_w_is_run) (defBody s_w_is_run) (defScope s_w_is_run) [] [] (He.fAd K ("_law_is_run", none)) fd := T.c.def_ 39 (d := d_w_is_run) rfl
theorem Tx.f_w_unlike : ∃ fd : FuncData, FunD K "_law_unlike" "_law_unlike" (defArgs s_w_unlike) (defBody s_w_unlike) (defScope s_w_unlike) [] [] (He.fAd K ("_law_unlike", none)) fd := T.c.def_ 40 (d := d_w_unlike) rfl
theorem Tx.f_w_row_right : ∃ fd : FuncData, FunD K "_law_row_right" "_law_row_right" (defArgs s_w_row_right) (defBody s_w_row_right) (defScope s_w_row_right) [] [] (He.fAd K ("_law_row_right", none)) fd := T.c.def_ 41 (d := d_w_row_right) rfl
theorem Tx.f_w_texts_right : ∃ fd : FuncData, FunD K "_law_texts_right" "_law_texts_right" (defArgs s_w_texts_right) (defBody s_w_texts_right) (defScope s_w_texts_right) [] [] (He.fAd K ("_law_texts_right", none)) fd := T.c.def_ 42 (d := d_w_texts_right) rfl
theorem Tx.f_w_told : ∃ fd : FuncData, FunD K "_law_told" "_law_told" (defArgs s_w_told) (defBody s_w_told) (defScope s_w_told) [] [] (He.fAd K ("_law_told", none)) fd := T.c.def_ 43 (d := d_w_told) rfl
theorem Tx.f_w_places_right : ∃ fd : FuncData, FunD K "_law_places_right" "_law_places_right" (defArgs s_w_places_right) (defBody s_w_places_right) (defScope s_w_places_right) [] [] (He.fAd K ("_law_places_right", none)) fd := T.c.def_ 44 (d := d_w_places_right) rfl
theorem Tx.f_w_free_pair : ∃ fd : FuncData, FunD K "_law_free_pair" "_law_free_pair" (defArgs s_w_free_pair) (defBody s_w_free_pair) (defScope s_w_free_pair) [] [] (He.fAd K ("_law_free_pair", none)) fd := T.c.def_ 45 (d := d_w_free_pair) rfl
theorem Tx.f_law : ∃ fd : FuncData, FunD K "law" "law" (defArgs s_law) (defBody s_law) (defScope s_law) [] [] (He.fAd K ("law", none)) fd := T.c.def_ 46 (d := d_law) rfl
end

/-! ### a def and its promise -/
structure OK (P : Program) (w : World) (K : PySem.W.Frag) (mg : Str → Option Value) (base : Heap) (k : Nat) (x : Str) (ps : List Str) (sp : Sp) : Prop where
  gl : mg x = some (.ref (He.ga K x))
  fd : ∃ fd : FuncData, FnOk P w K mg base CX0 k (He.ga K x) fd ps sp ∧ Binds K fd ps []
  kp : PySem.W.keepIn K (.ref (He.ga K x)) = true
theorem OK.of {P : Program} {w : World} {K : PySem.W.Frag} {mg : Str → Option Value} {base : Heap} {k : Nat} {x q : Str} {ps : List Str} {sp : Sp} {a : Arguments} {b : List Stmt} {sc : Scope} {fd : FuncData} (g : mg x = some (.ref (He.ga K x)))
    (F : FunD K x q a b sc [] [] (He.ga K x) fd) (h : FnOk P w K mg base CX0 k (He.ga K x) fd ps sp) (hb : Binds K fd ps []) : OK P w K mg base k x ps sp := ⟨g, ⟨fd, h, hb⟩, F.kp⟩
theorem pcall {X : Cx} {j k : Nat} {x : Str} {ps : List Str} {sp : Sp} {e : Expr} {es : List Expr} {t : TA} {p pos : Pos} (O : OK X.prog X.w X.K X.mg X.base k x ps sp) (hr : Room j X.A) (hk : k ≤ j) (ha : PA X (e :: es) t) (hg : Gl X x := by rfl)
    (hdb : (x == ("__debug__" : Str)) = false := by decide) (he : starEach (e :: es) X.env = (false, eval e X.env) :: starEach es X.env := by rfl) (hpl : (backTo pos (starEach es X.env)).any (·.1) = false := by rfl) :
    PE X (.Call (.Name x p) (e :: es) [] pos) (tCall sp [] E0 t) := by
  obtain ⟨gl, ⟨fd, F, b⟩, kp⟩ := O
  exact pe_call F (hr.mono hk) hg gl kp b .nil pass0 ha hdb he hpl
theorem pe_gs {X : Cx} {x z : Str} {t : Tok} {pos : Pos} (hg : Gl X x) (hm : X.mg x = some (.str z t)) (hd : (x == ("__debug__" : Str)) = false := by decide) : PE X (.Name x pos) (tC (.str z)) := pe_glob hg hm ⟨_, rfl⟩ hd
section
variable {X : Cx} (K : PySem.W.Frag)
theorem pg_tupK {pos : Pos} {es : List Expr} {k : Nat} {t : TGs} {n : Nat} (hc : X.calm = true) (h : PGs X es t) (hK : X.K = K := by rfl)
    (hn : (assignEach es X.env).length = n := by rfl) (hst : (assignEach es X.env).findIdx? (·.1) = none := by rfl) : PG X (.Tuple es k pos) (gTup K n t) := hK ▸ pg_tup hc h hn hst
theorem pg_unlK {pos : Pos} {es : List Expr} {k : Nat} {t : TGs} {n : Nat} (hc : X.calm = true) (h : PGs X es t) (hK : X.K = K := by rfl)
    (hn : (assignEach es X.env).length = n := by rfl) (hst : (assignEach es X.env).findIdx? (·.1) = none := by rfl) : PG X (.Tuple es k pos) (gUnl K n t) := hK ▸ pg_unl hc h hn hst
theorem ix_listK (hK : X.K = K := by rfl) : IxR X (rIxL K) := hK ▸ ix_list
theorem ix_tupK (hK : X.K = K := by rfl) : IxR X (rIxT K) := hK ▸ ix_tup
theorem op_in_seqK (hK : X.K = K := by rfl) : OpR X (compareOp .In) (rIn K false) := hK ▸ op_in_seq
theorem op_notIn_seqK (hK : X.K = K := by rfl) : OpR X (compareOp .NotIn) (rIn K true) := hK ▸ op_notIn_seq
theorem op_eqDK (hu : X.A.units + 64 < cLine) (hK : X.K = K := by rfl) : OpR X (compareOp .Eq) (rEqD K) := hK ▸ op_eqD hu
theorem op_neDK (hu : X.A.units + 64 < cLine) (hK : X.K = K := by rfl) : OpR X (compareOp .NotEq) (rNeD K) := hK ▸ op_neD hu
theorem op_catAK (hK : X.K = K := by rfl) : OpR X (binaryOp .Add) (rCatA K) := hK ▸ op_catA
theorem op_repTK (hK : X.K = K := by rfl) : OpR X (binaryOp .Mult) (rRepT K) := hK ▸ op_repT
theorem call_lenK (hK : X.K = K := by rfl) : CallR X (.builtin "len") (Evl.rLenS K) := hK ▸ call_len_seq
def rTupOf (K : PySem.W.Frag) : List V → Hp → VK → Prop := fun xs H Q => ∃ p ys, xs = [.ref p] ∧ ((SqL K H p ys ∧ ∀ l, H l = none → Q (.ref l) (upd H l (.tup ys))) ∨ (SqT K H p ys ∧ Q (.ref p) H))
theorem call_tupK (hK : X.K = K := by rfl) : CallR X (.type "tuple") (rTupOf K) := hK ▸ call_tuple_of
theorem cr_allK (hc : X.calm = true) (hK : X.K = K := by rfl) : CallR X (.builtin "all") (rAll K) := hK ▸ cr_all hc
theorem cr_sumK (hc : X.calm = true) (hK : X.K = K := by rfl) : CallR X (.builtin "sum") (rSum K) := hK ▸ cr_sum hc
theorem cr_sortDK (hu : X.A.units + 64 < cLine) (hK : X.K = K := by rfl) : CallR X (.builtin "sorted") (rSortD K) := hK ▸ cr_sortD hu
theorem cr_sortedSK (hK : X.K = K := by rfl) : CallR X (.builtin "sorted") (rSortedS K) := hK ▸ cr_sortedS
theorem pi_listK {tg l : Expr} {tl : TE} (hl : PE X l tl) (hK : X.K = K := by rfl) : PI X tg l (iList K tl) := hK ▸ pi_list hl
theorem pi_tupK {tg l : Expr} {tl : TE} (hl : PE X l tl) (hK : X.K = K := by rfl) : PI X tg l (iTup K tl) := hK ▸ pi_tup hl
theorem pi_enumTK {e : Expr} {ta : TA} {p pos tpos : Pos} {elts : List Expr} {kk : Nat} (hg : Gl X "enumerate") (hm : X.mg "enumerate" = none) (ha : PA X [e] ta) (hK : X.K = K := by rfl) (hs : starEach [e] X.env = [(false, eval e X.env)] := by rfl) :
    PI X (.Tuple elts kk tpos) (.Call (.Name "enumerate" p) [e] [] pos) (iEnumT K ta) := hK ▸ pi_enumT hg hm ha hs
theorem pi_zipSTK {e e2 : Expr} {ta : TA} {p pos tpos : Pos} {elts : List Expr} {kk : Nat} (hg : Gl X "zip") (hm : X.mg "zip" = none) (ha : PA X [e, e2] ta) (hK : X.K = K := by rfl)
    (hs : starEach [e, e2] X.env = (false, eval e X.env) :: starEach [e2] X.env := by rfl) (hpl : (backTo pos (starEach [e2] X.env)).any (·.1) = false := by rfl) :
    PI X (.Tuple elts kk tpos) (.Call (.Name "zip" p) [e, e2] [] pos) (iZipST K ta) := hK ▸ pi_zipST hg hm ha hs hpl
theorem call_isiK2 (hK : X.K = K := by rfl) : CallR X (.builtin "isinstance") (rIsi K) := hK ▸ call_isi
theorem sl_tupK (hK : X.K = K := by rfl) : SlR X (rSlA K) := hK ▸ sl_tupA
theorem pi_zipK {e e2 : Expr} {ta : TA} {p pos tpos : Pos} {elts : List Expr} {kk : Nat} (hg : Gl X "zip") (hm : X.mg "zip" = none) (ha : PA X [e, e2] ta) (hK : X.K = K := by rfl)
    (hs : starEach [e, e2] X.env = (false, eval e X.env) :: starEach [e2] X.env := by rfl) (hpl : (backTo pos (starEach [e2] X.env)).any (·.1) = false := by rfl) :
    PI X (.Tuple elts kk tpos) (.Call (.Name "zip" p) [e, e2] [] pos) (iZip K ta) := hK ▸ pi_zip hg hm ha hs hpl
theorem pi_enumK {e : Expr} {ta : TA} {p pos tpos : Pos} {elts : List Expr} {kk : Nat} (hg : Gl X "enumerate") (hm : X.mg "enumerate" = none) (ha : PA X [e] ta) (hK : X.K = K := by rfl) (hs : starEach [e] X.env = [(false, eval e X.env)] := by rfl) :
    PI X (.Tuple elts kk tpos) (.Call (.Name "enumerate" p) [e] [] pos) (iEnum K ta) := hK ▸ pi_enum hg hm ha hs
theorem sl_listK (hK : X.K = K := by rfl) : SlR X (rSlL K) := hK ▸ sl_list
end
theorem op_powW {X : Cx} : OpR X (binaryOp .Pow) (rI (fun i j => 0 ≤ j ∧ (Builtin.Int.intBits i : Int) * j ≤ 2 ^ 27) fun i j => .int (i ^ j.toNat)) := opI fun _ _ _ _ _ _ _ hc q => PyProof.Rows.pow_int hc.1 hc.2 q
theorem pe_gr {X : Cx} {x : Str} {a : Addr} {pos : Pos} (hg : Gl X x) (hm : X.mg x = some (.ref a)) (hd : (x == ("__debug__" : Str)) = false := by decide) : PE X (.Name x pos) (tC (.ref a)) := pe_glob hg hm rfl hd
end HdX
end

section
set_option Elab.async false
set_option linter.all false
set_option maxRecDepth 100000
set_option maxHeartbeats 4000000
namespace HdX
open PySem L2 Evl TT
/-! ### lists that go together -/
structure Al {α β : Type} (R : α → β → Prop) (xs : List α) (ys : List β) : Prop where
  len : xs.length = ys.length
  at_ : ∀ (i : Nat) (x : α) (y : β), xs[i]? = some x → ys[i]? = some y → R x y
section
variable {α β : Type} {R S : α → β → Prop} {xs : List α} {ys : List β}
theorem Al.nil : Al R [] [] := ⟨rfl, fun i x y h => by simp at h⟩
theorem Al.mono (a : Al R xs ys) (h : ∀ x y, R x y → S x y) : Al S xs ys := ⟨a.len, fun i x y h1 h2 => h _ _ (a.at_ i x y h1 h2)⟩
theorem Al.snoc (a : Al R xs ys) {x : α} {y : β} (h : R x y) : Al R (xs ++ [x]) (ys ++ [y]) := by
  refine ⟨by simp [a.len], fun i u v h1 h2 => ?_⟩
  by_cases e : i < xs.length
  · rw [List.getElem?_append_left e] at h1
    rw [List.getElem?_append_left (by rw [← a.len]; exact e)] at h2
    exact a.at_ i u v h1 h2
  · have : i < (xs ++ [x]).length := (List.getElem?_eq_some_iff.mp h1).1
    simp at this
    have e1 : i = xs.length := by omega
    subst e1
    simp at h1
    rw [a.len] at h2
    simp at h2
    subst h1 h2
    exact h
theorem Al.left (a : Al R xs ys) {i : Nat} {x : α} (h : xs[i]? = some x) : ∃ y, ys[i]? = some y ∧ R x y := by
  have hi : i < ys.length := by rw [← a.len]; exact (List.getElem?_eq_some_iff.mp h).1
  exact ⟨ys[i], by simp [hi], a.at_ i x _ h (by simp [hi])⟩
theorem Al.right (a : Al R xs ys) {i : Nat} {y : β} (h : ys[i]? = some y) : ∃ x, xs[i]? = some x ∧ R x y := by
  have hi : i < xs.length := by rw [a.len]; exact (List.getElem?_eq_some_iff.mp h).1
  exact ⟨xs[i], by simp [hi], a.at_ i _ y (by simp [hi]) h⟩
theorem Al.app {zs : List α} {ws : List β} (a : Al R xs ys) (b : Al R zs ws) : Al R (xs ++ zs) (ys ++ ws) := by
  refine ⟨by simp [a.len, b.len], fun i u v h1 h2 => ?_⟩
  by_cases e : i < xs.length
  · rw [List.getElem?_append_left e] at h1
    rw [List.getElem?_append_left (by rw [← a.len]; exact e)] at h2
    exact a.at_ i u v h1 h2
  · rw [List.getElem?_append_right (by omega)] at h1
    rw [List.getElem?_append_right (by rw [← a.len]; omega), ← a.len] at h2
    exact b.at_ _ u v h1 h2
end
/-! ### values that say something; known ever after -/
abbrev VR := V → Hp → Prop
def Keeps (P : VR) : Prop := ∀ v H H', Ex H H' → P v H → P v H'
def Is (z : V) : VR := fun v _ => v = z
theorem keeps_is {z : V} : Keeps (Is z) := fun _ _ _ _ h => h
section
variable {α : Type}
/-- a tuple of what enc says -/
def Rc (K : PySem.W.Frag) (enc : α → List V) (x : α) : VR := fun v H => ∃ a, v = .ref a ∧ SqT K H a (enc x)
theorem keeps_rc {K : PySem.W.Frag} {enc : α → List V} {x : α} : Keeps (Rc K enc x) := fun _ _ _ e ⟨a, h, q⟩ => ⟨a, h, ex_t e q⟩
/-- a list | a tuple of things -/
def LsO (K : PySem.W.Frag) (R : α → VR) (xs : List α) : VR := fun v H => ∃ a vs, v = .ref a ∧ SqL K H a vs ∧ Al (fun x v => R x v H) xs vs
def LsN (R : α → VR) (xs : List α) : VR := fun v H => ∃ a vs, v = .ref a ∧ H a = some (.lst vs) ∧ Al (fun x v => R x v H) xs vs
def TuO (K : PySem.W.Frag) (R : α → VR) (xs : List α) : VR := fun v H => ∃ a vs, v = .ref a ∧ SqT K H a vs ∧ Al (fun x v => R x v H) xs vs
theorem keeps_lso {K : PySem.W.Frag} {R : α → VR} {xs : List α} (k : ∀ x, Keeps (R x)) : Keeps (LsO K R xs) := fun _ _ _ e ⟨a, vs, h, q, al⟩ => ⟨a, vs, h, ex_l e q, al.mono fun x v => k x v _ _ e⟩
theorem keeps_lsn {R : α → VR} {xs : List α} (k : ∀ x, Keeps (R x)) : Keeps (LsN R xs) := fun _ _ _ e ⟨a, vs, h, q, al⟩ => ⟨a, vs, h, e _ _ q, al.mono fun x v => k x v _ _ e⟩
theorem keeps_tuo {K : PySem.W.Frag} {R : α → VR} {xs : List α} (k : ∀ x, Keeps (R x)) : Keeps (TuO K R xs) := fun _ _ _ e ⟨a, vs, h, q, al⟩ => ⟨a, vs, h, ex_t e q, al.mono fun x v => k x v _ _ e⟩
theorem LsN.o {K : PySem.W.Frag} {R : α → VR} {xs : List α} {v : V} {H : Hp} (h : LsN R xs v H) : LsO K R xs v H := let ⟨a, vs, e, q, al⟩ := h; ⟨a, vs, e, sq_of q, al⟩
end
/-- what evaluates to something of which P is known -/
def EvR (te : TE) (σ : L2.St) (H : Hp) (P : VR) : Prop := ∀ H1, Ex H H1 → ∀ Q : VK, (∀ v H2, Ex H1 H2 → P v H2 → Q v H2) → te σ H1 Q
/-- an iterable: n turns, each with what Y says of the item -/
structure ItN (J : It) (n : Nat) (Iv : Hp → Prop) (Y : Nat → Hp → V → Hp → Prop) : Prop where
  go : ∀ i H, Iv H → i < n → J.go i H
  st : ∀ H, Iv H → J.stop n H
  yl : ∀ i H x H', Iv H → J.yld i H x H' → Y i H x H'
def EvI (wi : TI) (σ : L2.St) (H : Hp) (n : Nat) (Y : Nat → Hp → V → Hp → Prop) : Prop := ∀ H1, Ex H H1 → ∀ R : It → Hp → Prop, (∀ J H2, Ex H1 H2 → ItN J n (fun h => Ex H2 h) Y → R J H2) → wi σ H1 R
section
variable {K : PySem.W.Frag} {σ : L2.St} {H H' : Hp} {te ta tb : TE} {P : VR} {v z : V} {D : Ends} {tz tu : TS} {wi : TI} {g : TG} {n : Nat} {Y : Nat → Hp → V → Hp → Prop}
theorem EvR.mono (e : Ex H H') (h : EvR te σ H P) : EvR te σ H' P := fun H1 a Q q => h H1 (e.trans a) Q q
theorem Ev.r (h : Ev te σ H z) : EvR te σ H (Is z) := fun H1 e Q q => h H1 e Q fun H2 e2 => q z H2 e2 rfl
theorem EvR.imp {P' : VR} (h : EvR te σ H P) (i : ∀ v H1, Ex H H1 → P v H1 → P' v H1) : EvR te σ H P' := fun H1 e Q q => h H1 e Q fun v H2 e2 p => q v H2 e2 (i v H2 (e.trans e2) p)
theorem EvI.mono (e : Ex H H') (h : EvI wi σ H n Y) : EvI wi σ H' n Y := fun H1 a R q => h H1 (e.trans a) R q
theorem r_asg {i : Nat} (h : EvR te σ H P) (k : ∀ v H1, Ex H H1 → P v H1 → tz D (σ.set i (some v)) H1) : tSeq (tAsg te (gName i)) tz D σ H := h H (Ex.refl H) _ k
theorem r_asg1 {i : Nat} (h : EvR te σ H P) (k : ∀ v H1, Ex H H1 → P v H1 → D.nx (σ.set i (some v)) H1) : tAsg te (gName i) D σ H := h H (Ex.refl H) _ k
theorem r_ret (h : EvR te σ H P) (k : ∀ v H1, Ex H H1 → P v H1 → D.rt v H1) : tRet te D σ H := h H (Ex.refl H) _ k
theorem r_drop (h : EvR te σ H P) (k : ∀ v H1, Ex H H1 → P v H1 → tz D σ H1) : tSeq (tDrop te) tz D σ H := h H (Ex.refl H) _ k
/-- a call -/
theorem r_call {sp : Sp} {ta : TA} {vs : List V} (h : EvA ta σ H vs) (hs : ∀ H1, Ex H H1 → ∀ Q : VK, (∀ v H2, Ex H1 H2 → P v H2 → Q v H2) → sp vs H1 Q E0) : EvR (tCall sp [] E0 ta) σ H P := fun H1 e Q q =>
  h H1 e _ fun H2 e2 => by
    show sp (vs ++ []) H2 Q E0
    rw [List.append_nil]
    exact hs H2 (e.trans e2) Q fun v H3 e3 p => q v H3 (e2.trans e3) p
theorem v_call {sp : Sp} {ta : TA} {vs : List V} (h : EvA ta σ H vs) (hs : ∀ H1, Ex H H1 → ∀ Q : VK, (∀ H2, Ex H1 H2 → Q z H2) → sp vs H1 Q E0) : Ev (tCall sp [] E0 ta) σ H z := fun H1 e Q q =>
  h H1 e _ fun H2 e2 => by
    show sp (vs ++ []) H2 Q E0
    rw [List.append_nil]
    exact hs H2 (e.trans e2) Q fun H3 e3 => q H3 (e2.trans e3)
/-- arguments of which something is known -/
def EaR (ta : TA) (σ : L2.St) (H : Hp) (P : List V → Hp → Prop) : Prop := ∀ H1, Ex H H1 → ∀ Q : List V → Hp → Prop, (∀ vs H2, Ex H1 H2 → P vs H2 → Q vs H2) → ta σ H1 Q
theorem ar_nil : EaR tNil σ H fun vs _ => vs = [] := fun H1 _ Q q => q [] H1 (Ex.refl H1) rfl
theorem ar_cons {tr : TA} {Pr : List V → Hp → Prop} (k : Keeps P) (h : EvR te σ H P) (hr : EaR tr σ H Pr) : EaR (tCons te tr) σ H fun vs H1 => ∃ v r, vs = v :: r ∧ P v H1 ∧ Pr r H1 := fun H1 e Q q =>
  h H1 e _ fun v H2 e2 p => hr H2 (e.trans e2) _ fun r H3 e3 pr => q (v :: r) H3 (e2.trans e3) ⟨v, r, rfl, k v _ _ e3 p, pr⟩
theorem r_callR {sp : Sp} {ta : TA} {Pa : List V → Hp → Prop} (h : EaR ta σ H Pa) (hs : ∀ vs H1, Ex H H1 → Pa vs H1 → ∀ Q : VK, (∀ v H2, Ex H1 H2 → P v H2 → Q v H2) → sp vs H1 Q E0) : EvR (tCall sp [] E0 ta) σ H P := fun H1 e Q q =>
  h H1 e _ fun vs H2 e2 p => by
    show sp (vs ++ []) H2 Q E0
    rw [List.append_nil]
    exact hs vs H2 (e.trans e2) p Q fun v H3 e3 p => q v H3 (e2.trans e3) p
/-- a builtin on arguments of which something is known -/
theorem r_cb {r : List V → Hp → VK → Prop} {ta : TA} {Pa : List V → Hp → Prop} (h : EaR ta σ H Pa) (hs : ∀ vs H1, Ex H H1 → Pa vs H1 → ∀ Q : VK, (∀ v H2, Ex H1 H2 → P v H2 → Q v H2) → r vs H1 Q) : EvR (tCB r ta) σ H P := fun H1 e Q q =>
  h H1 e _ fun vs H2 e2 p => hs vs H2 (e.trans e2) p Q fun v H3 e3 p => q v H3 (e2.trans e3) p
theorem r_op {r : R2} {Pa Pb : VR} (k : Keeps Pa) (ha : EvR ta σ H Pa) (hb : EvR tb σ H Pb) (hr : ∀ x y H1, Ex H H1 → Pa x H1 → Pb y H1 → ∀ Q : VK, (∀ v H2, Ex H1 H2 → P v H2 → Q v H2) → r x y H1 Q) : EvR (tOp r ta tb) σ H P := fun H1 e Q q =>
  ha H1 e _ fun x H2 e2 p => hb H2 (e.trans e2) _ fun y H3 e3 p2 => hr x y H3 ((e.trans e2).trans e3) (k _ _ _ e3 p) p2 Q fun v H4 e4 p4 => q v H4 ((e2.trans e3).trans e4) p4
theorem v_op {r : R2} {Pa Pb : VR} (k : Keeps Pa) (ha : EvR ta σ H Pa) (hb : EvR tb σ H Pb) (hr : ∀ x y H1, Ex H H1 → Pa x H1 → Pb y H1 → ∀ Q : VK, Q z H1 → r x y H1 Q) : Ev (tOp r ta tb) σ H z := fun H1 e Q q =>
  ha H1 e _ fun x H2 e2 p => hb H2 (e.trans e2) _ fun y H3 e3 p2 => hr x y H3 ((e.trans e2).trans e3) (k _ _ _ e3 p) p2 Q (q H3 (e2.trans e3))
theorem v_cb {r : List V → Hp → VK → Prop} {ta : TA} {Pa : List V → Hp → Prop} (h : EaR ta σ H Pa) (hs : ∀ vs H1, Ex H H1 → Pa vs H1 → ∀ Q : VK, Q z H1 → r vs H1 Q) : Ev (tCB r ta) σ H z := fun H1 e Q q =>
  h H1 e _ fun vs H2 e2 p => hs vs H2 (e.trans e2) p Q (q H2 e2)
theorem r_if {t : TT} {b : Bool} (h : EvT t σ H b) (h1 : b = true → EvR ta σ H P) (h2 : b = false → EvR tb σ H P) : EvR (tIf t ta tb) σ H P := fun H1 e Q q => h H1 e _ fun H2 e2 => by
  cases b with
  | true => exact iteT (h1 rfl H2 (e.trans e2) Q fun v H3 e3 p => q v H3 (e2.trans e3) p)
  | false => exact iteF (h2 rfl H2 (e.trans e2) Q fun v H3 e3 p => q v H3 (e2.trans e3) p)
theorem r_tup {ta : TA} {vs : List V} (h : EvA ta σ H vs) (hl : vs.length ≤ 100000) : EvR (tTup ta) σ H fun v H1 => ∃ p, v = .ref p ∧ H1 p = some (.tup vs) := fun H1 e Q q =>
  eu_tup h hl H1 e Q fun p H2 _ e2 h2 => q _ H2 e2 ⟨p, rfl, h2⟩
theorem r_lst {ta : TA} {vs : List V} (h : EvA ta σ H vs) (hl : vs.length ≤ 100000) : EvR (tLst ta) σ H fun v H1 => ∃ p, v = .ref p ∧ H1 p = some (.lst vs) := fun H1 e Q q =>
  el_lst h hl H1 e Q fun p H2 _ e2 h2 => q _ H2 e2 ⟨p, rfl, h2⟩
theorem r_tupR {ta : TA} {Pa : List V → Hp → Prop} (kp : ∀ vs H H', Ex H H' → Pa vs H → Pa vs H') (h : EaR ta σ H Pa) (hl : ∀ vs H, Pa vs H → vs.length ≤ 100000) : EvR (tTup ta) σ H fun v H1 => ∃ p vs, v = .ref p ∧ H1 p = some (.tup vs) ∧ Pa vs H1 := fun H1 e Q q =>
  h H1 e _ fun vs H2 e2 p => ⟨sz_of (hl _ _ p), fun a ha => q _ _ (e2.trans (Ex.new ha)) ⟨a, vs, rfl, upd_same, kp _ _ _ (Ex.new ha) p⟩⟩
theorem r_lstR {ta : TA} {Pa : List V → Hp → Prop} (kp : ∀ vs H H', Ex H H' → Pa vs H → Pa vs H') (h : EaR ta σ H Pa) (hl : ∀ vs H, Pa vs H → vs.length ≤ 100000) : EvR (tLst ta) σ H fun v H1 => ∃ p vs, v = .ref p ∧ H1 p = some (.lst vs) ∧ Pa vs H1 := fun H1 e Q q =>
  h H1 e _ fun vs H2 e2 p => ⟨sz_of (hl _ _ p), fun a ha => q _ _ (e2.trans (Ex.new ha)) ⟨a, vs, rfl, upd_same, kp _ _ _ (Ex.new ha) p⟩⟩
/-! ### items -/
theorem r_ixL {tl ti : TE} {i : Nat} {x : V} {vs : List V} (hl : EvR tl σ H fun v H1 => ∃ a, v = .ref a ∧ SqL K H1 a vs) (hi : Ev ti σ H (.int (i : Int))) (hx : vs[i]? = some x) : Ev (tOp (rIxL K) tl ti) σ H x :=
  v_op (fun _ _ _ e ⟨a, h, q⟩ => ⟨a, h, ex_l e q⟩) hl (Ev.r hi) fun u w H1 e1 ⟨a, h, q⟩ hw Q k => ⟨a, vs, (i : Int), x, h, hw, q, atI_nat hx, k⟩
theorem r_ixT {tl ti : TE} {i : Nat} {x : V} {vs : List V} (hl : EvR tl σ H fun v H1 => ∃ a, v = .ref a ∧ SqT K H1 a vs) (hi : Ev ti σ H (.int (i : Int))) (hx : vs[i]? = some x) : Ev (tOp (rIxT K) tl ti) σ H x :=
  v_op (fun _ _ _ e ⟨a, h, q⟩ => ⟨a, h, ex_t e q⟩) hl (Ev.r hi) fun u w H1 e1 ⟨a, h, q⟩ hw Q k => ⟨a, vs, (i : Int), x, h, hw, q, atI_nat hx, k⟩
/-- an item of a list of things, the list itself only known by R -/
theorem r_ixLR {α : Type} {R : α → VR} {xs : List α} {tl ti : TE} {i : Nat} {x : α} (k : ∀ x, Keeps (R x)) (hl : EvR tl σ H (LsO K R xs)) (hi : Ev ti σ H (.int (i : Int))) (hx : xs[i]? = some x) : EvR (tOp (rIxL K) tl ti) σ H (R x) :=
  r_op (keeps_lso k) hl (Ev.r hi) fun u w H1 e1 ⟨a, vs, h, q, al⟩ hw Q kk => by
    obtain ⟨y, hy, hr⟩ := al.left hx
    exact ⟨a, vs, (i : Int), y, h, hw, q, atI_nat hy, kk y H1 (Ex.refl H1) hr⟩
theorem r_ixTR {α : Type} {R : α → VR} {xs : List α} {tl ti : TE} {i : Nat} {x : α} (k : ∀ x, Keeps (R x)) (hl : EvR tl σ H (TuO K R xs)) (hi : Ev ti σ H (.int (i : Int))) (hx : xs[i]? = some x) : EvR (tOp (rIxT K) tl ti) σ H (R x) :=
  r_op (keeps_tuo k) hl (Ev.r hi) fun u w H1 e1 ⟨a, vs, h, q, al⟩ hw Q kk => by
    obtain ⟨y, hy, hr⟩ := al.left hx
    exact ⟨a, vs, (i : Int), y, h, hw, q, atI_nat hy, kk y H1 (Ex.refl H1) hr⟩
/-! ### loops -/
theorem for_it {J : It} {Iv : Hp → Prop} (N : ItN J n Iv Y) (Pv : Nat → L2.St → Hp → Prop) (h0 : Pv 0 σ H) (hI : ∀ i σ H, Pv i σ H → Iv H)
    (hs : ∀ i σ' H1 x H2, i < n → Pv i σ' H1 → Y i H1 x H2 → g x σ' H2 fun σ2 H3 => tu { D with nx := Pv (i + 1), ct := Pv (i + 1), bk := D.nx } σ2 H3) (hd : ∀ σ' H', Pv n σ' H' → D.nx σ' H') :
    ∃ W : Nat → Nat → L2.St → Hp → Prop, (∃ m, W 0 m σ H) ∧ ∀ i m σ H, W i m σ H →
      (J.stop i H ∧ D.nx σ H) ∨ (J.go i H ∧ ∃ N : L2.St → Hp → Prop, (∀ σ' H', N σ' H' → ∃ m', m' < m ∧ W (i + 1) m' σ' H') ∧ ∀ x H', J.yld i H x H' → g x σ H' fun σ2 H2 => tu { D with nx := N, ct := N, bk := D.nx } σ2 H2) := by
  refine ⟨fun i m σ H => m = n - i ∧ i ≤ n ∧ Pv i σ H, ⟨n, by simp, Nat.zero_le _, h0⟩, ?_⟩
  rintro i m σ H ⟨rfl, hi, p⟩
  by_cases hlt : i < n
  · exact .inr ⟨N.go i H (hI _ _ _ p) hlt, Pv (i + 1), fun σ' H' p' => ⟨n - (i + 1), by omega, rfl, hlt, p'⟩, fun x H' y => hs i σ H x H' hlt p (N.yl i H x H' (hI _ _ _ p) y)⟩
  · have e : i = n := by omega
    subst e
    exact .inl ⟨N.st H (hI _ _ _ p), hd σ H p⟩
/-- for .. in ..: from the heap at the loop's start, a word of what stands after i turns -/
structure Lp (n : Nat) (Y : Nat → Hp → V → Hp → Prop) (g : TG) (tu : TS) (D : Ends) (σ : L2.St) (H : Hp) : Prop where
  mk :: ex : ∃ Pv : Nat → L2.St → Hp → Prop, Pv 0 σ H ∧ (∀ i σ' H', Pv i σ' H' → Ex H H') ∧
    (∀ i σ' H1 x H2, i < n → Pv i σ' H1 → Y i H1 x H2 → g x σ' H2 fun σ2 H3 => tu { D with nx := Pv (i + 1), ct := Pv (i + 1), bk := D.nx } σ2 H3) ∧ (∀ σ' H', Pv n σ' H' → D.nx σ' H')
theorem Lp.by {n : Nat} {Y : Nat → Hp → V → Hp → Prop} {g : TG} {tu : TS} {D : Ends} {σ : L2.St} {H : Hp} (Pv : Nat → L2.St → Hp → Prop) (h0 : Pv 0 σ H) (hI : ∀ i σ' H', Pv i σ' H' → Ex H H')
    (hs : ∀ i σ' H1 x H2, i < n → Pv i σ' H1 → Y i H1 x H2 → g x σ' H2 fun σ2 H3 => tu { D with nx := Pv (i + 1), ct := Pv (i + 1), bk := D.nx } σ2 H3) (hd : ∀ σ' H', Pv n σ' H' → D.nx σ' H') : Lp n Y g tu D σ H := ⟨Pv, h0, hI, hs, hd⟩
theorem r_for1 (h : EvI wi σ H n Y) (k : ∀ H1, Ex H H1 → Lp n Y g tu D σ H1) : tFor wi g tu D σ H :=
  h H (Ex.refl H) _ fun J H2 e2 N => by
    obtain ⟨Pv, h0, hI, hs, hd⟩ := (k H2 e2).ex
    exact for_it N Pv h0 hI hs hd
theorem r_for (h : EvI wi σ H n Y) (k : ∀ H1, Ex H H1 → Lp n Y g tu { D with nx := tz D } σ H1) : tSeq (tFor wi g tu) tz D σ H := r_for1 (D := { D with nx := tz D }) h k
/-! ### what is walked -/
def YL (xs : List V) : Nat → Hp → V → Hp → Prop := fun i H x H' => H' = H ∧ xs[i]? = some x
def YR (lo : Int) : Nat → Hp → V → Hp → Prop := fun i H x H' => H' = H ∧ x = .int (lo + i)
def YS (z : Str) : Nat → Hp → V → Hp → Prop := fun i H x H' => H' = H ∧ ∃ c, z.cps[i]? = some c ∧ x = .str ⟨#[c]⟩
/-- a new pair -/
def YP (P : Nat → V → V → Prop) : Nat → Hp → V → Hp → Prop := fun i H x H' => ∃ T a b, x = .ref T ∧ H T = none ∧ H' = upd H T (.tup [a, b]) ∧ P i a b
theorem ex_back {H2 H : Hp} {K : PySem.W.Frag} {a : Addr} {xs ys : List V} (h : SqT K H a xs) (h' : SqT K H a ys) (e : ∀ zs, SqT K H a zs → zs = xs) : ys = xs := e _ h'
theorem ei_list {tl : TE} {vs : List V} (hl : EvR tl σ H fun v H1 => ∃ a, v = .ref a ∧ SqL K H1 a vs) : EvI (iList K tl) σ H vs.length (YL vs) := fun H1 e R k =>
  hl H1 e _ fun v H2 e2 ⟨a, h, q⟩ => ⟨a, h, ⟨vs, q⟩, k _ H2 e2
    { go := fun i H' e' hi => ⟨vs, vs[i], ex_l e' q, by simp [hi]⟩
      st := fun H' e' => ⟨vs, ex_l e' q, Nat.le_refl _⟩
      yl := fun i H' x H'' e' ⟨h1, h2⟩ => ⟨h1, h2 vs (ex_l e' q)⟩ }⟩
theorem ei_tup {tl : TE} {vs : List V} (hl : EvR tl σ H fun v H1 => ∃ a, v = .ref a ∧ SqT K H1 a vs) : EvI (iTup K tl) σ H vs.length (YL vs) := fun H1 e R k =>
  hl H1 e _ fun v H2 e2 ⟨a, h, q⟩ => ⟨a, h, ⟨vs, q⟩, k _ H2 e2
    { go := fun i H' e' hi => ⟨vs, vs[i], ex_t e' q, by simp [hi]⟩
      st := fun H' e' => ⟨vs, ex_t e' q, Nat.le_refl _⟩
      yl := fun i H' x H'' e' ⟨h1, h2⟩ => ⟨h1, h2 vs (ex_t e' q)⟩ }⟩
/-- .. of things -/
def YA {α : Type} (R : α → VR) (xs : List α) : Nat → Hp → V → Hp → Prop := fun i H v H' => H' = H ∧ ∃ x, xs[i]? = some x ∧ R x v H
theorem ei_listR {α : Type} {R : α → VR} {xs : List α} {tl : TE} (kr : ∀ x, Keeps (R x)) (hl : EvR tl σ H (LsO K R xs)) : EvI (iList K tl) σ H xs.length (YA R xs) := fun H1 e R' k =>
  hl H1 e _ fun v H2 e2 ⟨a, vs, h, q, al⟩ => ⟨a, h, ⟨vs, q⟩, k _ H2 e2
    { go := fun i H' e' hi => ⟨vs, vs[i]'(by rw [← al.len]; exact hi), ex_l e' q, by simp⟩
      st := fun H' e' => ⟨vs, ex_l e' q, by rw [al.len]; exact Nat.le_refl _⟩
      yl := fun i H' x H'' e' ⟨h1, h2⟩ => ⟨h1, let ⟨y, hy, hr⟩ := al.right (h2 vs (ex_l e' q)); ⟨y, hy, kr _ _ _ _ e' hr⟩⟩ }⟩
theorem ei_tupR {α : Type} {R : α → VR} {xs : List α} {tl : TE} (kr : ∀ x, Keeps (R x)) (hl : EvR tl σ H (TuO K R xs)) : EvI (iTup K tl) σ H xs.length (YA R xs) := fun H1 e R' k =>
  hl H1 e _ fun v H2 e2 ⟨a, vs, h, q, al⟩ => ⟨a, h, ⟨vs, q⟩, k _ H2 e2
    { go := fun i H' e' hi => ⟨vs, vs[i]'(by rw [← al.len]; exact hi), ex_t e' q, by simp⟩
      st := fun H' e' => ⟨vs, ex_t e' q, by rw [al.len]; exact Nat.le_refl _⟩
      yl := fun i H' x H'' e' ⟨h1, h2⟩ => ⟨h1, let ⟨y, hy, hr⟩ := al.right (h2 vs (ex_t e' q)); ⟨y, hy, kr _ _ _ _ e' hr⟩⟩ }⟩
theorem ei_str {tl : TE} {z : Str} (hl : Ev tl σ H (.str z)) : EvI (iStr tl) σ H z.cps.size (YS z) := fun H1 e R k =>
  hl H1 e _ fun H2 e2 => ⟨z, rfl, k _ H2 e2 { go := fun _ _ _ hi => hi, st := fun _ _ => Nat.le_refl _, yl := fun _ _ _ _ _ h => h }⟩
theorem ei_range {ta : TA} {m : Int} (h : EvA ta σ H [.int m]) (hm : 0 ≤ m ∧ m ≤ 100000) : EvI (iRng1 ta) σ H m.toNat (YR 0) := fun H1 e R k =>
  h H1 e _ fun H2 e2 => ⟨m, rfl, by omega, by omega, k _ H2 e2 { go := fun _ _ _ hi => hi, st := fun _ _ => Nat.le_refl _, yl := fun _ _ _ _ _ h => h }⟩
theorem ei_range2 {ta : TA} {lo m : Int} (h : EvA ta σ H [.int lo, .int m]) (hm : 0 ≤ lo ∧ lo ≤ 100000 ∧ 0 ≤ m ∧ m ≤ 100000) : EvI (iRng2 ta) σ H (m - lo).toNat (YR lo) := fun H1 e R k =>
  h H1 e _ fun H2 e2 => ⟨lo, m, rfl, ⟨by omega, by omega, by omega, by omega⟩, k _ H2 e2 { go := fun _ _ _ hi => hi, st := fun _ _ => Nat.le_refl _, yl := fun _ _ _ _ _ h => h }⟩
theorem ei_enumT {α : Type} {R : α → VR} {xs : List α} {tl : TE} (kr : ∀ x, Keeps (R x)) (hl : EvR tl σ H (TuO K R xs)) :
    EvI (iEnumT K (tCons tl tNil)) σ H xs.length (fun i H v H' => ∃ T y x, v = .ref T ∧ H T = none ∧ H' = upd H T (.tup [.int (i : Nat), y]) ∧ xs[i]? = some x ∧ R x y H) := fun H1 e R' k =>
  hl H1 e _ fun v H2 e2 ⟨a, vs, h, q, al⟩ => ⟨a, vs, by rw [h], q, k _ H2 e2
    { go := fun i H' e' hi => ⟨vs, vs[i]'(by rw [← al.len]; exact hi), ex_t e' q, by simp⟩
      st := fun H' e' => ⟨vs, ex_t e' q, al.len.symm⟩
      yl := fun i H' x H'' e' ⟨T, y, h1, h2, h3, h4⟩ => let ⟨z, hz, hr⟩ := al.right (h4 vs (ex_t e' q)); ⟨T, y, z, h1, h2, h3, hz, kr _ _ _ _ e' hr⟩ }⟩
theorem ei_enumL {α : Type} {R : α → VR} {xs : List α} {tl : TE} (kr : ∀ x, Keeps (R x)) (hl : EvR tl σ H (LsO K R xs)) :
    EvI (iEnum K (tCons tl tNil)) σ H xs.length (fun i H v H' => ∃ T y x, v = .ref T ∧ H T = none ∧ H' = upd H T (.tup [.int (i : Nat), y]) ∧ xs[i]? = some x ∧ R x y H) := fun H1 e R' k =>
  hl H1 e _ fun v H2 e2 ⟨a, vs, h, q, al⟩ => ⟨a, vs, by rw [h], q, k _ H2 e2
    { go := fun i H' e' hi => ⟨vs, vs[i]'(by rw [← al.len]; exact hi), ex_l e' q, by simp⟩
      st := fun H' e' => ⟨vs, ex_l e' q, al.len.symm ▸ Nat.le_refl _⟩
      yl := fun i H' x H'' e' ⟨T, y, h1, h2, h3, h4⟩ => let ⟨z, hz, hr⟩ := al.right (h4 vs (ex_l e' q)); ⟨T, y, z, h1, h2, h3, hz, kr _ _ _ _ e' hr⟩ }⟩
theorem ei_enumS {tl : TE} {z : Str} (hl : Ev tl σ H (.str z)) :
    EvI (iEnumS (tCons tl tNil)) σ H z.cps.size (fun i H v H' => ∃ T c, v = .ref T ∧ H T = none ∧ H' = upd H T (.tup [.int (i : Nat), .str ⟨#[c]⟩]) ∧ z.cps[i]? = some c) := fun H1 e R k =>
  hl H1 e _ fun H2 e2 => ⟨z, rfl, k _ H2 e2 { go := fun _ _ _ hi => hi, st := fun _ _ => rfl, yl := fun _ _ _ _ _ h => h }⟩
/-! ### targets -/
variable {T : Addr} {a b c d e f : V} {Q : L2.St → Hp → Prop} {i j k l m o : Nat}
theorem g2n (hT : SqT K H T [a, b]) (h : Q ((σ.set i (some a)).set j (some b)) H) : gTup K 2 (gCons (gName i) (gCons (gName j) gNil)) (.ref T) σ H Q := ⟨T, _, rfl, hT, rfl, _, _, rfl, _, _, rfl, rfl, h⟩
theorem g3n (hT : SqT K H T [a, b, c]) (h : Q (((σ.set i (some a)).set j (some b)).set k (some c)) H) : gTup K 3 (gCons (gName i) (gCons (gName j) (gCons (gName k) gNil))) (.ref T) σ H Q := ⟨T, _, rfl, hT, rfl, _, _, rfl, _, _, rfl, _, _, rfl, rfl, h⟩
theorem g4n (hT : SqT K H T [a, b, c, d]) (h : Q ((((σ.set i (some a)).set j (some b)).set k (some c)).set l (some d)) H) : gTup K 4 (gCons (gName i) (gCons (gName j) (gCons (gName k) (gCons (gName l) gNil)))) (.ref T) σ H Q :=
  ⟨T, _, rfl, hT, rfl, _, _, rfl, _, _, rfl, _, _, rfl, _, _, rfl, rfl, h⟩
theorem g6n (hT : SqT K H T [a, b, c, d, e, f]) (h : Q ((((((σ.set i (some a)).set j (some b)).set k (some c)).set l (some d)).set m (some e)).set o (some f)) H) :
    gTup K 6 (gCons (gName i) (gCons (gName j) (gCons (gName k) (gCons (gName l) (gCons (gName m) (gCons (gName o) gNil)))))) (.ref T) σ H Q :=
  ⟨T, _, rfl, hT, rfl, _, _, rfl, _, _, rfl, _, _, rfl, _, _, rfl, _, _, rfl, _, _, rfl, rfl, h⟩
theorem g2t {S : Addr} (hT : SqT K H T [a, .ref S]) (hS : SqT K H S [b, c]) (h : Q (((σ.set i (some a)).set j (some b)).set k (some c)) H) :
    gTup K 2 (gCons (gName i) (gCons (gTup K 2 (gCons (gName j) (gCons (gName k) gNil))) gNil)) (.ref T) σ H Q :=
  ⟨T, _, rfl, hT, rfl, _, _, rfl, _, _, rfl, S, _, rfl, hS, rfl, _, _, rfl, _, _, rfl, rfl, rfl, h⟩
/-! ### comprehensions -/
/-- which turns give -/
def giv (n : Nat) (f : Nat → Bool) : List Nat := (List.range n).filter f
theorem giv_yes {n : Nat} {f : Nat → Bool} (h : f n = true) : giv (n + 1) f = giv n f ++ [n] := by
  unfold giv
  rw [List.range_succ, List.filter_append, List.filter_cons, if_pos h] <;> rfl
theorem giv_no {n : Nat} {f : Nat → Bool} (h : f n = false) : giv (n + 1) f = giv n f := by
  unfold giv
  rw [List.range_succ, List.filter_append, List.filter_cons, if_neg (by rw [h]; decide)]
  exact List.append_nil _
theorem giv_len (n : Nat) (f : Nat → Bool) : (giv n f).length ≤ n := by
  unfold giv
  have h := List.length_filter_le f (List.range n)
  rw [List.length_range] at h
  exact h
/-- .. and what is known of it stands, however the lists of before change -/
def EvG (te : TE) (σ : L2.St) (H : Hp) (P : VR) : Prop := ∀ H1, Ex H H1 → ∀ Q : VK, (∀ v H2, Ex H1 H2 → P v H2 → (∀ D zs zs', H1 D = some (.lst zs) → P v (upd H2 D (.lst zs'))) → Q v H2) → te σ H1 Q
/-- no list is looked at -/
def StF (P : VR) : Prop := ∀ v H D zs zs', H D = some (.lst zs) → P v H → P v (upd H D (.lst zs'))
theorem stF_is {z : V} : StF (Is z) := fun _ _ _ _ _ _ h => h
theorem sqT_upd {H : Hp} {D a : Addr} {zs zs' xs : List V} (hD : H D = some (.lst zs)) (h : SqT K H a xs) : SqT K (upd H D (.lst zs')) a xs := by
  rcases h with h | h
  · refine .inl ?_
    rcases h with h | ⟨o, h⟩
    · exact .inl (by rw [upd_ne (fun z => by rw [z, hD] at h; cases h)]; exact h)
    · exact .inr ⟨o, by rw [upd_ne (fun z => by rw [z, hD] at h; cases h)]; exact h⟩
  · exact .inr h
theorem stF_rc {α : Type} {enc : α → List V} {x : α} : StF (Rc K enc x) := fun _ _ _ _ _ hD ⟨a, h, q⟩ => ⟨a, h, sqT_upd hD q⟩
theorem EvR.gg (h : EvR te σ H P) (st : StF P) : EvG te σ H P := fun H1 e Q q => h H1 e Q fun v H2 e2 p => q v H2 e2 p fun D zs zs' hD => st v H2 D zs zs' (e2 _ _ hD) p
theorem upd_two {H : Hp} {D : Addr} {o o' : HO} : upd (upd H D o) D o' = upd H D o' := by
  funext b
  by_cases h : b = D
  · rw [h, upd_same, upd_same]
  · rw [upd_ne h, upd_ne h, upd_ne h]
theorem upd_self {H : Hp} {D : Addr} {o : HO} (h : H D = some o) : upd H D o = H := by
  funext b
  by_cases e : b = D
  · rw [e, upd_same, h]
  · rw [upd_ne e]
theorem ex_both {D : Addr} {o : HO} (e : Ex H H') : Ex (upd H D o) (upd H' D o) := fun a u h => by
  by_cases z : a = D
  · rw [z, upd_same] at h ⊢
    exact h
  · rw [upd_ne z] at h ⊢
    exact e a u h
/-- [te for g in wi if tt]: E i what the i-th turn's value says -/
theorem r_lc {tt : TT} {vs : List Nat} (E : Nat → VR) (f : Nat → Bool) (kE : ∀ i, Keeps (E i)) (h : EvI wi σ H n Y) (hn : n ≤ 50000)
    (hs : ∀ i x H1 H2, i < n → Ex H H1 → Y i H1 x H2 → Ex H1 H2 ∧ ∃ σ2, (∀ Q : L2.St → Hp → Prop, Q σ2 H2 → g x (wipe σ vs) H2 Q) ∧ wipe σ2 vs = wipe σ vs ∧ EvT tt σ2 H2 (f i) ∧ (f i = true → EvG te σ2 H2 (E i))) :
    ∀ H1, Ex H H1 → ∀ Q : VK, (∀ v H2, Ex H1 H2 → (∃ a ys, v = .ref a ∧ H1 a = none ∧ H2 a = some (.lst ys) ∧ Al (fun i v => E i v H2) (giv n f) ys) → Q v H2) → tLc wi g tt te vs σ H1 Q := fun H1 e1 Qf q =>
  h H1 e1 _ fun J H2 e2 N => fun Dl hD => by
    refine ⟨fun i m H' => m = n - i ∧ i ≤ n ∧ Ex H2 H' ∧ ∃ ys, H' Dl = some (.lst ys) ∧ Al (fun i v => ∀ zs, E i v (upd H' Dl (.lst zs))) (giv i f) ys, ⟨n, by simp, Nat.zero_le _, Ex.new hD, [], upd_same, Al.nil⟩, ?_⟩
    rintro i m H' ⟨rfl, hi, ex, ys, hy, al⟩
    by_cases hlt : i < n
    · refine .inr ⟨N.go i H' ex hlt, fun H'' => Ex H2 H'' ∧ ∃ ys, H'' Dl = some (.lst ys) ∧ Al (fun i v => ∀ zs, E i v (upd H'' Dl (.lst zs))) (giv (i + 1) f) ys, fun H'' p => ⟨n - (i + 1), by omega, rfl, hlt, p⟩, fun x H3 y => ?_⟩
      obtain ⟨e3, σ2, hg, z1, z2, z3⟩ := hs i x H' H3 hlt ((e1.trans e2).trans ex) (N.yl i H' x H3 ex y)
      refine hg _ ⟨z1, z2 H3 (Ex.refl H3) _ fun H5 e5 => ?_⟩
      cases hf : f i with
      | true =>
        refine iteT (z3 hf H5 e5 _ fun v H6 e6 hv hst => ⟨ys, e6 _ _ (e5 _ _ (e3 _ _ hy)), ?_, ?_, ys ++ [v], upd_same, ?_⟩)
        · have hl := al.len
          have := giv_len i f
          exact sz_lt (by omega)
        · exact Ex.mut (((ex.trans e3).trans e5).trans e6) hD
        · rw [giv_yes hf]
          refine Al.snoc (al.mono fun j w hw zs => ?_) fun zs => ?_
          · rw [upd_two]
            exact kE j w _ _ (ex_both ((e3.trans e5).trans e6)) (hw zs)
          · rw [upd_two]
            exact hst Dl ys zs (e5 _ _ (e3 _ _ hy))
      | false =>
        refine iteF ⟨(ex.trans e3).trans e5, ys, e5 _ _ (e3 _ _ hy), ?_⟩
        rw [giv_no hf]
        exact al.mono fun x v hv zs => kE x v _ _ (ex_both (e3.trans e5)) (hv zs)
    · have e : i = n := by omega
      subst e
      refine .inl ⟨N.st H' ex, q _ H' (e2.trans ex) ⟨Dl, ys, rfl, fresh_back e2 hD, hy, al.mono fun j w hw => ?_⟩⟩
      have := hw ys
      rw [upd_self hy] at this
      exact this
theorem r_lcO {tt : TT} {vs : List Nat} (E : Nat → VR) (f : Nat → Bool) (kE : ∀ i, Keeps (E i)) (h : EvI wi σ H n Y) (hn : n ≤ 50000)
    (hs : ∀ i x H1 H2, i < n → Ex H H1 → Y i H1 x H2 → Ex H1 H2 ∧ ∃ σ2, (∀ Q : L2.St → Hp → Prop, Q σ2 H2 → g x (wipe σ vs) H2 Q) ∧ wipe σ2 vs = wipe σ vs ∧ EvT tt σ2 H2 (f i) ∧ (f i = true → EvG te σ2 H2 (E i))) :
    EvR (tLc wi g tt te vs) σ H (LsN E (giv n f)) := fun H1 e Q q => r_lc E f kE h hn hs H1 e Q fun v H2 e2 ⟨a, ys, h1, _, h3, h4⟩ => q v H2 e2 ⟨a, ys, h1, h3, h4⟩
/-- a list that is made as an item of a list -/
theorem r_lcG {tt : TT} {vs : List Nat} (E : Nat → VR) (f : Nat → Bool) (kE : ∀ i, Keeps (E i)) (sE : ∀ i, StF (E i)) (h : EvI wi σ H n Y) (hn : n ≤ 50000)
    (hs : ∀ i x H1 H2, i < n → Ex H H1 → Y i H1 x H2 → Ex H1 H2 ∧ ∃ σ2, (∀ Q : L2.St → Hp → Prop, Q σ2 H2 → g x (wipe σ vs) H2 Q) ∧ wipe σ2 vs = wipe σ vs ∧ EvT tt σ2 H2 (f i) ∧ (f i = true → EvG te σ2 H2 (E i))) :
    EvG (tLc wi g tt te vs) σ H (LsN E (giv n f)) := fun H1 e Q q => r_lc E f kE h hn hs H1 e Q fun v H2 e2 ⟨a, ys, h1, h2, h3, h4⟩ => q v H2 e2 ⟨a, ys, h1, h3, h4⟩ fun D zs zs' hD =>
  ⟨a, ys, h1, by rw [upd_ne (fun z => by rw [z, hD] at h2; cases h2)]; exact h3, h4.mono fun i v hv => sE i v H2 D zs zs' (e2 _ _ hD) hv⟩
/-! ### what stands while lists and dicts change -/
def MutO : HO → Bool
  | .lst _ => true
  | .dK _ => true
  | .dT _ => true
  | _ => false
def ExM (M : Addr → Prop) (h h' : Hp) : Prop := ∀ a o, ¬ M a → h a = some o → h' a = some o
def MutA (M : Addr → Prop) (h : Hp) : Prop := ∀ a, M a → ∃ o, h a = some o ∧ MutO o = true
theorem ExM.refl (M : Addr → Prop) (h : Hp) : ExM M h h := fun _ _ _ e => e
theorem ExM.trans {M : Addr → Prop} {h h1 h2 : Hp} (a : ExM M h h1) (b : ExM M h1 h2) : ExM M h h2 := fun x o n e => b x o n (a x o n e)
theorem ExM.ex {M : Addr → Prop} {h h1 : Hp} (a : Ex h h1) : ExM M h h1 := fun x o _ e => a x o e
theorem ExM.set {M : Addr → Prop} {h h1 : Hp} {p : Addr} {o : HO} (a : ExM M h h1) (hp : M p) : ExM M h (upd h1 p o) := fun x u n e => by
  have ne : x ≠ p := fun z => n (by rw [z]; exact hp)
  rw [upd_ne ne]
  exact a x u n e
theorem MutA.ex {M : Addr → Prop} {h h1 : Hp} (m : MutA M h) (a : Ex h h1) : MutA M h1 := fun x hx => let ⟨o, e, q⟩ := m x hx; ⟨o, a x o e, q⟩
theorem MutA.set {M : Addr → Prop} {h : Hp} {p : Addr} {o : HO} (m : MutA M h) (ho : MutO o = true) : MutA M (upd h p o) := fun x hx => by
  by_cases z : x = p
  · rw [z, upd_same]; exact ⟨o, rfl, ho⟩
  · rw [upd_ne z]; exact m x hx
def Ro (P : VR) : Prop := ∀ v M h h', MutA M h → ExM M h h' → P v h → P v h'
theorem Ro.keeps {P : VR} (r : Ro P) : Keeps P := fun v h h' e p => r v (fun _ => False) h h' (fun _ f => f.elim) (fun a o _ q => e a o q) p
theorem sqT_ro {K : PySem.W.Frag} {M : Addr → Prop} {h h' : Hp} {a : Addr} {xs : List V} (m : MutA M h) (e : ExM M h h') (q : SqT K h a xs) : SqT K h' a xs := by
  have ne : ∀ o, h a = some o → MutO o = false → ¬ M a := fun o e1 e2 hm => by
    obtain ⟨o', e3, e4⟩ := m a hm
    rw [e1] at e3
    cases e3
    rw [e2] at e4
    cases e4
  rcases q with (q | ⟨o, q⟩) | q
  · exact .inl (.inl (e _ _ (ne _ q rfl) q))
  · exact .inl (.inr ⟨o, e _ _ (ne _ q rfl) q⟩)
  · exact .inr q
theorem tup_ro {M : Addr → Prop} {h h' : Hp} {a : Addr} {xs : List V} (m : MutA M h) (e : ExM M h h') (q : h a = some (.tup xs)) : h' a = some (.tup xs) := e _ _ (fun hm => by
  obtain ⟨o', e3, e4⟩ := m a hm
  rw [q] at e3
  cases e3
  cases e4) q
theorem ro_is {z : V} : Ro (Is z) := fun _ _ _ _ _ _ h => h
theorem ro_rc {α : Type} {enc : α → List V} {x : α} : Ro (Rc K enc x) := fun _ _ _ _ m e ⟨a, h, q⟩ => ⟨a, h, sqT_ro m e q⟩
theorem ro_tuo {α : Type} {R : α → VR} {xs : List α} (r : ∀ x, Ro (R x)) : Ro (TuO K R xs) := fun _ _ _ _ m e ⟨a, vs, h, q, al⟩ => ⟨a, vs, h, sqT_ro m e q, al.mono fun x v => r x v _ _ _ m e⟩
theorem Ro.stF {P : VR} (r : Ro P) : StF P := fun v H D zs zs' hD p => r v (fun a => a = D) _ _ (fun a e => ⟨.lst zs, by have e' : a = D := e; subst e'; exact hD, rfl⟩) (fun a o n e => by rw [upd_ne n]; exact e) p
/-- .. and is new -/
def EvF (te : TE) (σ : L2.St) (H : Hp) (P : VR) : Prop := ∀ H1, Ex H H1 → ∀ Q : VK, (∀ v H2, Ex H1 H2 → (∀ a, v = .ref a → H1 a = none) → P v H2 → Q v H2) → te σ H1 Q
theorem EvF.rr (h : EvF te σ H P) : EvR te σ H P := fun H1 e Q q => h H1 e Q fun v H2 e2 _ p => q v H2 e2 p
theorem EvF.mono (e : Ex H H') (h : EvF te σ H P) : EvF te σ H' P := fun H1 a Q q => h H1 (e.trans a) Q q
def EvJ (wi : TI) (σ : L2.St) (H : Hp) (n : Nat) (Y : Nat → Hp → V → Hp → Prop) : Prop := ∀ H1, Ex H H1 → ∀ R : It → Hp → Prop,
  (∀ J H2 (Iv : Hp → Prop), Ex H1 H2 → Iv H2 → (∀ M h h', MutA M H1 → MutA M h → ExM M h h' → Iv h → Iv h') → ItN J n Iv Y → R J H2) → wi σ H1 R
theorem EvJ.ii (h : EvJ wi σ H n Y) : EvI wi σ H n Y := fun H1 e R k => h H1 e R fun J H2 Iv e2 i st N => k J H2 e2
  { go := fun j h ex hj => N.go j h (st (fun _ => False) _ _ (fun _ f => f.elim) (fun _ f => f.elim) (fun a o _ q => ex a o q) i) hj
    st := fun h ex => N.st h (st (fun _ => False) _ _ (fun _ f => f.elim) (fun _ f => f.elim) (fun a o _ q => ex a o q) i)
    yl := fun j h x h' ex y => N.yl j h x h' (st (fun _ => False) _ _ (fun _ f => f.elim) (fun _ f => f.elim) (fun a o _ q => ex a o q) i) y }
theorem EvJ.mono (e : Ex H H') (h : EvJ wi σ H n Y) : EvJ wi σ H' n Y := fun H1 a R q => h H1 (e.trans a) R q
theorem ej_str {tl : TE} {z : Str} (hl : Ev tl σ H (.str z)) : EvJ (iStr tl) σ H z.cps.size (YS z) := fun H1 e R k =>
  hl H1 e _ fun H2 e2 => ⟨z, rfl, k _ H2 (fun _ => True) e2 trivial (fun _ _ _ _ _ _ _ => trivial) { go := fun _ _ _ hi => hi, st := fun _ _ => Nat.le_refl _, yl := fun _ _ _ _ _ h => h }⟩
theorem ej_enumS {tl : TE} {z : Str} (hl : Ev tl σ H (.str z)) :
    EvJ (iEnumS (tCons tl tNil)) σ H z.cps.size (fun i H v H' => ∃ T c, v = .ref T ∧ H T = none ∧ H' = upd H T (.tup [.int (i : Nat), .str ⟨#[c]⟩]) ∧ z.cps[i]? = some c) := fun H1 e R k =>
  hl H1 e _ fun H2 e2 => ⟨z, rfl, k _ H2 (fun _ => True) e2 trivial (fun _ _ _ _ _ _ _ => trivial) { go := fun _ _ _ hi => hi, st := fun _ _ => rfl, yl := fun _ _ _ _ _ h => h }⟩
theorem ej_range {ta : TA} {m : Int} (h : EvA ta σ H [.int m]) (hm : 0 ≤ m ∧ m ≤ 100000) : EvJ (iRng1 ta) σ H m.toNat (YR 0) := fun H1 e R k =>
  h H1 e _ fun H2 e2 => ⟨m, rfl, by omega, by omega, k _ H2 (fun _ => True) e2 trivial (fun _ _ _ _ _ _ _ => trivial) { go := fun _ _ _ hi => hi, st := fun _ _ => Nat.le_refl _, yl := fun _ _ _ _ _ h => h }⟩
theorem ej_tupR {α : Type} {R : α → VR} {xs : List α} {tl : TE} (r : ∀ x, Ro (R x)) (hl : EvR tl σ H (TuO K R xs)) : EvJ (iTup K tl) σ H xs.length (YA R xs) := fun H1 e R' k =>
  hl H1 e _ fun v H2 e2 ⟨a, vs, h, q, al⟩ => ⟨a, h, ⟨vs, q⟩, k _ H2 (fun h => SqT K h a vs ∧ Al (fun x v => R x v h) xs vs) e2 ⟨q, al⟩ (fun M h h' _ m ex ⟨q, al⟩ => ⟨sqT_ro m ex q, al.mono fun x v => r x v _ _ _ m ex⟩)
    { go := fun i H' e' hi => ⟨vs, vs[i]'(by rw [← al.len]; exact hi), e'.1, by simp⟩
      st := fun H' e' => ⟨vs, e'.1, by rw [al.len]; exact Nat.le_refl _⟩
      yl := fun i H' x H'' e' ⟨h1, h2⟩ => ⟨h1, e'.2.right (h2 vs e'.1)⟩ }⟩
theorem ej_enumT {α : Type} {R : α → VR} {xs : List α} {tl : TE} (r : ∀ x, Ro (R x)) (hl : EvR tl σ H (TuO K R xs)) :
    EvJ (iEnumT K (tCons tl tNil)) σ H xs.length (fun i H v H' => ∃ T y x, v = .ref T ∧ H T = none ∧ H' = upd H T (.tup [.int (i : Nat), y]) ∧ xs[i]? = some x ∧ R x y H) := fun H1 e R' k =>
  hl H1 e _ fun v H2 e2 ⟨a, vs, h, q, al⟩ => ⟨a, vs, by rw [h], q, k _ H2 (fun h => SqT K h a vs ∧ Al (fun x v => R x v h) xs vs) e2 ⟨q, al⟩ (fun M h h' _ m ex ⟨q, al⟩ => ⟨sqT_ro m ex q, al.mono fun x v => r x v _ _ _ m ex⟩)
    { go := fun i H' e' hi => ⟨vs, vs[i]'(by rw [← al.len]; exact hi), e'.1, by simp⟩
      st := fun H' e' => ⟨vs, e'.1, al.len.symm⟩
      yl := fun i H' x H'' e' ⟨T, y, h1, h2, h3, h4⟩ => let ⟨z, hz, hr⟩ := e'.2.right (h4 vs e'.1); ⟨T, y, z, h1, h2, h3, hz, hr⟩ }⟩
/-- a new list -/
theorem ej_listF {α : Type} {R : α → VR} {xs : List α} {tl : TE} (r : ∀ x, Ro (R x)) (hl : EvF tl σ H (LsN R xs)) : EvJ (iList K tl) σ H xs.length (YA R xs) := fun H1 e R' k =>
  hl H1 e _ fun v H2 e2 nw ⟨a, vs, hv, q, al⟩ => ⟨a, hv, ⟨vs, sq_of q⟩, k _ H2 (fun h => h a = some (.lst vs) ∧ Al (fun x v => R x v h) xs vs) e2 ⟨q, al⟩ (fun M h h' m0 m ex ⟨q, al⟩ => ⟨ex _ _ (fun hm => by
      obtain ⟨o, e1, _⟩ := m0 a hm
      rw [nw a hv] at e1
      cases e1) q, al.mono fun x v => r x v _ _ _ m ex⟩)
    { go := fun i H' e' hi => ⟨vs, vs[i]'(by rw [← al.len]; exact hi), sq_of e'.1, by simp⟩
      st := fun H' e' => ⟨vs, sq_of e'.1, by rw [al.len]; exact Nat.le_refl _⟩
      yl := fun i H' x H'' e' ⟨h1, h2⟩ => ⟨h1, e'.2.right (h2 vs (sq_of e'.1))⟩ }⟩
/-- for .. in ..: the lists and dicts of M change -/
theorem r_forM1 (h : EvJ wi σ H n Y) (M : Addr → Prop) (hM : MutA M H) (k : ∀ H1, Ex H H1 → ∃ Pv : Nat → L2.St → Hp → Prop, Pv 0 σ H1 ∧ (∀ i σ' H', Pv i σ' H' → ExM M H1 H') ∧
    (∀ i σ' H1 x H2, i < n → Pv i σ' H1 → Y i H1 x H2 → g x σ' H2 fun σ2 H3 => tu { D with nx := Pv (i + 1), ct := Pv (i + 1), bk := D.nx } σ2 H3) ∧ (∀ σ' H', Pv n σ' H' → D.nx σ' H')) : tFor wi g tu D σ H :=
  h H (Ex.refl H) _ fun J H2 Iv e2 i st N => by
    obtain ⟨Pv, h0, hI, hs, hd⟩ := k H2 e2
    exact for_it N Pv h0 (fun i' σ' H' p => st M H2 H' hM (hM.ex e2) (hI i' σ' H' p) i) hs hd
theorem r_forM (h : EvJ wi σ H n Y) (M : Addr → Prop) (hM : MutA M H) (k : ∀ H1, Ex H H1 → ∃ Pv : Nat → L2.St → Hp → Prop, Pv 0 σ H1 ∧ (∀ i σ' H', Pv i σ' H' → ExM M H1 H') ∧
    (∀ i σ' H1 x H2, i < n → Pv i σ' H1 → Y i H1 x H2 → g x σ' H2 fun σ2 H3 => tu { D with nx := Pv (i + 1), ct := Pv (i + 1), bk := tz D } σ2 H3) ∧ (∀ σ' H', Pv n σ' H' → tz D σ' H')) : tSeq (tFor wi g tu) tz D σ H :=
  r_forM1 (D := { D with nx := tz D }) h M hM k
theorem ex_of {M : Addr → Prop} {H0 H2 H3 : Hp} (e : Ex H0 H2) (hM : ∀ a, M a → H0 a = none) (x : ExM M H2 H3) : Ex H0 H3 := fun a o h => x a o (fun m => by rw [hM a m] at h; cases h) (e a o h)
theorem f_call {sp : Sp} {ta : TA} {vs : List V} (h : EvA ta σ H vs) (hs : ∀ H1, Ex H H1 → ∀ Q : VK, (∀ v H2, Ex H1 H2 → (∀ a, v = .ref a → H1 a = none) → P v H2 → Q v H2) → sp vs H1 Q E0) : EvF (tCall sp [] E0 ta) σ H P := fun H1 e Q q =>
  h H1 e _ fun H2 e2 => by
    show sp (vs ++ []) H2 Q E0
    rw [List.append_nil]
    exact hs H2 (e.trans e2) Q fun v H3 e3 f p => q v H3 (e2.trans e3) (fun a h => fresh_back e2 (f a h)) p
theorem f_callR {sp : Sp} {ta : TA} {Pa : List V → Hp → Prop} (h : EaR ta σ H Pa) (hs : ∀ vs H1, Ex H H1 → Pa vs H1 → ∀ Q : VK, (∀ v H2, Ex H1 H2 → (∀ a, v = .ref a → H1 a = none) → P v H2 → Q v H2) → sp vs H1 Q E0) : EvF (tCall sp [] E0 ta) σ H P := fun H1 e Q q =>
  h H1 e _ fun vs H2 e2 p => by
    show sp (vs ++ []) H2 Q E0
    rw [List.append_nil]
    exact hs vs H2 (e.trans e2) p Q fun v H3 e3 f p => q v H3 (e2.trans e3) (fun a h => fresh_back e2 (f a h)) p
theorem EvR.vv (h : EvR te σ H (Is z)) : Ev te σ H z := fun H1 e Q q => h H1 e Q fun v H2 e2 hv => by
  have hv : v = z := hv
  rw [hv]
  exact q H2 e2
theorem f_asg {i : Nat} (h : EvF te σ H P) (k : ∀ v H1, Ex H H1 → (∀ a, v = .ref a → H a = none) → P v H1 → tz D (σ.set i (some v)) H1) : tSeq (tAsg te (gName i)) tz D σ H := h H (Ex.refl H) _ k
end
end HdX
end

section
set_option Elab.async false
set_option linter.all false
set_option maxRecDepth 100000
set_option maxHeartbeats 4000000
namespace HdX
open PySem L2 Evl
open TT hiding Run
abbrev Rn := TT.Run
/-! ### runs as texts -/
def lt (b : Bool) : Nat := if b then 97 else 98
def rs (r : Rn) : Str := ⟨(r.map lt).toArray⟩
theorem lt_inj {a b : Bool} : lt a = lt b ↔ a = b := by cases a <;> cases b <;> decide
theorem rs_cps (r : Rn) : (rs r).cps.toList = r.map lt := rfl
theorem rs_size (r : Rn) : (rs r).cps.size = r.length := by show (r.map lt).toArray.size = _; simp
theorem rs_len (r : Rn) : (rs r).length = r.length := rs_size r
theorem rs_get (r : Rn) (i : Nat) : (rs r).cps[i]? = (r[i]?).map lt := by show (r.map lt).toArray[i]? = _; simp
theorem rs_app (r s : Rn) : rs r ++ rs s = rs (r ++ s) := by
  show (⟨(r.map lt).toArray ++ (s.map lt).toArray⟩ : Str) = ⟨((r ++ s).map lt).toArray⟩
  rw [List.map_append]; simp
theorem rs_inj {r s : Rn} : rs r = rs s ↔ r = s := by
  constructor
  · intro h
    have e : (rs r).cps.toList = (rs s).cps.toList := by rw [h]
    rw [rs_cps, rs_cps] at e
    exact (List.map_inj_right fun a b h => lt_inj.mp h).mp e
  · rintro rfl; rfl
theorem rs_one (b : Bool) : rs [b] = ⟨#[lt b]⟩ := rfl
theorem rs_nil : rs [] = (⟨#[]⟩ : Str) := rfl
theorem rs_cnt (r : Rn) (b : Bool) : Txt.count (rs r) ⟨#[lt b]⟩ = ((r.count b : Nat) : Int) := by
  rw [PyProof.Rows.count_cnt, rs_cps]
  induction r with
  | nil => rfl
  | cons x r ih =>
    rw [List.map_cons, PyProof.Rows.cnt_cons, ih]
    by_cases h : x = b
    · subst h
      rw [if_pos rfl, List.count_cons_self]
      omega
    · rw [if_neg (fun z => h (lt_inj.mp z)), List.count_cons_of_ne h]
      omega
theorem cut_hi (r : Rn) (p : Nat) : cutS (rs r) none (some (p : Int)) = rs (r.take p) := by
  unfold cutS
  rw [HT.sIx_none, HT.sIx_nat, rs_cps, rs_len]
  show (⟨((List.drop 0 (r.map lt)).take (min p r.length - 0)).toArray⟩ : Str) = ⟨((r.take p).map lt).toArray⟩
  rw [List.drop_zero, Nat.sub_zero, ← List.map_take]
  congr 3
  by_cases h : p ≤ r.length
  · rw [Nat.min_eq_left h]
  · rw [Nat.min_eq_right (by omega), List.take_of_length_le (Nat.le_refl _), List.take_of_length_le (by omega)]
theorem cut_lo (r : Rn) (p : Nat) : cutS (rs r) (some (p : Int)) none = rs (r.drop p) := by
  unfold cutS
  rw [HT.sIx_none, HT.sIx_nat, rs_cps, rs_len]
  show (⟨((List.drop (min p r.length) (r.map lt)).take (r.length - min p r.length)).toArray⟩ : Str) = ⟨((r.drop p).map lt).toArray⟩
  rw [← List.map_drop, ← List.map_take]
  congr 3
  by_cases h : p ≤ r.length
  · rw [Nat.min_eq_left h]
    exact List.take_of_length_le (by simp)
  · rw [Nat.min_eq_right (by omega), List.drop_eq_nil_of_le (Nat.le_refl _), List.drop_eq_nil_of_le (by omega)]
    simp
theorem cut_lh (r : Rn) (p q : Nat) : cutS (rs r) (some (p : Int)) (some (q : Int)) = rs ((r.drop p).take (q - p)) := by
  unfold cutS
  rw [HT.sIx_nat, HT.sIx_nat, rs_cps, rs_len]
  show (⟨((List.drop (min p r.length) (r.map lt)).take (min q r.length - min p r.length)).toArray⟩ : Str) = ⟨(((r.drop p).take (q - p)).map lt).toArray⟩
  rw [← List.map_drop, ← List.map_take]
  congr 3
  apply List.ext_getElem?
  intro i
  rw [List.getElem?_take, List.getElem?_take, List.getElem?_drop, List.getElem?_drop]
  by_cases h : p ≤ r.length
  · rw [Nat.min_eq_left h]
    by_cases h1 : i < q - p
    · rw [if_pos h1]
      by_cases h2 : i < min q r.length - p
      · rw [if_pos h2]
      · rw [if_neg h2, List.getElem?_eq_none (by omega)]
    · rw [if_neg h1, if_neg (by omega)]
  · rw [Nat.min_eq_right (show r.length ≤ p by omega)]
    have h1 : ¬ i < min q r.length - r.length := by omega
    rw [if_neg h1, List.getElem?_eq_none (by omega)]
    simp
theorem cut_last (r : Rn) : cutS (rs r) none (some (-1)) = rs (r.take (r.length - 1)) := by
  unfold cutS
  rw [HT.sIx_none, rs_cps, rs_len]
  have e : HT.sIx r.length r.length (some (-1)) = r.length - 1 := by
    show (if (-1 : Int) < 0 then ((-1 : Int) + (r.length : Int)).toNat else min (-1 : Int).toNat r.length) = _
    rw [if_pos (by decide)]; omega
  rw [e]
  show (⟨((List.drop 0 (r.map lt)).take (r.length - 1 - 0)).toArray⟩ : Str) = ⟨((r.take (r.length - 1)).map lt).toArray⟩
  rw [List.drop_zero, Nat.sub_zero, ← List.map_take]
theorem rev_rs (r : Rn) : (⟨(rs r).cps.toList.reverse.toArray⟩ : Str) = rs r.reverse := by
  rw [rs_cps]
  show (⟨(r.map lt).reverse.toArray⟩ : Str) = ⟨(r.reverse.map lt).toArray⟩
  rw [List.map_reverse]
/-! ### words, steps, sections, contests -/
def wdS : Wd → Str
  | .lock => "lock" | .share => "share" | .free => "free" | .read => "read" | .write => "write" | .work => "work"
theorem wdS_inj {a b : Wd} : wdS a = wdS b ↔ a = b := by cases a <;> cases b <;> decide
abbrev Thr := Th Str
def stV (s : Wd × Str) : List V := [.str (wdS s.1), .str s.2]
def partV (p : Part Str) : List V := [.int (p.1 : Nat), .int (p.2.1 : Nat), .str (wdS p.2.2.1), .str p.2.2.2]
def accV (p : Acc Str) : List V := [.int (p.1 : Nat), .str (wdS p.2.1), .str p.2.2]
def kdS (d : Bool) : Str := if d then "data" else "lock"
def conV (c : Con Str) : List V := [.int (c.ab : Nat), .int (c.ae : Nat), .int (c.bb : Nat), .int (c.be : Nat), .str (kdS c.dat), .str c.nm]
section
variable (K : PySem.W.Frag)
abbrev ThR (t : Thr) : VR := TuO K (Rc K stV) t
def PaR (A B : Thr) : VR := fun v H => ∃ p a b, v = .ref p ∧ SqT K H p [a, b] ∧ ThR K A a H ∧ ThR K B b H
end
section
variable {K : PySem.W.Frag} {σ : L2.St} {H H' : Hp} {te ta tb : TE} {P : VR} {v z : V}
theorem keeps_th {t : Thr} : Keeps (ThR K t) := keeps_tuo fun _ => keeps_rc
theorem keeps_pa {A B : Thr} : Keeps (PaR K A B) := fun _ _ _ e ⟨p, a, b, h, q, r1, r2⟩ => ⟨p, a, b, h, ex_t e q, keeps_th _ _ _ e r1, keeps_th _ _ _ e r2⟩
theorem ro_th {t : Thr} : Ro (ThR K t) := ro_tuo fun _ => ro_rc
theorem ro_pa {A B : Thr} : Ro (PaR K A B) := fun _ _ _ _ m e ⟨p, a, b, h, q, r1, r2⟩ => ⟨p, a, b, h, sqT_ro m e q, ro_th _ _ _ _ m e r1, ro_th _ _ _ _ m e r2⟩
/-- a slot of which something is known -/
theorem r_var {i : Nat} (k : Keeps P) (h : σ[i]? = some (some v)) (p : P v H) : EvR (tVar i) σ H P := fun H1 e Q q => ⟨v, h, q v H1 (Ex.refl H1) (k _ _ _ e p)⟩
theorem r_pa0 {A B : Thr} {tp ti : TE} (h : EvR tp σ H (PaR K A B)) (hi : Ev ti σ H (.int 0)) : EvR (tOp (rIxT K) tp ti) σ H (ThR K A) :=
  r_op keeps_pa h (Ev.r hi) fun x y H1 _ ⟨p, a, b, hx, q, r1, r2⟩ hy Q k => ⟨p, [a, b], 0, a, hx, hy, q, rfl, k a H1 (Ex.refl H1) r1⟩
theorem r_pa1 {A B : Thr} {tp ti : TE} (h : EvR tp σ H (PaR K A B)) (hi : Ev ti σ H (.int 1)) : EvR (tOp (rIxT K) tp ti) σ H (ThR K B) :=
  r_op keeps_pa h (Ev.r hi) fun x y H1 _ ⟨p, a, b, hx, q, r1, r2⟩ hy Q k => ⟨p, [a, b], 1, b, hx, hy, q, rfl, k b H1 (Ex.refl H1) r2⟩
theorem v_lenT {α : Type} {R : α → VR} {xs : List α} (kr : ∀ x, Keeps (R x)) (h : EvR te σ H (TuO K R xs)) : Ev (tCB (rLenS K) (tCons te tNil)) σ H (.int (xs.length : Nat)) := fun H1 e Q q =>
  h H1 e _ fun v H2 e2 ⟨a, vs, h1, h2, al⟩ => ⟨a, vs, by rw [h1], .inr h2, by rw [← al.len]; exact q H2 e2⟩
theorem v_lenL {α : Type} {R : α → VR} {xs : List α} (h : EvR te σ H (LsO K R xs)) : Ev (tCB (rLenS K) (tCons te tNil)) σ H (.int (xs.length : Nat)) := fun H1 e Q q =>
  h H1 e _ fun v H2 e2 ⟨a, vs, h1, h2, al⟩ => ⟨a, vs, by rw [h1], .inl h2, by rw [← al.len]; exact q H2 e2⟩
/-! ### texts -/
theorem ev_sl {z : Str} {lo hi : Option Int} {tl th : TO} (h : Ev te σ H (.str z)) (h1 : EvO tl σ H lo) (h2 : EvO th σ H hi) (hz : z.length ≤ 100000) : Ev (tSl rSlS te tl th) σ H (.str (cutS z lo hi)) := fun H1 e Q q =>
  h H1 e _ fun H2 e2 => h1 H2 (e.trans e2) _ fun H3 e3 => h2 H3 ((e.trans e2).trans e3) _ fun H4 e4 => ⟨z, rfl, sz_of hz, q H4 ((e2.trans e3).trans e4)⟩
theorem ev_hi {r : Rn} {p : Nat} {th : TE} (h : Ev te σ H (.str (rs r))) (h2 : Ev th σ H (.int (p : Nat))) (hz : r.length ≤ 100000) : Ev (tSl rSlS te tNoPart (tPart th)) σ H (.str (rs (r.take p))) := by
  rw [← cut_hi]; exact ev_sl h eo_none (eo_some h2) (by rw [rs_len]; exact hz)
theorem ev_lo {r : Rn} {p : Nat} {tl : TE} (h : Ev te σ H (.str (rs r))) (h2 : Ev tl σ H (.int (p : Nat))) (hz : r.length ≤ 100000) : Ev (tSl rSlS te (tPart tl) tNoPart) σ H (.str (rs (r.drop p))) := by
  rw [← cut_lo]; exact ev_sl h (eo_some h2) eo_none (by rw [rs_len]; exact hz)
theorem ev_lh {r : Rn} {p q : Nat} {tl th : TE} (h : Ev te σ H (.str (rs r))) (h1 : Ev tl σ H (.int (p : Nat))) (h2 : Ev th σ H (.int (q : Nat))) (hz : r.length ≤ 100000) : Ev (tSl rSlS te (tPart tl) (tPart th)) σ H (.str (rs ((r.drop p).take (q - p)))) := by
  rw [← cut_lh]; exact ev_sl h (eo_some h1) (eo_some h2) (by rw [rs_len]; exact hz)
theorem ev_ix {r : Rn} {p : Nat} {b : Bool} {ti : TE} (h : Ev te σ H (.str (rs r))) (h2 : Ev ti σ H (.int (p : Nat))) (hz : r.length ≤ 100000) (hp : r[p]? = some b) : Ev (tOp rIxS te ti) σ H (.str (rs [b])) :=
  ev_op h h2 (rv_ixS (by rw [rs_len]; exact hz) (by rw [rs_cps]; exact atI_nat (by rw [List.getElem?_map, hp]; rfl)))
abbrev rCatS : R2 := fun x y H Q => ∃ i j, x = .str i ∧ y = .str j ∧ i.length + j.length ≤ sizeLine ∧ Q (.str (i ++ j)) H
theorem ev_cat {r s : Rn} (h : Ev ta σ H (.str (rs r))) (h2 : Ev tb σ H (.str (rs s))) (hz : r.length + s.length ≤ 100000) : Ev (tOp rCatS ta tb) σ H (.str (rs (r ++ s))) := by
  rw [← rs_app]
  exact ev_op h h2 fun H1 _ Q q => ⟨_, _, rfl, rfl, by rw [rs_len, rs_len]; exact sz_of hz, q H1 (Ex.refl H1)⟩
abbrev rCntS : V → List V → Hp → VK → Prop := fun x xs H Q => ∃ a b, x = .str a ∧ xs = [.str b] ∧ Q (.int (Txt.count a b)) H
theorem ev_cnt {r : Rn} {b : Bool} (h : Ev ta σ H (.str (rs r))) (h2 : Ev tb σ H (.str (rs [b]))) : Ev (tM1 rCntS ta tb) σ H (.int (r.count b : Nat)) := fun H1 e Q q =>
  h H1 e _ fun H2 e2 => ⟨⟨_, rfl⟩, h2 H2 (e.trans e2) _ fun H3 e3 => ⟨_, _, rfl, rfl, by rw [rs_one, rs_cnt]; exact q H3 (e2.trans e3)⟩⟩
theorem ev_lenS {w : Str} (h : Ev te σ H (.str w)) (hz : w.length ≤ 100000) : Ev (tCB (fun xs H Q => ∃ z, xs = [.str z] ∧ z.length ≤ sizeLine ∧ Q (.int z.length) H) (tCons te tNil)) σ H (.int (w.length : Nat)) := fun H1 e Q q =>
  h H1 e _ fun H2 e2 => ⟨w, rfl, sz_of hz, q H2 e2⟩
theorem ev_lenR {r : Rn} (h : Ev te σ H (.str (rs r))) (hz : r.length ≤ 100000) : Ev (tCB (fun xs H Q => ∃ z, xs = [.str z] ∧ z.length ≤ sizeLine ∧ Q (.int z.length) H) (tCons te tNil)) σ H (.int (r.length : Nat)) := by
  have := ev_lenS h (by rw [rs_len]; exact hz)
  rw [rs_len] at this
  exact this
theorem lit_a : (Str.ofString "a" : Str) = rs [true] := by decide +kernel
theorem lit_b : (Str.ofString "b" : Str) = rs [false] := by decide +kernel
theorem lit_ab : (Str.ofString "ab" : Str) = rs [true, false] := by decide +kernel
theorem lit_ba : (Str.ofString "ba" : Str) = rs [false, true] := by decide +kernel
theorem lit_0 : (Str.ofString "" : Str) = rs [] := by decide +kernel
theorem ev_ltA {ti : TE} (h2 : Ev ti σ H (.int 0)) : Ev (tOp rIxS (tC (.str "ab")) ti) σ H (.str (rs [true])) := by
  have := ev_ix (r := [true, false]) (p := 0) (b := true) (te := tC (.str (rs [true, false]))) (σ := σ) (H := H) (ti := ti) ev_c h2 (by decide) rfl
  rw [← lit_ab] at this
  exact this
theorem ev_ltB {ti : TE} (h2 : Ev ti σ H (.int 1)) : Ev (tOp rIxS (tC (.str "ab")) ti) σ H (.str (rs [false])) := by
  have := ev_ix (r := [true, false]) (p := 1) (b := false) (te := tC (.str (rs [true, false]))) (σ := σ) (H := H) (ti := ti) ev_c h2 (by decide) rfl
  rw [← lit_ab] at this
  exact this
theorem ev_cA : Ev (tC (.str "a")) σ H (.str (rs [true])) := by rw [← lit_a]; exact ev_c
theorem ev_cB : Ev (tC (.str "b")) σ H (.str (rs [false])) := by rw [← lit_b]; exact ev_c
theorem et_yes : EvT tYes σ H true := fun H1 _ Q q => q H1 (Ex.refl H1)
theorem rs_eqN {r s : Rn} : decide (V.str (rs r) = V.str (rs s)) = decide (r = s) := by
  apply decide_eq_decide.mpr
  rw [V.str.injEq, rs_inj]
theorem wd_eqN {a b : Wd} : decide (V.str (wdS a) = V.str (wdS b)) = decide (a = b) := by
  apply decide_eq_decide.mpr
  rw [V.str.injEq, wdS_inj]
theorem str_eqN {a b : Str} : decide (V.str a = V.str b) = decide (a = b) := by
  apply decide_eq_decide.mpr
  rw [V.str.injEq]
end
/-! ### promises -/
section
variable (K : PySem.W.Frag)
/-- of a pure def: what it is given (Pre), what it gives (Post) -/
def SpR {α : Type} (Pre : α → List V → Hp → Prop) (Post : α → VR) : Sp := fun vs H Q _ => ∃ x, Pre x vs H ∧ ∀ v H', Ex H H' → Post x v H' → Q v H'
end
end HdX
end

section
set_option Elab.async false
set_option linter.all false
set_option maxRecDepth 100000
set_option maxHeartbeats 4000000
namespace HdX
open PySem PySem.Spec PyProof.Rows L2 Evl
open _root_.TT hiding Run
/-! ### promises: what a pure def is given, what it gives -/
def SpP {α : Type} (args : α → List V) (Pre : α → Hp → Prop) (Post : α → VR) : Sp := fun vs H Q _ => ∃ x, vs = args x ∧ Pre x H ∧ ∀ v H', Ex H H' → Post x v H' → Q v H'
/-- .. where what it gives is new -/
def SpF {α : Type} (args : α → List V) (Pre : α → Hp → Prop) (Post : α → VR) : Sp := fun vs H Q _ => ∃ x, vs = args x ∧ Pre x H ∧ ∀ v H', Ex H H' → (∀ a, v = .ref a → H a = none) → Post x v H' → Q v H'
abbrev IsTup (vs : List V) : VR := fun v H => ∃ p, v = .ref p ∧ H p = some (.tup vs)
abbrev sp_step_pair (K : PySem.W.Frag) : Sp := SpP (α := Rn × Nat) (fun x => [.str (rs x.1), .int (x.2 : Nat)]) (fun x _ => x.1.length ≤ 1000) (fun x => IsTup [.int (cA (x.1.take x.2) : Nat), .int (cB (x.1.take x.2) : Nat)])
namespace D_step_pair
abbrev N : List Str := ["run", "place", "before"]
abbrev SC : Scope := defScope s_step_pair
theorem sc : FnScope N ["run", "place"] SC := ⟨rfl, rfl, rfl, by decide +kernel, rfl, by decide +kernel, by decide +kernel⟩
theorem nd : N.Nodup := sc.nd
end D_step_pair
open D_step_pair in
theorem ok_step_pair {P : Program} {w : World} {K : PySem.W.Frag} {mg : Str → Option Value} {base : Heap} (T : Tx K mg)  : OK P w K mg base 1 "step_pair" ["run", "place"] (sp_step_pair K) := by
  obtain ⟨fd, F⟩ := T.f_step_pair
  obtain ⟨tLETTERS, cLETTERS⟩ := T.c_LETTERS
  refine OK.of T.g_step_pair F (F.ok sc (fun vs H Q E h => ?len) (fun cdv A outer s H vs Q E hr h => ?body)) (F.bindsN fun _ _ _ _ _ _ us hl => match us, hl with | [_, _], _ => rfl)
  case len =>
    obtain ⟨x, rfl, _⟩ := h
    rfl
  case body =>
    have hu := hu_of hr
    refine ⟨_, PSs.nox (pss_cons (ps_set (i := 2) nd rfl (Or.inl rfl) (pe_slice sl_str (pv 0) po_none (po_some (pv 1))))
  (pss_one (ps_ret (pe_tup (pa_cons (pe_m1 PySem.F.slot_str_count PySem.F.type_str_count mt_count (pv 2) (pe_ix ix_str (pe_gs rfl cLETTERS) pe_int (fun _ _ => rfl))) (pa_cons (pe_m1 PySem.F.slot_str_count PySem.F.type_str_count mt_count (pv 2) (pe_ix ix_str (pe_gs rfl cLETTERS) pe_int (fun _ _ => rfl))) pa_nil)))))), ?_⟩
    obtain ⟨x, rfl, hp, hq⟩ := h

    obtain ⟨r, p⟩ := x
    refine q_asg (ev_hi (r := r) (p := p) (ev_var rfl) (ev_var rfl) (by have : r.length ≤ 1000 := hp; omega)) fun H1 e1 => ?_
    refine r_ret (r_tup (ea_cons (ev_cnt (r := r.take p) (ev_var rfl) (ev_ltA ev_c)) (ea_cons (ev_cnt (r := r.take p) (ev_var rfl) (ev_ltB ev_c)) ea_nil)) (Nat.le_of_ble_eq_true rfl)) fun v H2 e2 hv => hq v H2 (e1.trans e2) hv
abbrev sp_swapped (K : PySem.W.Frag) : Sp := SpP (α := Rn × Nat) (fun x => [.str (rs x.1), .int (x.2 : Nat)]) (fun x _ => x.1.length ≤ 1000 ∧ x.2 + 1 < x.1.length) (fun x => Is (.str (rs (swp x.1 x.2))))
abbrev sp_w_turned (K : PySem.W.Frag) : Sp := SpP (α := Rn × Nat) (fun x => [.str (rs x.1), .int (x.2 : Nat)]) (fun x _ => x.1.length ≤ 1000 ∧ x.2 + 1 < x.1.length) (fun x => Is (.str (rs (swp x.1 x.2))))
namespace D_swapped
abbrev N : List Str := ["run", "place"]
abbrev SC : Scope := defScope s_swapped
theorem sc : FnScope N ["run", "place"] SC := ⟨rfl, rfl, rfl, by decide +kernel, rfl, by decide +kernel, by decide +kernel⟩
theorem nd : N.Nodup := sc.nd
end D_swapped
namespace D_w_turned
abbrev N : List Str := ["_law_run", "_law_place"]
abbrev SC : Scope := defScope s_w_turned
theorem sc : FnScope N ["_law_run", "_law_place"] SC := ⟨rfl, rfl, rfl, by decide +kernel, rfl, by decide +kernel, by decide +kernel⟩
theorem nd : N.Nodup := sc.nd
end D_w_turned
theorem ev_swp {σ : L2.St} {H : Hp} {r : Rn} {p : Nat} {tr tp : TE} (hr : Ev tr σ H (.str (rs r))) (h : Ev tp σ H (.int (p : Nat))) (hz : r.length ≤ 1000) (hp : p + 1 < r.length) :
    Ev (tOp rCatS (tOp rCatS (tOp rCatS (tSl rSlS tr tNoPart (tPart tp)) (tOp rIxS tr (tOp (rI0 fun i j => .int (i + j)) tp (tC (.int 1))))) (tOp rIxS tr tp)) (tSl rSlS tr (tPart (tOp (rI0 fun i j => .int (i + j)) tp (tC (.int 2)))) tNoPart)) σ H (.str (rs (swp r p))) := by
  have e0 : r[p]? = some r[p] := by simp
  have e1 : r[p + 1]? = some r[p + 1] := by simp
  have es : swp r p = ((r.take p ++ [r[p + 1]]) ++ [r[p]]) ++ r.drop (p + 2) := by
    unfold swp
    have d1 : (r.drop (p + 1)).take 1 = [r[p + 1]] := by rw [List.drop_eq_getElem_cons (by omega)]; rfl
    have d2 : (r.drop p).take 1 = [r[p]] := by rw [List.drop_eq_getElem_cons (by omega)]; rfl
    rw [d1, d2]; simp
  rw [es]
  have i1 : Ev (tOp (rI0 fun i j => .int (i + j)) tp (tC (.int 1))) σ H (.int ((p + 1 : Nat) : Int)) := ev_is (ev_op h ev_c rv_I0) (by show V.int ((p : Int) + 1) = _; congr 1)
  have i2 : Ev (tOp (rI0 fun i j => .int (i + j)) tp (tC (.int 2))) σ H (.int ((p + 2 : Nat) : Int)) := ev_is (ev_op h ev_c rv_I0) (by show V.int ((p : Int) + 2) = _; congr 1)
  refine ev_cat (ev_cat (ev_cat (ev_hi hr h (by omega)) (ev_ix hr i1 (by omega) e1) ?_) (ev_ix hr h (by omega) e0) ?_) (ev_lo hr i2 (by omega)) ?_ <;> simp <;> omega
open D_swapped in
theorem ok_swapped {P : Program} {w : World} {K : PySem.W.Frag} {mg : Str → Option Value} {base : Heap} (T : Tx K mg)  : OK P w K mg base 1 "swapped" ["run", "place"] (sp_swapped K) := by
  obtain ⟨fd, F⟩ := T.f_swapped
  refine OK.of T.g_swapped F (F.ok sc (fun vs H Q E h => ?len) (fun cdv A outer s H vs Q E hr h => ?body)) (F.bindsN fun _ _ _ _ _ _ us hl => match us, hl with | [_, _], _ => rfl)
  case len =>
    obtain ⟨x, rfl, _⟩ := h
    rfl
  case body =>
    have hu := hu_of hr
    refine ⟨_, PSs.nox (pss_one (ps_ret (pe_op op_add_str (pe_op op_add_str (pe_op op_add_str (pe_slice sl_str (pv 0) po_none (po_some (pv 1))) (pe_ix ix_str (pv 0) (pe_op op_add (pv 1) pe_int) (fun _ _ => rfl))) (pe_ix ix_str (pv 0) (pv 1) (fun _ _ => rfl))) (pe_slice sl_str (pv 0) (po_some (pe_op op_add (pv 1) pe_int)) po_none)))), ?_⟩
    obtain ⟨x, rfl, hp, hq⟩ := h

    obtain ⟨r, p⟩ := x
    exact r_ret (Ev.r (ev_swp (ev_var rfl) (ev_var rfl) hp.1 hp.2)) fun v H2 e2 hv => hq v H2 e2 hv
open D_w_turned in
theorem ok_w_turned {P : Program} {w : World} {K : PySem.W.Frag} {mg : Str → Option Value} {base : Heap} (T : Tx K mg)  : OK P w K mg base 1 "_law_turned" ["_law_run", "_law_place"] (sp_w_turned K) := by
  obtain ⟨fd, F⟩ := T.f_w_turned
  refine OK.of T.g__law_turned F (F.ok sc (fun vs H Q E h => ?len) (fun cdv A outer s H vs Q E hr h => ?body)) (F.bindsN fun _ _ _ _ _ _ us hl => match us, hl with | [_, _], _ => rfl)
  case len =>
    obtain ⟨x, rfl, _⟩ := h
    rfl
  case body =>
    have hu := hu_of hr
    refine ⟨_, PSs.nox (pss_one (ps_ret (pe_op op_add_str (pe_op op_add_str (pe_op op_add_str (pe_slice sl_str (pv 0) po_none (po_some (pv 1))) (pe_ix ix_str (pv 0) (pe_op op_add (pv 1) pe_int) (fun _ _ => rfl))) (pe_ix ix_str (pv 0) (pv 1) (fun _ _ => rfl))) (pe_slice sl_str (pv 0) (po_some (pe_op op_add (pv 1) pe_int)) po_none)))), ?_⟩
    obtain ⟨x, rfl, hp, hq⟩ := h

    obtain ⟨r, p⟩ := x
    exact r_ret (Ev.r (ev_swp (ev_var rfl) (ev_var rfl) hp.1 hp.2)) fun v H2 e2 hv => hq v H2 e2 hv

end HdX
end

section
set_option Elab.async false
set_option linter.all false
set_option maxRecDepth 100000
set_option maxHeartbeats 4000000
namespace HdX
open PySem PySem.Spec PyProof.Rows L2 Evl
open _root_.TT hiding Run
abbrev sp_is_integer (K : PySem.W.Frag) : Sp := SpP (α := Int) (fun x => [.int x]) (fun _ _ => True) (fun _ => Is (.bl true))
namespace D_is_integer
abbrev N : List Str := ["value"]
abbrev SC : Scope := defScope s_is_integer
theorem sc : FnScope N ["value"] SC := ⟨rfl, rfl, rfl, by decide +kernel, rfl, by decide +kernel, by decide +kernel⟩
theorem nd : N.Nodup := sc.nd
end D_is_integer
open D_is_integer in
theorem ok_is_integer {P : Program} {w : World} {K : PySem.W.Frag} {mg : Str → Option Value} {base : Heap} (T : Tx K mg)  : OK P w K mg base 1 "is_integer" ["value"] (sp_is_integer K) := by
  obtain ⟨fd, F⟩ := T.f_is_integer
  refine OK.of T.g_is_integer F (F.ok sc (fun vs H Q E h => ?len) (fun cdv A outer s H vs Q E hr h => ?body)) (F.bindsN fun _ _ _ _ _ _ us hl => match us, hl with | [_], _ => rfl)
  case len =>
    obtain ⟨x, rfl, _⟩ := h
    rfl
  case body =>
    have hu := hu_of hr
    refine ⟨_, PSs.nox (pss_one (ps_ret (pe_and (pe_callB (call_isiK2 K) (by rfl) T.b_isinstance (by decide +kernel) (pa_cons (pv 0) (pa_cons (pe_bltn (v := .ty "int") rfl T.b_int (by decide +kernel) rfl) pa_nil))) (pe_one (pe_not (pe_callB (call_isiK2 K) (by rfl) T.b_isinstance (by decide +kernel) (pa_cons (pv 0) (pa_cons (pe_bltn (v := .ty "bool") rfl T.b_bool (by decide +kernel) rfl) pa_nil)))))))), ?_⟩
    obtain ⟨x, rfl, hp, hq⟩ := h

    refine r_ret (Ev.r (ev_is (ev_andV (a := true) (b := true) ?_ fun _ => ev_is (ev_notV (a := false) ?_) rfl) rfl)) fun v H2 e2 hv => hq v H2 e2 hv
    · exact ev_cb (ea_cons (ev_var rfl) (ea_cons ev_c ea_nil)) fun H1 _ Q q => ⟨_, _, _, _, true, rfl, .ty "int", .base (.int _), kit_ty (by decide +kernel), q H1 (Ex.refl H1)⟩
    · exact ev_cb (ea_cons (ev_var rfl) (ea_cons ev_c ea_nil)) fun H1 _ Q q => ⟨_, _, _, _, false, rfl, .ty "bool", .base (.int _), kit_ty (by decide +kernel), q H1 (Ex.refl H1)⟩
/-! ### the places of a run -/
abbrev NtR (n : Nat) : VR := Is (.int (n : Nat))
abbrev PlR (r : Rn) (x : Bool) : VR := LsN NtR (places x r)
theorem rs_at {r : Rn} {i c : Nat} (h : (rs r).cps[i]? = some c) : ∃ b, r[i]? = some b ∧ c = lt b := by
  rw [rs_get] at h
  obtain ⟨b, hb, e⟩ := Option.map_eq_some_iff.mp h
  exact ⟨b, hb, e.symm⟩
theorem stF_lsnt {r : Rn} {x : Bool} : ∀ v H D zs zs', H D = some (.lst zs) → (∀ a, v = .ref a → a ≠ D) → PlR r x v H → PlR r x v (upd H D (.lst zs')) := fun v H D zs zs' hD hne ⟨a, vs, h1, h2, h3⟩ => ⟨a, vs, h1, by rw [upd_ne (hne a h1)]; exact h2, h3⟩
abbrev sp_places_of (K : PySem.W.Frag) : Sp := SpP (α := Rn) (fun x => [.str (rs x)]) (fun x _ => x.length ≤ 1000) (fun x => LsN (PlR x) [true, false])
namespace D_places_of
abbrev N : List Str := ["run", "one", "place", "letter"]
abbrev SC : Scope := defScope s_places_of
theorem sc : FnScope N ["run"] SC := ⟨rfl, rfl, rfl, by decide +kernel, rfl, by decide +kernel, by decide +kernel⟩
theorem nd : N.Nodup := sc.nd
end D_places_of
open D_places_of in
theorem ok_places_of {P : Program} {w : World} {K : PySem.W.Frag} {mg : Str → Option Value} {base : Heap} (T : Tx K mg)  : OK P w K mg base 1 "places_of" ["run"] (sp_places_of K) := by
  obtain ⟨fd, F⟩ := T.f_places_of
  obtain ⟨tLETTERS, cLETTERS⟩ := T.c_LETTERS
  refine OK.of T.g_places_of F (F.ok sc (fun vs H Q E h => ?len) (fun cdv A outer s H vs Q E hr h => ?body)) (F.bindsN fun _ _ _ _ _ _ us hl => match us, hl with | [_], _ => rfl)
  case len =>
    obtain ⟨x, rfl, _⟩ := h
    rfl
  case body =>
    have hu := hu_of hr
    refine ⟨_, PSs.nox (pss_one (ps_ret (pe_lc (own := [("one", 1)]) (tt := tYes) (by rfl) nd (pi_str (pe_gs rfl cLETTERS)) (blkOk_by (N := N) (sc := SC) (by decide +kernel)) (fun _ _ _ _ _ => (pg_name (i := 1) nd rfl (Or.inr rfl))) (fun _ _ _ _ _ => pts_nil) (fun _ _ _ _ _ => (pe_lc (own := [("place", 2), ("letter", 3)]) (by rfl) nd (pi_enumS rfl T.b_enumerate (pa_cons (pv 0) pa_nil)) (blkOk_by (by rfl)) (fun _ _ _ _ _ => (pg_tupK (n := 2) K rfl (pgs_cons (pg_name (i := 2) nd rfl (Or.inl rfl)) (pgs_cons (pg_name (i := 3) nd rfl (Or.inl rfl)) pgs_nil)))) (fun _ _ _ _ _ => (pts_one (pt_cmpR op_eq (pv 3) (pv 1) (nomark _)))) (fun _ _ _ _ _ => (pv 2))))))), ?_⟩
    obtain ⟨x, rfl, hp, hq⟩ := h

    have hz : x.length ≤ 1000 := hp
    have two : ∀ {j c : Nat}, (Str.ofString "ab").cps[j]? = some c → ∃ b, [true, false][j]? = some b ∧ c = lt b := fun {j c} h => by rw [lit_ab] at h; exact rs_at h
    refine r_ret (r_lcO (n := 2) (Y := YS (Str.ofString "ab")) (fun j v H => ∃ b, [true, false][j]? = some b ∧ PlR x b v H) (fun _ => true) (fun j v H H' e ⟨b, hb, h⟩ => ⟨b, hb, keeps_lsn (fun _ => keeps_is) _ _ _ e h⟩) ?_ (by decide) ?_) fun v H2 e2 hv => hq v H2 e2 ?_
    · have : EvI (iStr (tC (.str "ab"))) (start D_places_of.N [V.str (rs x)]) H (Str.ofString "ab").cps.size (YS (Str.ofString "ab")) := ei_str ev_c
      exact this
    · rintro j y H1 H2 hj e1 ⟨rfl, c, hc, rfl⟩
      obtain ⟨b, hb, rfl⟩ := two hc
      refine ⟨Ex.refl _, _, fun Q q => q, rfl, et_yes, fun _ => ?_⟩
      have inner := r_lcG (te := tVar 2) (tt := tTest (tOp rEq (tVar 3) (tVar 1))) (vs := [2, 3]) (σ := (wipe (start D_places_of.N [V.str (rs x)]) [1]).set 1 (some (.str ⟨#[lt b]⟩))) (g := gTup K 2 (gCons (gName 2) (gCons (gName 3) gNil)))
        (H := H2) (wi := iEnumS (tCons (tVar 0) tNil)) NtR (fun i => x[i]? == some b) (fun _ => keeps_is) (fun _ => stF_is) (ei_enumS (z := rs x) (ev_var rfl)) (by rw [rs_size]; omega) (by
          rintro i y H3 H4 hi e3 ⟨T, c, rfl, hT, rfl, hc⟩
          obtain ⟨b', hb', rfl⟩ := rs_at hc
          refine ⟨Ex.new hT, _, fun Q q => g2n (st_of upd_same) q, rfl, ?_, fun _ => (Ev.r (ev_var rfl)).gg stF_is⟩
          refine et_is (et_test (ev_op (ev_var rfl) (ev_var rfl) (rv_eq rfl))) ?_
          show decide (V.str (rs [b']) = V.str (rs [b])) = (x[i]? == some b)
          rw [rs_eqN, hb', Bool.eq_iff_iff]
          simp)
      intro H5 e5 Q q
      refine inner H5 e5 Q fun v H6 e6 hv hst => q v H6 e6 ⟨b, hb, ?_⟩ fun D zs zs' hD => ⟨b, hb, ?_⟩
      · unfold PlR places
        rw [rs_size] at hv
        exact hv
      · have := hst D zs zs' hD
        unfold PlR places
        rw [rs_size] at this
        exact this
    · obtain ⟨a, ys, h1, h2, h3⟩ := hv
      refine ⟨a, ys, h1, h2, ?_⟩
      have e : giv 2 (fun _ => true) = [0, 1] := by decide
      rw [e] at h3
      refine ⟨h3.len, fun j b w hb hw => ?_⟩
      have hj : j < 2 := (List.getElem?_eq_some_iff.mp hb).1
      have e2 : [0, 1][j]? = some j := by
        match j, hj with
        | 0, _ => rfl
        | 1, _ => rfl
      obtain ⟨b', hb', h⟩ := h3.at_ j j w e2 hw
      rw [hb] at hb'
      cases hb'
      exact h
/-! ### one thread behind the other -/
theorem pa_tuo {K : PySem.W.Frag} {A B : Thr} {v : V} {H : Hp} (h : PaR K A B v H) : TuO K (ThR K) [A, B] v H := by
  obtain ⟨p, a, b, e, q, r1, r2⟩ := h
  refine ⟨p, [a, b], e, q, rfl, fun i x y hx hy => ?_⟩
  match i with
  | 0 => cases hx; cases hy; exact r1
  | 1 => cases hx; cases hy; exact r2
  | i + 2 => simp at hx
theorem ei_zipST {K : PySem.W.Frag} {σ : L2.St} {H : Hp} {α : Type} {R : α → VR} {xs : List α} {z : Str} {tz tl : TE} (kr : ∀ x, Keeps (R x)) (hz : Ev tz σ H (.str z)) (hl : EvR tl σ H (TuO K R xs)) (hn : z.cps.size = xs.length) :
    EvI (iZipST K (tCons tz (tCons tl tNil))) σ H xs.length (fun i H v H' => ∃ T c y x, v = .ref T ∧ H T = none ∧ H' = upd H T (.tup [.str ⟨#[c]⟩, y]) ∧ z.cps[i]? = some c ∧ xs[i]? = some x ∧ R x y H) := fun H1 e R' k =>
  hz H1 e _ fun H1' e1' => hl H1' (e.trans e1') _ fun v H2 e2 ⟨a, vs, h, q, al⟩ => ⟨z, a, vs, by rw [h], q, k _ H2 (e1'.trans e2)
    { go := fun i H' e' hi => ⟨vs, vs[i]'(by rw [← al.len]; exact hi), by rw [hn]; exact hi, ex_t e' q, by simp⟩
      st := fun H' e' => ⟨vs, ex_t e' q, by rw [hn]; exact Nat.le_refl _, by rw [al.len]; exact Nat.le_refl _, .inr al.len⟩
      yl := fun i H' x H'' e' ⟨T, c, y, h1, h2, h3, h4, h5⟩ => let ⟨w, hw, hr⟩ := al.right (h5 vs (ex_t e' q)); ⟨T, c, y, w, h1, h2, h3, h4, hw, kr _ _ _ _ e' hr⟩ }⟩
theorem rep_rs (x : Bool) (n : Nat) : L2.repS (rs [x]) n = rs (List.replicate n x) := by
  show (⟨(List.replicate n [lt x]).flatten.toArray⟩ : Str) = ⟨((List.replicate n x).map lt).toArray⟩
  rw [List.map_replicate]
  congr 2
  induction n with
  | zero => rfl
  | succ n ih => rw [List.replicate_succ, List.flatten_cons, ih, List.replicate_succ]; rfl
theorem ev_rep {σ : L2.St} {H : Hp} {ta tb : TE} {x : Bool} {n : Nat} (ha : Ev ta σ H (.str (rs [x]))) (hb : Ev tb σ H (.int (n : Nat))) (hn : n ≤ 1000) :
    Ev (tOp (fun x y H Q => ∃ z n, x = .str z ∧ y = .int n ∧ 0 ≤ n ∧ n ≤ 1000 ∧ z.length ≤ 1000 ∧ Q (.str (L2.repS z n.toNat)) H) ta tb) σ H (.str (rs (List.replicate n x))) :=
  ev_op ha hb fun H1 _ Q q => ⟨_, _, rfl, rfl, by omega, by omega, by show 1 ≤ 1000; decide, by rw [Int.toNat_natCast, rep_rs]; exact q H1 (Ex.refl H1)⟩
def serR (A B : Thr) (x : Bool) : Rn := if x then List.replicate A.length true ++ List.replicate B.length false else List.replicate B.length false ++ List.replicate A.length true
abbrev sp_serial_run (K : PySem.W.Frag) : Sp := SpP (α := Thr × Thr × V × Bool) (fun x => [x.2.2.1, .str (rs [x.2.2.2])]) (fun x H => PaR K x.1 x.2.1 x.2.2.1 H ∧ x.1.length ≤ 100 ∧ x.2.1.length ≤ 100) (fun x => Is (.str (rs (serR x.1 x.2.1 x.2.2.2))))
namespace D_serial_run
abbrev N : List Str := ["pair", "letter", "parts", "one", "thread"]
abbrev SC : Scope := defScope s_serial_run
theorem sc : FnScope N ["pair", "letter"] SC := ⟨rfl, rfl, rfl, by decide +kernel, rfl, by decide +kernel, by decide +kernel⟩
theorem nd : N.Nodup := sc.nd
end D_serial_run
open D_serial_run in
theorem ok_serial_run {P : Program} {w : World} {K : PySem.W.Frag} {mg : Str → Option Value} {base : Heap} (T : Tx K mg)  : OK P w K mg base 1 "serial_run" ["pair", "letter"] (sp_serial_run K) := by
  obtain ⟨fd, F⟩ := T.f_serial_run
  obtain ⟨tLETTERS, cLETTERS⟩ := T.c_LETTERS
  refine OK.of T.g_serial_run F (F.ok sc (fun vs H Q E h => ?len) (fun cdv A outer s H vs Q E hr h => ?body)) (F.bindsN fun _ _ _ _ _ _ us hl => match us, hl with | [_, _], _ => rfl)
  case len =>
    obtain ⟨x, rfl, _⟩ := h
    rfl
  case body =>
    have hu := hu_of hr
    refine ⟨_, PSs.nox (pss_cons (ps_setLc (i := 2) (own := [("one", 3), ("thread", 4)]) (tt := tYes) rfl nd rfl rfl (sw_true rfl rfl rfl (by decide +kernel)) (pi_zipSTK K rfl T.b_zip (pa_cons (pe_gs rfl cLETTERS) (pa_cons (pv 0) pa_nil))) (blkOk_by (N := N) (sc := SC) (by decide +kernel)) (fun _ _ _ _ _ => (pg_tupK (n := 2) K rfl (pgs_cons (pg_name (i := 3) nd rfl (Or.inl rfl)) (pgs_cons (pg_name (i := 4) nd rfl (Or.inl rfl)) pgs_nil)))) (fun _ _ _ _ _ => pts_nil) (fun _ _ _ _ _ => (pe_op op_repS (pv 3) (pe_callB (call_lenK K) (by rfl) T.b_len PySem.boot_len (pa_cons (pv 4) pa_nil)))))
  (pss_one (ps_ret (pe_ifExp (pt_cmpR op_eq (pv 1) (pe_ix ix_str (pe_gs rfl cLETTERS) pe_int (fun _ _ => rfl)) (nomark _)) (pe_op op_add_str (pe_ix (ix_listK K) (pv 2) pe_int (fun _ _ => rfl)) (pe_ix (ix_listK K) (pv 2) pe_int (fun _ _ => rfl))) (pe_op op_add_str (pe_ix (ix_listK K) (pv 2) pe_int (fun _ _ => rfl)) (pe_ix (ix_listK K) (pv 2) pe_int (fun _ _ => rfl))))))), ?_⟩
    obtain ⟨x, rfl, hp, hq⟩ := h

    obtain ⟨A, B, v, x⟩ := x
    obtain ⟨hpa, la, lb⟩ := hp
    replace la : A.length ≤ 100 := la
    replace lb : B.length ≤ 100 := lb
    refine r_asg (r_lcO (n := 2) (fun j => fun v _ => ∃ t b, [A, B][j]? = some t ∧ [true, false][j]? = some b ∧ v = .str (rs (List.replicate t.length b))) (fun _ => true) (fun _ _ _ _ _ h => h) (ei_zipST (xs := [A, B]) (z := Str.ofString "ab") (fun _ => keeps_th) ev_c (r_var (keeps_tuo fun _ => keeps_th) rfl (pa_tuo hpa)) (by rw [lit_ab]; rfl)) (by decide) ?_) fun pv H1 e1 hpv => ?_
    · rintro j y H1 H2 hj e1 ⟨T, c, y, t, rfl, hT, rfl, hc, ht, hR⟩
      rw [lit_ab] at hc
      obtain ⟨b, hb, rfl⟩ := rs_at hc
      have hl : t.length ≤ 1000 := by
        match j with
        | 0 => cases ht; omega
        | 1 => cases ht; omega
        | j + 2 => simp at ht
      refine ⟨Ex.new hT, _, fun Q q => g2n (st_of upd_same) q, rfl, et_yes, fun _ => ((Ev.r (ev_rep (x := b) (ev_var rfl) (v_lenT (fun _ => keeps_rc) (r_var keeps_th rfl (keeps_th _ _ _ (Ex.new hT) hR))) hl)).imp fun v H _ hv => ⟨t, b, ht, hb, hv⟩).gg fun _ _ _ _ _ _ h => h⟩
    · obtain ⟨a, ys, rfl, ha, al⟩ := hpv
      have e : giv 2 (fun _ => true) = [0, 1] := by decide
      rw [e] at al
      have hl : ys.length = 2 := al.len.symm
      obtain ⟨y0, y1, rfl⟩ : ∃ y0 y1, ys = [y0, y1] := by
        match ys, hl with
        | [y0, y1], _ => exact ⟨y0, y1, rfl⟩
      obtain ⟨t0, b0, h0, h0', rfl⟩ := al.at_ 0 0 y0 rfl rfl
      obtain ⟨t1, b1, h1, h1', rfl⟩ := al.at_ 1 1 y1 rfl rfl
      cases h0; cases h0'; cases h1; cases h1'
      have i0 : Ev (tOp (rIxL K) (tVar 4) (tC (.int 0))) ((start D_serial_run.N [v, V.str (rs [x])]).set 4 (some (.ref a))) H1 (.str (rs (List.replicate A.length true))) := r_ixL (i := 0) (r_var (fun _ _ _ e ⟨b, h, q⟩ => ⟨b, h, ex_l e q⟩) rfl ⟨a, rfl, sq_of ha⟩) ev_c rfl
      have i1 : Ev (tOp (rIxL K) (tVar 4) (tC (.int 1))) ((start D_serial_run.N [v, V.str (rs [x])]).set 4 (some (.ref a))) H1 (.str (rs (List.replicate B.length false))) := r_ixL (i := 1) (r_var (fun _ _ _ e ⟨b, h, q⟩ => ⟨b, h, ex_l e q⟩) rfl ⟨a, rfl, sq_of ha⟩) ev_c rfl
      refine r_ret (Ev.r (ev_if (b := x) (et_is (et_test (ev_op (ev_var rfl) (ev_ltA ev_c) (rv_eq rfl))) ?_) (fun hx => ?_) fun hx => ?_)) fun v H2 e2 hv => hq v H2 (e1.trans e2) hv
      · rw [rs_eqN]
        cases x <;> rfl
      · subst hx
        exact ev_cat i0 i1 (by simp; omega)
      · subst hx
        exact ev_cat i1 i0 (by simp; omega)

end HdX
end

section
set_option Elab.async false
set_option linter.all false
set_option maxRecDepth 100000
set_option maxHeartbeats 4000000
namespace HdX
open PySem PySem.Spec PyProof.Rows L2 Evl
open _root_.TT hiding Run
/-! ### what a thread is -/
structure Gd (t : Thr) : Prop where
  wf : WF t
  le80 : t.length ≤ 80
  nm : ∀ (i : Nat) (s : Wd × Str), t[i]? = some s → PyData.strOk s.2 = true
theorem Gd.len {t : Thr} (g : Gd t) : t.length ≤ 100 := Nat.le_trans g.le80 (by decide)
theorem Al.fm {α β γ : Type} {R : α → γ → Prop} {S : β → γ → Prop} {h : α → Option β} : ∀ {xs : List α} {ys : List γ}, Al R xs ys → (∀ x y, R x y → ∃ z, h x = some z ∧ S z y) → Al S (xs.filterMap h) ys := by
  intro xs
  induction xs with
  | nil =>
    intro ys a _
    have := a.len
    rw [List.length_nil] at this
    rw [List.length_eq_zero_iff.mp this.symm]
    exact Al.nil
  | cons x xs ih =>
    intro ys a hh
    match ys, a.len with
    | y :: ys, hl =>
      obtain ⟨z, hz, hs⟩ := hh x y (a.at_ 0 x y rfl rfl)
      have a' : Al R xs ys := ⟨by simpa using hl, fun i u v h1 h2 => a.at_ (i + 1) u v h1 h2⟩
      have r := ih a' hh
      rw [List.filterMap_cons, hz]
      refine ⟨by simp [r.len], fun i u v h1 h2 => ?_⟩
      match i with
      | 0 => cases h1; cases h2; exact hs
      | i + 1 => exact r.at_ i u v h1 h2
theorem LsN.fm {α β : Type} {R : α → VR} {S : β → VR} {h : α → Option β} {xs : List α} {v : V} {H : Hp} (l : LsN R xs v H) (hh : ∀ x v, R x v H → ∃ z, h x = some z ∧ S z v H) : LsN S (xs.filterMap h) v H := by
  obtain ⟨a, vs, e, q, al⟩ := l
  exact ⟨a, vs, e, q, al.fm hh⟩
/-- tuple(list) -/
theorem r_tupof {K : PySem.W.Frag} {σ : L2.St} {H : Hp} {te : TE} {α : Type} {R : α → VR} {xs : List α} (kr : ∀ x, Keeps (R x)) (h : EvR te σ H (LsN R xs)) : EvR (tCB (rTupOf K) (tCons te tNil)) σ H (TuO K R xs) := fun H1 e Q q =>
  h H1 e _ fun v H2 e2 ⟨a, vs, h1, h2, al⟩ => ⟨a, vs, by rw [h1], .inl ⟨sq_of h2, fun l hl => q _ _ (e2.trans (Ex.new hl)) ⟨l, vs, rfl, st_of upd_same, al.mono fun x v hv => kr x v _ _ (Ex.new hl) hv⟩⟩⟩
theorem rc_of {K : PySem.W.Frag} {σ : L2.St} {H : Hp} {te : TE} {α : Type} {enc : α → List V} {x : α} {vs : List V} (h : EvR te σ H (IsTup vs)) (e : enc x = vs) : EvR te σ H (Rc K enc x) := h.imp fun v H1 _ ⟨p, h1, h2⟩ => ⟨p, h1, by rw [e]; exact st_of h2⟩
theorem inV_rw (w : Wd) : inV (.str (wdS w)) [.str "read", .str "write"] = w.rw := by cases w <;> decide +kernel
theorem inV_tk (w : Wd) : inV (.str (wdS w)) [.str "lock", .str "share"] = w.takes := by cases w <;> decide +kernel
theorem wd_free (w : Wd) : decide (V.str (wdS w) = V.str (Str.ofString "free")) = decide (w = .free) := wd_eqN (b := .free)
theorem accs_giv (t : Thr) : accs t = (giv t.length (fun i => match t[i]? with | some s => s.1.rw | none => false)).filterMap fun i => (t[i]?).map fun s => (i, s.1, s.2) := by
  unfold accs giv
  rw [List.filterMap_filter]
  generalize List.range t.length = l
  induction l with
  | nil => rfl
  | cons i l ih =>
    rw [List.filterMap_cons, List.filterMap_cons, ih]
    cases t[i]? with
    | none => rfl
    | some s => cases h : s.1.rw <;> simp [h]
abbrev sp_accesses (K : PySem.W.Frag) : Sp := SpP (α := Thr × V) (fun x => [x.2]) (fun x H => ThR K x.1 x.2 H ∧ x.1.length ≤ 100) (fun x => TuO K (Rc K accV) (accs x.1))
namespace D_accesses
abbrev N : List Str := ["thread", "number", "word", "name"]
abbrev SC : Scope := defScope s_accesses
theorem sc : FnScope N ["thread"] SC := ⟨rfl, rfl, rfl, by decide +kernel, rfl, by decide +kernel, by decide +kernel⟩
theorem nd : N.Nodup := sc.nd
end D_accesses
open D_accesses in
theorem ok_accesses {P : Program} {w : World} {K : PySem.W.Frag} {mg : Str → Option Value} {base : Heap} (T : Tx K mg)  : OK P w K mg base 1 "accesses" ["thread"] (sp_accesses K) := by
  obtain ⟨fd, F⟩ := T.f_accesses
  obtain ⟨tREAD, cREAD⟩ := T.c_READ
  obtain ⟨tWRITE, cWRITE⟩ := T.c_WRITE
  refine OK.of T.g_accesses F (F.ok sc (fun vs H Q E h => ?len) (fun cdv A outer s H vs Q E hr h => ?body)) (F.bindsN fun _ _ _ _ _ _ us hl => match us, hl with | [_], _ => rfl)
  case len =>
    obtain ⟨x, rfl, _⟩ := h
    rfl
  case body =>
    have hu := hu_of hr
    refine ⟨_, PSs.nox (pss_one (ps_ret (pe_callTy (call_tupK K) (by rfl) T.b_tuple (by decide +kernel) (pa_cons (pe_lc (own := [("number", 1), ("word", 2), ("name", 3)]) (by rfl) nd (pi_enumTK K rfl T.b_enumerate (pa_cons (pv 0) pa_nil)) (blkOk_by (N := N) (sc := SC) (by decide +kernel)) (fun _ _ _ _ _ => (pg_tupK (n := 2) K rfl (pgs_cons (pg_name (i := 1) nd rfl (Or.inl rfl)) (pgs_cons (pg_tupK (n := 2) K rfl (pgs_cons (pg_name (i := 2) nd rfl (Or.inl rfl)) (pgs_cons (pg_name (i := 3) nd rfl (Or.inl rfl)) pgs_nil))) pgs_nil)))) (fun _ _ _ _ _ => (pts_one (pt_cmpR (op_in_seqK K) (pv 2) (pe_tup (pa_cons (pe_gs rfl cREAD) (pa_cons (pe_gs rfl cWRITE) pa_nil))) (by with_unfolding_all rfl)))) (fun _ _ _ _ _ => (pe_tup (pa_cons (pv 1) (pa_cons (pv 2) (pa_cons (pv 3) pa_nil)))))) pa_nil)))), ?_⟩
    obtain ⟨x, rfl, hp, hq⟩ := h

    obtain ⟨t, v⟩ := x
    obtain ⟨ht, hl⟩ := hp
    replace hl : t.length ≤ 100 := hl
    have ht' : EvR (tVar 0) (start D_accesses.N [v]) H (ThR K t) := r_var keeps_th rfl ht
    refine r_ret (r_tupof (fun _ => keeps_rc) (xs := accs t) ?_) fun v H2 e2 hv => hq v H2 e2 hv
    rw [accs_giv]
    refine (r_lcO (fun i v H => ∃ s, t[i]? = some s ∧ Rc K accV (i, s.1, s.2) v H) (fun i => match t[i]? with | some s => s.1.rw | none => false) (fun i v H H' e ⟨s, hs, h⟩ => ⟨s, hs, keeps_rc _ _ _ e h⟩)
      (ei_enumT (xs := t) (fun _ => keeps_rc) ht') (by omega) ?_).imp fun v H1 _ l => l.fm fun i v ⟨s, hs, h⟩ => ⟨(i, s.1, s.2), by rw [hs]; rfl, h⟩
    rintro i y H1 H2 hi e1 ⟨T, u, s, rfl, hT, rfl, hs, a, rfl, ha⟩
    have ha' := ex_t (Ex.new (o := .tup [.int (i : Nat), .ref a]) hT) ha
    refine ⟨Ex.new hT, _, fun Q q => g2t (st_of upd_same) ha' q, rfl, ?_, fun _ => EvR.gg ((rc_of (enc := accV) (x := (i, s.1, s.2)) (r_tup (ea_cons (ev_var rfl) (ea_cons (ev_var rfl) (ea_cons (ev_var rfl) ea_nil))) (Nat.le_of_ble_eq_true rfl)) rfl).imp fun v H _ h => ⟨s, hs, h⟩) fun v H D zs zs' hD ⟨s, hs, h⟩ => ⟨s, hs, stF_rc _ _ _ _ _ hD h⟩⟩
    refine et_is (et_test (ev_inU (ev_var rfl) (eu_tup (ea_cons ev_c (ea_cons ev_c ea_nil)) (Nat.le_of_ble_eq_true rfl)) rfl rfl)) ?_
    rw [hs]
    exact inV_rw s.1
theorem eqv_st (a b c d : Str) : PyData.eqv (.tuple [.str a, .str b]) (.tuple [.str c, .str d]) = (decide (a = c) && decide (b = d)) := by
  show ((a == c) && ((b == d) && true)) = _
  rw [Bool.and_true]
  congr 1 <;> (rw [Bool.eq_iff_iff]; simp)
theorem dp_st {K : PySem.W.Frag} {H : Hp} {a : Addr} {s : Wd × Str} (h : SqT K H a (stV s)) : Dp K H (.ref a) (.tuple [.str (wdS s.1), .str s.2]) := .tup h (.cons (.str _) (.cons (.str _) .nil))
theorem shaped_st (w : Wd) (n : Str) (hn : PyData.strOk n = true) : SeqAt.shaped (.tuple [.str (wdS w), .str n]) = true := by
  have h1 : PyData.strOk (wdS w) = true := by cases w <;> decide +kernel
  show ((PyData.strOk (wdS w) && (PyData.strOk n && true)) && decide ((max 0 (max 0 0) : Nat) + 1 ≤ 64)) = true
  rw [h1, hn]
  rfl
abbrev sp_w_parts (K : PySem.W.Frag) : Sp := SpF (α := Thr × V) (fun x => [x.2]) (fun x H => ThR K x.1 x.2 H ∧ Gd x.1) (fun x => LsN (Rc K partV) (parts x.1))
namespace D_w_parts
abbrev N : List Str := ["_law_thread_here", "_law_found", "_law_begin", "_law_word", "_law_name", "_law_ends", "_law_end"]
abbrev SC : Scope := defScope s_w_parts
theorem sc : FnScope N ["_law_thread_here"] SC := ⟨rfl, rfl, rfl, by decide +kernel, rfl, by decide +kernel, by decide +kernel⟩
theorem nd : N.Nodup := sc.nd
end D_w_parts
theorem eq_st {K : PySem.W.Frag} {σ : L2.St} {H : Hp} {ta tb : TE} {s : Wd × Str} {w : Wd} {n : Str} (ha : EvR ta σ H (Rc K stV s)) (hb : EvR tb σ H (IsTup [.str (wdS w), .str n])) (h1 : PyData.strOk s.2 = true) (h2 : PyData.strOk n = true) :
    Ev (tOp (rEqD K) ta tb) σ H (.bl (decide (s = (w, n)))) :=
  v_op keeps_rc ha hb fun x y H1 _ ⟨a, hx, ha⟩ ⟨b, hy, hb⟩ Q k => by
    subst hx hy
    refine ⟨_, _, dp_st ha, dp_st (s := (w, n)) (st_of hb), shaped_st _ _ h1, shaped_st _ _ h2, ?_⟩
    have e : PyData.eqv (.tuple [.str (wdS s.1), .str s.2]) (.tuple [.str (wdS w), .str n]) = decide (s = (w, n)) := by
      rw [eqv_st, Bool.eq_iff_iff]
      obtain ⟨s1, s2⟩ := s
      simp [wdS_inj]
    rw [e]
    exact k
theorem pm_snoc (t : Thr) (i : Nat) (p : Option (Part Str)) (h : partAt t i = p) : (List.range (i + 1)).filterMap (partAt t) = (List.range i).filterMap (partAt t) ++ p.toList := by
  rw [List.range_succ, List.filterMap_append, List.filterMap_cons, h]
  cases p <;> rfl
open D_w_parts in
theorem ok_w_parts {P : Program} {w : World} {K : PySem.W.Frag} {mg : Str → Option Value} {base : Heap} (T : Tx K mg)  : OK P w K mg base 1 "_law_parts" ["_law_thread_here"] (sp_w_parts K) := by
  obtain ⟨fd, F⟩ := T.f_w_parts
  refine OK.of T.g__law_parts F (F.ok sc (fun vs H Q E h => ?len) (fun cdv A outer s H vs Q E hr h => ?body)) (F.bindsN fun _ _ _ _ _ _ us hl => match us, hl with | [_], _ => rfl)
  case len =>
    obtain ⟨x, rfl, _⟩ := h
    rfl
  case body =>
    have hu := hu_of hr
    refine ⟨_, PSs.nox (pss_cons (ps_set (i := 1) nd rfl (Or.inl rfl) (pe_lst pa_nil))
  (pss_cons (ps_for PassesOwn.never rfl (pi_enumTK K rfl T.b_enumerate (pa_cons (pv 0) pa_nil)) (pg_tupK (n := 2) K rfl (pgs_cons (pg_name (i := 2) nd rfl (Or.inl rfl)) (pgs_cons (pg_tupK (n := 2) K rfl (pgs_cons (pg_name (i := 3) nd rfl (Or.inl rfl)) (pgs_cons (pg_name (i := 4) nd rfl (Or.inr rfl)) pgs_nil))) pgs_nil)))
  (pss_one (ps_if (pt_cmpR (op_in_seqK K) (pv 3) (pe_tup (pa_cons pe_str (pa_cons pe_str pa_nil))) (by with_unfolding_all rfl))
  (pss_cons (ps_setLc (i := 5) (own := [("_law_end", 6)]) rfl nd rfl rfl (sw_true rfl rfl rfl (by decide +kernel)) (pi_range2 rfl T.b_range (pa_cons (pv 2) (pa_cons (pe_callB (call_lenK K) (by rfl) T.b_len PySem.boot_len (pa_cons (pv 0) pa_nil)) pa_nil))) (blkOk_by (N := N) (sc := SC) (by decide +kernel)) (fun _ _ _ _ _ => (pg_name (i := 6) nd rfl (Or.inl rfl))) (fun _ _ _ _ _ => (pts_one (pt_cmpR (op_eqDK K hr.units) (pe_ix (ix_tupK K) (pv 0) (pv 6) (fun _ _ => rfl)) (pe_tup (pa_cons pe_str (pa_cons (pv 4) pa_nil))) (nomark _)))) (fun _ _ _ _ _ => (pv 6)))
  (pss_one (ps_expr (pe_bm PySem.F.plainAttrs_list PySem.F.slot_list_append PySem.F.type_list_append mt_append (pv 1) (pa_cons (pe_tup (pa_cons (pv 2) (pa_cons (pe_ix (ix_listK K) (pv 5) pe_int (fun _ _ => rfl)) (pa_cons (pv 3) (pa_cons (pv 4) pa_nil))))) pa_nil)))))
  pss_nil)))
  (pss_one (ps_ret (pv 1))))), ?_⟩
    obtain ⟨x, rfl, hp, hq⟩ := h

    obtain ⟨t, v⟩ := x
    obtain ⟨ht, hg⟩ := hp
    replace hg : Gd t := hg
    replace ht : ThR K t v H := ht
    have hlen := hg.len
    refine q_asgL (el_lst ea_nil (by decide)) fun l H1 hl0 e1 hl1 => ?_
    have ht1 := keeps_th _ _ _ e1 ht
    refine r_forM (ej_enumT (xs := t) (R := Rc K stV) (fun _ => ro_rc) (r_var keeps_th rfl ht1)) (fun a => a = l) (fun a e => ⟨.lst [], by have e : a = l := e; rw [e]; exact hl1, rfl⟩) fun H2 e2 =>
      ⟨fun i σ' H' => (∃ b c d e f, σ' = [some v, some (.ref l), b, c, d, e, f]) ∧ ExM (fun a => a = l) H2 H' ∧ ∃ ys, H' l = some (.lst ys) ∧ Al (fun x v => Rc K partV x v H') ((List.range i).filterMap (partAt t)) ys,
        ⟨⟨_, _, _, _, _, rfl⟩, ExM.refl _ _, [], e2 _ _ hl1, Al.nil⟩, fun i σ' H' p => p.2.1, ?_, ?_⟩
    · rintro i σ' H3 y H4 hi ⟨⟨b, c, d, e, f, rfl⟩, ex, ys, hy, al⟩ ⟨T, u, s, rfl, hT, rfl, hs, a, rfl, ha⟩
      have ha' := ex_t (Ex.new (o := .tup [.int (i : Nat), .ref a]) hT) ha
      have eT : Ex H3 (upd H3 T (.tup [.int (i : Nat), .ref a])) := Ex.new hT
      refine g2t (st_of upd_same) ha' ?_
      obtain ⟨w, n⟩ := s
      have mt : MutA (fun a => a = l) H2 := fun a e => ⟨.lst [], by have e : a = l := e; rw [e]; exact e2 _ _ hl1, rfl⟩
      have ht3 : ThR K t v H3 := ro_th _ _ _ _ mt ex (keeps_th _ _ _ e2 ht1)
      refine s_when (b := w.takes) (et_is (et_test (ev_inU (ev_var rfl) (eu_tup (ea_cons ev_c (ea_cons ev_c ea_nil)) (Nat.le_of_ble_eq_true rfl)) rfl rfl)) (inV_tk w)) (fun hw H5 e5 => ?_) fun hw H5 e5 => ?_
      · have ht5 : ThR K t v H5 := keeps_th _ _ _ (eT.trans e5) ht3
        obtain ⟨rest, hends, hb1, hb2⟩ := ends_head hg.wf hs hw
        refine r_asg (r_lcO (fun d => Is (.int ((i + d : Nat) : Int))) (fun d => decide (t[i + d]? = some (Wd.free, n))) (fun _ => keeps_is) (n := t.length - i) (Y := YR (i : Int)) ?_ (by omega) ?_) fun ve H6 e6 hve => ?_
        · have := ei_range2 (lo := (i : Int)) (m := (t.length : Nat)) (σ := [some v, some (.ref l), some (.int (i : Nat)), some (.str (wdS w)), some (.str n), e, f]) (H := H5) (ta := tCons (tVar 2) (tCons (tCB (rLenS K) (tCons (tVar 0) tNil)) tNil)) (ea_cons (ev_var rfl) (ea_cons (v_lenT (fun _ => keeps_rc) (r_var keeps_th rfl ht5)) ea_nil)) ⟨by omega, by omega, by omega, by omega⟩
          have e3 : ((t.length : Int) - (i : Int)).toNat = t.length - i := by omega
          rw [e3] at this
          exact this
        · rintro d y H6 H7 hd e6 ⟨rfl, rfl⟩
          have hs' : t[i + d]? = some t[i + d] := by simp
          refine ⟨Ex.refl _, _, fun Q q => q, rfl, ?_, fun _ => (Ev.r (ev_is (ev_var rfl) (by congr 1))).gg stF_is⟩
          refine et_is (et_test (eq_st (r_ixTR (i := i + d) (fun _ => keeps_rc) (r_var keeps_th rfl (keeps_th _ _ _ e6 ht5)) (ev_is (ev_var rfl) (by congr 1)) hs') (r_tup (ea_cons (ev_c (v := .str (wdS .free))) (ea_cons (ev_var rfl) ea_nil)) (Nat.le_of_ble_eq_true rfl)) (hg.nm _ _ hs') (hg.nm _ _ hs))) ?_
          rw [hs']
          simp
        · have hl6 : H6 l = some (.lst ys) := e6 _ _ (e5 _ _ (eT _ _ hy))
          have hgiv : giv (t.length - i) (fun d => decide (t[i + d]? = some (Wd.free, n))) = (endOf t i n - i) :: rest := hends
          rw [hgiv] at hve
          have he0 : Ev (tOp (rIxL K) (tVar 5) (tC (.int 0))) [some v, some (.ref l), some (.int (i : Nat)), some (.str (wdS w)), some (.str n), some ve, f] H6 (.int (endOf t i n : Nat)) :=
            ev_is (EvR.vv (z := .int ((i + (endOf t i n - i) : Nat) : Int)) (r_ixLR (R := fun d : Nat => Is (.int ((i + d : Nat) : Int))) (xs := (endOf t i n - i) :: rest) (x := endOf t i n - i) (i := 0) (fun _ => keeps_is) (r_var (keeps_lso fun _ => keeps_is) rfl hve.o) ev_c rfl)) (by congr 2; omega)
          refine s_appU hl6 (ev_var rfl) (eu_tup (ea_cons (ev_var rfl) (ea_cons he0 (ea_cons (ev_var rfl) (ea_cons (ev_var rfl) ea_nil)))) (Nat.le_of_ble_eq_true rfl)) ?_ fun p H7 hp0 e7 hp7 => ?_
          · have h1 := al.len
            have h2 := List.length_filterMap_le (partAt t) (List.range i)
            rw [List.length_range] at h2
            omega
          · have e37 : Ex H3 H7 := ((eT.trans e5).trans e6).trans e7
            refine ⟨⟨_, _, _, _, _, rfl⟩, (ex.trans (ExM.ex e37)).set rfl, _, upd_same, ?_⟩
            rw [pm_snoc t i (some (i, endOf t i n, w, n)) (by unfold partAt; rw [hs]; simp [hw])]
            have hl7 : H7 l = some (.lst ys) := e7 _ _ hl6
            refine Al.snoc (al.mono fun x v hv => ro_rc.stF _ _ _ _ _ hl7 (keeps_rc _ _ _ e37 hv)) ?_
            exact ro_rc.stF _ _ _ _ _ hl7 ⟨p, rfl, st_of hp7⟩
      · refine ⟨⟨_, _, _, _, _, rfl⟩, ex.trans (ExM.ex (eT.trans e5)), ys, e5 _ _ (eT _ _ hy), ?_⟩
        rw [pm_snoc t i none (by unfold partAt; rw [hs]; simp [hw])]
        simp only [Option.toList_none, List.append_nil]
        exact al.mono fun x v hv => keeps_rc _ _ _ (eT.trans e5) hv
    · rintro σ' H3 ⟨⟨b, c, d, e, f, rfl⟩, ex, ys, hy, al⟩
      refine r_ret (Ev.r (ev_var rfl)) fun v' H4 e4 hv' => ?_
      have hv' : v' = .ref l := hv'
      subst hv'
      exact hq _ H4 ((ex_of (e1.trans e2) (fun a e => by have e : a = l := e; rw [e]; exact hl0) ex).trans e4) (fun a e => by cases e; exact hl0) ⟨l, ys, rfl, e4 _ _ hy, al.mono fun x v hv => keeps_rc _ _ _ e4 hv⟩

end HdX
end

section
set_option Elab.async false
set_option linter.all false
set_option maxRecDepth 100000
set_option maxHeartbeats 4000000
namespace HdX
open PySem PySem.Spec PyProof.Rows L2 Evl
open _root_.TT hiding Run
/-! ### sorted(list of tuples) -/
section
variable {K : PySem.W.Frag} {σ : L2.St} {H : Hp} {te : TE} {α : Type}
theorem r_sort {enc : α → List V} {dt : α → PyData} {xs : List α} (h : EvR te σ H (LsO K (Rc K enc) xs)) (hd : ∀ x a H, SqT K H a (enc x) → Dp K H (.ref a) (dt x)) (h1 : PySem.W.AllAlike (xs.map dt)) (h2 : PySem.W.Sortable (xs.map dt)) (h3 : ∀ x ∈ xs, (dt x).depth ≤ 60) :
    EvF (tCB (rSortD K) (tCons te tNil)) σ H (LsN (Rc K enc) (xs.mergeSort (PySem.W.dataLe false dt))) := fun H1 e Q q =>
  h H1 e _ fun v H2 e2 ⟨a, vs, hv, hs, al⟩ => by
    let cs : List (α × V) := xs.zip vs
    have c1 : cs.map (·.1) = xs := List.map_fst_zip (by rw [al.len]; exact Nat.le_refl _)
    have c2 : cs.map (·.2) = vs := List.map_snd_zip (by rw [al.len]; exact Nat.le_refl _)
    have cR : ∀ c ∈ cs, Rc K enc c.1 c.2 H2 := fun c hc => by
      obtain ⟨i, hi⟩ := List.getElem?_of_mem hc
      have g1 : xs[i]? = some c.1 := by rw [← c1, List.getElem?_map, hi]; rfl
      have g2 : vs[i]? = some c.2 := by rw [← c2, List.getElem?_map, hi]; rfl
      exact al.at_ i _ _ g1 g2
    have m1 : (cs.mergeSort (fun x y => PySem.W.dataLe false dt x.1 y.1)).map (·.1) = xs.mergeSort (PySem.W.dataLe false dt) := by
      rw [List.map_mergeSort (s := PySem.W.dataLe false dt) (fun _ _ _ _ => rfl), c1]
    have m2 : (cs.mergeSort (fun x y => PySem.W.dataLe false dt x.1 y.1)).map (fun c => (c.2, dt c.1)) = (cs.map fun c => (c.2, dt c.1)).mergeSort (PySem.W.dataLe false (·.2)) :=
      List.map_mergeSort (s := PySem.W.dataLe false fun b : V × PyData => b.2) (fun _ _ _ _ => rfl)
    refine ⟨a, cs.map fun c => (c.2, dt c.1), by rw [hv], ?_, ?_, ?_, ?_, ?_, fun p hp => ?_⟩
    · rw [List.map_map]
      show SqL K H2 a (cs.map (·.2))
      rw [c2]; exact hs
    · intro b hb
      obtain ⟨c, hc, rfl⟩ := List.mem_map.mp hb
      obtain ⟨b, hb1, hb2⟩ := cR c hc
      show Dp K H2 c.2 (dt c.1)
      rw [hb1]
      exact hd _ _ _ hb2
    · rw [List.map_map]
      show PySem.W.AllAlike (cs.map (dt ∘ (·.1)))
      rw [← List.map_map, c1]; exact h1
    · rw [List.map_map]
      show PySem.W.Sortable (cs.map (dt ∘ (·.1)))
      rw [← List.map_map, c1]; exact h2
    · intro b hb
      obtain ⟨c, hc, rfl⟩ := List.mem_map.mp hb
      exact h3 c.1 (by rw [← c1]; exact List.mem_map_of_mem hc)
    · have n1 := fresh_back e2 hp
      refine q _ _ (e2.trans (Ex.new hp)) (fun b hb => by cases hb; exact n1) ⟨p, _, rfl, upd_same, ?_⟩
      rw [← m2, List.map_map, ← m1]
      refine ⟨by simp, fun i x y hx hy => ?_⟩
      rw [List.getElem?_map] at hx hy
      cases hc : (cs.mergeSort (fun x y => PySem.W.dataLe false dt x.1 y.1))[i]? with
      | none => rw [hc] at hx; cases hx
      | some c =>
        rw [hc] at hx hy
        cases hx
        cases hy
        have hm : c ∈ cs := (List.mergeSort_perm cs _).mem_iff.mp (List.mem_of_getElem? hc)
        exact keeps_rc _ _ _ (Ex.new hp) (cR c hm)
end
def partD (p : Part Str) : PyData := .tuple [.int (p.1 : Nat), .int (p.2.1 : Nat), .str (wdS p.2.2.1), .str p.2.2.2]
theorem dp_part {K : PySem.W.Frag} (x : Part Str) (a : Addr) (H : Hp) (h : SqT K H a (partV x)) : Dp K H (.ref a) (partD x) := .tup h (.cons (.int _) (.cons (.int _) (.cons (.str _) (.cons (.str _) .nil))))
theorem le_part {p q : Part Str} (h : p.1 = q.1 → p = q) : PySem.W.dataLe false partD p q = decide (p.1 ≤ q.1) := by
  show (!PyProof.Rows.lexLt PyProof.Rows.itemOrd (PySem.W.keyToks (partD q)) (PySem.W.keyToks (partD p))) = _
  by_cases e : p.1 = q.1
  · rw [h e, PyProof.Rows.lex_irrefl]
    simp
  · show (!(decide ((1 : Int) < 1) || (!(decide ((1 : Int) < 1)) && (decide ((q.1 : Int) < (p.1 : Int)) || (!decide ((p.1 : Int) < (q.1 : Int)) && PyProof.Rows.lexLt PyProof.Rows.itemOrd _ _))))) = _
    by_cases l : p.1 < q.1
    · have l1 : decide ((q.1 : Int) < (p.1 : Int)) = false := decide_eq_false (by omega)
      have l2 : decide ((p.1 : Int) < (q.1 : Int)) = true := decide_eq_true (by omega)
      rw [l1, l2, decide_eq_true (by omega : p.1 ≤ q.1)]
      rfl
    · have l1 : decide ((q.1 : Int) < (p.1 : Int)) = true := decide_eq_true (by omega)
      rw [l1, decide_eq_false (by omega : ¬ p.1 ≤ q.1)]
      rfl
theorem sort_parts {t : Thr} (wf : WF t) : (ended t t.length).mergeSort (PySem.W.dataLe false partD) = parts t :=
  sorted_parts wf fun p hp q hq => le_part fun e => by
    obtain ⟨b, e1, w, n⟩ := p
    obtain ⟨b', e2, w', n'⟩ := q
    have s1 := (mem_ended wf).mp hp
    have s2 := (mem_ended wf).mp hq
    have e : b = b' := e
    subst e
    obtain ⟨rfl, rfl, rfl⟩ := s1.uniq_e wf s2
    rfl
theorem alike_parts (l : List (Part Str)) : PySem.W.AllAlike (l.map partD) := fun d hd d' hd' => by
  obtain ⟨x, _, rfl⟩ := List.mem_map.mp hd
  obtain ⟨y, _, rfl⟩ := List.mem_map.mp hd'
  rfl
theorem sortable_parts (l : List (Part Str)) : PySem.W.Sortable (l.map partD) := .inl fun d hd => by
  obtain ⟨x, _, rfl⟩ := List.mem_map.mp hd
  exact ⟨_, _, rfl⟩
theorem em_snoc (t : Thr) (i : Nat) (p : Option (Part Str)) (h : endAt t i = p) : ended t (i + 1) = ended t i ++ p.toList := by
  unfold ended
  rw [List.range_succ, List.filterMap_append, List.filterMap_cons, h]
  cases p <;> rfl
def Bgn (K : PySem.W.Frag) (t : Thr) (i : Nat) (kvs : List (Key × V)) (H : Hp) : Prop := ∀ n b w, taken t n i = some (b, w) → ∃ a, valV kvs (Sum.inr n) = some (.ref a) ∧ SqT K H a [.int (b : Nat), .str (wdS w)]
abbrev sp_sections (K : PySem.W.Frag) : Sp := SpP (α := Thr × V) (fun x => [x.2]) (fun x H => ThR K x.1 x.2 H ∧ Gd x.1) (fun x => TuO K (Rc K partV) (parts x.1))
namespace D_sections
abbrev N : List Str := ["thread", "found", "begun", "number", "word", "name", "begin", "how"]
abbrev SC : Scope := defScope s_sections
theorem sc : FnScope N ["thread"] SC := ⟨rfl, rfl, rfl, by decide +kernel, rfl, by decide +kernel, by decide +kernel⟩
theorem nd : N.Nodup := sc.nd
end D_sections
open D_sections in
theorem ok_sections {P : Program} {w : World} {K : PySem.W.Frag} {mg : Str → Option Value} {base : Heap} (T : Tx K mg)  : OK P w K mg base 1 "sections" ["thread"] (sp_sections K) := by
  obtain ⟨fd, F⟩ := T.f_sections
  obtain ⟨tFREE, cFREE⟩ := T.c_FREE
  obtain ⟨tLOCK, cLOCK⟩ := T.c_LOCK
  obtain ⟨tSHARE, cSHARE⟩ := T.c_SHARE
  refine OK.of T.g_sections F (F.ok sc (fun vs H Q E h => ?len) (fun cdv A outer s H vs Q E hr h => ?body)) (F.bindsN fun _ _ _ _ _ _ us hl => match us, hl with | [_], _ => rfl)
  case len =>
    obtain ⟨x, rfl, _⟩ := h
    rfl
  case body =>
    have hu := hu_of hr
    refine ⟨_, PSs.nox (pss_cons (ps_par (i := 1) (j := 2) rfl nd rfl rfl (by decide) rfl rfl (pa_cons (pe_lst pa_nil) (pa_cons pe_dnewK pa_nil)) rfl)
  (pss_cons (ps_for PassesOwn.never rfl (pi_enumTK K rfl T.b_enumerate (pa_cons (pv 0) pa_nil)) (pg_tupK (n := 2) K rfl (pgs_cons (pg_name (i := 3) nd rfl (Or.inl rfl)) (pgs_cons (pg_tupK (n := 2) K rfl (pgs_cons (pg_name (i := 4) nd rfl (Or.inl rfl)) (pgs_cons (pg_name (i := 5) nd rfl (Or.inl rfl)) pgs_nil))) pgs_nil)))
  (pss_cons (ps_if (pt_cmpR (op_in_seqK K) (pv 4) (pe_tup (pa_cons (pe_gs rfl cLOCK) (pa_cons (pe_gs rfl cSHARE) pa_nil))) (by with_unfolding_all rfl))
  (pss_one (ps_dput hu (pv 2) (pv 5) (pe_tup (pa_cons (pv 3) (pa_cons (pv 4) pa_nil))) rfl))
  pss_nil)
  (pss_one (ps_if (pt_cmpR op_eq (pv 4) (pe_gs rfl cFREE) (nomark _))
  (pss_cons (ps_asg (pe_dget hu (pv 2) (pv 5) (fun _ _ => rfl)) (pg_tupK (n := 2) K rfl (pgs_cons (pg_name (i := 6) nd rfl (Or.inl rfl)) (pgs_cons (pg_name (i := 7) nd rfl (Or.inl rfl)) pgs_nil))))
  (pss_one (ps_expr (pe_bm PySem.F.plainAttrs_list PySem.F.slot_list_append PySem.F.type_list_append mt_append (pv 1) (pa_cons (pe_tup (pa_cons (pv 6) (pa_cons (pv 3) (pa_cons (pv 7) (pa_cons (pv 5) pa_nil))))) pa_nil)))))
  pss_nil))))
  (pss_one (ps_ret (pe_callTy (call_tupK K) (by rfl) T.b_tuple (by decide +kernel) (pa_cons (pe_callB (cr_sortDK K hr.units) (by rfl) T.b_sorted (by decide +kernel) (pa_cons (pv 1) pa_nil)) pa_nil)))))), ?_⟩
    obtain ⟨x, rfl, hp, hq⟩ := h

    obtain ⟨t, v⟩ := x
    obtain ⟨ht, hg⟩ := hp
    replace hg : Gd t := hg
    replace ht : ThR K t v H := ht
    have hlen := hg.len
    refine ⟨sz_of (by decide), fun l hl0 d hd0 => ⟨_, _, rfl, ?_⟩⟩
    have nd : d ≠ l := fun z => by rw [z, upd_same] at hd0; cases hd0
    have hd00 : H d = none := by rw [upd_ne nd] at hd0; exact hd0
    have e1 : Ex H (upd (upd H l (.lst [])) d (.dK [])) := (Ex.new hl0).trans (Ex.new hd0)
    have hl1 : upd (upd H l (.lst [])) d (.dK []) l = some (.lst []) := by rw [upd_ne (Ne.symm nd), upd_same]
    have hd1 : upd (upd H l (.lst [])) d (.dK []) d = some (.dK []) := upd_same
    generalize upd (upd H l (.lst [])) d (.dK []) = H1 at e1 hl1 hd1
    have ht1 := keeps_th _ _ _ e1 ht
    have mk : ∀ {h : Hp}, (∃ ys, h l = some (.lst ys)) → (∃ kvs, h d = some (.dK kvs)) → MutA (fun a => a = l ∨ a = d) h := fun {h} ⟨ys, h1⟩ ⟨kvs, h2⟩ a e => by
      rcases e with e | e
      · rw [e]; exact ⟨_, h1, rfl⟩
      · rw [e]; exact ⟨_, h2, rfl⟩
    refine r_forM (ej_enumT (xs := t) (R := Rc K stV) (fun _ => ro_rc) (r_var keeps_th rfl ht1)) (fun a => a = l ∨ a = d) (mk ⟨_, hl1⟩ ⟨_, hd1⟩) fun H2 e2 =>
      ⟨fun i σ' H' => (∃ b c e f g, σ' = [some v, some (.ref l), some (.ref d), b, c, e, f, g]) ∧ ExM (fun a => a = l ∨ a = d) H2 H' ∧ (∃ ys, H' l = some (.lst ys) ∧ Al (fun x v => Rc K partV x v H') (ended t i) ys) ∧ ∃ kvs, H' d = some (.dK kvs) ∧ kvs.length ≤ i ∧ Bgn K t i kvs H',
        ⟨⟨_, _, _, _, _, rfl⟩, ExM.refl _ _, ⟨[], e2 _ _ hl1, Al.nil⟩, [], e2 _ _ hd1, Nat.le_refl _, fun n b w h => by cases h⟩, fun i σ' H' p => p.2.1, ?_, ?_⟩
    · rintro i σ' H3 y H4 hi ⟨⟨b, c, e, f, g, rfl⟩, ex, ⟨ys, hy, al⟩, kvs, hk, hkl, hb⟩ ⟨T, u, s, rfl, hT, rfl, hs, a, rfl, ha⟩
      have ha' := ex_t (Ex.new (o := .tup [.int (i : Nat), .ref a]) hT) ha
      have eT : Ex H3 (upd H3 T (.tup [.int (i : Nat), .ref a])) := Ex.new hT
      refine g2t (st_of upd_same) ha' ?_
      obtain ⟨w, n⟩ := s
      -- the second if, whatever the first did
      have second : ∀ (D' : Ends) H5 kvs', (∀ σ' H', ((∃ b c e f g, σ' = [some v, some (.ref l), some (.ref d), b, c, e, f, g]) ∧ ExM (fun a => a = l ∨ a = d) H2 H' ∧ (∃ ys, H' l = some (.lst ys) ∧ Al (fun x v => Rc K partV x v H') (ended t (i + 1)) ys) ∧ ∃ kvs, H' d = some (.dK kvs) ∧ kvs.length ≤ i + 1 ∧ Bgn K t (i + 1) kvs H') → D'.nx σ' H') →
          ExM (fun a => a = l ∨ a = d) H2 H5 → H5 l = some (.lst ys) → Al (fun x v => Rc K partV x v H5) (ended t i) ys → H5 d = some (.dK kvs') → kvs'.length ≤ i + 1 → Bgn K t (i + 1) kvs' H5 → (w = .free → Bgn K t i kvs' H5) →
          tIfS (tTest (tOp rEq (tVar 4) (tC (.str "free")))) (tSeq (tAsg (tDGet (tVar 2) (tVar 5)) (gTup K 2 (gCons (gName 6) (gCons (gName 7) gNil)))) (tDrop (tBM K "list" rAppend (tVar 1) (tCons (tTup (tCons (tVar 6) (tCons (tVar 3) (tCons (tVar 7) (tCons (tVar 5) tNil))))) tNil)))) tNext
            D' [some v, some (.ref l), some (.ref d), some (.int (i : Nat)), some (.str (wdS w)), some (.str n), f, g] H5 := fun D' H5 kvs' kD x5 l5 al5 d5 kl5 b5 b5' => by
        refine s_when (b := decide (w = .free)) (et_is (et_test (ev_op (ev_var rfl) ev_c (rv_eq rfl))) (wd_free w)) (fun hw H6 e6 => ?_) fun hw H6 e6 => ?_
        · have hw' : w = .free := of_decide_eq_true hw
          subst hw'
          obtain ⟨bb, ww, sec⟩ := sec_of_free hg.wf hs
          have htk := taken_sec hg.wf sec sec.lt (Nat.le_refl _)
          obtain ⟨p, hp1, hp2⟩ := b5' rfl n bb ww htk
          have d6 : H6 d = some (.dK kvs') := e6 _ _ d5
          have l6 : H6 l = some (.lst ys) := e6 _ _ l5
          refine ⟨_, rfl, _, rfl, d, .ref p, rfl, by rw [← hp1]; exact DGet.k (k := Sum.inr n) d6, g2n (ex_t e6 hp2) ?_⟩
          refine s_appU l6 (ev_var rfl) (eu_tup (ea_cons (ev_var rfl) (ea_cons (ev_var rfl) (ea_cons (ev_var rfl) (ea_cons (ev_var rfl) ea_nil)))) (Nat.le_of_ble_eq_true rfl)) ?_ fun p' H7 hp0 e7 hp7 => ?_
          · have h1 := al5.len
            have h2 := List.length_filterMap_le (endAt t) (List.range i)
            rw [List.length_range] at h2
            unfold ended at h1
            omega
          · have l7 : H7 l = some (.lst ys) := e7 _ _ l6
            have e57 := e6.trans e7
            refine kD _ _ ⟨⟨_, _, _, _, _, rfl⟩, (x5.trans (ExM.ex e57)).set (.inl rfl), ⟨_, upd_same, ?_⟩, kvs', by rw [upd_ne nd]; exact e57 _ _ d5, kl5, fun m b w h => ?_⟩
            · rw [em_snoc t i (some (bb, i, ww, n)) (by unfold endAt; rw [hs]; simp [htk])]
              exact Al.snoc (al5.mono fun x v hv => ro_rc.stF _ _ _ _ _ l7 (keeps_rc _ _ _ e57 hv)) (ro_rc.stF _ _ _ _ _ l7 ⟨p', rfl, st_of hp7⟩)
            · obtain ⟨q, h1, h2⟩ := b5 m b w h
              exact ⟨q, h1, sqT_upd l7 (ex_t e57 h2)⟩
        · have hw' : w ≠ .free := of_decide_eq_false hw
          refine kD _ _ ⟨⟨_, _, _, _, _, rfl⟩, x5.trans (ExM.ex e6), ⟨ys, e6 _ _ l5, ?_⟩, kvs', e6 _ _ d5, kl5, fun m b w h => ?_⟩
          · rw [em_snoc t i none (by unfold endAt; rw [hs]; simp [hw'])]
            simp only [Option.toList_none, List.append_nil]
            exact al5.mono fun x v hv => keeps_rc _ _ _ e6 hv
          · obtain ⟨q, h1, h2⟩ := b5 m b w h
            exact ⟨q, h1, ex_t e6 h2⟩
      have tk_succ : ∀ m, taken t m (i + 1) = if w.takes = true ∧ n = m then some (i, w) else taken t m i := fun m => by
        simp only [taken, hs]
      refine q_when (b := w.takes) (et_is (et_test (ev_inU (ev_var rfl) (eu_tup (ea_cons ev_c (ea_cons ev_c ea_nil)) (Nat.le_of_ble_eq_true rfl)) rfl rfl)) (inV_tk w)) (fun hw H5 e5 => ?_) fun hw H5 e5 => ?_
      · have e35 := eT.trans e5
        have d5 : H5 d = some (.dK kvs) := e35 _ _ hk
        refine eu_tup (ea_cons (ev_var rfl) (ea_cons (ev_var rfl) ea_nil)) (Nat.le_of_ble_eq_true rfl) H5 (Ex.refl H5) _ fun p H6 hp0 e6 hp6 => ?_
        have d6 : H6 d = some (.dK kvs) := e6 _ _ d5
        have e36 := e35.trans e6
        refine ⟨_, rfl, _, rfl, d, _, rfl, DPut.k (k := Sum.inr n) d6 (sz_lt (by omega)), ?_⟩
        have keepR : ∀ {x : Part Str} {v : V}, Rc K partV x v H3 → Rc K partV x v (upd H6 d (.dK (putK kvs (Sum.inr n) (.ref p)))) := fun {x v} hv =>
          ro_rc _ (fun a => a = d) _ _ (fun a e => ⟨.dK kvs, by have e : a = d := e; rw [e]; exact d6, rfl⟩) (fun a o z h => by rw [upd_ne z]; exact h) (keeps_rc _ _ _ e36 hv)
        have keepT : ∀ {a : Addr} {xs : List V}, SqT K H6 a xs → SqT K (upd H6 d (.dK (putK kvs (Sum.inr n) (.ref p)))) a xs := fun {a xs} hq =>
          sqT_ro (M := fun a => a = d) (fun a e => ⟨.dK kvs, by have e : a = d := e; rw [e]; exact d6, rfl⟩) (fun a o z h => by rw [upd_ne z]; exact h) hq
        refine second _ _ _ (fun σ' H' z => z) ((ex.trans (ExM.ex e36)).set (.inr rfl)) (by rw [upd_ne (Ne.symm nd)]; exact e36 _ _ hy) (al.mono fun x v hv => keepR hv) upd_same ?_ (fun m b' w' h => ?_) fun hf => by rw [hf] at hw; cases hw
        · have := length_putK kvs (Sum.inr n) (.ref p)
          omega
        · rw [tk_succ] at h
          rw [valV_put]
          by_cases z : n = m
          · rw [if_pos ⟨hw, z⟩] at h
            cases h
            subst z
            exact ⟨p, if_pos rfl, keepT (st_of hp6)⟩
          · rw [if_neg (fun y => z y.2)] at h
            obtain ⟨q, h1, h2⟩ := hb m b' w' h
            refine ⟨q, by rw [if_neg (fun y => z (Sum.inr.inj y).symm)]; exact h1, keepT (ex_t e36 h2)⟩
      · have e35 := eT.trans e5
        have b3 : Bgn K t i kvs H5 := fun m b w h => let ⟨q, h1, h2⟩ := hb m b w h; ⟨q, h1, ex_t e35 h2⟩
        refine second _ _ kvs (fun σ' H' z => z) (ex.trans (ExM.ex e35)) (e35 _ _ hy) (al.mono fun x v hv => keeps_rc _ _ _ e35 hv) (e35 _ _ hk) (by omega) (fun m b' w' h => ?_) fun _ => b3
        rw [tk_succ, if_neg (fun y => by rw [hw] at y; cases y.1)] at h
        exact b3 m b' w' h
    · rintro σ' H3 ⟨⟨b, c, e, f, g, rfl⟩, ex, ⟨ys, hy, al⟩, _⟩
      have eH3 : Ex H H3 := ex_of (e1.trans e2) (fun a m => by rcases m with m | m <;> rw [m] <;> assumption) ex
      refine r_ret (r_tupof (xs := parts t) (fun _ => keeps_rc) ?_) fun v' H4 e4 hv' => hq v' H4 (eH3.trans e4) hv'
      rw [← sort_parts hg.wf]
      exact (r_sort (r_var (v := .ref l) (keeps_lso fun _ => keeps_rc) rfl ⟨l, ys, rfl, sq_of hy, al⟩) dp_part (alike_parts _) (sortable_parts _) (fun _ _ => by show (max 0 (max 0 (max 0 (max 0 0))) + 1 : Nat) ≤ 60; decide)).rr

end HdX
end

section
set_option Elab.async false
set_option linter.all false
set_option maxRecDepth 100000
set_option maxHeartbeats 4000000
namespace HdX
open PySem PySem.Spec PyProof.Rows L2 Evl
open _root_.TT hiding Run
/-! ### two loops, one in the other, that append -/
theorem r_nest {K : PySem.W.Frag} {α β γ : Type} {xs : List α} {ys : List β} {cond : α → β → Bool} {mk : α → β → γ} {enc : γ → List V} {wi1 wi2 : TI} {g1 g2 : TG} {tt : TT} {ta te : TE} {D : Ends} {σ : L2.St} {H0 H : Hp} {l : Addr} {Y1 Y2 : Nat → Hp → V → Hp → Prop}
    (S : L2.St → Prop) (S1 : α → L2.St → Prop) (S2 : α → β → L2.St → Prop) (cs0 : List γ) (hs : S σ) (hex : Ex H0 H) (hl0 : H0 l = none) (hl : ∃ zs, H l = some (.lst zs) ∧ Al (fun c v => Rc K enc c v H) cs0 zs) (hsz : cs0.length + xs.length * ys.length < 100000)
    (h1 : EvJ wi1 σ H xs.length Y1) (t1 : ∀ i σ' H1 v H2, i < xs.length → S σ' → Y1 i H1 v H2 → ∃ x σ2, xs[i]? = some x ∧ Ex H1 H2 ∧ S1 x σ2 ∧ ∀ Q : L2.St → Hp → Prop, Q σ2 H2 → g1 v σ' H2 Q)
    (h2 : ∀ x σ' H', S1 x σ' → Ex H0 H' → EvJ wi2 σ' H' ys.length Y2) (t2 : ∀ x j σ' H1 v H2, j < ys.length → S1 x σ' → Y2 j H1 v H2 → ∃ y σ2, ys[j]? = some y ∧ Ex H1 H2 ∧ S2 x y σ2 ∧ ∀ Q : L2.St → Hp → Prop, Q σ2 H2 → g2 v σ' H2 Q)
    (w2 : ∀ x y σ', S2 x y σ' → S1 x σ') (w1 : ∀ x σ', S1 x σ' → S σ') (hc : ∀ x y σ' H', S2 x y σ' → EvT tt σ' H' (cond x y)) (ha : ∀ x y σ' H', S2 x y σ' → Ev ta σ' H' (.ref l)) (he : ∀ x y σ' H', S2 x y σ' → EvU te σ' H' (enc (mk x y)))
    (hd : ∀ σ' H', S σ' → Ex H0 H' → (∃ zs, H' l = some (.lst zs) ∧ Al (fun c v => Rc K enc c v H') (cs0 ++ xs.flatMap fun x => (ys.filter (cond x)).map (mk x)) zs) → D.nx σ' H') :
    tFor wi1 g1 (tFor wi2 g2 (tIfS tt (tDrop (tBM K "list" rAppend ta (tCons te tNil))) tNext)) D σ H := by
  have fl : ∀ x, ((ys.filter (cond x)).map (mk x)).length ≤ ys.length := fun x => by
    rw [List.length_map]; exact List.length_filter_le _ _
  have ml : ∀ {h : Hp}, (∃ zs, h l = some (.lst zs)) → MutA (fun a => a = l) h := fun {h} ⟨zs, e⟩ a ea => ⟨.lst zs, by have ea : a = l := ea; rw [ea]; exact e, rfl⟩
  have exl : ∀ {h : Hp} {o : HO}, Ex H0 h → Ex H0 (upd h l o) := fun {h o} e => Ex.mut e hl0
  have flen : ∀ i, ((xs.take i).flatMap fun x => (ys.filter (cond x)).map (mk x)).length ≤ i * ys.length := fun i => by
    induction i with
    | zero => simp
    | succ i ih =>
      rw [List.take_add_one, List.flatMap_append, List.length_append]
      have : ((xs[i]?.toList).flatMap fun x => (ys.filter (cond x)).map (mk x)).length ≤ ys.length := by
        cases xs[i]? with
        | none => simp
        | some x => simpa using fl x
      rw [Nat.succ_mul]
      omega
  obtain ⟨zs0, hz0, al0⟩ := hl
  refine r_forM1 h1 (fun a => a = l) (ml ⟨_, hz0⟩) fun Hs es => ⟨fun i σ' H' => S σ' ∧ ExM (fun a => a = l) Hs H' ∧ Ex H0 H' ∧ ∃ zs, H' l = some (.lst zs) ∧ Al (fun c v => Rc K enc c v H') (cs0 ++ (xs.take i).flatMap fun x => (ys.filter (cond x)).map (mk x)) zs,
    ⟨hs, ExM.refl _ _, hex.trans es, zs0, es _ _ hz0, by simpa using al0.mono fun c v hv => keeps_rc _ _ _ es hv⟩, fun i σ' H' p => p.2.1, ?_, fun σ' H' p => hd σ' H' p.1 p.2.2.1 (by have := p.2.2.2; rw [List.take_length] at this; exact this)⟩
  rintro i σ' H1 v H2 hi ⟨s1, x1, e1, zs1, hz1, al1⟩ y1
  obtain ⟨x, σ2, hx, e12, s2, hg⟩ := t1 i σ' H1 v H2 hi s1 y1
  refine hg _ ?_
  refine r_forM1 (h2 x σ2 H2 s2 (e1.trans e12)) (fun a => a = l) (ml ⟨_, e12 _ _ hz1⟩) fun Hi ei => ⟨fun j σ' H' => S1 x σ' ∧ ExM (fun a => a = l) Hi H' ∧ Ex H0 H' ∧ ∃ zs, H' l = some (.lst zs) ∧ Al (fun c v => Rc K enc c v H') ((cs0 ++ (xs.take i).flatMap fun x => (ys.filter (cond x)).map (mk x)) ++ ((ys.take j).filter (cond x)).map (mk x)) zs,
    ⟨s2, ExM.refl _ _, (e1.trans e12).trans ei, zs1, ei _ _ (e12 _ _ hz1), by simpa using al1.mono fun c v hv => keeps_rc _ _ _ (e12.trans ei) hv⟩, fun j σ' H' p => p.2.1, ?_, ?_⟩
  · rintro j σ3 H3 u H4 hj ⟨s3, x3, e3, zs3, hz3, al3⟩ y2
    obtain ⟨y, σ4, hy, e34, s4, hg2⟩ := t2 x j σ3 H3 u H4 hj s3 y2
    refine hg2 _ ?_
    have tk : ((ys.take (j + 1)).filter (cond x)).map (mk x) = ((ys.take j).filter (cond x)).map (mk x) ++ (if cond x y = true then [mk x y] else []) := by
      rw [List.take_add_one, hy]
      simp only [Option.toList_some, List.filter_append, List.map_append, List.filter_cons, List.filter_nil]
      split <;> rfl
    refine s_when (b := cond x y) (hc x y σ4 H4 s4) (fun hb H5 e5 => ?_) fun hb H5 e5 => ?_
    · have hz5 : H5 l = some (.lst zs3) := e5 _ _ (e34 _ _ hz3)
      refine s_appU hz5 (ha x y σ4 H5 s4) (he x y σ4 H5 s4) ?_ fun p H6 hp0 e6 hp6 => ?_
      · have h1 := al3.len
        rw [List.length_append, List.length_append] at h1
        have h3 := flen i
        have h4 : (((ys.take j).filter (cond x)).map (mk x)).length ≤ ys.length := by
          rw [List.length_map]
          have := List.length_filter_le (cond x) (ys.take j)
          have := List.length_take_le j ys
          have : (ys.take j).length ≤ ys.length := by rw [List.length_take]; omega
          omega
        have h5 : (i + 1) * ys.length ≤ xs.length * ys.length := Nat.mul_le_mul_right _ hi
        rw [Nat.succ_mul] at h5
        omega
      · have hz6 : H6 l = some (.lst zs3) := e6 _ _ hz5
        have e36 := (e34.trans e5).trans e6
        refine ⟨w2 x y σ4 s4, (x3.trans (ExM.ex e36)).set rfl, exl (e3.trans e36), _, upd_same, ?_⟩
        rw [tk, if_pos hb, ← List.append_assoc]
        exact Al.snoc (al3.mono fun c v hv => ro_rc.stF _ _ _ _ _ hz6 (keeps_rc _ _ _ e36 hv)) (ro_rc.stF _ _ _ _ _ hz6 ⟨p, rfl, st_of hp6⟩)
    · have e35 := e34.trans e5
      refine ⟨w2 x y σ4 s4, x3.trans (ExM.ex e35), e3.trans e35, zs3, e35 _ _ hz3, ?_⟩
      rw [tk, if_neg (by rw [hb]; decide), List.append_nil]
      exact al3.mono fun c v hv => keeps_rc _ _ _ e35 hv
  · rintro σ3 H3 ⟨s3, x3, e3, zs3, hz3, al3⟩
    refine ⟨w1 x σ3 s3, (x1.trans (ExM.ex (e12.trans ei))).trans x3, e3, zs3, hz3, ?_⟩
    rw [List.take_length] at al3
    rw [List.take_add_one, hx]
    simp only [Option.toList_some, List.flatMap_append, List.flatMap_cons, List.flatMap_nil, List.append_nil]
    rw [← List.append_assoc]
    exact al3

end HdX
end

section
set_option Elab.async false
set_option linter.all false
set_option maxRecDepth 100000
set_option maxHeartbeats 4000000
namespace HdX
open PySem PySem.Spec PyProof.Rows L2 Evl
open _root_.TT hiding Run
section
variable {K : PySem.W.Frag} {σ : L2.St} {H : Hp} {ta tb tc te : TE}
theorem ev_chain {r r' : R2} {x y z : V} {a b : Bool} (ha : Ev ta σ H x) (hb : Ev tb σ H y) (hc : Ev tc σ H z) (h1 : RV r x y H (.bl a)) (h2 : RV r' y z H (.bl b)) : Ev (tChain r r' ta tb tc) σ H (.bl (a && b)) := fun H1 e Q q =>
  ha H1 e _ fun H2 e2 => hb H2 (e.trans e2) _ fun H3 e3 => h1 H3 ((e.trans e2).trans e3) _ fun H4 e4 => ⟨a, rfl, by
    cases a with
    | true => exact iteT (hc H4 (((e.trans e2).trans e3).trans e4) _ fun H5 e5 => h2 H5 ((((e.trans e2).trans e3).trans e4).trans e5) Q fun H6 e6 => q H6 ((((e2.trans e3).trans e4).trans e5).trans e6))
    | false => exact iteF (q H4 ((e2.trans e3).trans e4))⟩
end
def conD (c : Con Str) : PyData := .tuple [.int (c.ab : Nat), .int (c.ae : Nat), .int (c.bb : Nat), .int (c.be : Nat), .str (kdS c.dat), .str c.nm]
theorem dp_con {K : PySem.W.Frag} (x : Con Str) (a : Addr) (H : Hp) (h : SqT K H a (conV x)) : Dp K H (.ref a) (conD x) := .tup h (.cons (.int _) (.cons (.int _) (.cons (.int _) (.cons (.int _) (.cons (.str _) (.cons (.str _) .nil))))))
theorem alike_con (l : List (Con Str)) : PySem.W.AllAlike (l.map conD) := fun d hd d' hd' => by
  obtain ⟨x, _, rfl⟩ := List.mem_map.mp hd
  obtain ⟨y, _, rfl⟩ := List.mem_map.mp hd'
  rfl
theorem sortable_con (l : List (Con Str)) : PySem.W.Sortable (l.map conD) := .inl fun d hd => by
  obtain ⟨x, _, rfl⟩ := List.mem_map.mp hd
  exact ⟨_, _, rfl⟩
/-- the contests of a pair, sorted -/
def srt (A B : Thr) : List (Con Str) := (cons A B).mergeSort (PySem.W.dataLe false conD)
theorem mem_srt {A B : Thr} {c : Con Str} : c ∈ srt A B ↔ c ∈ cons A B := (List.mergeSort_perm _ _).mem_iff
theorem parts_le (t : Thr) : (parts t).length ≤ t.length := by
  have := List.length_filterMap_le (partAt t) (List.range t.length)
  rw [List.length_range] at this
  exact this
theorem accs_le (t : Thr) : (accs t).length ≤ t.length := by
  unfold accs
  refine Nat.le_trans (List.length_filterMap_le _ _) ?_
  rw [List.length_range]
  exact Nat.le_refl _
theorem mul100 {a b : Nat} (ha : a ≤ 100) (hb : b ≤ 100) : a * b ≤ 10000 := Nat.le_trans (Nat.mul_le_mul ha hb) (by decide)
abbrev PreP (K : PySem.W.Frag) (x : Thr × Thr × V) (H : Hp) : Prop := PaR K x.1 x.2.1 x.2.2 H ∧ Gd x.1 ∧ Gd x.2.1
theorem ea1 {σ : L2.St} {H : Hp} {te : TE} {P : VR} (k : Keeps P) (h : EvR te σ H P) : EaR (tCons te tNil) σ H fun vs H1 => ∃ v, vs = [v] ∧ P v H1 := fun H1 e Q q => ar_cons k h ar_nil H1 e Q fun vs H2 e2 ⟨v, r, h1, h2, h3⟩ => q vs H2 e2 ⟨v, by rw [h1, h3], h2⟩
abbrev sp_lock_contests (K : PySem.W.Frag) : Sp := SpF (α := Thr × Thr × V) (fun x => [x.2.2]) (PreP K) (fun x => LsN (Rc K conV) (lockCons x.1 x.2.1))
namespace D_lock_contests
abbrev N : List Str := ["pair", "found", "begin", "end", "word", "name", "first", "last", "other", "same"]
abbrev SC : Scope := defScope s_lock_contests
theorem sc : FnScope N ["pair"] SC := ⟨rfl, rfl, rfl, by decide +kernel, rfl, by decide +kernel, by decide +kernel⟩
theorem nd : N.Nodup := sc.nd
end D_lock_contests
theorem lock_cond (p q : Part Str) : (decide (V.str p.2.2.2 = V.str q.2.2.2) && !(decide (V.str (wdS p.2.2.1) = V.str (wdS q.2.2.1)) && decide (V.str (wdS q.2.2.1) = V.str (Str.ofString "share")))) = lockMeet p q := by
  unfold lockMeet
  rw [str_eqN, wd_eqN, show decide (V.str (wdS q.2.2.1) = V.str (Str.ofString "share")) = decide (q.2.2.1 = .share) from wd_eqN (b := .share)]
  congr 2
  rw [Bool.eq_iff_iff]
  simp only [Bool.and_eq_true, decide_eq_true_eq]
  constructor
  · rintro ⟨h1, h2⟩; exact ⟨h1.trans h2, h2⟩
  · rintro ⟨h1, h2⟩; exact ⟨h1.trans h2.symm, h2⟩
open D_lock_contests in
theorem ok_lock_contests {P : Program} {w : World} {K : PySem.W.Frag} {mg : Str → Option Value} {base : Heap} (T : Tx K mg) (O_sections : OK P w K mg base 1 "sections" ["thread"] (sp_sections K)) : OK P w K mg base 2 "lock_contests" ["pair"] (sp_lock_contests K) := by
  obtain ⟨fd, F⟩ := T.f_lock_contests
  obtain ⟨tSHARE, cSHARE⟩ := T.c_SHARE
  refine OK.of T.g_lock_contests F (F.ok sc (fun vs H Q E h => ?len) (fun cdv A outer s H vs Q E hr h => ?body)) (F.bindsN fun _ _ _ _ _ _ us hl => match us, hl with | [_], _ => rfl)
  case len =>
    obtain ⟨x, rfl, _⟩ := h
    rfl
  case body =>
    have hu := hu_of hr
    refine ⟨_, PSs.nox (pss_cons (ps_set (i := 1) nd rfl (Or.inl rfl) (pe_lst pa_nil))
  (pss_cons (ps_for PassesOwn.never rfl (pi_tupK K (pcall O_sections hr (by decide) (pa_cons (pe_ix (ix_tupK K) (pv 0) pe_int (fun _ _ => rfl)) pa_nil))) (pg_tupK (n := 4) K rfl (pgs_cons (pg_name (i := 2) nd rfl (Or.inl rfl)) (pgs_cons (pg_name (i := 3) nd rfl (Or.inl rfl)) (pgs_cons (pg_name (i := 4) nd rfl (Or.inl rfl)) (pgs_cons (pg_name (i := 5) nd rfl (Or.inl rfl)) pgs_nil)))))
  (pss_one (ps_for PassesOwn.never rfl (pi_tupK K (pcall O_sections hr (by decide) (pa_cons (pe_ix (ix_tupK K) (pv 0) pe_int (fun _ _ => rfl)) pa_nil))) (pg_tupK (n := 4) K rfl (pgs_cons (pg_name (i := 6) nd rfl (Or.inl rfl)) (pgs_cons (pg_name (i := 7) nd rfl (Or.inl rfl)) (pgs_cons (pg_name (i := 8) nd rfl (Or.inl rfl)) (pgs_cons (pg_name (i := 9) nd rfl (Or.inl rfl)) pgs_nil)))))
  (pss_one (ps_if (PW.pt (pw_and (pt_cmpR op_eq (pv 5) (pv 9) (nomark _)) (pw_and1 (pt_not (pt_chain op_eq op_eq (pv 4) (pv 8) (pe_gs rfl cSHARE))))))
  (pss_one (ps_expr (pe_bm PySem.F.plainAttrs_list PySem.F.slot_list_append PySem.F.type_list_append mt_append (pv 1) (pa_cons (pe_tup (pa_cons (pv 2) (pa_cons (pv 3) (pa_cons (pv 6) (pa_cons (pv 7) (pa_cons pe_str (pa_cons (pv 5) pa_nil))))))) pa_nil))))
  pss_nil)))))
  (pss_one (ps_ret (pv 1))))), ?_⟩
    obtain ⟨x, rfl, hp, hq⟩ := h

    obtain ⟨A, B, v⟩ := x
    obtain ⟨hpa, hA, hB⟩ := hp
    replace hpa : PaR K A B v H := hpa
    replace hA : Gd A := hA
    replace hB : Gd B := hB
    refine q_asgL (el_lst ea_nil (by decide)) fun l H1 hl0 e1 hl1 => ?_
    have call : ∀ {i : Nat} {t : Thr} {σ' : L2.St} {H' : Hp} {tix : TE}, Gd t → EvR tix σ' H' (ThR K t) → EvJ (iTup K (tCall (sp_sections K) [] E0 (tCons tix tNil))) σ' H' (parts t).length (YA (Rc K partV) (parts t)) := fun {i t σ' H' tix} hg ht =>
      ej_tupR (fun _ => ro_rc) (r_callR (ea1 keeps_th ht) fun vs H1 e1 ⟨u, h1, h2⟩ Q q => ⟨(t, u), h1, ⟨h2, hg⟩, fun v H' e hv => q v H' e hv⟩)
    refine r_nest (K := K) (mk := lockCon) (cond := lockMeet) (enc := conV) (xs := parts A) (ys := parts B) (Y2 := YA (Rc K partV) (parts B)) (H0 := H) (l := l) (fun σ' => ∃ b c d e f g h i, σ' = [some v, some (.ref l), b, c, d, e, f, g, h, i]) (fun p σ' => ∃ f g h i, σ' = [some v, some (.ref l), some (.int (p.1 : Nat)), some (.int (p.2.1 : Nat)), some (.str (wdS p.2.2.1)), some (.str p.2.2.2), f, g, h, i])
      (fun p q σ' => σ' = [some v, some (.ref l), some (.int (p.1 : Nat)), some (.int (p.2.1 : Nat)), some (.str (wdS p.2.2.1)), some (.str p.2.2.2), some (.int (q.1 : Nat)), some (.int (q.2.1 : Nat)), some (.str (wdS q.2.2.1)), some (.str q.2.2.2)]) []
      ⟨_, _, _, _, _, _, _, _, rfl⟩ e1 hl0 ⟨[], hl1, Al.nil⟩ ?_ (call (i := 0) hA (r_pa0 (r_var keeps_pa rfl (keeps_pa _ _ _ e1 hpa)) ev_c)) ?_ ?_ ?_ ?_ ?_ ?_ ?_ ?_ ?_
    · have h1 := parts_le A
      have h2 := parts_le B
      have h3 := mul100 (Nat.le_trans h1 hA.len) (Nat.le_trans h2 hB.len)
      show 0 + _ < _
      omega
    · rintro i σ' H1 u H2 hi ⟨b, c, d, e, f, g, h, j, rfl⟩ ⟨rfl, p, hp, a, rfl, ha⟩
      exact ⟨p, _, hp, Ex.refl _, ⟨_, _, _, _, rfl⟩, fun Q q => g4n ha q⟩
    · rintro p σ' H' ⟨f, g, h, i, rfl⟩ e
      exact call (i := 1) hB (r_pa1 (r_var keeps_pa rfl (keeps_pa _ _ _ e hpa)) ev_c)
    · rintro p j σ' H1 u H2 hj ⟨f, g, h, i, rfl⟩ ⟨rfl, q, hq, a, rfl, ha⟩
      exact ⟨q, _, hq, Ex.refl _, rfl, fun Q q => g4n ha q⟩
    · rintro p q σ' rfl
      exact ⟨_, _, _, _, rfl⟩
    · rintro p σ' ⟨f, g, h, i, rfl⟩
      exact ⟨_, _, _, _, _, _, _, _, rfl⟩
    · rintro p q σ' H' rfl
      exact et_is (et_and (et_test (ev_op (ev_var rfl) (ev_var rfl) (rv_eq rfl))) fun _ => et_not (et_test (ev_chain (ev_var rfl) (ev_var rfl) ev_c (rv_eq rfl) (rv_eq rfl)))) (lock_cond p q)
    · rintro p q σ' H' rfl
      exact ev_var rfl
    · rintro p q σ' H' rfl
      exact eu_tup (ea_cons (ev_var rfl) (ea_cons (ev_var rfl) (ea_cons (ev_var rfl) (ea_cons (ev_var rfl) (ea_cons ev_c (ea_cons (ev_var rfl) ea_nil)))))) (Nat.le_of_ble_eq_true rfl)
    · rintro σ' H' ⟨b, c, d, e, f, g, h, j, rfl⟩ ex ⟨zs, hz, al⟩
      refine r_ret (Ev.r (ev_var rfl)) fun v' H4 e4 hv' => ?_
      have hv' : v' = .ref l := hv'
      subst hv'
      exact hq _ H4 (ex.trans e4) (fun a e => by cases e; exact hl0) ⟨l, zs, rfl, e4 _ _ hz, by simpa [lockCons] using al.mono fun c v hv => keeps_rc _ _ _ e4 hv⟩
/-! ### the contests over variables -/
theorem data_cond (p q : Acc Str) : (decide (V.str p.2.2 = V.str q.2.2) && !(decide (V.str (wdS p.2.1) = V.str (wdS q.2.1)) && decide (V.str (wdS q.2.1) = V.str (Str.ofString "read")))) = dataMeet p q := by
  unfold dataMeet
  rw [str_eqN, wd_eqN, show decide (V.str (wdS q.2.1) = V.str (Str.ofString "read")) = decide (q.2.1 = .read) from wd_eqN (b := .read)]
  congr 2
  rw [Bool.eq_iff_iff]
  simp only [Bool.and_eq_true, decide_eq_true_eq]
  constructor
  · rintro ⟨h1, h2⟩; exact ⟨h1.trans h2, h2⟩
  · rintro ⟨h1, h2⟩; exact ⟨h1.trans h2.symm, h2⟩
abbrev sp_data_contests (K : PySem.W.Frag) : Sp := SpF (α := Thr × Thr × V) (fun x => [x.2.2]) (PreP K) (fun x => LsN (Rc K conV) (dataCons x.1 x.2.1))
namespace D_data_contests
abbrev N : List Str := ["pair", "found", "number", "word", "name", "there", "other", "same"]
abbrev SC : Scope := defScope s_data_contests
theorem sc : FnScope N ["pair"] SC := ⟨rfl, rfl, rfl, by decide +kernel, rfl, by decide +kernel, by decide +kernel⟩
theorem nd : N.Nodup := sc.nd
end D_data_contests
open D_data_contests in
theorem ok_data_contests {P : Program} {w : World} {K : PySem.W.Frag} {mg : Str → Option Value} {base : Heap} (T : Tx K mg) (O_accesses : OK P w K mg base 1 "accesses" ["thread"] (sp_accesses K)) : OK P w K mg base 2 "data_contests" ["pair"] (sp_data_contests K) := by
  obtain ⟨fd, F⟩ := T.f_data_contests
  obtain ⟨tREAD, cREAD⟩ := T.c_READ
  refine OK.of T.g_data_contests F (F.ok sc (fun vs H Q E h => ?len) (fun cdv A outer s H vs Q E hr h => ?body)) (F.bindsN fun _ _ _ _ _ _ us hl => match us, hl with | [_], _ => rfl)
  case len =>
    obtain ⟨x, rfl, _⟩ := h
    rfl
  case body =>
    have hu := hu_of hr
    refine ⟨_, PSs.nox (pss_cons (ps_set (i := 1) nd rfl (Or.inl rfl) (pe_lst pa_nil))
  (pss_cons (ps_for PassesOwn.never rfl (pi_tupK K (pcall O_accesses hr (by decide) (pa_cons (pe_ix (ix_tupK K) (pv 0) pe_int (fun _ _ => rfl)) pa_nil))) (pg_tupK (n := 3) K rfl (pgs_cons (pg_name (i := 2) nd rfl (Or.inl rfl)) (pgs_cons (pg_name (i := 3) nd rfl (Or.inl rfl)) (pgs_cons (pg_name (i := 4) nd rfl (Or.inl rfl)) pgs_nil))))
  (pss_one (ps_for PassesOwn.never rfl (pi_tupK K (pcall O_accesses hr (by decide) (pa_cons (pe_ix (ix_tupK K) (pv 0) pe_int (fun _ _ => rfl)) pa_nil))) (pg_tupK (n := 3) K rfl (pgs_cons (pg_name (i := 5) nd rfl (Or.inl rfl)) (pgs_cons (pg_name (i := 6) nd rfl (Or.inl rfl)) (pgs_cons (pg_name (i := 7) nd rfl (Or.inl rfl)) pgs_nil))))
  (pss_one (ps_if (PW.pt (pw_and (pt_cmpR op_eq (pv 4) (pv 7) (nomark _)) (pw_and1 (pt_not (pt_chain op_eq op_eq (pv 3) (pv 6) (pe_gs rfl cREAD))))))
  (pss_one (ps_expr (pe_bm PySem.F.plainAttrs_list PySem.F.slot_list_append PySem.F.type_list_append mt_append (pv 1) (pa_cons (pe_tup (pa_cons (pv 2) (pa_cons (pv 2) (pa_cons (pv 5) (pa_cons (pv 5) (pa_cons pe_str (pa_cons (pv 4) pa_nil))))))) pa_nil))))
  pss_nil)))))
  (pss_one (ps_ret (pv 1))))), ?_⟩
    obtain ⟨x, rfl, hp, hq⟩ := h

    obtain ⟨A, B, v⟩ := x
    obtain ⟨hpa, hA, hB⟩ := hp
    replace hpa : PaR K A B v H := hpa
    replace hA : Gd A := hA
    replace hB : Gd B := hB
    refine q_asgL (el_lst ea_nil (by decide)) fun l H1 hl0 e1 hl1 => ?_
    have call : ∀ {i : Nat} {t : Thr} {σ' : L2.St} {H' : Hp} {tix : TE}, Gd t → EvR tix σ' H' (ThR K t) → EvJ (iTup K (tCall (sp_accesses K) [] E0 (tCons tix tNil))) σ' H' (accs t).length (YA (Rc K accV) (accs t)) := fun {i t σ' H' tix} hg ht =>
      ej_tupR (fun _ => ro_rc) (r_callR (ea1 keeps_th ht) fun vs H1 e1 ⟨u, h1, h2⟩ Q q => ⟨(t, u), h1, ⟨h2, hg.len⟩, fun v H' e hv => q v H' e hv⟩)
    refine r_nest (K := K) (mk := dataCon) (cond := dataMeet) (enc := conV) (xs := accs A) (ys := accs B) (Y2 := YA (Rc K accV) (accs B)) (H0 := H) (l := l) (fun σ' => ∃ b c d e f g, σ' = [some v, some (.ref l), b, c, d, e, f, g]) (fun p σ' => ∃ f g h, σ' = [some v, some (.ref l), some (.int (p.1 : Nat)), some (.str (wdS p.2.1)), some (.str p.2.2), f, g, h])
      (fun p q σ' => σ' = [some v, some (.ref l), some (.int (p.1 : Nat)), some (.str (wdS p.2.1)), some (.str p.2.2), some (.int (q.1 : Nat)), some (.str (wdS q.2.1)), some (.str q.2.2)]) []
      ⟨_, _, _, _, _, _, rfl⟩ e1 hl0 ⟨[], hl1, Al.nil⟩ ?_ (call (i := 0) hA (r_pa0 (r_var keeps_pa rfl (keeps_pa _ _ _ e1 hpa)) ev_c)) ?_ ?_ ?_ ?_ ?_ ?_ ?_ ?_ ?_
    · have h1 := accs_le A
      have h2 := accs_le B
      have h3 := mul100 (Nat.le_trans h1 hA.len) (Nat.le_trans h2 hB.len)
      show 0 + _ < _
      omega
    · rintro i σ' H1 u H2 hi ⟨b, c, d, e, f, g, rfl⟩ ⟨rfl, p, hp, a, rfl, ha⟩
      exact ⟨p, _, hp, Ex.refl _, ⟨_, _, _, rfl⟩, fun Q q => g3n ha q⟩
    · rintro p σ' H' ⟨f, g, h, rfl⟩ e
      exact call (i := 1) hB (r_pa1 (r_var keeps_pa rfl (keeps_pa _ _ _ e hpa)) ev_c)
    · rintro p j σ' H1 u H2 hj ⟨f, g, h, rfl⟩ ⟨rfl, q, hq, a, rfl, ha⟩
      exact ⟨q, _, hq, Ex.refl _, rfl, fun Q q => g3n ha q⟩
    · rintro p q σ' rfl
      exact ⟨_, _, _, rfl⟩
    · rintro p σ' ⟨f, g, h, rfl⟩
      exact ⟨_, _, _, _, _, _, rfl⟩
    · rintro p q σ' H' rfl
      exact et_is (et_and (et_test (ev_op (ev_var rfl) (ev_var rfl) (rv_eq rfl))) fun _ => et_not (et_test (ev_chain (ev_var rfl) (ev_var rfl) ev_c (rv_eq rfl) (rv_eq rfl)))) (data_cond p q)
    · rintro p q σ' H' rfl
      exact ev_var rfl
    · rintro p q σ' H' rfl
      exact eu_tup (ea_cons (ev_var rfl) (ea_cons (ev_var rfl) (ea_cons (ev_var rfl) (ea_cons (ev_var rfl) (ea_cons ev_c (ea_cons (ev_var rfl) ea_nil)))))) (Nat.le_of_ble_eq_true rfl)
    · rintro σ' H' ⟨b, c, d, e, f, g, rfl⟩ ex ⟨zs, hz, al⟩
      refine r_ret (Ev.r (ev_var rfl)) fun v' H4 e4 hv' => ?_
      have hv' : v' = .ref l := hv'
      subst hv'
      exact hq _ H4 (ex.trans e4) (fun a e => by cases e; exact hl0) ⟨l, zs, rfl, e4 _ _ hz, by simpa [dataCons] using al.mono fun c v hv => keeps_rc _ _ _ e4 hv⟩
/-! ### all, sorted -/
abbrev sp_contests (K : PySem.W.Frag) : Sp := SpP (α := Thr × Thr × V) (fun x => [x.2.2]) (PreP K) (fun x => TuO K (Rc K conV) (srt x.1 x.2.1))
namespace D_contests
abbrev N : List Str := ["pair"]
abbrev SC : Scope := defScope s_contests
theorem sc : FnScope N ["pair"] SC := ⟨rfl, rfl, rfl, by decide +kernel, rfl, by decide +kernel, by decide +kernel⟩
theorem nd : N.Nodup := sc.nd
end D_contests
theorem r_cat {σ : L2.St} {H : Hp} {ta tb : TE} {α : Type} {R : α → VR} {xs ys : List α} (k : ∀ x, Keeps (R x)) (ha : EvR ta σ H (LsN R xs)) (hb : EvR tb σ H (LsN R ys)) (hz : xs.length + ys.length ≤ 100000) : EvR (tOp rCat ta tb) σ H (LsN R (xs ++ ys)) :=
  r_op (keeps_lsn k) ha hb fun x y H1 _ ⟨a, vs, h1, h2, h3⟩ ⟨b, ws, h4, h5, h6⟩ Q q => ⟨a, b, vs, ws, h1, h4, h2, h5, by rw [← h3.len, ← h6.len]; exact sz_of hz, fun p hp => q _ _ (Ex.new hp) ⟨p, _, rfl, upd_same, (h3.app h6).mono fun x v hv => k _ _ _ _ (Ex.new hp) hv⟩⟩
theorem cons_len {A B : Thr} (hA : Gd A) (hB : Gd B) : (lockCons A B).length ≤ 10000 ∧ (dataCons A B).length ≤ 10000 := by
  have key : ∀ {α β γ : Type} (xs : List α) (ys : List β) (f : α → β → Bool) (g : α → β → γ), (xs.flatMap fun x => (ys.filter (f x)).map (g x)).length ≤ xs.length * ys.length := fun {α β γ} xs ys f g => by
    induction xs with
    | nil => simp
    | cons x xs ih =>
      rw [List.flatMap_cons, List.length_append, List.length_map, List.length_cons, Nat.succ_mul]
      have := List.length_filter_le (f x) ys
      omega
  have h1 := parts_le A
  have h2 := parts_le B
  have h3 := accs_le A
  have h4 := accs_le B
  exact ⟨Nat.le_trans (key _ _ _ _) (mul100 (Nat.le_trans h1 hA.len) (Nat.le_trans h2 hB.len)), Nat.le_trans (key _ _ _ _) (mul100 (Nat.le_trans h3 hA.len) (Nat.le_trans h4 hB.len))⟩
open D_contests in
theorem ok_contests {P : Program} {w : World} {K : PySem.W.Frag} {mg : Str → Option Value} {base : Heap} (T : Tx K mg) (O_lock_contests : OK P w K mg base 2 "lock_contests" ["pair"] (sp_lock_contests K)) (O_data_contests : OK P w K mg base 2 "data_contests" ["pair"] (sp_data_contests K)) : OK P w K mg base 3 "contests" ["pair"] (sp_contests K) := by
  obtain ⟨fd, F⟩ := T.f_contests
  refine OK.of T.g_contests F (F.ok sc (fun vs H Q E h => ?len) (fun cdv A outer s H vs Q E hr h => ?body)) (F.bindsN fun _ _ _ _ _ _ us hl => match us, hl with | [_], _ => rfl)
  case len =>
    obtain ⟨x, rfl, _⟩ := h
    rfl
  case body =>
    have hu := hu_of hr
    refine ⟨_, PSs.nox (pss_one (ps_ret (pe_callTy (call_tupK K) (by rfl) T.b_tuple (by decide +kernel) (pa_cons (pe_callB (cr_sortDK K hr.units) (by rfl) T.b_sorted (by decide +kernel) (pa_cons (pe_op op_cat (pcall O_lock_contests hr (by decide) (pa_cons (pv 0) pa_nil)) (pcall O_data_contests hr (by decide) (pa_cons (pv 0) pa_nil))) pa_nil)) pa_nil)))), ?_⟩
    obtain ⟨x, rfl, hp, hq⟩ := h

    obtain ⟨A, B, v⟩ := x
    obtain ⟨hpa, hA, hB⟩ := hp
    replace hpa : PaR K A B v H := hpa
    replace hA : Gd A := hA
    replace hB : Gd B := hB
    obtain ⟨c1, c2⟩ := cons_len hA hB
    refine r_ret (r_tupof (fun _ => keeps_rc) (r_sort (xs := cons A B) ((r_cat (fun _ => keeps_rc) ?_ ?_ (by omega)).imp fun v H _ h => h.o) dp_con (alike_con _) (sortable_con _) (fun _ _ => by show (max 0 (max 0 (max 0 (max 0 (max 0 (max 0 0))))) + 1 : Nat) ≤ 60; decide)).rr) fun v' H4 e4 hv' => hq v' H4 e4 hv'
    · exact (f_callR (ea1 keeps_pa (r_var keeps_pa rfl hpa)) fun vs H1 e1 ⟨u, h1, h2⟩ Q q => ⟨(A, B, u), h1, ⟨h2, hA, hB⟩, fun v H' e f hv => q v H' e f hv⟩).rr
    · exact (f_callR (ea1 keeps_pa (r_var keeps_pa rfl hpa)) fun vs H1 e1 ⟨u, h1, h2⟩ Q q => ⟨(A, B, u), h1, ⟨h2, hA, hB⟩, fun v H' e f hv => q v H' e f hv⟩).rr

end HdX
end

section
set_option Elab.async false
set_option linter.all false
set_option maxRecDepth 100000
set_option maxHeartbeats 4000000
namespace HdX
open PySem PySem.Spec PyProof.Rows L2 Evl
open _root_.TT hiding Run
/-! ### the law's own contests -/
def enumL (t : Thr) : List (Nat × (Wd × Str)) := (List.range t.length).filterMap fun k => (t[k]?).map fun s => (k, s)
theorem enumL_eq (t : Thr) : enumL t = (List.range t.length).map fun k => (k, t.getD k (.work, ⟨#[]⟩)) := by
  unfold enumL
  have : ∀ l : List Nat, (∀ k ∈ l, k < t.length) → l.filterMap (fun k => (t[k]?).map fun s => (k, s)) = l.map fun k => (k, t.getD k (.work, ⟨#[]⟩)) := by
    intro l
    induction l with
    | nil => intro _; rfl
    | cons k l ih =>
      intro h
      have hk : k < t.length := h k List.mem_cons_self
      rw [List.filterMap_cons, List.map_cons, ih fun j hj => h j (List.mem_cons_of_mem _ hj), List.getElem?_eq_getElem hk]
      simp [List.getD, hk]
  exact this _ fun k hk => List.mem_range.mp hk
theorem enumL_len (t : Thr) : (enumL t).length = t.length := by rw [enumL_eq]; simp
theorem enumL_get (t : Thr) (i : Nat) : (enumL t)[i]? = (t[i]?).map fun s => (i, s) := by
  rw [enumL_eq, List.getElem?_map]
  by_cases h : i < t.length
  · rw [List.getElem?_range h, List.getElem?_eq_getElem h]
    simp [List.getD, h]
  · rw [List.getElem?_eq_none (by simpa using h), List.getElem?_eq_none (by omega)]
    rfl
def eCond (p q : Nat × (Wd × Str)) : Bool := decide (p.2.2 = q.2.2) && ((decide (p.2.1 = .write) || decide (q.2.1 = .write)) && (p.2.1.rw && q.2.1.rw))
def eCon (p q : Nat × (Wd × Str)) : Con Str := ⟨p.1, p.1, q.1, q.1, true, p.2.2⟩
theorem accs_enum (t : Thr) : accs t = ((enumL t).filter fun p => p.2.1.rw).map fun p => (p.1, p.2.1, p.2.2) := by
  unfold accs enumL
  generalize List.range t.length = l
  induction l with
  | nil => rfl
  | cons k l ih =>
    rw [List.filterMap_cons, List.filterMap_cons, ih]
    cases t[k]? with
    | none => rfl
    | some s => cases h : s.1.rw <;> simp [h]
theorem dataCons_enum (A B : Thr) : dataCons A B = (enumL A).flatMap fun p => ((enumL B).filter (eCond p)).map (eCon p) := by
  unfold dataCons
  rw [accs_enum A, accs_enum B]
  have inner : ∀ p : Nat × (Wd × Str), p.2.1.rw = true → ((((enumL B).filter fun q => q.2.1.rw).map fun q => (q.1, q.2.1, q.2.2)).filter (dataMeet (p.1, p.2.1, p.2.2))).map (dataCon (p.1, p.2.1, p.2.2)) = ((enumL B).filter (eCond p)).map (eCon p) := fun p hp => by
    rw [List.filter_map, List.filter_filter, List.map_map]
    have e : (enumL B).filter (fun q => ((dataMeet (p.1, p.2.1, p.2.2)) ∘ fun q : Nat × (Wd × Str) => (q.1, q.2.1, q.2.2)) q && q.2.1.rw) = (enumL B).filter (eCond p) := by
      refine List.filter_congr fun q _ => ?_
      show (dataMeet (p.1, p.2.1, p.2.2) (q.1, q.2.1, q.2.2) && q.2.1.rw) = eCond p q
      unfold dataMeet eCond
      obtain ⟨pk, pw, pn⟩ := p
      obtain ⟨qk, qw, qn⟩ := q
      simp only at hp ⊢
      by_cases e : pn = qn
      · subst e
        cases pw <;> first | (cases hp; done) | (cases qw <;> simp [Wd.rw])
      · simp [e]
    rw [e]
    rfl
  have out : ∀ p : Nat × (Wd × Str), p.2.1.rw = false → ((enumL B).filter (eCond p)).map (eCon p) = [] := fun p hp => by
    rw [List.map_eq_nil_iff, List.filter_eq_nil_iff]
    intro q _
    unfold eCond
    rw [hp]
    simp
  generalize enumL A = l
  induction l with
  | nil => rfl
  | cons p l ih =>
    rw [List.filter_cons, List.flatMap_cons]
    by_cases hp : p.2.1.rw = true
    · rw [if_pos hp, List.map_cons, List.flatMap_cons, ih, inner p hp]
    · rw [if_neg hp, ih, out p (by simpa using hp)]
      rfl
theorem eqv_ss (a b : Wd) : PyData.eqv (.tuple [.str (wdS a), .str (wdS b)]) (.tuple [.str (Str.ofString "share"), .str (Str.ofString "share")]) = (decide (a = .share) && decide (b = .share)) := by
  rw [eqv_st]
  have h : ∀ w : Wd, decide (wdS w = Str.ofString "share") = decide (w = .share) := fun w => decide_eq_decide.mpr (wdS_inj (b := .share))
  rw [h, h]
theorem ne_share {K : PySem.W.Frag} {σ : L2.St} {H : Hp} {ta tb : TE} {a b : Wd} (ha : EvR ta σ H (IsTup [.str (wdS a), .str (wdS b)])) (hb : EvR tb σ H (IsTup [.str (Str.ofString "share"), .str (Str.ofString "share")])) :
    Ev (tOp (rNeD K) ta tb) σ H (.bl (!(decide (a = .share) && decide (b = .share)))) :=
  v_op (fun _ _ _ e ⟨p, h, q⟩ => ⟨p, h, e _ _ q⟩) ha hb fun x y H1 _ ⟨p, h1, h2⟩ ⟨q, h3, h4⟩ Q k => by
    subst h1 h3
    refine ⟨_, _, .tup (st_of h2) (.cons (.str _) (.cons (.str _) .nil)), .tup (st_of h4) (.cons (.str _) (.cons (.str _) .nil)), ?_, by decide +kernel, by rw [eqv_ss]; exact k⟩
    exact shaped_st a (wdS b) (by cases b <;> decide +kernel)
abbrev sp_w_contests (K : PySem.W.Frag) : Sp := SpF (α := Thr × Thr × V) (fun x => [x.2.2]) (PreP K) (fun x => LsN (Rc K conV) (srt x.1 x.2.1))
namespace D_w_contests
abbrev N : List Str := ["_law_pair_here", "_law_found", "_law_begin", "_law_end", "_law_word", "_law_name", "_law_first", "_law_last", "_law_other", "_law_same", "_law_at", "_law_there"]
abbrev SC : Scope := defScope s_w_contests
theorem sc : FnScope N ["_law_pair_here"] SC := ⟨rfl, rfl, rfl, by decide +kernel, rfl, by decide +kernel, by decide +kernel⟩
theorem nd : N.Nodup := sc.nd
end D_w_contests
theorem lock_condW (p q : Part Str) : (decide (V.str p.2.2.2 = V.str q.2.2.2) && !(decide (p.2.2.1 = .share) && decide (q.2.2.1 = .share))) = lockMeet p q := by
  unfold lockMeet
  rw [str_eqN]
theorem inV_wr (a b : Wd) : inV (.str (Str.ofString "write")) [.str (wdS a), .str (wdS b)] = (decide (a = .write) || decide (b = .write)) := by cases a <;> cases b <;> decide +kernel
theorem data_condW (p q : Nat × (Wd × Str)) : (decide (V.str p.2.2 = V.str q.2.2) && (inV (.str (Str.ofString "write")) [.str (wdS p.2.1), .str (wdS q.2.1)] && (inV (.str (wdS p.2.1)) [.str "read", .str "write"] && inV (.str (wdS q.2.1)) [.str "read", .str "write"]))) = eCond p q := by
  unfold eCond
  rw [str_eqN, inV_wr, inV_rw, inV_rw]
open D_w_contests in
theorem ok_w_contests {P : Program} {w : World} {K : PySem.W.Frag} {mg : Str → Option Value} {base : Heap} (T : Tx K mg) (O_w_parts : OK P w K mg base 1 "_law_parts" ["_law_thread_here"] (sp_w_parts K)) : OK P w K mg base 2 "_law_contests" ["_law_pair_here"] (sp_w_contests K) := by
  obtain ⟨fd, F⟩ := T.f_w_contests
  refine OK.of T.g__law_contests F (F.ok sc (fun vs H Q E h => ?len) (fun cdv A outer s H vs Q E hr h => ?body)) (F.bindsN fun _ _ _ _ _ _ us hl => match us, hl with | [_], _ => rfl)
  case len =>
    obtain ⟨x, rfl, _⟩ := h
    rfl
  case body =>
    have hu := hu_of hr
    refine ⟨_, PSs.nox (pss_cons (ps_set (i := 1) nd rfl (Or.inl rfl) (pe_lst pa_nil))
  (pss_cons (ps_for PassesOwn.never rfl (pi_listK K (pcall O_w_parts hr (by decide) (pa_cons (pe_ix (ix_tupK K) (pv 0) pe_int (fun _ _ => rfl)) pa_nil))) (pg_tupK (n := 4) K rfl (pgs_cons (pg_name (i := 2) nd rfl (Or.inl rfl)) (pgs_cons (pg_name (i := 3) nd rfl (Or.inl rfl)) (pgs_cons (pg_name (i := 4) nd rfl (Or.inl rfl)) (pgs_cons (pg_name (i := 5) nd rfl (Or.inl rfl)) pgs_nil)))))
  (pss_one (ps_for PassesOwn.never rfl (pi_listK K (pcall O_w_parts hr (by decide) (pa_cons (pe_ix (ix_tupK K) (pv 0) pe_int (fun _ _ => rfl)) pa_nil))) (pg_tupK (n := 4) K rfl (pgs_cons (pg_name (i := 6) nd rfl (Or.inl rfl)) (pgs_cons (pg_name (i := 7) nd rfl (Or.inl rfl)) (pgs_cons (pg_name (i := 8) nd rfl (Or.inl rfl)) (pgs_cons (pg_name (i := 9) nd rfl (Or.inl rfl)) pgs_nil)))))
  (pss_one (ps_if (PW.pt (pw_and (pt_cmpR op_eq (pv 5) (pv 9) (nomark _)) (pw_and1 (pt_cmpR (op_neDK K hr.units) (pe_tup (pa_cons (pv 4) (pa_cons (pv 8) pa_nil))) (pe_tup (pa_cons pe_str (pa_cons pe_str pa_nil))) (nomark _)))))
  (pss_one (ps_expr (pe_bm PySem.F.plainAttrs_list PySem.F.slot_list_append PySem.F.type_list_append mt_append (pv 1) (pa_cons (pe_tup (pa_cons (pv 2) (pa_cons (pv 3) (pa_cons (pv 6) (pa_cons (pv 7) (pa_cons pe_str (pa_cons (pv 5) pa_nil))))))) pa_nil))))
  pss_nil)))))
  (pss_cons (ps_for PassesOwn.never rfl (pi_enumTK K rfl T.b_enumerate (pa_cons (pe_ix (ix_tupK K) (pv 0) pe_int (fun _ _ => rfl)) pa_nil)) (pg_tupK (n := 2) K rfl (pgs_cons (pg_name (i := 10) nd rfl (Or.inl rfl)) (pgs_cons (pg_tupK (n := 2) K rfl (pgs_cons (pg_name (i := 4) nd rfl (Or.inl rfl)) (pgs_cons (pg_name (i := 5) nd rfl (Or.inl rfl)) pgs_nil))) pgs_nil)))
  (pss_one (ps_for PassesOwn.never rfl (pi_enumTK K rfl T.b_enumerate (pa_cons (pe_ix (ix_tupK K) (pv 0) pe_int (fun _ _ => rfl)) pa_nil)) (pg_tupK (n := 2) K rfl (pgs_cons (pg_name (i := 11) nd rfl (Or.inl rfl)) (pgs_cons (pg_tupK (n := 2) K rfl (pgs_cons (pg_name (i := 8) nd rfl (Or.inl rfl)) (pgs_cons (pg_name (i := 9) nd rfl (Or.inl rfl)) pgs_nil))) pgs_nil)))
  (pss_one (ps_if (PW.pt (pw_and (pt_cmpR op_eq (pv 5) (pv 9) (nomark _)) (pw_and (pt_cmpR (op_in_seqK K) pe_str (pe_tup (pa_cons (pv 4) (pa_cons (pv 8) pa_nil))) (by with_unfolding_all rfl)) (pw_and (pt_cmpR (op_in_seqK K) (pv 4) (pe_tup (pa_cons pe_str (pa_cons pe_str pa_nil))) (by with_unfolding_all rfl)) (pw_and1 (pt_cmpR (op_in_seqK K) (pv 8) (pe_tup (pa_cons pe_str (pa_cons pe_str pa_nil))) (by with_unfolding_all rfl)))))))
  (pss_one (ps_expr (pe_bm PySem.F.plainAttrs_list PySem.F.slot_list_append PySem.F.type_list_append mt_append (pv 1) (pa_cons (pe_tup (pa_cons (pv 10) (pa_cons (pv 10) (pa_cons (pv 11) (pa_cons (pv 11) (pa_cons pe_str (pa_cons (pv 5) pa_nil))))))) pa_nil))))
  pss_nil)))))
  (pss_one (ps_ret (pe_callB (cr_sortDK K hr.units) (by rfl) T.b_sorted (by decide +kernel) (pa_cons (pv 1) pa_nil))))))), ?_⟩
    obtain ⟨x, rfl, hp, hq⟩ := h

    obtain ⟨A, B, v⟩ := x
    obtain ⟨hpa, hA, hB⟩ := hp
    replace hpa : PaR K A B v H := hpa
    replace hA : Gd A := hA
    replace hB : Gd B := hB
    obtain ⟨c1, c2⟩ := cons_len hA hB
    refine q_asgL (el_lst ea_nil (by decide)) fun l H1 hl0 e1 hl1 => ?_
    have call : ∀ {i : Nat} {t : Thr} {σ' : L2.St} {H' : Hp} {tix : TE}, Gd t → EvR tix σ' H' (ThR K t) → EvJ (iList K (tCall (sp_w_parts K) [] E0 (tCons tix tNil))) σ' H' (parts t).length (YA (Rc K partV) (parts t)) := fun {i t σ' H' tix} hg ht =>
      ej_listF (fun _ => ro_rc) (f_callR (ea1 keeps_th ht) fun vs H1 e1 ⟨u, h1, h2⟩ Q q => ⟨(t, u), h1, ⟨h2, hg⟩, fun v H' e f hv => q v H' e f hv⟩)
    have enum : ∀ {i : Nat} {t : Thr} {σ' : L2.St} {H' : Hp} {tix : TE}, EvR tix σ' H' (ThR K t) → EvJ (iEnumT K (tCons tix tNil)) σ' H' (enumL t).length (fun i H v H' => ∃ T y x, v = .ref T ∧ H T = none ∧ H' = upd H T (.tup [.int (i : Nat), y]) ∧ t[i]? = some x ∧ Rc K stV x y H) := fun {i t σ' H' tix} ht => by
      rw [enumL_len]
      exact ej_enumT (fun _ => ro_rc) ht
    refine r_nest (K := K) (mk := lockCon) (cond := lockMeet) (enc := conV) (xs := parts A) (ys := parts B) (Y2 := YA (Rc K partV) (parts B)) (H0 := H) (l := l) (fun σ' => ∃ b c d e f g h i j k, σ' = [some v, some (.ref l), b, c, d, e, f, g, h, i, j, k]) (fun p σ' => ∃ f g h i j k, σ' = [some v, some (.ref l), some (.int (p.1 : Nat)), some (.int (p.2.1 : Nat)), some (.str (wdS p.2.2.1)), some (.str p.2.2.2), f, g, h, i, j, k])
      (fun p q σ' => ∃ j k, σ' = [some v, some (.ref l), some (.int (p.1 : Nat)), some (.int (p.2.1 : Nat)), some (.str (wdS p.2.2.1)), some (.str p.2.2.2), some (.int (q.1 : Nat)), some (.int (q.2.1 : Nat)), some (.str (wdS q.2.2.1)), some (.str q.2.2.2), j, k]) []
      ⟨_, _, _, _, _, _, _, _, _, _, rfl⟩ e1 hl0 ⟨[], hl1, Al.nil⟩ ?_ (call (i := 0) hA (r_pa0 (r_var keeps_pa rfl (keeps_pa _ _ _ e1 hpa)) ev_c)) ?_ ?_ ?_ ?_ ?_ ?_ ?_ ?_ ?_
    · have h1 := parts_le A
      have h2 := parts_le B
      have h3 := mul100 (Nat.le_trans h1 hA.len) (Nat.le_trans h2 hB.len)
      show 0 + _ < _
      omega
    · rintro i σ' H1 u H2 hi ⟨b, c, d, e, f, g, h, j, k, m, rfl⟩ ⟨rfl, p, hp, a, rfl, ha⟩
      exact ⟨p, _, hp, Ex.refl _, ⟨_, _, _, _, _, _, rfl⟩, fun Q q => g4n ha q⟩
    · rintro p σ' H' ⟨f, g, h, i, j, k, rfl⟩ e
      exact call (i := 1) hB (r_pa1 (r_var keeps_pa rfl (keeps_pa _ _ _ e hpa)) ev_c)
    · rintro p j σ' H1 u H2 hj ⟨f, g, h, i, k, m, rfl⟩ ⟨rfl, q, hq, a, rfl, ha⟩
      exact ⟨q, _, hq, Ex.refl _, ⟨_, _, rfl⟩, fun Q q => g4n ha q⟩
    · rintro p q σ' ⟨j, k, rfl⟩
      exact ⟨_, _, _, _, _, _, rfl⟩
    · rintro p σ' ⟨f, g, h, i, j, k, rfl⟩
      exact ⟨_, _, _, _, _, _, _, _, _, _, rfl⟩
    · rintro p q σ' H' ⟨j, k, rfl⟩
      exact et_is (et_and (et_test (ev_op (ev_var rfl) (ev_var rfl) (rv_eq rfl))) fun _ => et_test (ne_share (r_tup (ea_cons (ev_var rfl) (ea_cons (ev_var rfl) ea_nil)) (Nat.le_of_ble_eq_true rfl)) (r_tup (ea_cons ev_c (ea_cons ev_c ea_nil)) (Nat.le_of_ble_eq_true rfl)))) (lock_condW p q)
    · rintro p q σ' H' ⟨j, k, rfl⟩
      exact ev_var rfl
    · rintro p q σ' H' ⟨j, k, rfl⟩
      exact eu_tup (ea_cons (ev_var rfl) (ea_cons (ev_var rfl) (ea_cons (ev_var rfl) (ea_cons (ev_var rfl) (ea_cons ev_c (ea_cons (ev_var rfl) ea_nil)))))) (Nat.le_of_ble_eq_true rfl)
    · rintro σ' H' ⟨b, c, d, e, f, g, h, j, k, m, rfl⟩ ex ⟨zs, hz, al⟩
      have al' : Al (fun c v => Rc K conV c v H') (lockCons A B) zs := by simpa [lockCons] using al
      refine r_nest (K := K) (mk := eCon) (cond := eCond) (enc := conV) (xs := enumL A) (ys := enumL B) (Y2 := fun i H v H' => ∃ T y x, v = .ref T ∧ H T = none ∧ H' = upd H T (.tup [.int (i : Nat), y]) ∧ B[i]? = some x ∧ Rc K stV x y H) (H0 := H) (l := l)
        (fun σ' => ∃ b c d e f g h i j k, σ' = [some v, some (.ref l), b, c, d, e, f, g, h, i, j, k]) (fun p σ' => ∃ b c f g h i k, σ' = [some v, some (.ref l), b, c, some (.str (wdS p.2.1)), some (.str p.2.2), f, g, h, i, some (.int (p.1 : Nat)), k])
        (fun p q σ' => ∃ b c f g, σ' = [some v, some (.ref l), b, c, some (.str (wdS p.2.1)), some (.str p.2.2), f, g, some (.str (wdS q.2.1)), some (.str q.2.2), some (.int (p.1 : Nat)), some (.int (q.1 : Nat))]) (lockCons A B)
        ⟨_, _, _, _, _, _, _, _, _, _, rfl⟩ ex hl0 ⟨zs, hz, al'⟩ ?_ (enum (i := 0) (r_pa0 (r_var keeps_pa rfl (keeps_pa _ _ _ ex hpa)) ev_c)) ?_ ?_ ?_ ?_ ?_ ?_ ?_ ?_ ?_
      · rw [enumL_len, enumL_len]
        have := mul100 hA.len hB.len
        omega
      · rintro i σ' H1 u H2 hi ⟨b, c, d, e, f, g, h, j, k, m, rfl⟩ ⟨T, y, s, rfl, hT, rfl, hs, a, rfl, ha⟩
        exact ⟨(i, s), _, by rw [enumL_get, hs]; rfl, Ex.new hT, ⟨_, _, _, _, _, _, _, rfl⟩, fun Q q => g2t (st_of upd_same) (ex_t (Ex.new hT) ha) q⟩
      · rintro p σ' H' ⟨b, c, f, g, h, i, k, rfl⟩ e
        exact enum (i := 1) (r_pa1 (r_var keeps_pa rfl (keeps_pa _ _ _ e hpa)) ev_c)
      · rintro p j σ' H1 u H2 hj ⟨b, c, f, g, h, i, k, rfl⟩ ⟨T, y, s, rfl, hT, rfl, hs, a, rfl, ha⟩
        exact ⟨(j, s), _, by rw [enumL_get, hs]; rfl, Ex.new hT, ⟨_, _, _, _, rfl⟩, fun Q q => g2t (st_of upd_same) (ex_t (Ex.new hT) ha) q⟩
      · rintro p q σ' ⟨b, c, f, g, rfl⟩
        exact ⟨_, _, _, _, _, _, _, rfl⟩
      · rintro p σ' ⟨b, c, f, g, h, i, k, rfl⟩
        exact ⟨_, _, _, _, _, _, _, _, _, _, rfl⟩
      · rintro p q σ' H' ⟨b, c, f, g, rfl⟩
        exact et_is (et_and (et_test (ev_op (ev_var rfl) (ev_var rfl) (rv_eq rfl))) fun _ => et_and (et_test (ev_inU ev_c (eu_tup (ea_cons (ev_var rfl) (ea_cons (ev_var rfl) ea_nil)) (Nat.le_of_ble_eq_true rfl)) rfl rfl)) fun _ =>
          et_and (et_test (ev_inU (ev_var rfl) (eu_tup (ea_cons ev_c (ea_cons ev_c ea_nil)) (Nat.le_of_ble_eq_true rfl)) rfl rfl)) fun _ => et_test (ev_inU (ev_var rfl) (eu_tup (ea_cons ev_c (ea_cons ev_c ea_nil)) (Nat.le_of_ble_eq_true rfl)) rfl rfl)) (data_condW p q)
      · rintro p q σ' H' ⟨b, c, f, g, rfl⟩
        exact ev_var rfl
      · rintro p q σ' H' ⟨b, c, f, g, rfl⟩
        exact eu_tup (ea_cons (ev_var rfl) (ea_cons (ev_var rfl) (ea_cons (ev_var rfl) (ea_cons (ev_var rfl) (ea_cons ev_c (ea_cons (ev_var rfl) ea_nil)))))) (Nat.le_of_ble_eq_true rfl)
      · rintro σ' H2 ⟨b, c, d, e, f, g, h, j, k, m, rfl⟩ ex2 ⟨zs2, hz2, al2⟩
        rw [← dataCons_enum] at al2
        refine r_sort (xs := cons A B) (r_var (v := .ref l) (keeps_lso fun _ => keeps_rc) rfl ⟨l, zs2, rfl, sq_of hz2, al2⟩) dp_con (alike_con _) (sortable_con _) (fun _ _ => by show (max 0 (max 0 (max 0 (max 0 (max 0 (max 0 0))))) + 1 : Nat) ≤ 60; decide) H2 (Ex.refl H2) _ fun v' H4 e4 f4 hv' => hq v' H4 (ex2.trans e4) (fun a e => fresh_back ex2 (f4 a e)) hv'

end HdX
end

section
set_option Elab.async false
set_option linter.all false
set_option maxRecDepth 100000
set_option maxHeartbeats 4000000
namespace HdX
open PySem PySem.Spec PyProof.Rows L2 Evl
open _root_.TT hiding Run
/-! ### what is held, as a dict -/
def kdV (kd : Hd Str) : List (Key × V) := kd.map fun p => (Sum.inr p.1, .str (wdS p.2))
theorem kdV_val (kd : Hd Str) (n : Str) : valV (kdV kd) (Sum.inr n) = (look kd n).map fun w => .str (wdS w) := by
  induction kd with
  | nil => rfl
  | cons p kd ih =>
    unfold kdV look
    by_cases e : p.1 = n
    · rw [List.map_cons, valV_pos (by rw [e]), List.find?_cons_of_pos (by simpa using e)]
      rfl
    · rw [List.map_cons, valV_neg (fun z => e (Sum.inr.inj z)), List.find?_cons_of_neg (by simpa using e)]
      exact ih
theorem kdV_put {kd : Hd Str} {n : Str} (w : Wd) (h : look kd n = none) : putK (kdV kd) (Sum.inr n) (.str (wdS w)) = kdV (kd ++ [(n, w)]) := by
  rw [putK_new _ (by rw [kdV_val, h]; rfl)]
  unfold kdV
  rw [List.map_append]
  rfl
theorem kdV_drop (kd : Hd Str) (n : Str) : dropK (kdV kd) (Sum.inr n) = kdV (kd.filter fun p => !decide (p.1 = n)) := by
  unfold dropK kdV
  rw [List.filter_map]
  congr 1
  refine List.filter_congr fun p _ => ?_
  show decide ((Sum.inr p.1 : Key) ≠ Sum.inr n) = !decide (p.1 = n)
  by_cases e : p.1 = n
  · simp [e]
  · have : (Sum.inr p.1 : Key) ≠ Sum.inr n := fun z => e (Sum.inr.inj z)
    simp [e]
def KpR (kd : Hd Str) : VR := fun v H => ∃ a, v = .ref a ∧ H a = some (.dK (kdV kd))
theorem keeps_kp {kd : Hd Str} : Keeps (KpR kd) := fun _ _ _ e ⟨a, h, q⟩ => ⟨a, h, e _ _ q⟩
theorem stF_kp {kd : Hd Str} : StF (KpR kd) := fun _ _ _ _ _ hD ⟨a, h, q⟩ => ⟨a, h, by rw [upd_ne (fun z => by rw [z, hD] at q; cases q)]; exact q⟩
theorem r_kstep1 {K : PySem.W.Frag} {σ : L2.St} {H : Hp} {D : Ends} {a b c : Nat} {d : Addr} {w : Wd} {n : Str} {kd : Hd Str} (ha : σ[a]? = some (some (.ref d))) (hb : σ[b]? = some (some (.str (wdS w)))) (hc : σ[c]? = some (some (.str n))) (hd : H d = some (.dK (kdV kd)))
    (ok : okStep kd (w, n)) (hl : kd.length ≤ 1000) (k : ∀ H', (∀ x o, x ≠ d → H x = some o → H' x = some o) → H' d = some (.dK (kdV (kstep kd (w, n)))) → D.nx σ H') :
    tSeq (tIfS (tTest (tOp (rIn K false) (tVar b) (tTup (tCons (tC (.str "lock")) (tCons (tC (.str "share")) tNil))))) (sDPut (tVar a) (tVar c) (tVar b)) tNext) (tIfS (tTest (tOp rEq (tVar b) (tC (.str "free")))) (tDrop (tDPop1 (tVar a) (tVar c))) tNext) D σ H := by
  have second : ∀ H5 kd', (w = .free → kd' = kd) → (w ≠ .free → kd' = kstep kd (w, n)) → (∀ x o, x ≠ d → H x = some o → H5 x = some o) → H5 d = some (.dK (kdV kd')) →
      tIfS (tTest (tOp rEq (tVar b) (tC (.str "free")))) (tDrop (tDPop1 (tVar a) (tVar c))) tNext D σ H5 := fun H5 kd' k1 k2 e5 d5 => by
    refine s_when (b := decide (w = .free)) (et_is (et_test (ev_op (ev_var hb) ev_c (rv_eq rfl))) (wd_free w)) (fun hw H6 e6 => ?_) fun hw H6 e6 => ?_
    · have hw' : w = .free := of_decide_eq_true hw
      have e := k1 hw'
      subst e
      have hn : look kd' n ≠ none := ok.2 hw'
      obtain ⟨u, hu⟩ := Option.ne_none_iff_exists'.mp hn
      have d6 := e6 _ _ d5
      refine ⟨_, ha, d, rfl, .inl ⟨_, .inl d6⟩, _, hc, _, Sum.inr n, .str (wdS u), d6, rfl, by rw [kdV_val, hu]; rfl, ?_⟩
      refine k _ (fun x o hx h => by rw [upd_ne hx]; exact e6 _ _ (e5 x o hx h)) ?_
      rw [upd_same, kdV_drop]
      subst hw'
      rfl
    · have hw' : w ≠ .free := of_decide_eq_false hw
      refine k _ (fun x o hx h => e6 _ _ (e5 x o hx h)) ?_
      rw [← k2 hw']
      exact e6 _ _ d5
  refine q_when (b := w.takes) (et_is (et_test (ev_inU (ev_var hb) (eu_tup (ea_cons ev_c (ea_cons ev_c ea_nil)) (Nat.le_of_ble_eq_true rfl)) rfl rfl)) (inV_tk w)) (fun hw H5 e5 => ?_) fun hw H5 e5 => ?_
  · have d5 := e5 _ _ hd
    have hn : look kd n = none := ok.1 hw
    refine ⟨_, hb, _, ha, _, hc, d, _, rfl, DPut.k (k := Sum.inr n) d5 (sz_lt (by unfold kdV; rw [List.length_map]; omega)), ?_⟩
    refine second _ (kd ++ [(n, w)]) (fun z => by rw [z] at hw; cases hw) (fun _ => by unfold kstep; rw [if_pos (show ((w, n) : Wd × Str).1.takes = true from hw)]) (fun x o hx h => by rw [upd_ne hx]; exact e5 _ _ h) ?_
    rw [upd_same, kdV_put w hn]
  · refine second H5 kd (fun _ => rfl) (fun hf => ?_) (fun x o _ h => e5 _ _ h) (e5 _ _ hd)
    unfold kstep
    rw [if_neg (by show ¬ w.takes = true; rw [hw]; decide), if_neg (show ¬ ((w, n) : Wd × Str).1 = Wd.free from hf)]
theorem r_kstep {K : PySem.W.Frag} {σ : L2.St} {H : Hp} {D : Ends} {tz : TS} {a b c : Nat} {d : Addr} {w : Wd} {n : Str} {kd : Hd Str} (ha : σ[a]? = some (some (.ref d))) (hb : σ[b]? = some (some (.str (wdS w)))) (hc : σ[c]? = some (some (.str n))) (hd : H d = some (.dK (kdV kd)))
    (ok : okStep kd (w, n)) (hl : kd.length ≤ 1000) (k : ∀ H', (∀ x o, x ≠ d → H x = some o → H' x = some o) → H' d = some (.dK (kdV (kstep kd (w, n)))) → tz D σ H') :
    tSeq (tIfS (tTest (tOp (rIn K false) (tVar b) (tTup (tCons (tC (.str "lock")) (tCons (tC (.str "share")) tNil))))) (sDPut (tVar a) (tVar c) (tVar b)) tNext) (tSeq (tIfS (tTest (tOp rEq (tVar b) (tC (.str "free")))) (tDrop (tDPop1 (tVar a) (tVar c))) tNext) tz) D σ H :=
  r_kstep1 (K := K) (D := { D with nx := tz D }) ha hb hc hd ok hl k
theorem kept_len (t : Thr) : ∀ i, (kept t i).length ≤ i := by
  intro i
  induction i with
  | zero => rw [kept_zero]; exact Nat.le_refl _
  | succ i ih =>
    cases h : t[i]? with
    | none =>
      have e : kept t (i + 1) = kept t i := by unfold kept; rw [List.take_add_one, h]; simp
      rw [e]; omega
    | some s =>
      rw [kept_succ h]
      unfold kstep
      split
      · rw [List.length_append]; show _ + 1 ≤ _; omega
      · split
        · have := List.length_filter_le (fun p : Str × Wd => !decide (p.1 = s.2)) (kept t i)
          omega
        · omega
/-! ### t[:c] -/
theorem r_slT {K : PySem.W.Frag} {σ : L2.St} {H : Hp} {te th : TE} {α : Type} {R : α → VR} {xs : List α} {c : Nat} (kr : ∀ x, Keeps (R x)) (h : EvR te σ H (TuO K R xs)) (hc : Ev th σ H (.int (c : Nat))) : EvR (tSl (rSlA K) te tNoPart (tPart th)) σ H (TuO K R (xs.take c)) := fun H1 e Q q =>
  h H1 e _ fun v H2 e2 ⟨a, vs, hv, hs, al⟩ => (eo_none (σ := σ) (H := H2)) H2 (Ex.refl _) _ fun H2' e2' => eo_some (Ev.mono (e.trans (e2.trans e2')) hc) H2' (Ex.refl _) _ fun H3 e3 => by
    have e23 : Ex H2 H3 := e2'.trans e3
    have i1 : HT.sIx vs.length 0 none = 0 := rfl
    have i2 : HT.sIx vs.length vs.length (some (c : Int)) = min c vs.length := HT.sIx_nat _ _ _
    refine ⟨a, vs, hv, ex_t e23 hs, fun hw => ?_, fun hw p hp => ?_⟩
    · have hc : vs.length ≤ c := by
        have := hw.2
        rw [i2] at this
        omega
      rw [← hv]
      refine q v H3 (e2.trans e23) ⟨a, vs, hv, ex_t e23 hs, ?_⟩
      rw [List.take_of_length_le (by rw [al.len]; exact hc)]
      exact al.mono fun x v => kr x v _ _ e23
    · have ec : cutV vs none (some (c : Int)) = vs.take c := by
        unfold cutV
        rw [i1, i2, List.drop_zero, Nat.sub_zero]
        by_cases z : c ≤ vs.length
        · rw [Nat.min_eq_left z]
        · rw [Nat.min_eq_right (by omega), List.take_of_length_le (Nat.le_refl _), List.take_of_length_le (by omega)]
      rw [ec]
      refine q _ _ ((e2.trans e23).trans (Ex.new hp)) ⟨p, _, rfl, st_of upd_same, ?_⟩
      refine ⟨by rw [List.length_take, List.length_take, al.len], fun i x y hx hy => ?_⟩
      rw [List.getElem?_take] at hx hy
      split at hx
      · rename_i hi
        rw [if_pos hi] at hy
        exact kr x y _ _ (e23.trans (Ex.new hp)) (al.at_ i x y hx hy)
      · cases hx
abbrev sp_w_kept (K : PySem.W.Frag) : Sp := SpF (α := Thr × V × Nat) (fun x => [x.2.1, .int (x.2.2 : Nat)]) (fun x H => ThR K x.1 x.2.1 H ∧ Gd x.1 ∧ x.2.2 ≤ x.1.length) (fun x => KpR (kept x.1 x.2.2))
namespace D_w_kept
abbrev N : List Str := ["_law_thread_here", "_law_count", "_law_found", "_law_word", "_law_name"]
abbrev SC : Scope := defScope s_w_kept
theorem sc : FnScope N ["_law_thread_here", "_law_count"] SC := ⟨rfl, rfl, rfl, by decide +kernel, rfl, by decide +kernel, by decide +kernel⟩
theorem nd : N.Nodup := sc.nd
end D_w_kept
open D_w_kept in
theorem ok_w_kept {P : Program} {w : World} {K : PySem.W.Frag} {mg : Str → Option Value} {base : Heap} (T : Tx K mg)  : OK P w K mg base 1 "_law_kept" ["_law_thread_here", "_law_count"] (sp_w_kept K) := by
  obtain ⟨fd, F⟩ := T.f_w_kept
  refine OK.of T.g__law_kept F (F.ok sc (fun vs H Q E h => ?len) (fun cdv A outer s H vs Q E hr h => ?body)) (F.bindsN fun _ _ _ _ _ _ us hl => match us, hl with | [_, _], _ => rfl)
  case len =>
    obtain ⟨x, rfl, _⟩ := h
    rfl
  case body =>
    have hu := hu_of hr
    refine ⟨_, PSs.nox (pss_cons (ps_set (i := 2) nd rfl (Or.inl rfl) pe_dnewK)
  (pss_cons (ps_for PassesOwn.never rfl (pi_tupK K (pe_slice (sl_tupK K) (pv 0) po_none (po_some (pv 1)))) (pg_tupK (n := 2) K rfl (pgs_cons (pg_name (i := 3) nd rfl (Or.inl rfl)) (pgs_cons (pg_name (i := 4) nd rfl (Or.inl rfl)) pgs_nil)))
  (pss_cons (ps_if (pt_cmpR (op_in_seqK K) (pv 3) (pe_tup (pa_cons pe_str (pa_cons pe_str pa_nil))) (by with_unfolding_all rfl))
  (pss_one (ps_dput hu (pv 2) (pv 4) (pv 3) rfl))
  pss_nil)
  (pss_one (ps_if (pt_cmpR op_eq (pv 3) pe_str (nomark _))
  (pss_one (ps_expr (pe_dpop1 (pv 2) (pv 4) ⟨rfl, rfl, rfl, rfl⟩)))
  pss_nil))))
  (pss_one (ps_ret (pv 2))))), ?_⟩
    obtain ⟨x, rfl, hp, hq⟩ := h

    obtain ⟨t, v, c⟩ := x
    obtain ⟨ht, hg, hc⟩ := hp
    replace hg : Gd t := hg
    replace ht : ThR K t v H := ht
    replace hc : c ≤ t.length := hc
    have hlen := hg.len
    intro d hd0
    have e1 : Ex H (upd H d (.dK [])) := Ex.new hd0
    have hd1 : upd H d (.dK []) d = some (.dK []) := upd_same
    generalize upd H d (.dK []) = H1 at e1 hd1
    have htl : (t.take c).length = c := by rw [List.length_take]; omega
    refine r_forM (ej_tupR (xs := t.take c) (R := Rc K stV) (fun _ => ro_rc) (r_slT (fun _ => keeps_rc) (r_var keeps_th rfl (keeps_th _ _ _ e1 ht)) (ev_var rfl))) (fun a => a = d) (fun a e => ⟨.dK [], by have e : a = d := e; rw [e]; exact hd1, rfl⟩) fun H2 e2 =>
      ⟨fun i σ' H' => (∃ b e, σ' = [some v, some (.int (c : Nat)), some (.ref d), b, e]) ∧ ExM (fun a => a = d) H2 H' ∧ H' d = some (.dK (kdV (kept t i))), ⟨⟨_, _, rfl⟩, ExM.refl _ _, by rw [kept_zero]; exact e2 _ _ hd1⟩, fun i σ' H' p => p.2.1, ?_, ?_⟩
    · rintro i σ' H3 u H4 hi ⟨⟨b, e, rfl⟩, ex, hd3⟩ ⟨rfl, s, hs, a, rfl, ha⟩
      rw [List.getElem?_take] at hs
      split at hs
      · obtain ⟨w, n⟩ := s
        refine g2n ha (r_kstep1 rfl rfl rfl hd3 (hg.wf.ok i _ hs) (by have := kept_len t i; omega) fun H' eh dh => ⟨⟨_, _, rfl⟩, ex.trans (fun x o hx h => eh x o hx h), ?_⟩)
        rw [kept_succ hs]
        exact dh
      · cases hs
    · rintro σ' H3 ⟨⟨b, e, rfl⟩, ex, hd3⟩
      rw [htl] at hd3
      refine r_ret (Ev.r (ev_var rfl)) fun v' H4 e4 hv' => ?_
      have hv' : v' = .ref d := hv'
      subst hv'
      exact hq _ H4 ((ex_of (e1.trans e2) (fun a e => by have e : a = d := e; rw [e]; exact hd0) ex).trans e4) (fun a e => by cases e; exact hd0) ⟨d, rfl, e4 _ _ hd3⟩
abbrev sp_holdings (K : PySem.W.Frag) : Sp := SpF (α := Thr × V) (fun x => [x.2]) (fun x H => ThR K x.1 x.2 H ∧ Gd x.1) (fun x => LsN (fun i => KpR (kept x.1 i)) (List.range (x.1.length + 1)))
namespace D_holdings
abbrev N : List Str := ["thread", "found", "word", "name", "kept"]
abbrev SC : Scope := defScope s_holdings
theorem sc : FnScope N ["thread"] SC := ⟨rfl, rfl, rfl, by decide +kernel, rfl, by decide +kernel, by decide +kernel⟩
theorem nd : N.Nodup := sc.nd
end D_holdings
open D_holdings in
theorem ok_holdings {P : Program} {w : World} {K : PySem.W.Frag} {mg : Str → Option Value} {base : Heap} (T : Tx K mg)  : OK P w K mg base 1 "holdings" ["thread"] (sp_holdings K) := by
  obtain ⟨fd, F⟩ := T.f_holdings
  obtain ⟨tFREE, cFREE⟩ := T.c_FREE
  obtain ⟨tLOCK, cLOCK⟩ := T.c_LOCK
  obtain ⟨tSHARE, cSHARE⟩ := T.c_SHARE
  refine OK.of T.g_holdings F (F.ok sc (fun vs H Q E h => ?len) (fun cdv A outer s H vs Q E hr h => ?body)) (F.bindsN fun _ _ _ _ _ _ us hl => match us, hl with | [_], _ => rfl)
  case len =>
    obtain ⟨x, rfl, _⟩ := h
    rfl
  case body =>
    have hu := hu_of hr
    refine ⟨_, PSs.nox (pss_cons (ps_set (i := 1) nd rfl (Or.inl rfl) (pe_lst (pa_cons pe_dnewK pa_nil)))
  (pss_cons (ps_for PassesOwn.never rfl (pi_tupK K (pv 0)) (pg_tupK (n := 2) K rfl (pgs_cons (pg_name (i := 2) nd rfl (Or.inl rfl)) (pgs_cons (pg_name (i := 3) nd rfl (Or.inl rfl)) pgs_nil)))
  (pss_cons (ps_set (i := 4) nd rfl (Or.inl rfl) (pe_callTy call_dictD (by rfl) T.b_dict (by decide +kernel) (pa_cons (pe_ix (ix_listK K) (pv 1) (pe_un un_neg pe_int) (fun _ _ => rfl)) pa_nil)))
  (pss_cons (ps_if (pt_cmpR (op_in_seqK K) (pv 2) (pe_tup (pa_cons (pe_gs rfl cLOCK) (pa_cons (pe_gs rfl cSHARE) pa_nil))) (by with_unfolding_all rfl))
  (pss_one (ps_dput hu (pv 4) (pv 3) (pv 2) rfl))
  pss_nil)
  (pss_cons (ps_if (pt_cmpR op_eq (pv 2) (pe_gs rfl cFREE) (nomark _))
  (pss_one (ps_expr (pe_dpop1 (pv 4) (pv 3) ⟨rfl, rfl, rfl, rfl⟩)))
  pss_nil)
  (pss_one (ps_expr (pe_bm PySem.F.plainAttrs_list PySem.F.slot_list_append PySem.F.type_list_append mt_append (pv 1) (pa_cons (pv 4) pa_nil))))))))
  (pss_one (ps_ret (pv 1))))), ?_⟩
    obtain ⟨x, rfl, hp, hq⟩ := h

    obtain ⟨t, v⟩ := x
    obtain ⟨ht, hg⟩ := hp
    replace hg : Gd t := hg
    replace ht : ThR K t v H := ht
    have hlen := hg.len
    intro d hd0
    refine ⟨sz_of (Nat.le_of_ble_eq_true rfl), fun l hl0 => ?_⟩
    have ndl : l ≠ d := fun z => by rw [z, upd_same] at hl0; cases hl0
    have hl00 : H l = none := by rw [upd_ne ndl] at hl0; exact hl0
    have e1 : Ex H (upd (upd H d (.dK [])) l (.lst [.ref d])) := (Ex.new hd0).trans (Ex.new hl0)
    have hd1 : upd (upd H d (.dK [])) l (.lst [.ref d]) d = some (.dK []) := by rw [upd_ne (Ne.symm ndl), upd_same]
    have hl1 : upd (upd H d (.dK [])) l (.lst [.ref d]) l = some (.lst [.ref d]) := upd_same
    show tSeq _ _ _ _ (upd (upd H d (.dK [])) l (.lst [.ref d]))
    generalize upd (upd H d (.dK [])) l (.lst [.ref d]) = H1 at e1 hd1 hl1
    refine r_forM (ej_tupR (xs := t) (R := Rc K stV) (fun _ => ro_rc) (r_var keeps_th rfl (keeps_th _ _ _ e1 ht))) (fun a => a = l) (fun a e => ⟨.lst [.ref d], by have e : a = l := e; rw [e]; exact hl1, rfl⟩) fun H2 e2 =>
      ⟨fun i σ' H' => (∃ b e f, σ' = [some v, some (.ref l), b, e, f]) ∧ ExM (fun a => a = l) H2 H' ∧ ∃ ys, H' l = some (.lst ys) ∧ Al (fun i v => KpR (kept t i) v H') (List.range (i + 1)) ys,
        ⟨⟨_, _, _, rfl⟩, ExM.refl _ _, [.ref d], e2 _ _ hl1, Al.snoc Al.nil ⟨d, rfl, by rw [kept_zero]; exact e2 _ _ hd1⟩⟩, fun i σ' H' p => p.2.1, ?_, ?_⟩
    · rintro i σ' H3 u H4 hi ⟨⟨b, e, f, rfl⟩, ex, ys, hy, al⟩ ⟨rfl, s, hs, a, rfl, ha⟩
      obtain ⟨w, n⟩ := s
      refine g2n ha ?_
      obtain ⟨ys', y, rfl⟩ : ∃ ys' y, ys = ys' ++ [y] := ⟨ys.dropLast, ys.getLast (fun z => by have := al.len; rw [z] at this; simp at this), (List.dropLast_concat_getLast _).symm⟩
      have hyl : ys'.length = i := by have := al.len; simp at this; omega
      obtain ⟨a0, rfl, ha0⟩ := al.at_ i i y (by simp) (by rw [← hyl]; simp)
      -- kept = dict(found[-1])
      have hx : Ev (tOp (rIxL K) (tVar 1) (tUn (rU fun i => .int (-i)) (tC (.int 1)))) [some v, some (.ref l), some (.str (wdS w)), some (.str n), f] H4 (.ref a0) := ev_op (ev_var rfl) (ev_un ev_c ru_neg) (rv_ixL (sq_of hy) (atI_last _ _))
      refine hx H4 (Ex.refl _) _ fun H5 e5 => ⟨a0, _, rfl, .inl (e5 _ _ ha0), fun p hp => ?_⟩
      have ha5 : H5 a0 = some (.dK (kdV (kept t i))) := e5 _ _ ha0
      have ep : Ex H4 (upd H5 p (.dK (kdV (kept t i)))) := e5.trans (Ex.new hp)
      have hp6 : upd H5 p (.dK (kdV (kept t i))) p = some (.dK (kdV (kept t i))) := upd_same
      have hp3 := fresh_back e5 hp
      show tSeq _ _ _ _ (upd H5 p (.dK (kdV (kept t i))))
      generalize upd H5 p (.dK (kdV (kept t i))) = H6 at ep hp6
      refine r_kstep (K := K) (d := p) rfl rfl rfl hp6 (hg.wf.ok i _ hs) (by have := kept_len t i; omega) fun H7 e7 h7 => ?_
      have e37 : Ex H4 H7 := fun x o h => e7 x o (ne_of_none h hp3) (ep x o h)
      refine s_app (e37 _ _ hy) (ev_var rfl) (ev_var rfl) ?_ fun H8 e8 => ⟨⟨_, _, _, rfl⟩, (ex.trans (ExM.ex (e37.trans e8))).set rfl, _, upd_same, ?_⟩
      · rw [List.length_append, hyl]
        show i + 1 < _
        omega
      · have hl8 : H8 l = some (.lst (ys' ++ [.ref a0])) := e8 _ _ (e37 _ _ hy)
        rw [List.range_succ]
        refine Al.snoc (al.mono fun x v hv => stF_kp _ _ _ _ _ hl8 (keeps_kp _ _ _ (e37.trans e8) hv)) (stF_kp _ _ _ _ _ hl8 ⟨p, rfl, ?_⟩)
        rw [kept_succ hs]
        exact e8 _ _ h7
    · rintro σ' H3 ⟨⟨b, e, f, rfl⟩, ex, ys, hy, al⟩
      refine r_ret (Ev.r (ev_var rfl)) fun v' H4 e4 hv' => ?_
      have hv' : v' = .ref l := hv'
      subst hv'
      exact hq _ H4 ((ex_of (e1.trans e2) (fun a e => by have e : a = l := e; rw [e]; exact hl00) ex).trans e4) (fun a e => by cases e; exact hl00) ⟨l, ys, rfl, e4 _ _ hy, al.mono fun x v hv => keeps_kp _ _ _ e4 hv⟩

end HdX
end

section
set_option Elab.async false
set_option linter.all false
set_option maxRecDepth 100000
set_option maxHeartbeats 4000000
namespace HdX
open PySem PySem.Spec PyProof.Rows L2 Evl
open _root_.TT hiding Run
structure OKm (P : Program) (w : World) (K : PySem.W.Frag) (mg : Str → Option Value) (base : Heap) (k : Nat) (f : Addr) (ps : List Str) (sp : Sp) : Prop where
  fd : ∃ fd : FuncData, FnOk P w K mg base CX0 k f fd ps sp ∧ Binds K fd ps []
/-! ### who holds what at once -/
theorem al_is {α : Type} {g : α → V} {xs : List α} {ys : List V} {H : Hp} (a : Al (fun x v => Is (g x) v H) xs ys) : ys = xs.map g := by
  apply List.ext_getElem?
  intro i
  rw [List.getElem?_map]
  cases h : xs[i]? with
  | none =>
    have := List.getElem?_eq_none_iff.mp h
    rw [List.getElem?_eq_none (by rw [← a.len]; exact this)]
    rfl
  | some x =>
    obtain ⟨y, hy, e⟩ := a.left h
    have e : y = g x := e
    rw [hy, e]
    rfl
theorem giv_all {α : Type} (l : List α) (p g : α → Bool) (f b : Nat → Bool) (h : ∀ i x, l[i]? = some x → f i = p x ∧ (f i = true → b i = g x)) : (giv l.length f).all b = (l.filter p).all g := by
  rw [Bool.eq_iff_iff, List.all_eq_true, List.all_eq_true]
  constructor
  · intro hh x hx
    obtain ⟨hx, hpx⟩ := List.mem_filter.mp hx
    obtain ⟨i, hi⟩ := List.getElem?_of_mem hx
    obtain ⟨h1, h2⟩ := h i x hi
    have hf : f i = true := by rw [h1]; exact hpx
    rw [← h2 hf]
    exact hh i (List.mem_filter.mpr ⟨List.mem_range.mpr (List.getElem?_eq_some_iff.mp hi).1, hf⟩)
  · intro hh i hi
    obtain ⟨hi, hf⟩ := List.mem_filter.mp hi
    have hl := List.mem_range.mp hi
    obtain ⟨h1, h2⟩ := h i l[i] (by simp)
    rw [h2 hf]
    exact hh _ (List.mem_filter.mpr ⟨List.getElem_mem hl, by rw [← h1]; exact hf⟩)
theorem ev_dget {σ : L2.St} {H : Hp} {td ty : TE} {a : Addr} {kd : Hd Str} {n : Str} {w : Wd} (hd : Ev td σ H (.ref a)) (hy : Ev ty σ H (.str n)) (hr : ∀ H1, Ex H H1 → Rd H1 a (.dK (kdV kd))) (hl : look kd n = some w) : Ev (tDGet td ty) σ H (.str (wdS w)) := fun H1 e Q q =>
  hd H1 e _ fun H2 e2 => hy H2 (e.trans e2) _ fun H3 e3 => ⟨a, .str (wdS w), rfl, .inl ⟨_, Sum.inr n, hr H3 ((e.trans e2).trans e3), rfl, by rw [kdV_val, hl]; rfl⟩, q H3 (e2.trans e3)⟩
theorem ev_open {K : PySem.W.Frag} {H : Hp} {x0 x1 x4 : Option V} {a b : Addr} {ka kb : Hd Str} (ha : H a = some (.dK (kdV ka))) (hb : H b = some (.dK (kdV kb))) (hk : ka.length ≤ 1000) :
    Ev (tCB (rAll K) (tCons (tLockE (tLc (iKeys (tVar 2)) (gName 4) (tB (tDIn (tVar 4) (tVar 3))) (tAndV (tOp rEq (tDGet (tVar 2) (tVar 4)) (tC (.str "share"))) (tOp rEq (tDGet (tVar 3) (tVar 4)) (tC (.str "share")))) [4])) tNil)) [x0, x1, some (.ref a), some (.ref b), x4] H (.bl (openB ka kb)) := fun H1 e Q q => by
  have ha1 := e _ _ ha
  have hb1 := e _ _ hb
  refine ⟨a, .dK (kdV ka), ha1, trivial, fun od => ?_⟩
  have ra : ∀ H2, Ex (upd H1 a (.frz od (.dK (kdV ka)))) H2 → Rd H2 a (.dK (kdV ka)) := fun H2 e2 => .inr ⟨od, e2 _ _ upd_same⟩
  have rb : ∀ H2, Ex (upd H1 a (.frz od (.dK (kdV ka)))) H2 → Rd H2 b (.dK (kdV kb)) := fun H2 e2 => by
    by_cases z : b = a
    · subst z
      rw [ha1] at hb1
      have : kdV ka = kdV kb := by
        have := Option.some.inj hb1
        exact HO.dK.inj this
      rw [← this]
      exact ra H2 e2
    · exact .inl (e2 _ _ (by rw [upd_ne z]; exact hb1))
  have hkey : ∀ (i : Nat) (k : Key) (v : V), (kdV ka)[i]? = some (k, v) → ∃ p : Str × Wd, ka[i]? = some p ∧ k = Sum.inr p.1 := fun i k v h => by
    unfold kdV at h
    rw [List.getElem?_map] at h
    obtain ⟨p, hp, e⟩ := Option.map_eq_some_iff.mp h
    exact ⟨p, hp, by cases e; rfl⟩
  have hlc := r_lc (σ := [x0, x1, some (.ref a), some (.ref b), x4]) (H := upd H1 a (.frz od (.dK (kdV ka)))) (wi := iKeys (tVar 2)) (g := gName 4) (tt := tB (tDIn (tVar 4) (tVar 3))) (te := tAndV (tOp rEq (tDGet (tVar 2) (tVar 4)) (tC (.str "share"))) (tOp rEq (tDGet (tVar 3) (tVar 4)) (tC (.str "share")))) (vs := [4]) (n := ka.length)
    (Y := fun i H v H' => H' = H ∧ ∃ p, ka[i]? = some p ∧ v = .str p.1)
    (fun i => Is (.bl (match ka[i]? with | some p => decide (look ka p.1 = some .share) && decide (look kb p.1 = some .share) | none => false))) (fun i => match ka[i]? with | some p => (look kb p.1).isSome | none => false) (fun _ => keeps_is) (fun H2 e2 R k => ⟨_, rfl, a, od, rfl, .inl ⟨kdV ka, e2 _ _ upd_same, k _ H2 (Ex.refl _)
      { go := fun i H3 e3 hi => ⟨e3 _ _ (e2 _ _ upd_same), by unfold kdV; rw [List.length_map]; exact hi⟩
        st := fun H3 e3 => ⟨e3 _ _ (e2 _ _ upd_same), by unfold kdV; rw [List.length_map]; exact Nat.le_refl _⟩
        yl := fun i H3 y H4 e3 ⟨h1, k, v, h2, h3⟩ => ⟨h1, let ⟨p, hp, ek⟩ := hkey i k v h2; ⟨p, hp, by rw [h3, ek]; rfl⟩⟩ }⟩⟩) (by omega) (by
      rintro i y H3 H4 hi e3 ⟨rfl, p, hp, rfl⟩
      refine ⟨Ex.refl _, _, fun Q q => q, rfl, ?_, fun hf => ?_⟩
      · rw [hp]
        refine fun H5 e5 Q q => ⟨_, rfl, _, rfl, b, valV (kdV kb) (Sum.inr p.1), rfl, .inl ⟨_, Sum.inr p.1, rb H5 (e3.trans e5), rfl, rfl⟩, _, rfl, ?_⟩
        rw [kdV_val, Option.isSome_map]
        exact q H5 (Ex.refl _)
      · rw [hp] at hf ⊢
        obtain ⟨u, hu⟩ := Option.isSome_iff_exists.mp hf
        obtain ⟨w, hw⟩ := Option.isSome_iff_exists.mp (mem_look (List.mem_of_getElem? hp))
        refine (Ev.r (ev_is (ev_andV (a := decide (w = .share)) (b := decide (u = .share)) ?_ fun _ => ?_) ?_)).gg stF_is
        · exact ev_is (ev_op (ev_dget (ev_var rfl) (ev_var rfl) (fun H5 e5 => ra H5 (e3.trans e5)) hw) ev_c (rv_eq rfl)) (congrArg V.bl (wd_eqN (b := .share)))
        · exact ev_is (ev_op (ev_dget (ev_var rfl) (ev_var rfl) (fun H5 e5 => rb H5 (e3.trans e5)) hu) ev_c (rv_eq rfl)) (congrArg V.bl (wd_eqN (b := .share)))
        · show _ = V.bl (decide (look ka p.1 = some .share) && decide (look kb p.1 = some .share))
          rw [hw, hu]
          simp)
  refine hlc _ (Ex.refl _) _ fun v H3 e3 ⟨l, ys, hv, hl, hy, al⟩ => ?_
  subst hv
  have hla : l ≠ a := fun z => by rw [z, upd_same] at hl; cases hl
  refine ⟨e3 _ _ upd_same, l, (giv ka.length (fun i => match ka[i]? with | some p => (look kb p.1).isSome | none => false)).map (fun i => match ka[i]? with | some p => decide (look ka p.1 = some .share) && decide (look kb p.1 = some .share) | none => false), rfl, sq_of (by rw [upd_ne hla, hy, al_is al, List.map_map]; rfl), ?_⟩
  have hall : ((giv ka.length (fun i => match ka[i]? with | some p => (look kb p.1).isSome | none => false)).map (fun i => match ka[i]? with | some p => decide (look ka p.1 = some .share) && decide (look kb p.1 = some .share) | none => false)).all id = openB ka kb := by
    rw [List.all_map]
    exact giv_all ka _ _ _ _ fun i p hp => ⟨by simp only [hp], fun _ => by simp only [Function.comp, id, hp]⟩
  rw [hall]
  refine q _ fun x o hx => ?_
  by_cases z : x = a
  · rw [z] at hx ⊢
    rw [upd_same, ← ha1, hx]
  · rw [upd_ne z]
    exact e3 _ _ (by rw [upd_ne z]; exact hx)

end HdX
end

section
set_option Elab.async false
set_option linter.all false
set_option maxRecDepth 100000
set_option maxHeartbeats 4000000
namespace HdX
open PySem PySem.Spec PyProof.Rows L2 Evl
open _root_.TT hiding Run
theorem r_asgG {σ : L2.St} {H : Hp} {te : TE} {g : TG} {tz : TS} {D : Ends} {P : VR} (h : EvR te σ H P) (k : ∀ v H1, Ex H H1 → P v H1 → g v σ H1 fun σ2 H2 => tz D σ2 H2) : tSeq (tAsg te g) tz D σ H := h H (Ex.refl H) _ k
abbrev sp_w_is_open (K : PySem.W.Frag) : Sp := SpP (α := Thr × Thr × V × Nat × Nat × V) (fun x => [x.2.2.1, x.2.2.2.2.2]) (fun x H => PaR K x.1 x.2.1 x.2.2.1 H ∧ Gd x.1 ∧ Gd x.2.1 ∧ (∃ s, x.2.2.2.2.2 = .ref s ∧ SqT K H s [.int (x.2.2.2.1 : Nat), .int (x.2.2.2.2.1 : Nat)]) ∧ x.2.2.2.1 ≤ x.1.length ∧ x.2.2.2.2.1 ≤ x.2.1.length) (fun x => Is (.bl (openAt x.1 x.2.1 x.2.2.2.1 x.2.2.2.2.1)))
namespace D_w_is_open
abbrev N : List Str := ["_law_pair_here", "_law_state", "_law_one", "_law_other", "_law_name"]
abbrev SC : Scope := defScope s_w_is_open
theorem sc : FnScope N ["_law_pair_here", "_law_state"] SC := ⟨rfl, rfl, rfl, by decide +kernel, rfl, by decide +kernel, by decide +kernel⟩
theorem nd : N.Nodup := sc.nd
end D_w_is_open
open D_w_is_open in
theorem ok_w_is_open {P : Program} {w : World} {K : PySem.W.Frag} {mg : Str → Option Value} {base : Heap} (T : Tx K mg) (O_w_kept : OK P w K mg base 1 "_law_kept" ["_law_thread_here", "_law_count"] (sp_w_kept K)) : OK P w K mg base 2 "_law_is_open" ["_law_pair_here", "_law_state"] (sp_w_is_open K) := by
  obtain ⟨fd, F⟩ := T.f_w_is_open
  refine OK.of T.g__law_is_open F (F.ok sc (fun vs H Q E h => ?len) (fun cdv A outer s H vs Q E hr h => ?body)) (F.bindsN fun _ _ _ _ _ _ us hl => match us, hl with | [_, _], _ => rfl)
  case len =>
    obtain ⟨x, rfl, _⟩ := h
    rfl
  case body =>
    have hu := hu_of hr
    refine ⟨_, PSs.nox (pss_cons (ps_asg (pe_tup (pa_cons (pcall O_w_kept hr (by decide) (pa_cons (pe_ix (ix_tupK K) (pv 0) pe_int (fun _ _ => rfl)) (pa_cons (pe_ix (ix_tupK K) (pv 1) pe_int (fun _ _ => rfl)) pa_nil))) (pa_cons (pcall O_w_kept hr (by decide) (pa_cons (pe_ix (ix_tupK K) (pv 0) pe_int (fun _ _ => rfl)) (pa_cons (pe_ix (ix_tupK K) (pv 1) pe_int (fun _ _ => rfl)) pa_nil))) pa_nil))) (pg_tupK (n := 2) K rfl (pgs_cons (pg_name (i := 2) nd rfl (Or.inr rfl)) (pgs_cons (pg_name (i := 3) nd rfl (Or.inr rfl)) pgs_nil))))
  (pss_one (ps_ret (pe_callB (cr_allK K rfl) (by rfl) T.b_all (by decide +kernel) (pa_cons (pe_lock (pe_lc (own := [("_law_name", 4)]) (by rfl) nd (pi_keys (pv 2)) (blkOk_by (N := N) (sc := SC) (by decide +kernel)) (fun _ _ _ _ _ => (pg_name (i := 4) nd rfl (Or.inl rfl))) (fun _ _ _ _ _ => (pts_one (pt_cmp (pc_din hu (pv 4) (pv 3))))) (fun _ _ _ _ _ => (pe_and (pe_cmpR op_eq (pe_dget hu (pv 2) (pv 4) (fun _ _ => rfl)) pe_str (nomark _)) (pe_one (pe_cmpR op_eq (pe_dget hu (pv 3) (pv 4) (fun _ _ => rfl)) pe_str (nomark _))))))) pa_nil))))), ?_⟩
    obtain ⟨x, rfl, hp, hq⟩ := h

    obtain ⟨A, B, v, i, j, sv⟩ := x
    obtain ⟨hpa, hA, hB, ⟨s, rfl, hs⟩, hi, hj⟩ := hp
    replace hpa : PaR K A B v H := hpa
    replace hA : Gd A := hA
    replace hB : Gd B := hB
    replace hi : i ≤ A.length := hi
    replace hj : j ≤ B.length := hj
    replace hs : SqT K H s [.int (i : Nat), .int (j : Nat)] := hs
    have kp : ∀ {t : Thr} {c : Nat} {ta tb : TE} {H' : Hp}, Gd t → c ≤ t.length → EvR ta (start D_w_is_open.N [v, .ref s]) H' (ThR K t) → Ev tb (start D_w_is_open.N [v, .ref s]) H' (.int (c : Nat)) → EvR (tCall (sp_w_kept K) [] E0 (tCons ta (tCons tb tNil))) (start D_w_is_open.N [v, .ref s]) H' (KpR (kept t c)) := fun {t c ta tb H'} hg hc ha hb =>
      (f_callR (Pa := fun vs H => ∃ u, vs = [u, .int (c : Nat)] ∧ ThR K t u H) (fun H1 e Q q => ar_cons keeps_th ha (ar_cons keeps_is (Ev.r hb) ar_nil) H1 e Q fun vs H2 e2 ⟨u, r, h1, h2, w, r2, h3, h4, h5⟩ => q vs H2 e2 ⟨u, by rw [h1, h3, h5]; exact congrArg (fun z => [u, z]) h4, h2⟩) fun vs H1 e1 ⟨u, h1, h2⟩ Q q => ⟨(t, u, c), h1, ⟨h2, hg, hc⟩, fun v H' e f hv => q v H' e f hv⟩).rr
    have st : ∀ {H'}, Ex H H' → Ev (tOp (rIxT K) (tVar 1) (tC (.int 0))) (start D_w_is_open.N [v, .ref s]) H' (.int (i : Nat)) ∧ Ev (tOp (rIxT K) (tVar 1) (tC (.int 1))) (start D_w_is_open.N [v, .ref s]) H' (.int (j : Nat)) := fun {H'} e =>
      ⟨ev_op (ev_var rfl) ev_c (rv_ixT (ex_t e hs) rfl), ev_op (ev_var rfl) ev_c (rv_ixT (ex_t e hs) rfl)⟩
    refine r_asgG (r_tupR (Pa := fun vs H => ∃ u w, vs = [u, w] ∧ KpR (kept A i) u H ∧ KpR (kept B j) w H) (fun vs H H' e ⟨u, w, h1, h2, h3⟩ => ⟨u, w, h1, keeps_kp _ _ _ e h2, keeps_kp _ _ _ e h3⟩) (fun H1 e Q q => ar_cons keeps_kp (kp (ta := tOp (rIxT K) (tVar 0) (tC (.int 0))) (tb := tOp (rIxT K) (tVar 1) (tC (.int 0))) hA hi (r_pa0 (r_var (i := 0) keeps_pa rfl hpa) ev_c) (st (Ex.refl _)).1) (ar_cons keeps_kp (kp (ta := tOp (rIxT K) (tVar 0) (tC (.int 1))) (tb := tOp (rIxT K) (tVar 1) (tC (.int 1))) hB hj (r_pa1 (r_var (i := 0) keeps_pa rfl hpa) ev_c) (st (Ex.refl _)).2) ar_nil) H1 e Q fun vs H2 e2 ⟨u, r, h1, h2, w, r2, h3, h4, h5⟩ => q vs H2 e2 ⟨u, w, by rw [h1, h3, h5], h2, h4⟩)
      (fun vs H ⟨u, w, h1, _⟩ => by rw [h1]; show (2 : Nat) ≤ 100000; decide)) fun u H1 e1 ⟨p, vs, hu, hp, ua, ub, hvs, ⟨a, ha1, ha2⟩, b, hb1, hb2⟩ => ?_
    subst hu hvs ha1 hb1
    refine g2n (st_of hp) ?_
    exact r_ret (Ev.r (ev_open (K := K) ha2 hb2 (by have := kept_len A i; have := hA.len; omega))) fun v' H4 e4 hv' => hq v' H4 (e1.trans e4) hv'

end HdX
end

section
set_option Elab.async false
set_option linter.all false
set_option maxRecDepth 100000
set_option maxHeartbeats 4000000
namespace HdX
open PySem PySem.Spec PyProof.Rows L2 Evl
open _root_.TT hiding Run
theorem EvF.gg {σ : L2.St} {H : Hp} {te : TE} {P : VR} (h : EvF te σ H P) (st : ∀ v H D zs zs', H D = some (.lst zs) → (∀ a, v = .ref a → a ≠ D) → P v H → P v (upd H D (.lst zs'))) : EvG te σ H P := fun H1 e Q q => h H1 e Q fun v H2 e2 nw p => q v H2 e2 p fun D zs zs' hD =>
  st v H2 D zs zs' (e2 _ _ hD) (fun a ha z => by have := nw a ha; rw [z, hD] at this; cases this) p
theorem st_lsn {α : Type} {R : α → VR} {xs : List α} (r : ∀ x, StF (R x)) : ∀ v H D zs zs', H D = some (.lst zs) → (∀ a, v = .ref a → a ≠ D) → LsN R xs v H → LsN R xs v (upd H D (.lst zs')) := fun v H D zs zs' hD hne ⟨a, vs, h1, h2, h3⟩ =>
  ⟨a, vs, h1, by rw [upd_ne (hne a h1)]; exact h2, h3.mono fun x v hv => r x v H D zs zs' hD hv⟩
theorem r_setf {K : PySem.W.Frag} {σ : L2.St} {H : Hp} {ta te : TE} {tz : TS} {D : Ends} {P : VR} {f : Str} (h : EvR te σ H P) (k : ∀ v H1, Ex H H1 → P v H1 → ta σ H1 fun x H2 => ∃ a C dx fs, x = .ref a ∧ H2 a = some (.ins C dx fs) ∧ Cls K C ∧ NoAttr K C f ∧ fs.length < 1000 ∧
    tz D σ (upd H2 a (.ins C dx (putF f v fs)))) : tSeq (sFld K ta te f) tz D σ H := h H (Ex.refl H) _ k
theorem ev_fld {K : PySem.W.Frag} {σ : L2.St} {H : Hp} {ta : TE} {f : Str} {a C dx : Addr} {fs : List (Str × V)} {v : V} (h : Ev ta σ H (.ref a)) (ha : H a = some (.ins C dx fs)) (c : Cls K C) (n : NoAttr K C f) (l : fs.lookup f = some v) : Ev (tFld K ta f) σ H v := fun H1 e Q q =>
  h H1 e _ fun H2 e2 => ⟨a, C, dx, fs, v, rfl, e2 _ _ (e _ _ ha), c, n, l, q H2 e2⟩
/-! ### the plane of a pair -/
abbrev HlR (t : Thr) : VR := LsN (fun i => KpR (kept t i)) (List.range (t.length + 1))
theorem keeps_hl {t : Thr} : Keeps (HlR t) := keeps_lsn fun _ => keeps_kp
def HbR (A B : Thr) (fs : List (Str × V)) (H : Hp) : Prop := ∃ hb, fs.lookup ("held_by" : Str) = some hb ∧ LsN HlR [A, B] hb H ∧ fs.lookup ("is_open_at" : Str) = none
theorem HbR.ex {A B : Thr} {fs : List (Str × V)} {H H' : Hp} (e : Ex H H') (h : HbR A B fs H) : HbR A B fs H' := let ⟨hb, h1, h2, h3⟩ := h; ⟨hb, h1, keeps_lsn (fun _ => keeps_hl) _ _ _ e h2, h3⟩
def spPI (K : PySem.W.Frag) : Sp := fun vs H Q _ => ∃ x : Addr × Addr × Thr × Thr × V, vs = [.ref x.1, x.2.2.2.2] ∧ (H x.1 = some (.ins (He.ga K "Plane") x.2.1 []) ∧ PaR K x.2.2.1 x.2.2.2.1 x.2.2.2.2 H ∧ Gd x.2.2.1 ∧ Gd x.2.2.2.1) ∧
  ∀ H', (∀ a o, a ≠ x.1 → H a = some o → H' a = some o) → (∃ fs, H' x.1 = some (.ins (He.ga K "Plane") x.2.1 fs) ∧ HbR x.2.2.1 x.2.2.2.1 fs H') → Q .non H'
abbrev sp_Plane___init__ (K : PySem.W.Frag) : Sp := spPI K
namespace D_Plane___init__
abbrev N : List Str := ["self", "pair", "thread"]
abbrev SC : Scope := defScope s_Plane___init__
theorem sc : FnScope N ["self", "pair"] SC := ⟨rfl, rfl, rfl, by decide +kernel, rfl, by decide +kernel, by decide +kernel⟩
theorem nd : N.Nodup := sc.nd
end D_Plane___init__
theorem pa_li {K : PySem.W.Frag} {A B : Thr} {p : V} {H : Hp} (h : PaR K A B p H) : TuO K (ThR K) [A, B] p H := pa_tuo h
open D_Plane___init__ in
theorem ok_Plane___init__ {P : Program} {w : World} {K : PySem.W.Frag} {mg : Str → Option Value} {base : Heap} (T : Tx K mg) (O_holdings : OK P w K mg base 1 "holdings" ["thread"] (sp_holdings K)) : OKm P w K mg base 2 (He.ma K (He.ga K "Plane") "__init__") ["self", "pair"] (sp_Plane___init__ K) := by
  obtain ⟨fd, F⟩ := T.f_Plane___init__
  refine ⟨fd, F.ok sc (fun vs H Q E h => ?len) (fun cdv A outer s H vs Q E hr h => ?body), F.bindsN fun _ _ _ _ _ _ us hl => match us, hl with | [_, _], _ => rfl⟩
  case len =>
    obtain ⟨x, rfl, _⟩ := h
    rfl
  case body =>
    have hu := hu_of hr
    refine ⟨_, PSs.nox (pss_cons (ps_fld (pv 0) (pe_tup (pa_cons (pe_callB (call_lenK K) (by rfl) T.b_len PySem.boot_len (pa_cons (pe_ix (ix_tupK K) (pv 1) pe_int (fun _ _ => rfl)) pa_nil)) (pa_cons (pe_callB (call_lenK K) (by rfl) T.b_len PySem.boot_len (pa_cons (pe_ix (ix_tupK K) (pv 1) pe_int (fun _ _ => rfl)) pa_nil)) pa_nil))) rfl)
  (pss_cons (ps_fld (pv 0) (pe_fld (pv 0) rfl) rfl)
  (pss_one (ps_fld (pv 0) (pe_lc (own := [("thread", 2)]) (tt := tYes) (by rfl) nd (pi_tupK K (pv 1)) (blkOk_by (N := N) (sc := SC) (by decide +kernel)) (fun _ _ _ _ _ => (pg_name (i := 2) nd rfl (Or.inl rfl))) (fun _ _ _ _ _ => pts_nil) (fun _ _ _ _ _ => (pcall O_holdings hr (by decide) (pa_cons (pv 2) pa_nil)))) rfl)))), ?_⟩
    obtain ⟨x, rfl, hp, hq⟩ := h

    obtain ⟨sa, dx, A, B, v⟩ := x
    obtain ⟨hs, hpa, hA, hB⟩ := hp
    replace hpa : PaR K A B v H := hpa
    replace hA : Gd A := hA
    replace hB : Gd B := hB
    replace hs : H sa = some (.ins (He.ga K "Plane") dx []) := hs
    let C := He.ga K "Plane"
    have np : ∀ {H1 : Hp} {fs}, H1 sa = some (.ins C dx fs) → ∀ fs', ∀ {a : Addr} {xs : List V}, SqT K H1 a xs → SqT K (upd H1 sa (.ins C dx fs')) a xs := fun {H1 fs} h fs' {a xs} q => by
      rcases q with (q | ⟨o, q⟩) | q
      · exact .inl (.inl (by rw [upd_ne (fun z => by rw [z, h] at q; cases q)]; exact q))
      · exact .inl (.inr ⟨o, by rw [upd_ne (fun z => by rw [z, h] at q; cases q)]; exact q⟩)
      · exact .inr q
    have npa : ∀ {H1 : Hp} {fs}, H1 sa = some (.ins C dx fs) → ∀ fs', PaR K A B v H1 → PaR K A B v (upd H1 sa (.ins C dx fs')) := fun {H1 fs} h fs' ⟨p, a, b, h1, h2, ⟨a1, v1, h3, h4, h5⟩, ⟨a2, v2, h6, h7, h8⟩⟩ =>
      ⟨p, a, b, h1, np h fs' h2, ⟨a1, v1, h3, np h fs' h4, h5.mono fun x v ⟨c, e1, e2⟩ => ⟨c, e1, np h fs' e2⟩⟩, ⟨a2, v2, h6, np h fs' h7, h8.mono fun x v ⟨c, e1, e2⟩ => ⟨c, e1, np h fs' e2⟩⟩⟩
    -- self.sizes
    refine r_setf (r_tup (vs := [.int (A.length : Nat), .int (B.length : Nat)]) (ea_cons (v_lenT (fun _ => keeps_rc) (r_pa0 (r_var (i := 1) keeps_pa rfl hpa) ev_c)) (ea_cons (v_lenT (fun _ => keeps_rc) (r_pa1 (r_var (i := 1) keeps_pa rfl hpa) ev_c)) ea_nil)) (Nat.le_of_ble_eq_true rfl)) fun sz H1 e1 ⟨p, hp1, hp2⟩ => ?_
    refine ⟨_, rfl, sa, C, dx, [], rfl, e1 _ _ hs, T.k_Plane, T.n_Plane_sizes, Nat.le_of_ble_eq_true rfl, ?_⟩
    have hs2 : upd H1 sa (.ins C dx (putF "sizes" sz [])) sa = some (.ins C dx (putF "sizes" sz [])) := upd_same
    have k2 : ∀ a o, a ≠ sa → H a = some o → upd H1 sa (.ins C dx (putF "sizes" sz [])) a = some o := fun a o n h => by rw [upd_ne n]; exact e1 _ _ h
    have hpa2 := npa (e1 _ _ hs) (putF "sizes" sz []) (keeps_pa _ _ _ e1 hpa)
    generalize upd H1 sa (.ins C dx (putF "sizes" sz [])) = H2 at hs2 k2 hpa2 ⊢
    -- self.end
    refine r_setf (Ev.r (ev_fld (ev_var rfl) hs2 T.k_Plane T.n_Plane_sizes rfl)) fun sz' H2' e2' hsz' => ?_
    have hsz' : sz' = sz := hsz'
    subst hsz'
    refine ⟨_, rfl, sa, C, dx, _, rfl, e2' _ _ hs2, T.k_Plane, T.n_Plane_end, Nat.le_of_ble_eq_true rfl, ?_⟩
    have hs3 : upd H2' sa (.ins C dx (putF "end" sz' (putF "sizes" sz' []))) sa = some (.ins C dx (putF "end" sz' (putF "sizes" sz' []))) := upd_same
    have k3 : ∀ a o, a ≠ sa → H a = some o → upd H2' sa (.ins C dx (putF "end" sz' (putF "sizes" sz' []))) a = some o := fun a o n h => by rw [upd_ne n]; exact e2' _ _ (k2 a o n h)
    have hpa3 := npa (e2' _ _ hs2) (putF "end" sz' (putF "sizes" sz' [])) (keeps_pa _ _ _ e2' hpa2)
    generalize upd H2' sa (.ins C dx (putF "end" sz' (putF "sizes" sz' []))) = H3 at hs3 k3 hpa3 ⊢
    -- self.held_by
    refine r_lc (n := 2) (fun j v H => ∃ t, [A, B][j]? = some t ∧ HlR t v H) (fun _ => true) (fun j v H H' e ⟨t, ht, h⟩ => ⟨t, ht, keeps_hl _ _ _ e h⟩) (EvJ.ii (ej_tupR (xs := [A, B]) (R := ThR K) (fun _ => ro_th) (r_var (i := 1) (keeps_tuo fun _ => keeps_th) rfl (pa_li hpa3)))) (by decide) ?_ H3 (Ex.refl H3) _ fun hb H4 e4 ⟨l, ys, hl, hl0, hy, al⟩ => ?_
    · rintro j y H5 H6 hj e5 ⟨rfl, t, ht, hR⟩
      refine ⟨Ex.refl _, _, fun Q q => q, rfl, et_yes, fun _ => ?_⟩
      have hg : Gd t := by
        match j with
        | 0 => cases ht; exact hA
        | 1 => cases ht; exact hB
        | j + 2 => simp at ht
      have hcall : EvF (tCall (sp_holdings K) [] E0 (tCons (tVar 2) tNil)) ((wipe (start D_Plane___init__.N [.ref sa, v]) [2]).set 2 (some y)) H6 (HlR t) :=
        f_callR (ea1 keeps_th (r_var (i := 2) keeps_th rfl hR)) fun vs H1 e1 ⟨u, h1, h2⟩ Q q => ⟨(t, u), h1, ⟨h2, hg⟩, fun v H' e f hv => q v H' e f hv⟩
      intro H7 e7 Q q
      exact (hcall.gg (st_lsn fun _ => stF_kp)) H7 e7 Q fun v H8 e8 hv hst => q v H8 e8 ⟨t, ht, hv⟩ fun D zs zs' hD => ⟨t, ht, hst D zs zs' hD⟩
    · have hs4 := e4 _ _ hs3
      refine ⟨_, rfl, sa, C, dx, _, rfl, hs4, T.k_Plane, T.n_Plane_held_by, Nat.le_of_ble_eq_true rfl, ?_⟩
      have nls : l ≠ sa := fun z => by rw [z, hs4] at hy; cases hy
      refine hq _ (fun a o n h => by rw [upd_ne n]; exact e4 _ _ (k3 a o n h)) ⟨_, upd_same, hb, rfl, ?_, rfl⟩
      have e2 : giv 2 (fun _ => true) = [0, 1] := by decide
      rw [e2] at al
      refine ⟨l, ys, hl, by rw [upd_ne nls]; exact hy, al.len, fun j t w ht hw => ?_⟩
      have hj : j < 2 := (List.getElem?_eq_some_iff.mp ht).1
      have e3 : [0, 1][j]? = some j := by
        match j, hj with
        | 0, _ => rfl
        | 1, _ => rfl
      obtain ⟨t', ht', a, zs, h1, h2, h3⟩ := al.at_ j j w e3 hw
      rw [ht] at ht'
      cases ht'
      refine ⟨a, zs, h1, by rw [upd_ne (fun z => by rw [z, hs4] at h2; cases h2)]; exact h2, h3.mono fun i v ⟨c, g1, g2⟩ => ⟨c, g1, by rw [upd_ne (fun z => by rw [z, hs4] at g2; cases g2)]; exact g2⟩⟩

end HdX
end

section
set_option Elab.async false
set_option linter.all false
set_option maxRecDepth 100000
set_option maxHeartbeats 4000000
namespace HdX
open PySem PySem.Spec PyProof.Rows L2 Evl
open _root_.TT hiding Run
abbrev sp_Plane_is_open_at (K : PySem.W.Frag) : Sp := SpP (α := Addr × Addr × List (Str × V) × Thr × Thr × Nat × Nat × V) (fun x => [.ref x.1, x.2.2.2.2.2.2.2]) (fun x H => H x.1 = some (.ins (He.ga K "Plane") x.2.1 x.2.2.1) ∧ HbR x.2.2.2.1 x.2.2.2.2.1 x.2.2.1 H ∧ x.2.2.2.1.length ≤ 100 ∧ (∃ s, x.2.2.2.2.2.2.2 = .ref s ∧ SqT K H s [.int (x.2.2.2.2.2.1 : Nat), .int (x.2.2.2.2.2.2.1 : Nat)]) ∧ x.2.2.2.2.2.1 ≤ x.2.2.2.1.length ∧ x.2.2.2.2.2.2.1 ≤ x.2.2.2.2.1.length)
  (fun x => Is (.bl (openAt x.2.2.2.1 x.2.2.2.2.1 x.2.2.2.2.2.1 x.2.2.2.2.2.2.1)))
namespace D_Plane_is_open_at
abbrev N : List Str := ["self", "state", "one", "other", "lock"]
abbrev SC : Scope := defScope s_Plane_is_open_at
theorem sc : FnScope N ["self", "state"] SC := ⟨rfl, rfl, rfl, by decide +kernel, rfl, by decide +kernel, by decide +kernel⟩
theorem nd : N.Nodup := sc.nd
end D_Plane_is_open_at
open D_Plane_is_open_at in
theorem ok_Plane_is_open_at {P : Program} {w : World} {K : PySem.W.Frag} {mg : Str → Option Value} {base : Heap} (T : Tx K mg)  : OKm P w K mg base 1 (He.ma K (He.ga K "Plane") "is_open_at") ["self", "state"] (sp_Plane_is_open_at K) := by
  obtain ⟨fd, F⟩ := T.f_Plane_is_open_at
  obtain ⟨tSHARE, cSHARE⟩ := T.c_SHARE
  refine ⟨fd, F.ok sc (fun vs H Q E h => ?len) (fun cdv A outer s H vs Q E hr h => ?body), F.bindsN fun _ _ _ _ _ _ us hl => match us, hl with | [_, _], _ => rfl⟩
  case len =>
    obtain ⟨x, rfl, _⟩ := h
    rfl
  case body =>
    have hu := hu_of hr
    refine ⟨_, PSs.nox (pss_cons (ps_asg (pe_tup (pa_cons (pe_ix (ix_listK K) (pe_ix (ix_listK K) (pe_fld (pv 0) rfl) pe_int (fun _ _ => rfl)) (pe_ix (ix_tupK K) (pv 1) pe_int (fun _ _ => rfl)) (fun _ _ => rfl)) (pa_cons (pe_ix (ix_listK K) (pe_ix (ix_listK K) (pe_fld (pv 0) rfl) pe_int (fun _ _ => rfl)) (pe_ix (ix_tupK K) (pv 1) pe_int (fun _ _ => rfl)) (fun _ _ => rfl)) pa_nil))) (pg_tupK (n := 2) K rfl (pgs_cons (pg_name (i := 2) nd rfl (Or.inr rfl)) (pgs_cons (pg_name (i := 3) nd rfl (Or.inr rfl)) pgs_nil))))
  (pss_one (ps_ret (pe_callB (cr_allK K rfl) (by rfl) T.b_all (by decide +kernel) (pa_cons (pe_lock (pe_lc (own := [("lock", 4)]) (by rfl) nd (pi_keys (pv 2)) (blkOk_by (N := N) (sc := SC) (by decide +kernel)) (fun _ _ _ _ _ => (pg_name (i := 4) nd rfl (Or.inl rfl))) (fun _ _ _ _ _ => (pts_one (pt_cmp (pc_din hu (pv 4) (pv 3))))) (fun _ _ _ _ _ => (pe_and (pe_cmpR op_eq (pe_dget hu (pv 2) (pv 4) (fun _ _ => rfl)) (pe_gs rfl cSHARE) (nomark _)) (pe_one (pe_cmpR op_eq (pe_dget hu (pv 3) (pv 4) (fun _ _ => rfl)) (pe_gs rfl cSHARE) (nomark _))))))) pa_nil))))), ?_⟩
    obtain ⟨x, rfl, hp, hq⟩ := h

    obtain ⟨sa, dx, fs, A, B, i, j, sv⟩ := x
    obtain ⟨hs, ⟨hb, hb1, hb2, hb3⟩, hA, ⟨s, rfl, hst⟩, hi, hj⟩ := hp
    replace hs : H sa = some (.ins (He.ga K "Plane") dx fs) := hs
    replace hb1 : fs.lookup ("held_by" : Str) = some hb := hb1
    replace hb2 : LsN HlR [A, B] hb H := hb2
    replace hA : A.length ≤ 100 := hA
    replace hi : i ≤ A.length := hi
    replace hj : j ≤ B.length := hj
    replace hst : SqT K H s [.int (i : Nat), .int (j : Nat)] := hst
    have st0 : Ev (tOp (rIxT K) (tVar 1) (tC (.int 0))) (start D_Plane_is_open_at.N [.ref sa, .ref s]) H (.int (i : Nat)) := ev_op (ev_var rfl) ev_c (rv_ixT hst rfl)
    have st1 : Ev (tOp (rIxT K) (tVar 1) (tC (.int 1))) (start D_Plane_is_open_at.N [.ref sa, .ref s]) H (.int (j : Nat)) := ev_op (ev_var rfl) ev_c (rv_ixT hst rfl)
    have fld : EvR (tFld K (tVar 0) "held_by") (start D_Plane_is_open_at.N [.ref sa, .ref s]) H (LsO K HlR [A, B]) := fun H1 e Q q => ev_fld (ev_var rfl) hs T.k_Plane T.n_Plane_held_by hb1 H1 e Q fun H2 e2 => q hb H2 e2 (keeps_lsn (fun _ => keeps_hl) _ _ _ (e.trans e2) hb2).o
    have row : ∀ {ti tj : TE} {k m : Nat} {t : Thr}, Ev ti (start D_Plane_is_open_at.N [.ref sa, .ref s]) H (.int (k : Nat)) → Ev tj (start D_Plane_is_open_at.N [.ref sa, .ref s]) H (.int (m : Nat)) → [A, B][k]? = some t → m ≤ t.length → EvR (tOp (rIxL K) (tOp (rIxL K) (tFld K (tVar 0) "held_by") ti) tj) (start D_Plane_is_open_at.N [.ref sa, .ref s]) H (KpR (kept t m)) := fun {ti tj k m t} h1 h2 h3 h4 =>
      r_ixLR (R := fun i => KpR (kept t i)) (xs := List.range (t.length + 1)) (fun _ => keeps_kp) ((r_ixLR (R := HlR) (fun _ => keeps_hl) fld h1 h3).imp fun v H _ h => LsN.o (K := K) h) h2 (List.getElem?_range (by omega))
    refine r_asgG (r_tupR (Pa := fun vs H => ∃ u w, vs = [u, w] ∧ KpR (kept A i) u H ∧ KpR (kept B j) w H) (fun vs H H' e ⟨u, w, h1, h2, h3⟩ => ⟨u, w, h1, keeps_kp _ _ _ e h2, keeps_kp _ _ _ e h3⟩) (fun H1 e Q q => ar_cons keeps_kp (row (k := 0) ev_c st0 rfl hi) (ar_cons keeps_kp (row (k := 1) ev_c st1 rfl hj) ar_nil) H1 e Q fun vs H2 e2 ⟨u, r, h1, h2, w, r2, h3, h4, h5⟩ => q vs H2 e2 ⟨u, w, by rw [h1, h3, h5], h2, h4⟩)
      (fun vs H ⟨u, w, h1, _⟩ => by rw [h1]; show (2 : Nat) ≤ 100000; decide)) fun u H1 e1 ⟨p, vs, hu, hp, ua, ub, hvs, ⟨a, ha1, ha2⟩, b, hb1, hb2⟩ => ?_
    subst hu hvs ha1 hb1
    refine g2n (st_of hp) ?_
    exact r_ret (Ev.r (ev_open (K := K) ha2 hb2 (by have := kept_len A i; omega))) fun v' H4 e4 hv' => hq v' H4 (e1.trans e4) hv'
/-! ### the law's is_run -/
theorem ev_openLoop {A B : Thr} {r : Rn} (R : cA r = A.length ∧ cB r = B.length) : ∀ k, k < r.length → cA (r.take (k + 1)) ≤ A.length ∧ cB (r.take (k + 1)) ≤ B.length ∧ ((k : Int) + 1 - (cA (r.take (k + 1)) : Nat) = ((cB (r.take (k + 1)) : Nat) : Int)) := fun k hk => by
  have h1 := cAB (r.take (k + 1))
  rw [List.length_take] at h1
  have h2 : cA r = cA (r.take (k + 1)) + cA (r.drop (k + 1)) := by rw [← cA_app, List.take_append_drop]
  have h3 : cB r = cB (r.take (k + 1)) + cB (r.drop (k + 1)) := by rw [← cB_app, List.take_append_drop]
  omega
abbrev sp_w_is_run (K : PySem.W.Frag) : Sp := SpP (α := Thr × Thr × V × Rn) (fun x => [x.2.2.1, .str (rs x.2.2.2)]) (fun x H => PaR K x.1 x.2.1 x.2.2.1 H ∧ Gd x.1 ∧ Gd x.2.1 ∧ x.2.2.2.length ≤ 1000) (fun x => Is (.bl (isRunB x.1 x.2.1 x.2.2.2)))
namespace D_w_is_run
abbrev N : List Str := ["_law_pair_here", "_law_letters", "_law_counts", "_law_at", "_law_i"]
abbrev SC : Scope := defScope s_w_is_run
theorem sc : FnScope N ["_law_pair_here", "_law_letters"] SC := ⟨rfl, rfl, rfl, by decide +kernel, rfl, by decide +kernel, by decide +kernel⟩
theorem nd : N.Nodup := sc.nd
end D_w_is_run
theorem ne_cnt {a b : Nat} : (!decide (V.int (a : Nat) = V.int (b : Nat))) = !decide (a = b) := by
  congr 1
  apply decide_eq_decide.mpr
  rw [V.int.injEq]
  omega
theorem giv_all1 (n : Nat) : giv n (fun _ => true) = List.range n := List.filter_eq_self.mpr fun _ _ => rfl
open D_w_is_run in
theorem ok_w_is_run {P : Program} {w : World} {K : PySem.W.Frag} {mg : Str → Option Value} {base : Heap} (T : Tx K mg) (O_w_is_open : OK P w K mg base 2 "_law_is_open" ["_law_pair_here", "_law_state"] (sp_w_is_open K)) : OK P w K mg base 3 "_law_is_run" ["_law_pair_here", "_law_letters"] (sp_w_is_run K) := by
  obtain ⟨fd, F⟩ := T.f_w_is_run
  refine OK.of T.g__law_is_run F (F.ok sc (fun vs H Q E h => ?len) (fun cdv A outer s H vs Q E hr h => ?body)) (F.bindsN fun _ _ _ _ _ _ us hl => match us, hl with | [_, _], _ => rfl)
  case len =>
    obtain ⟨x, rfl, _⟩ := h
    rfl
  case body =>
    have hu := hu_of hr
    refine ⟨_, PSs.nox (pss_cons (ps_if (PW.pt (pw_or (pt_cmpR op_ne (pe_m1 PySem.F.slot_str_count PySem.F.type_str_count mt_count (pv 1) pe_str) (pe_callB (call_lenK K) (by rfl) T.b_len PySem.boot_len (pa_cons (pe_ix (ix_tupK K) (pv 0) pe_int (fun _ _ => rfl)) pa_nil)) (nomark _)) (pw_or1 (pt_cmpR op_ne (pe_m1 PySem.F.slot_str_count PySem.F.type_str_count mt_count (pv 1) pe_str) (pe_callB (call_lenK K) (by rfl) T.b_len PySem.boot_len (pa_cons (pe_ix (ix_tupK K) (pv 0) pe_int (fun _ _ => rfl)) pa_nil)) (nomark _)))))
  (pss_one (ps_ret pe_bl))
  pss_nil)
  (pss_cons (ps_setLc (i := 2) (own := [("_law_at", 3)]) (tt := tYes) rfl nd rfl rfl (sw_true rfl rfl rfl (by decide +kernel)) (pi_range1 rfl T.b_range (pa_cons (pe_callB call_len_str (by rfl) T.b_len PySem.boot_len (pa_cons (pv 1) pa_nil)) pa_nil)) (blkOk_by (N := N) (sc := SC) (by decide +kernel)) (fun _ _ _ _ _ => (pg_name (i := 3) nd rfl (Or.inl rfl))) (fun _ _ _ _ _ => pts_nil) (fun _ _ _ _ _ => (pe_m1 PySem.F.slot_str_count PySem.F.type_str_count mt_count (pe_slice sl_str (pv 1) po_none (po_some (pe_op op_add (pv 3) pe_int))) pe_str)))
  (pss_one (ps_ret (pe_callB (cr_allK K rfl) (by rfl) T.b_all (by decide +kernel) (pa_cons (pe_lc (own := [("_law_at", 3), ("_law_i", 4)]) (tt := tYes) (by rfl) nd (pi_enumK K rfl T.b_enumerate (pa_cons (pv 2) pa_nil)) (blkOk_by (N := N) (sc := SC) (by decide +kernel)) (fun _ _ _ _ _ => (pg_tupK (n := 2) K rfl (pgs_cons (pg_name (i := 3) nd rfl (Or.inl rfl)) (pgs_cons (pg_name (i := 4) nd rfl (Or.inl rfl)) pgs_nil)))) (fun _ _ _ _ _ => pts_nil) (fun _ _ _ _ _ => (pcall O_w_is_open hr (by decide) (pa_cons (pv 0) (pa_cons (pe_tup (pa_cons (pv 4) (pa_cons (pe_op op_sub (pe_op op_add (pv 3) pe_int) (pv 4)) pa_nil))) pa_nil))))) pa_nil)))))), ?_⟩
    obtain ⟨x, rfl, hp, hq⟩ := h

    obtain ⟨A, B, v, r⟩ := x
    obtain ⟨hpa, hA, hB, hr0⟩ := hp
    replace hpa : PaR K A B v H := hpa
    replace hA : Gd A := hA
    replace hB : Gd B := hB
    replace hr0 : r.length ≤ 1000 := hr0
    refine q_when (b := (!decide (cA r = A.length)) || (!decide (cB r = B.length))) (et_or (et_is (et_test (ev_op (ev_cnt (ev_var rfl) ev_cA) (v_lenT (fun _ => keeps_rc) (r_pa0 (r_var (i := 0) keeps_pa rfl hpa) ev_c)) (rv_ne rfl))) ne_cnt)
      fun _ => et_is (et_test (ev_op (ev_cnt (ev_var rfl) ev_cB) (v_lenT (fun _ => keeps_rc) (r_pa1 (r_var (i := 0) keeps_pa rfl hpa) ev_c)) (rv_ne rfl))) ne_cnt) (fun hn H1 e1 => ?_) fun hn H1 e1 => ?_
    · refine r_ret (Ev.r ev_c) fun v' H4 e4 hv' => hq v' H4 (e1.trans e4) ?_
      have hv' : v' = .bl false := hv'
      rw [hv']
      show V.bl false = V.bl (isRunB A B r)
      congr 1
      unfold isRunB
      cases h1 : decide (cA r = A.length) <;> cases h2 : decide (cB r = B.length) <;> simp [h1, h2] at hn ⊢
    · have hAB : cA r = A.length ∧ cB r = B.length := by
        cases h1 : decide (cA r = A.length) <;> cases h2 : decide (cB r = B.length) <;> simp [h1, h2] at hn
        exact ⟨of_decide_eq_true h1, of_decide_eq_true h2⟩
      have hpa1 := keeps_pa _ _ _ e1 hpa
      refine r_asg (r_lcO (n := r.length) (Y := YR 0) (fun i => Is (.int (cA (r.take (i + 1)) : Nat))) (fun _ => true) (fun _ => keeps_is) ?_ (by omega) ?_) fun vc H2 e2 hvc => ?_
      · have := EvJ.ii (ej_range (m := (r.length : Nat)) (σ := start D_w_is_run.N [v, .str (rs r)]) (H := H1) (ta := tCons (tCB (fun xs H Q => ∃ z, xs = [.str z] ∧ z.length ≤ sizeLine ∧ Q (.int z.length) H) (tCons (tVar 1) tNil)) tNil) (ea_cons (ev_lenR (ev_var rfl) (by omega)) ea_nil) ⟨by omega, by omega⟩)
        exact this
      · rintro i y H3 H4 hi e3 ⟨rfl, rfl⟩
        refine ⟨Ex.refl _, _, fun Q q => q, rfl, et_yes, fun _ => (Ev.r (ev_cnt (b := true) (ev_hi (r := r) (p := i + 1) (ev_var rfl) (ev_is (ev_op (ev_var rfl) ev_c rv_I0) (by show V.int (0 + (i : Int) + 1) = _; congr 1; omega)) (by omega)) ev_cA)).gg stF_is⟩
      · have hpa2 := keeps_pa _ _ _ e2 hpa1
        rw [giv_all1] at hvc
        refine r_ret (Ev.r (v_cb (Pa := fun vs H' => ∃ u, vs = [u] ∧ LsN (fun i => Is (.bl (openAt A B (cA (r.take (i + 1))) (cB (r.take (i + 1)))))) (List.range r.length) u H') (ea1 (keeps_lsn fun _ => keeps_is) ?_) ?_)) fun v' H4 e4 hv' => hq v' H4 ((e1.trans e2).trans e4) hv'
        · refine EvR.imp (P := LsN (fun i => Is (.bl (openAt A B (cA (r.take (i + 1))) (cB (r.take (i + 1)))))) (giv r.length fun _ => true)) ?_ fun v H _ h => by rw [giv_all1] at h; exact h
          have hen := ei_enumL (K := K) (R := fun i => Is (.int (cA (r.take (i + 1)) : Nat))) (xs := List.range r.length) (σ := (start D_w_is_run.N [v, .str (rs r)]).set 2 (some vc)) (H := H2) (tl := tVar 2) (fun _ => keeps_is) (r_var (keeps_lso fun _ => keeps_is) rfl hvc.o)
          rw [List.length_range] at hen
          refine r_lcO _ _ (fun _ => keeps_is) hen (by omega) ?_
          rintro i y H3 H4 hi e3 ⟨T, u, x, rfl, hT, rfl, hx, hu⟩
          rw [List.getElem?_range hi] at hx
          cases hx
          have hu : u = .int (cA (r.take (i + 1)) : Nat) := hu
          subst hu
          obtain ⟨l1, l2, l3⟩ := ev_openLoop hAB i hi
          refine ⟨Ex.new hT, _, fun Q q => g2n (st_of upd_same) q, rfl, et_yes, fun _ => (Ev.r (EvR.vv (r_callR (Pa := fun vs H' => ∃ pv sv, vs = [pv, sv] ∧ PaR K A B pv H' ∧ ∃ s, sv = .ref s ∧ SqT K H' s [.int (cA (r.take (i + 1)) : Nat), .int (cB (r.take (i + 1)) : Nat)]) ?_ ?_))).gg stF_is⟩
          · intro H5 e5 Q q
            refine ar_cons keeps_pa (r_var (i := 0) keeps_pa rfl (keeps_pa _ _ _ (e3.trans (Ex.new hT)) hpa2)) (ar_cons (P := fun v H => ∃ s, v = .ref s ∧ SqT K H s [.int (cA (r.take (i + 1)) : Nat), .int (cB (r.take (i + 1)) : Nat)]) (fun v H H' e ⟨s, h1, h2⟩ => ⟨s, h1, ex_t e h2⟩) ?_ ar_nil) H5 e5 Q fun vs H2 e2 ⟨u, r, h1, h2, w, r2, h3, h4, h5⟩ => q vs H2 e2 ⟨u, w, by rw [h1, h3, h5], h2, h4⟩
            refine (r_tup (vs := [.int (cA (r.take (i + 1)) : Nat), .int (cB (r.take (i + 1)) : Nat)]) (ea_cons (ev_var rfl) (ea_cons (ev_is (ev_op (ev_op (ev_var rfl) ev_c rv_I0) (ev_var rfl) rv_I0) ?_) ea_nil)) (Nat.le_of_ble_eq_true rfl)).imp fun v H _ ⟨p, h1, h2⟩ => ⟨p, h1, st_of h2⟩
            show V.int ((i : Int) + 1 - (cA (r.take (i + 1)) : Nat)) = _
            rw [l3]
          · rintro vs H5 e5 ⟨pv, sv, rfl, hp1, hp2⟩ Q q
            exact ⟨(A, B, pv, _, _, sv), rfl, ⟨hp1, hA, hB, hp2, l1, l2⟩, fun v H' e hv => q v H' e hv⟩
        · rintro vs H5 e5 ⟨u, rfl, a, ys, h1, h2, h3⟩ Q q
          have e := al_is h3
          refine ⟨a, (List.range r.length).map fun i => openAt A B (cA (r.take (i + 1))) (cB (r.take (i + 1))), by rw [h1], sq_of (by rw [h2, e, List.map_map]; rfl), ?_⟩
          rw [List.all_map]
          have : (List.range r.length).all (id ∘ fun i => openAt A B (cA (r.take (i + 1))) (cB (r.take (i + 1)))) = isRunB A B r := by
            unfold isRunB
            rw [decide_eq_true hAB.1, decide_eq_true hAB.2]
            rfl
          rw [this]
          exact q

end HdX
end

section
set_option Elab.async false
set_option linter.all false
set_option maxRecDepth 100000
set_option maxHeartbeats 4000000
namespace HdX
open PySem PySem.Spec PyProof.Rows L2 Evl
open _root_.TT hiding Run
/-! ### is_run -/
theorem tw_all {p : Nat → Bool} : ∀ {l : List Nat}, (∀ c ∈ l, p c = true) → l.takeWhile p = l
  | [], _ => rfl
  | c :: l, h => by rw [List.takeWhile_cons, if_pos (h c List.mem_cons_self), tw_all fun d hd => h d (List.mem_cons_of_mem _ hd)]
theorem strip_rs (r : Rn) : Txt.stripChars (rs r) (Str.ofString "ab") = rs [] := by
  have all : (rs r).cps.toList.takeWhile (Str.ofString "ab").cps.contains = (rs r).cps.toList := by
    rw [rs_cps]
    refine tw_all fun c hc => ?_
    obtain ⟨b, _, rfl⟩ := List.mem_map.mp hc
    rw [lit_ab]
    cases b <;> decide +kernel
  have lo : stripLo (Str.ofString "ab").cps.contains true (rs r) = r.length := by
    show ((rs r).cps.toList.takeWhile _).length = _
    rw [all, rs_cps, List.length_map]
  have hi : stripHi (Str.ofString "ab").cps.contains true (rs r) r.length = r.length := by
    show (rs r).length - (((rs r).cps.toList.drop r.length).reverse.takeWhile _).length = _
    rw [rs_len, rs_cps, List.drop_eq_nil_of_le (by simp)]
    rfl
  unfold Txt.stripChars Txt.stripBy
  by_cases h : stripSame (Str.ofString "ab").cps.contains true true (rs r) = true
  · rw [if_pos h]
    unfold stripSame at h
    rw [lo] at h
    have : r.length = 0 := by simpa using (Bool.and_eq_true_iff.mp h).1
    rw [List.length_eq_zero_iff.mp this]
  · rw [if_neg h]
    unfold stripped
    rw [lo, hi]
    show (⟨(rs r).cps.extract r.length r.length⟩ : Str) = ⟨#[]⟩
    simp
    omega
theorem dp_ints {K : PySem.W.Frag} {H : Hp} {a : Addr} {x y : Int} (h : SqL K H a [.int x, .int y]) : Dp K H (.ref a) (.list [.int x, .int y]) := .lst h (.cons (.int _) (.cons (.int _) .nil))
theorem eqv_ii (a b c d : Nat) : PyData.eqv (.list [.int (a : Nat), .int (b : Nat)]) (.list [.int (c : Nat), .int (d : Nat)]) = (decide (a = c) && decide (b = d)) := by
  show (((a : Int) == (c : Int)) && (((b : Int) == (d : Int)) && true)) = _
  rw [Bool.and_true]
  congr 1 <;> (rw [Bool.eq_iff_iff]; simp; omega)
abbrev sp_is_run (K : PySem.W.Frag) : Sp := SpP (α := Thr × Thr × V × Rn) (fun x => [x.2.2.1, .str (rs x.2.2.2)]) (fun x H => PaR K x.1 x.2.1 x.2.2.1 H ∧ Gd x.1 ∧ Gd x.2.1 ∧ x.2.2.2.length ≤ 1000) (fun x => Is (.bl (isRunB x.1 x.2.1 x.2.2.2)))
namespace D_is_run
abbrev N : List Str := ["pair", "value", "counts", "plane", "i", "done", "letter", "thread"]
abbrev SC : Scope := defScope s_is_run
theorem sc : FnScope N ["pair", "value"] SC := ⟨rfl, rfl, rfl, by decide +kernel, rfl, by decide +kernel, by decide +kernel⟩
theorem nd : N.Nodup := sc.nd
end D_is_run
theorem two_lens {t : Thr} {A B : Thr} {j : Nat} (h : [A, B][j]? = some t) : j < 2 := (List.getElem?_eq_some_iff.mp h).1
open D_is_run in
theorem ok_is_run {P : Program} {w : World} {K : PySem.W.Frag} {mg : Str → Option Value} {base : Heap} (T : Tx K mg)  (O_Pi : OKm P w K mg base 2 (He.ma K (He.ga K "Plane") "__init__") ["self", "pair"] (sp_Plane___init__ K)) (O_Po : OKm P w K mg base 1 (He.ma K (He.ga K "Plane") "is_open_at") ["self", "state"] (sp_Plane_is_open_at K)) : OK P w K mg base 4 "is_run" ["pair", "value"] (sp_is_run K) := by
  obtain ⟨fd, F⟩ := T.f_is_run
  obtain ⟨tLETTERS, cLETTERS⟩ := T.c_LETTERS
  obtain ⟨fdPi, GPi, bPi⟩ := O_Pi
  obtain ⟨fdPo, GPo, bPo⟩ := O_Po
  refine OK.of T.g_is_run F (F.ok sc (fun vs H Q E h => ?len) (fun cdv A outer s H vs Q E hr h => ?body)) (F.bindsN fun _ _ _ _ _ _ us hl => match us, hl with | [_, _], _ => rfl)
  case len =>
    obtain ⟨x, rfl, _⟩ := h
    rfl
  case body =>
    have hu := hu_of hr
    refine ⟨_, PSs.nox (pss_cons (ps_if (PW.pt (pw_or (pt_not (pt_val (pe_callB (call_isiK2 K) (by rfl) T.b_isinstance (by decide +kernel) (pa_cons (pv 1) (pa_cons (pe_bltn (v := .ty "str") rfl T.b_str (by decide +kernel) rfl) pa_nil))) (fun _ => rfl))) (pw_or1 (pt_cmpR op_ne (pe_m1 PySem.F.slot_str_strip PySem.F.type_str_strip mt_stripChars (pv 1) (pe_gs rfl cLETTERS)) pe_str (nomark _)))))
  (pss_one (ps_ret pe_bl))
  pss_nil)
  (pss_cons (ps_setLc (i := 2) (own := [("letter", 6)]) (tt := tYes) rfl nd rfl rfl (sw_true rfl rfl rfl (by decide +kernel)) (pi_str (pe_gs rfl cLETTERS)) (blkOk_by (N := N) (sc := SC) (by decide +kernel)) (fun _ _ _ _ _ => (pg_name (i := 6) nd rfl (Or.inl rfl))) (fun _ _ _ _ _ => pts_nil) (fun _ _ _ _ _ => (pe_m1 PySem.F.slot_str_count PySem.F.type_str_count mt_count (pv 1) (pv 6))))
  (pss_cons (ps_if (PW.pt (pw_or (pt_cmpR (op_neDK K hr.units) (pv 2) (pe_lc (own := [("thread", 7)]) (tt := tYes) (by rfl) nd (pi_tupK K (pv 0)) (blkOk_by (N := N) (sc := SC) (by decide +kernel)) (fun _ _ _ _ _ => (pg_name (i := 7) nd rfl (Or.inl rfl))) (fun _ _ _ _ _ => pts_nil) (fun _ _ _ _ _ => (pe_callB (call_lenK K) (by rfl) T.b_len PySem.boot_len (pa_cons (pv 7) pa_nil)))) (nomark _)) (pw_or1 (pt_cmpR op_ne (pe_callB call_len_str (by rfl) T.b_len PySem.boot_len (pa_cons (pv 1) pa_nil)) (pe_callB (cr_sumK K rfl) (by rfl) T.b_sum (by decide +kernel) (pa_cons (pv 2) pa_nil)) (nomark _)))))
  (pss_one (ps_ret pe_bl))
  pss_nil)
  (pss_cons (ps_par (i := 3) (j := 4) rfl nd rfl rfl (by decide) rfl rfl (pa_cons (pe_make T.m_Plane GPi hr rfl T.g_Plane bPi .nil pass0 (pa_cons (pv 0) pa_nil)) (pa_cons pe_int pa_nil)) rfl)
  (pss_cons (ps_for PassesOwn.never rfl (pi_enumS rfl T.b_enumerate (pa_cons (pv 1) pa_nil)) (pg_tupK (n := 2) K rfl (pgs_cons (pg_name (i := 5) nd rfl (Or.inl rfl)) (pgs_cons (pg_name (i := 6) nd rfl (Or.inl rfl)) pgs_nil)))
  (pss_cons (ps_aug (i := 4) nd rfl (Or.inl rfl) (pe_callTy call_int1 (by rfl) T.b_int (by decide +kernel) (pa_cons (pe_cmpR op_eq (pv 6) (pe_ix ix_str (pe_gs rfl cLETTERS) pe_int (fun _ _ => rfl)) (nomark _)) pa_nil)) ip_add)
  (pss_one (ps_if (pt_not (pt_val (pe_meth (pv 3) T.k_Plane T.h_Plane_is_open_at GPo (hr.mono (by decide)) bPo .nil pass0 (pa_cons (pe_tup (pa_cons (pv 4) (pa_cons (pe_op op_sub (pe_op op_add (pv 5) pe_int) (pv 4)) pa_nil))) pa_nil)) (fun _ => rfl)))
  (pss_one (ps_ret pe_bl))
  pss_nil))))
  (pss_one (ps_ret pe_bl))))))), ?_⟩
    obtain ⟨x, rfl, hp, hq⟩ := h

    obtain ⟨A, B, v, r⟩ := x
    obtain ⟨hpa, hA, hB, hr0⟩ := hp
    replace hpa : PaR K A B v H := hpa
    replace hA : Gd A := hA
    replace hB : Gd B := hB
    replace hr0 : r.length ≤ 1000 := hr0
    have cab := cAB r
    -- a text of the two letters
    refine q_when (b := false) (et_is (et_or (a := false) (b := false) (et_is (et_not (a := true) (et_B (ev_cb (ea_cons (ev_var rfl) (ea_cons ev_c ea_nil)) fun H1 _ Q q => ⟨_, _, _, _, true, rfl, .ty "str", .base (.str _), kit_ty (by decide +kernel), q H1 (Ex.refl H1)⟩))) rfl)
      fun _ => et_is (et_test (ev_op (x := .str (rs [])) (y := .str (rs [])) ?_ (by rw [← lit_0]; exact ev_c) (rv_ne rfl))) (by rw [decide_eq_true rfl]; rfl)) rfl) (fun hn => by cases hn) fun _ H1 e1 => ?_
    · exact fun H1 e Q q => ⟨_, rfl, ⟨_, rfl⟩, _, _, rfl, rfl, by rw [rs_len]; exact sz_of (show r.length ≤ 100000 by omega), by rw [strip_rs]; exact q H1 (Ex.refl H1)⟩
    have hpa1 := keeps_pa _ _ _ e1 hpa
    -- counts
    have two : ∀ {j c : Nat}, (Str.ofString "ab").cps[j]? = some c → ∃ b, [true, false][j]? = some b ∧ c = lt b := fun {j c} h => by rw [lit_ab] at h; exact rs_at h
    have g2 : giv 2 (fun _ => true) = [0, 1] := by decide
    refine r_asg (r_lcO (n := 2) (Y := YS (Str.ofString "ab")) (fun j v _ => ∃ b, [true, false][j]? = some b ∧ v = .int (r.count b : Nat)) (fun _ => true) (fun _ _ _ _ _ h => h) (EvJ.ii (ej_str ev_c)) (by decide) ?_) fun vc H2 e2 hvc => ?_
    · rintro j y H3 H4 hj e3 ⟨rfl, c, hc, rfl⟩
      obtain ⟨b, hb, rfl⟩ := two hc
      exact ⟨Ex.refl _, _, fun Q q => q, rfl, et_yes, fun _ => ((Ev.r (ev_cnt (r := r) (b := b) (ev_var rfl) (ev_var rfl))).imp fun v H _ hv => ⟨b, hb, hv⟩).gg fun _ _ _ _ _ _ h => h⟩
    obtain ⟨lc, ys, rfl, hlc, al⟩ := hvc
    rw [g2] at al
    obtain ⟨y0, y1, rfl⟩ : ∃ y0 y1, ys = [y0, y1] := by
      match ys, al.len with
      | [y0, y1], _ => exact ⟨y0, y1, rfl⟩
    obtain ⟨b0, h0, rfl⟩ := al.at_ 0 0 y0 rfl rfl
    obtain ⟨b1, h1, rfl⟩ := al.at_ 1 1 y1 rfl rfl
    cases h0
    cases h1
    have hpa2 := keeps_pa _ _ _ e2 hpa1
    -- the lengths
    have lens : EvR (tLc (iTup K (tVar 0)) (gName 7) tYes (tCB (rLenS K) (tCons (tVar 7) tNil)) [7]) ((start D_is_run.N [v, .str (rs r)]).set 2 (some (.ref lc))) H2 (fun u H' => ∃ a, u = .ref a ∧ H' a = some (.lst [.int (A.length : Nat), .int (B.length : Nat)])) := by
      refine (r_lcO (n := 2) (fun j v _ => ∃ t, [A, B][j]? = some t ∧ v = .int (t.length : Nat)) (fun _ => true) (fun _ _ _ _ _ h => h) (EvJ.ii (ej_tupR (xs := [A, B]) (R := ThR K) (fun _ => ro_th) (r_var (i := 0) (keeps_tuo fun _ => keeps_th) rfl (pa_li hpa2)))) (by decide) ?_).imp ?_
      · rintro j y H3 H4 hj e3 ⟨rfl, t, ht, hR⟩
        exact ⟨Ex.refl _, _, fun Q q => q, rfl, et_yes, fun _ => ((Ev.r (v_lenT (fun _ => keeps_rc) (r_var (i := 7) keeps_th rfl hR))).imp fun v H _ hv => ⟨t, ht, hv⟩).gg fun _ _ _ _ _ _ h => h⟩
      · rintro u H3 e3 ⟨a, zs, rfl, hz, al⟩
        rw [g2] at al
        obtain ⟨z0, z1, rfl⟩ : ∃ y0 y1, zs = [y0, y1] := by
          match zs, al.len with
          | [y0, y1], _ => exact ⟨y0, y1, rfl⟩
        obtain ⟨t0, h0, rfl⟩ := al.at_ 0 0 z0 rfl rfl
        obtain ⟨t1, h1, rfl⟩ := al.at_ 1 1 z1 rfl rfl
        cases h0
        cases h1
        exact ⟨a, rfl, hz⟩
    have cmp : Ev (tOp (rNeD K) (tVar 2) (tLc (iTup K (tVar 0)) (gName 7) tYes (tCB (rLenS K) (tCons (tVar 7) tNil)) [7])) ((start D_is_run.N [v, .str (rs r)]).set 2 (some (.ref lc))) H2 (.bl (!(decide (cA r = A.length) && decide (cB r = B.length)))) :=
      v_op (Pa := fun u H' => u = .ref lc ∧ H' lc = some (.lst [.int (cA r : Nat), .int (cB r : Nat)])) (fun v H H' e ⟨h1, h2⟩ => ⟨h1, e _ _ h2⟩) (fun H1 e Q q => ⟨_, rfl, q _ H1 (Ex.refl _) ⟨rfl, e _ _ hlc⟩⟩) lens fun x y H3 e3 ⟨hx, hx2⟩ ⟨a, hy, hy2⟩ Q k => by
        subst hx hy
        refine ⟨_, _, dp_ints (sq_of hx2), dp_ints (sq_of hy2), rfl, rfl, ?_⟩
        rw [eqv_ii]
        exact k
    have sums : Ev (tOp rNe (tCB (fun xs H Q => ∃ z, xs = [.str z] ∧ z.length ≤ sizeLine ∧ Q (.int z.length) H) (tCons (tVar 1) tNil)) (tCB (rSum K) (tCons (tVar 2) tNil))) ((start D_is_run.N [v, .str (rs r)]).set 2 (some (.ref lc))) H2 (.bl false) := by
      refine ev_is (ev_op (x := .int (r.length : Nat)) (y := .int (r.length : Nat)) (ev_lenR (r := r) (ev_var rfl) (by omega)) (ev_cb (ea_cons (ev_var rfl) ea_nil) fun H3 e3 Q q => ⟨lc, [(cA r : Nat), (cB r : Nat)], rfl, sq_of (e3 _ _ hlc), ?_⟩) (rv_ne rfl)) (by rw [decide_eq_true rfl]; rfl)
      have : ([((cA r : Nat) : Int), ((cB r : Nat) : Int)]).sum = ((r.length : Nat) : Int) := by simp; omega
      rw [this]
      exact q H3 (Ex.refl _)
    refine q_when (b := !(decide (cA r = A.length) && decide (cB r = B.length))) (et_is (et_or (et_test cmp) fun _ => et_test sums) (Bool.or_false _)) (fun hn H3 e3 => ?_) fun hn H3 e3 => ?_
    · refine r_ret (Ev.r ev_c) fun v' H4 e4 hv' => hq v' H4 (((e1.trans e2).trans e3).trans e4) ?_
      have hv' : v' = .bl false := hv'
      rw [hv']
      show V.bl false = V.bl (isRunB A B r)
      congr 1
      unfold isRunB
      cases h1 : decide (cA r = A.length) <;> cases h2 : decide (cB r = B.length) <;> simp [h1, h2] at hn ⊢
    have hAB : cA r = A.length ∧ cB r = B.length := by
      cases h1 : decide (cA r = A.length) <;> cases h2 : decide (cB r = B.length) <;> simp [h1, h2] at hn
      exact ⟨of_decide_eq_true h1, of_decide_eq_true h2⟩
    have e03 := (e1.trans e2).trans e3
    have hpa3 := keeps_pa _ _ _ e3 hpa2
    -- plane, i
    refine ⟨v, rfl, fun x dx hx hdx hne => ?_⟩
    have e4 : Ex H3 (upd (upd H3 dx (.own x)) x (.ins (He.ga K "Plane") dx [])) := (Ex.new hdx).trans (Ex.new (by rw [upd_ne (Ne.symm hne)]; exact hx))
    refine ⟨(x, dx, A, B, v), rfl, ⟨upd_same, keeps_pa _ _ _ e4 hpa3, hA, hB⟩, fun H4 k4 ⟨fs, hfs, hhb⟩ => ⟨rfl, _, _, rfl, ?_⟩⟩
    have e34 : Ex H3 H4 := fun a o h => k4 a o (ne_of_none h hx) (e4 a o h)
    have hhb' : HbR A B fs H4 := hhb
    have hfs' : H4 x = some (.ins (He.ga K "Plane") dx fs) := hfs
    clear hhb hfs k4 e4
    -- the letters
    refine r_for (EvJ.ii (ej_enumS (z := rs r) (ev_var rfl))) fun H5 e5 => .by (fun k σ' H' => (∃ p q s, σ' = [some v, some (.str (rs r)), some (.ref lc), some (.ref x), some (.int (cA (r.take k) : Nat)), p, q, s]) ∧ Ex H5 H' ∧ ∀ m, m < k → openAt A B (cA (r.take (m + 1))) (cB (r.take (m + 1))) = true)
      ⟨⟨_, _, _, rfl⟩, Ex.refl _, fun m hm => absurd hm (Nat.not_lt_zero _)⟩ (fun i σ' H' p => p.2.1) ?_ ?_
    · rintro k σ' H6 y H7 hk ⟨⟨p, q, s, rfl⟩, e6, hop⟩ ⟨T, c, rfl, hT, rfl, hc⟩
      rw [rs_size] at hk
      obtain ⟨b, hb, rfl⟩ := rs_at hc
      refine g2n (st_of upd_same) ?_
      have hstep : cA (r.take (k + 1)) = cA (r.take k) + (if decide (b = true) = true then 1 else 0) := by
        rw [List.take_add_one, hb, cA_app]
        cases b <;> rfl
      refine q_aug rfl (b := if decide (b = true) = true then 1 else 0) (ev_cb (vs := [.bl (decide (b = true))]) (ea_cons (ev_is (ev_op (ev_var rfl) (ev_ltA ev_c) (rv_eq rfl)) ?_) ea_nil) fun H8 _ Q q => .inr ⟨_, rfl, q H8 (Ex.refl _)⟩) fun H8 e8 => ?_
      · show V.bl (decide (V.str (rs [b]) = V.str (rs [true]))) = _
        rw [rs_eqN]
        congr 1
        cases b <;> rfl
      · have e58 : Ex H5 H8 := (e6.trans (Ex.new hT)).trans e8
        obtain ⟨l1, l2, l3⟩ := ev_openLoop hAB k hk
        have hi : ((cA (r.take k) : Nat) : Int) + (if decide (b = true) = true then 1 else 0) = ((cA (r.take (k + 1)) : Nat) : Int) := by
          rw [hstep]
          cases b <;> simp
        rw [hi]
        have meth : Ev (tMeth (He.ga K "Plane") "is_open_at" (sp_Plane_is_open_at K) [] E0 (tVar 3) (tCons (tTup (tCons (tVar 4) (tCons (tOp (rI0 fun i j => .int (i - j)) (tOp (rI0 fun i j => .int (i + j)) (tVar 5) (tC (.int 1))) (tVar 4)) tNil))) tNil)) [some v, some (.str (rs r)), some (.ref lc), some (.ref x), some (.int (cA (r.take (k + 1)) : Nat)), some (.int (k : Nat)), some (.str (rs [b])), s] H8
            (.bl (openAt A B (cA (r.take (k + 1))) (cB (r.take (k + 1))))) := fun H9 e9 Q q => by
          have e49 : Ex H4 H9 := (e5.trans e58).trans e9
          refine ⟨_, rfl, x, dx, fs, rfl, e49 _ _ hfs', hhb'.choose_spec.2.2, ?_⟩
          refine (r_tup (vs := [.int (cA (r.take (k + 1)) : Nat), .int (cB (r.take (k + 1)) : Nat)]) (ea_cons (ev_var rfl) (ea_cons (ev_is (ev_op (ev_op (ev_var rfl) ev_c rv_I0) (ev_var rfl) rv_I0) ?_) ea_nil)) (Nat.le_of_ble_eq_true rfl)) H9 (Ex.refl _) _ fun u H10 e10 ⟨pt, hu, hpt⟩ => ?_
          · show V.int ((k : Int) + 1 - (cA (r.take (k + 1)) : Nat)) = _
            rw [l3]
          · subst hu
            exact ⟨(x, dx, fs, A, B, _, _, _), rfl, ⟨(e49.trans e10) _ _ hfs', hhb'.ex (e49.trans e10), hA.len, ⟨pt, rfl, st_of hpt⟩, l1, l2⟩, fun w H11 e11 hw => by
              have hw : w = .bl (openAt A B (cA (r.take (k + 1))) (cB (r.take (k + 1)))) := hw
              rw [hw]
              exact q H11 (e10.trans e11)⟩
        refine s_when (et_not (et_B meth)) (fun hn H9 e9 => ?_) fun hn H9 e9 => ⟨⟨_, _, _, rfl⟩, e58.trans e9, fun m hm => ?_⟩
        · refine r_ret (Ev.r ev_c) fun v' H10 e10 hv' => hq v' H10 ((((e03.trans e34).trans e5).trans (e58.trans e9)).trans e10) ?_
          have hv' : v' = .bl false := hv'
          rw [hv']
          show V.bl false = V.bl (isRunB A B r)
          congr 1
          cases hf : isRunB A B r with
          | false => rfl
          | true =>
            have := (isRunB_iff.mp hf).op (r.take (k + 1)) (r.drop (k + 1)) (by simp)
            rw [this] at hn
            cases hn
        · by_cases z : m = k
          · subst z
            simpa using hn
          · exact hop m (by omega)
    · rintro σ' H6 ⟨⟨p, q, s, rfl⟩, e6, hop⟩
      rw [rs_size] at hop
      show tRet (tC (.bl true)) { nx := fun _ H' => Q .non H', rt := Q } [some v, some (.str (rs r)), some (.ref lc), some (.ref x), some (.int (cA (r.take (rs r).cps.size) : Nat)), p, q, s] H6
      refine r_ret (Ev.r ev_c) fun v' H7 e7 hv' => ?_
      refine hq v' H7 ((((e03.trans e34).trans e5).trans e6).trans e7) ?_
      have hv' : v' = .bl true := hv'
      rw [hv']
      show V.bl true = V.bl (isRunB A B r)
      congr 1
      unfold isRunB
      rw [decide_eq_true hAB.1, decide_eq_true hAB.2]
      exact (List.all_eq_true.mpr fun m hm => hop m (List.mem_range.mp hm)).symm
abbrev sp_check_run (K : PySem.W.Frag) : Sp := SpP (α := Thr × Thr × V × Rn) (fun x => [x.2.2.1, .str (rs x.2.2.2)]) (fun x H => PaR K x.1 x.2.1 x.2.2.1 H ∧ Gd x.1 ∧ Gd x.2.1 ∧ x.2.2.2.length ≤ 1000 ∧ isRunB x.1 x.2.1 x.2.2.2 = true) (fun _ => Is .non)
namespace D_check_run
abbrev N : List Str := ["pair", "value"]
abbrev SC : Scope := defScope s_check_run
theorem sc : FnScope N ["pair", "value"] SC := ⟨rfl, rfl, rfl, by decide +kernel, rfl, by decide +kernel, by decide +kernel⟩
theorem nd : N.Nodup := sc.nd
end D_check_run
open D_check_run in
theorem ok_check_run {P : Program} {w : World} {K : PySem.W.Frag} {mg : Str → Option Value} {base : Heap} (T : Tx K mg) (O_is_run : OK P w K mg base 4 "is_run" ["pair", "value"] (sp_is_run K)) : OK P w K mg base 5 "check_run" ["pair", "value"] (sp_check_run K) := by
  obtain ⟨fd, F⟩ := T.f_check_run
  refine OK.of T.g_check_run F (F.ok sc (fun vs H Q E h => ?len) (fun cdv A outer s H vs Q E hr h => ?body)) (F.bindsN fun _ _ _ _ _ _ us hl => match us, hl with | [_, _], _ => rfl)
  case len =>
    obtain ⟨x, rfl, _⟩ := h
    rfl
  case body =>
    have hu := hu_of hr
    refine ⟨_, PSs.nox (pss_one (ps_if (pt_not (pt_val (pcall O_is_run hr (by decide) (pa_cons (pv 0) (pa_cons (pv 1) pa_nil))) (fun _ => rfl)))
  (pss_one ps_never)
  pss_nil)), ?_⟩
    obtain ⟨x, rfl, hp, hq⟩ := h

    obtain ⟨A, B, v, r⟩ := x
    obtain ⟨hpa, hA, hB, hr0, hrun⟩ := hp
    replace hpa : PaR K A B v H := hpa
    replace hrun : isRunB A B r = true := hrun
    have call : Ev (tCall (sp_is_run K) [] E0 (tCons (tVar 0) (tCons (tVar 1) tNil))) (start D_check_run.N [v, .str (rs r)]) H (.bl true) := EvR.vv (r_call (P := Is (.bl true)) (ea_cons (ev_var rfl) (ea_cons (ev_var rfl) ea_nil)) fun H1 e Q q => ⟨(A, B, v, r), rfl, ⟨keeps_pa _ _ _ e hpa, hA, hB, hr0⟩, fun v' H' e' hv => q v' H' e' (by rw [← hrun]; exact hv)⟩)
    exact s_when (b := false) (et_is (et_not (et_B call)) rfl) (fun hn => by cases hn) fun _ H1 e1 => hq .non H1 e1 rfl

end HdX
end

section
set_option Elab.async false
set_option linter.all false
set_option maxRecDepth 100000
set_option maxHeartbeats 4000000
namespace HdX
open PySem PySem.Spec PyProof.Rows L2 Evl
open _root_.TT hiding Run
/-! ### winners -/
theorem join_rs (l : List Bool) : Txt.join (Str.ofString "") (l.map fun b => rs [b]) = rs l := by
  show Builtin.Str.glued (Str.ofString "") (l.map fun b => rs [b]) = rs l
  rw [StrLaws.glued_eq_join, lit_0, rs_nil]
  induction l with
  | nil => rfl
  | cons b l ih =>
    rw [List.map_cons, PyProof.Rows.join_nil_cons, ih, rs_app]
    rfl
theorem rc_ix {K : PySem.W.Frag} {σ : L2.St} {H : Hp} {tl ti : TE} {α : Type} {enc : α → List V} {x : α} {i : Nat} {z : V} (h : EvR tl σ H (Rc K enc x)) (hi : Ev ti σ H (.int (i : Nat))) (hz : (enc x)[i]? = some z) : Ev (tOp (rIxT K) tl ti) σ H z := r_ixT h hi hz
theorem pl_ix {K : PySem.W.Frag} {σ : L2.St} {H : Hp} {tl ti : TE} {r : Rn} {x : Bool} {i : Nat} (h : EvR tl σ H (PlR r x)) (hi : Ev ti σ H (.int (i : Nat))) (hz : i < r.count x) : Ev (tOp (rIxL K) tl ti) σ H (.int (pos x r i : Nat)) :=
  EvR.vv (r_ixLR (R := NtR) (xs := places x r) (x := pos x r i) (fun _ => keeps_is) (h.imp fun v H _ h => LsN.o h) hi (places_get x r hz))
theorem win_pos {r : Rn} {c : Con Str} (h1 : c.ae < cA r) (h2 : c.bb < cB r) : decide (pos true r c.ae < pos false r c.bb) = aWins r c ∧ decide (pos true r c.ae > pos false r c.bb) = !aWins r c := by
  obtain ⟨a, b⟩ := pos_lt r c.ae c.bb h1 h2
  unfold aWins
  constructor
  · exact decide_eq_decide.mpr a
  · by_cases z : c.ae < row r c.bb
    · rw [decide_eq_true z, decide_eq_false]
      · rfl
      · have := a.mpr z; omega
    · rw [decide_eq_false z, decide_eq_true]
      · rfl
      · have : ¬ pos true r c.ae < pos false r c.bb := fun q => z (a.mp q)
        omega
theorem sum_ones {α : Type} (l : List α) : (l.map fun _ => 1).sum = l.length := by
  induction l with
  | nil => rfl
  | cons c l ih => rw [List.map_cons, List.sum_cons, ih, List.length_cons]; omega
def InR (r : Rn) (cs : List (Con Str)) : Prop := ∀ (i : Nat) (c : Con Str), cs[i]? = some c → c.ae < cA r ∧ c.bb < cB r
abbrev winS (r : Rn) (cs : List (Con Str)) : Rn := cs.map (aWins r)
abbrev sp_winners_of (K : PySem.W.Frag) : Sp := SpP (α := List (Con Str) × V × Rn) (fun x => [x.2.1, .str (rs x.2.2)]) (fun x H => TuO K (Rc K conV) x.1 x.2.1 H ∧ InR x.2.2 x.1 ∧ x.1.length ≤ 20000 ∧ x.2.2.length ≤ 1000) (fun x => Is (.str (rs (winS x.2.2 x.1))))
namespace D_winners_of
abbrev N : List Str := ["some", "run", "own", "its", "contest"]
abbrev SC : Scope := defScope s_winners_of
theorem sc : FnScope N ["some", "run"] SC := ⟨rfl, rfl, rfl, by decide +kernel, rfl, by decide +kernel, by decide +kernel⟩
theorem nd : N.Nodup := sc.nd
end D_winners_of
theorem r_asgU2 {K : PySem.W.Frag} {σ : L2.St} {H : Hp} {te : TE} {tz : TS} {D : Ends} {i j : Nat} {α : Type} {R : α → VR} {x y : α} (h : EvR te σ H (LsN R [x, y])) (k : ∀ a b H1, Ex H H1 → R x a H1 → R y b H1 → tz D ((σ.set i (some a)).set j (some b)) H1) : tSeq (tAsg te (gUnl K 2 (gCons (gName i) (gCons (gName j) gNil)))) tz D σ H :=
  h H (Ex.refl H) _ fun v H1 e1 ⟨a, ys, hv, hl, al⟩ => by
    obtain ⟨y0, y1, rfl⟩ : ∃ y0 y1, ys = [y0, y1] := by
      match ys, al.len with
      | [y0, y1], _ => exact ⟨y0, y1, rfl⟩
    exact ⟨a, _, hv, sq_of hl, rfl, _, _, rfl, _, _, rfl, rfl, k y0 y1 H1 e1 (al.at_ 0 _ _ rfl rfl) (al.at_ 1 _ _ rfl rfl)⟩
open D_winners_of in
theorem ok_winners_of {P : Program} {w : World} {K : PySem.W.Frag} {mg : Str → Option Value} {base : Heap} (T : Tx K mg) (O_places_of : OK P w K mg base 1 "places_of" ["run"] (sp_places_of K)) : OK P w K mg base 2 "winners_of" ["some", "run"] (sp_winners_of K) := by
  obtain ⟨fd, F⟩ := T.f_winners_of
  obtain ⟨tLETTERS, cLETTERS⟩ := T.c_LETTERS
  refine OK.of T.g_winners_of F (F.ok sc (fun vs H Q E h => ?len) (fun cdv A outer s H vs Q E hr h => ?body)) (F.bindsN fun _ _ _ _ _ _ us hl => match us, hl with | [_, _], _ => rfl)
  case len =>
    obtain ⟨x, rfl, _⟩ := h
    rfl
  case body =>
    have hu := hu_of hr
    refine ⟨_, PSs.nox (pss_cons (ps_asg (pcall O_places_of hr (by decide) (pa_cons (pv 1) pa_nil)) (pg_unlK (n := 2) K rfl (pgs_cons (pg_name (i := 2) nd rfl (Or.inr rfl)) (pgs_cons (pg_name (i := 3) nd rfl (Or.inr rfl)) pgs_nil))))
  (pss_one (ps_ret (pe_join pe_str (pe_lc (own := [("contest", 4)]) (tt := tYes) (by rfl) nd (pi_tupK K (pv 0)) (blkOk_by (N := N) (sc := SC) (by decide +kernel)) (fun _ _ _ _ _ => (pg_name (i := 4) nd rfl (Or.inl rfl))) (fun _ _ _ _ _ => pts_nil) (fun _ _ _ _ _ => (pe_ix ix_str (pe_gs rfl cLETTERS) (pe_callTy call_int1 (by rfl) T.b_int (by decide +kernel) (pa_cons (pe_cmpR op_gt (pe_ix (ix_listK K) (pv 2) (pe_ix (ix_tupK K) (pv 4) pe_int (fun _ _ => rfl)) (fun _ _ => rfl)) (pe_ix (ix_listK K) (pv 3) (pe_ix (ix_tupK K) (pv 4) pe_int (fun _ _ => rfl)) (fun _ _ => rfl)) (nomark _)) pa_nil)) (fun _ _ => rfl)))))))), ?_⟩
    obtain ⟨x, rfl, hp, hq⟩ := h

    obtain ⟨cs, v, r⟩ := x
    obtain ⟨hcs, hin, hcl, hr0⟩ := hp
    replace hcs : TuO K (Rc K conV) cs v H := hcs
    replace hin : InR r cs := hin
    replace hcl : cs.length ≤ 20000 := hcl
    replace hr0 : r.length ≤ 1000 := hr0
    refine r_asgU2 (R := PlR r) (x := true) (y := false) (r_call (ea_cons (ev_var rfl) ea_nil) fun H1 e Q q => ⟨r, rfl, hr0, fun v H' e' hv => q v H' e' hv⟩) fun own its H1 e1 ho hi => ?_
    have hl := r_lcO (σ := ((start D_winners_of.N [v, .str (rs r)]).set 2 (some own)).set 3 (some its)) (H := H1) (g := gName 4) (tt := tYes) (vs := [4]) (te := tOp rIxS (tC (.str "ab")) (tCB (fun xs H Q => (∃ i, xs = [.int i] ∧ Q (.int i) H) ∨ ∃ k, xs = [.bl k] ∧ Q (.int (if k then 1 else 0)) H) (tCons (tOp (rI0 fun i j => .bl (decide (i > j))) (tOp (rIxL K) (tVar 2) (tOp (rIxT K) (tVar 4) (tC (.int 1)))) (tOp (rIxL K) (tVar 3) (tOp (rIxT K) (tVar 4) (tC (.int 2))))) tNil)))
      (fun i v _ => ∃ c, cs[i]? = some c ∧ v = .str (rs [aWins r c])) (fun _ => true) (fun _ _ _ _ _ h => h) (EvJ.ii (ej_tupR (K := K) (tl := tVar 0) (xs := cs) (R := Rc K conV) (fun _ => ro_rc) (r_var (keeps_tuo fun _ => keeps_rc) rfl (keeps_tuo (fun _ => keeps_rc) _ _ _ e1 hcs)))) (by omega) (by
        rintro i y H3 H4 hi' e3 ⟨rfl, c, hc, hR⟩
        obtain ⟨c1, c2⟩ := hin i c hc
        obtain ⟨w1, w2⟩ := win_pos c1 c2
        refine ⟨Ex.refl _, _, fun Q q => q, rfl, et_yes, fun _ => ((Ev.r ?_).imp fun v H _ hv => ⟨c, hc, hv⟩).gg fun _ _ _ _ _ _ h => h⟩
        have hcv : EvR (tVar 4) ((wipe (((start D_winners_of.N [v, .str (rs r)]).set 2 (some own)).set 3 (some its)) [4]).set 4 (some y)) H4 (Rc K conV c) := r_var keeps_rc rfl hR
        have o1 := pl_ix (K := K) (tl := tVar 2) (r_var (i := 2) (σ := (wipe (((start D_winners_of.N [v, .str (rs r)]).set 2 (some own)).set 3 (some its)) [4]).set 4 (some y)) (P := PlR r true) (keeps_lsn fun _ => keeps_is) rfl (keeps_lsn (fun _ => keeps_is) _ _ _ e3 ho)) (rc_ix (i := 1) hcv ev_c rfl) c1
        have o2 := pl_ix (K := K) (tl := tVar 3) (r_var (i := 3) (σ := (wipe (((start D_winners_of.N [v, .str (rs r)]).set 2 (some own)).set 3 (some its)) [4]).set 4 (some y)) (P := PlR r false) (keeps_lsn fun _ => keeps_is) rfl (keeps_lsn (fun _ => keeps_is) _ _ _ e3 hi)) (rc_ix (i := 2) hcv ev_c rfl) c2
        have hb : decide (((pos true r c.ae : Nat) : Int) > ((pos false r c.bb : Nat) : Int)) = !aWins r c := by
          rw [← w2]
          exact decide_eq_decide.mpr (by omega)
        cases hw : aWins r c with
        | true =>
          rw [hw] at hb
          exact ev_ltA (ev_is (ev_cb (vs := [.bl false]) (ea_cons (ev_is (ev_op o1 o2 rv_I0) (congrArg V.bl hb)) ea_nil) fun H8 _ Q q => .inr ⟨_, rfl, q H8 (Ex.refl _)⟩) rfl)
        | false =>
          rw [hw] at hb
          exact ev_ltB (ev_is (ev_cb (vs := [.bl true]) (ea_cons (ev_is (ev_op o1 o2 rv_I0) (congrArg V.bl hb)) ea_nil) fun H8 _ Q q => .inr ⟨_, rfl, q H8 (Ex.refl _)⟩) rfl))
    refine r_ret (P := Is (.str (rs (winS r cs)))) (fun H2 e2 Q' q => ⟨⟨_, rfl⟩, hl H2 e2 _ fun v H3 e3 ⟨a, ys, hv, hy, al⟩ => ?_⟩) fun v' H4 e4 hv' => hq v' H4 (e1.trans e4) hv'
    subst hv
    rw [giv_all1] at al
    have eys : ys = ((cs.map (aWins r)).map fun b => rs [b]).map V.str := by
      apply List.ext_getElem?
      intro i
      rw [List.getElem?_map, List.getElem?_map, List.getElem?_map]
      by_cases hi : i < cs.length
      · obtain ⟨c, hc, hv⟩ := al.at_ i i (ys[i]'(by rw [← al.len, List.length_range]; exact hi)) (List.getElem?_range hi) (by simp)
        rw [hc]
        rw [List.getElem?_eq_getElem (by rw [← al.len, List.length_range]; exact hi), hv]
        rfl
      · rw [List.getElem?_eq_none (by rw [← al.len, List.length_range]; omega), List.getElem?_eq_none (by omega)]
        rfl
    refine ⟨_, a, (cs.map (aWins r)).map fun b => rs [b], rfl, rfl, .inl (sq_of (by rw [hy, eys])), ?_, ?_⟩
    · have e1 : (((cs.map (aWins r)).map fun b => rs [b]).map (·.length)) = (cs.map fun _ => 1) := by
        rw [List.map_map, List.map_map]
        rfl
      have e2 : (Str.ofString "").length = 0 := by decide +kernel
      rw [e1, e2]
      rw [sum_ones]
      omega
    · rw [join_rs]
      exact q _ H3 e3 rfl
theorem srt_len {A B : Thr} (hA : Gd A) (hB : Gd B) : (srt A B).length ≤ 20000 := by
  obtain ⟨c1, c2⟩ := cons_len hA hB
  unfold srt cons
  rw [List.length_mergeSort, List.length_append]
  omega
theorem srt_in {A B : Thr} (hA : Gd A) (hB : Gd B) {r : Rn} (hr : isRunB A B r = true) : InR r (srt A B) := fun i c hc => by
  have R := isRunB_iff.mp hr
  rw [R.a, R.b]
  have hm := mem_srt.mp (List.mem_of_getElem? hc)
  rcases con_shape hA.wf hB.wf hm with ⟨_, _, h1, h2⟩ | ⟨w, v, sa, sb, _⟩
  · exact ⟨h1, h2⟩
  · exact ⟨(List.getElem?_eq_some_iff.mp sa.at_e).1, (List.getElem?_eq_some_iff.mp sb.at_b).1⟩
abbrev PreR (K : PySem.W.Frag) (x : Thr × Thr × V × Rn) (H : Hp) : Prop := PaR K x.1 x.2.1 x.2.2.1 H ∧ Gd x.1 ∧ Gd x.2.1 ∧ x.2.2.2.length ≤ 1000 ∧ isRunB x.1 x.2.1 x.2.2.2 = true
abbrev sp_winners (K : PySem.W.Frag) : Sp := SpP (α := Thr × Thr × V × Rn) (fun x => [x.2.2.1, .str (rs x.2.2.2)]) (PreR K) (fun x => Is (.str (rs (winS x.2.2.2 (srt x.1 x.2.1)))))
namespace D_winners
abbrev N : List Str := ["pair", "run"]
abbrev SC : Scope := defScope s_winners
theorem sc : FnScope N ["pair", "run"] SC := ⟨rfl, rfl, rfl, by decide +kernel, rfl, by decide +kernel, by decide +kernel⟩
theorem nd : N.Nodup := sc.nd
end D_winners
open D_winners in
theorem ok_winners {P : Program} {w : World} {K : PySem.W.Frag} {mg : Str → Option Value} {base : Heap} (T : Tx K mg) (O_check_run : OK P w K mg base 5 "check_run" ["pair", "value"] (sp_check_run K)) (O_winners_of : OK P w K mg base 2 "winners_of" ["some", "run"] (sp_winners_of K)) (O_contests : OK P w K mg base 3 "contests" ["pair"] (sp_contests K)) : OK P w K mg base 6 "winners" ["pair", "run"] (sp_winners K) := by
  obtain ⟨fd, F⟩ := T.f_winners
  refine OK.of T.g_winners F (F.ok sc (fun vs H Q E h => ?len) (fun cdv A outer s H vs Q E hr h => ?body)) (F.bindsN fun _ _ _ _ _ _ us hl => match us, hl with | [_, _], _ => rfl)
  case len =>
    obtain ⟨x, rfl, _⟩ := h
    rfl
  case body =>
    have hu := hu_of hr
    refine ⟨_, PSs.nox (pss_cons (ps_expr (pcall O_check_run hr (by decide) (pa_cons (pv 0) (pa_cons (pv 1) pa_nil))))
  (pss_one (ps_ret (pcall O_winners_of hr (by decide) (pa_cons (pcall O_contests hr (by decide) (pa_cons (pv 0) pa_nil)) (pa_cons (pv 1) pa_nil)))))), ?_⟩
    obtain ⟨x, rfl, hp, hq⟩ := h

    obtain ⟨A, B, v, r⟩ := x
    obtain ⟨hpa, hA, hB, hr0, hrun⟩ := hp
    replace hpa : PaR K A B v H := hpa
    replace hA : Gd A := hA
    replace hB : Gd B := hB
    replace hr0 : r.length ≤ 1000 := hr0
    replace hrun : isRunB A B r = true := hrun
    refine r_drop (P := Is .non) (r_call (ea_cons (ev_var rfl) (ea_cons (ev_var rfl) ea_nil)) fun H1 e Q q => ⟨(A, B, v, r), rfl, ⟨keeps_pa _ _ _ e hpa, hA, hB, hr0, hrun⟩, fun v' H' e' hv => q v' H' e' hv⟩) fun _ H1 e1 _ => ?_
    have hpa1 := keeps_pa _ _ _ e1 hpa
    have hcs : EvR (tCall (sp_contests K) [] E0 (tCons (tVar 0) tNil)) (start D_winners.N [v, .str (rs r)]) H1 (TuO K (Rc K conV) (srt A B)) := r_call (ea_cons (ev_var rfl) ea_nil) fun H2 e Q q => ⟨(A, B, v), rfl, ⟨keeps_pa _ _ _ e hpa1, hA, hB⟩, fun v' H' e' hv => q v' H' e' hv⟩
    refine r_ret (r_callR (Pa := fun vs H' => ∃ u, vs = [u, .str (rs r)] ∧ TuO K (Rc K conV) (srt A B) u H') (fun H2 e2 Q q => ar_cons (keeps_tuo fun _ => keeps_rc) hcs (ar_cons (P := Is (.str (rs r))) keeps_is (Ev.r (ev_var rfl)) ar_nil) H2 e2 Q fun vs H3 e3 ⟨u, r1, h1, h2, w, r2, h3, h4, h5⟩ => q vs H3 e3 ⟨u, by rw [h1, h3, h5]; exact congrArg (fun z => [u, z]) h4, h2⟩)
      fun vs H2 e2 ⟨u, h1, h2⟩ Q q => ⟨(srt A B, u, r), h1, ⟨h2, srt_in hA hB hrun, srt_len hA hB, hr0⟩, fun v' H' e' hv => q v' H' e' hv⟩) fun v' H4 e4 hv' => hq v' H4 (e1.trans e4) hv'
/-- two runs of the same winners -/
def SameW (A B : Thr) (r s : Rn) : Prop := ∀ c ∈ cons A B, aWins r c = aWins s c
theorem SameW.win {A B : Thr} {r s : Rn} (h : SameW A B r s) : winS r (srt A B) = winS s (srt A B) := List.map_congr_left fun c hc => h c (mem_srt.mp hc)
abbrev PreRR (K : PySem.W.Frag) (x : Thr × Thr × V × Rn × Rn) (H : Hp) : Prop := PaR K x.1 x.2.1 x.2.2.1 H ∧ Gd x.1 ∧ Gd x.2.1 ∧ (x.2.2.2.1.length ≤ 1000 ∧ isRunB x.1 x.2.1 x.2.2.2.1 = true) ∧ (x.2.2.2.2.length ≤ 1000 ∧ isRunB x.1 x.2.1 x.2.2.2.2 = true) ∧ SameW x.1 x.2.1 x.2.2.2.1 x.2.2.2.2
abbrev argRR (x : Thr × Thr × V × Rn × Rn) : List V := [x.2.2.1, .str (rs x.2.2.2.1), .str (rs x.2.2.2.2)]
abbrev sp_alike (K : PySem.W.Frag) : Sp := SpP (α := Thr × Thr × V × Rn × Rn) argRR (PreRR K) (fun _ => Is (.bl true))
namespace D_alike
abbrev N : List Str := ["pair", "run", "other"]
abbrev SC : Scope := defScope s_alike
theorem sc : FnScope N ["pair", "run", "other"] SC := ⟨rfl, rfl, rfl, by decide +kernel, rfl, by decide +kernel, by decide +kernel⟩
theorem nd : N.Nodup := sc.nd
end D_alike
open D_alike in
theorem ok_alike {P : Program} {w : World} {K : PySem.W.Frag} {mg : Str → Option Value} {base : Heap} (T : Tx K mg) (O_winners : OK P w K mg base 6 "winners" ["pair", "run"] (sp_winners K)) : OK P w K mg base 7 "alike" ["pair", "run", "other"] (sp_alike K) := by
  obtain ⟨fd, F⟩ := T.f_alike
  refine OK.of T.g_alike F (F.ok sc (fun vs H Q E h => ?len) (fun cdv A outer s H vs Q E hr h => ?body)) (F.bindsN fun _ _ _ _ _ _ us hl => match us, hl with | [_, _, _], _ => rfl)
  case len =>
    obtain ⟨x, rfl, _⟩ := h
    rfl
  case body =>
    have hu := hu_of hr
    refine ⟨_, PSs.nox (pss_one (ps_ret (pe_cmpR op_eq (pcall O_winners hr (by decide) (pa_cons (pv 0) (pa_cons (pv 1) pa_nil))) (pcall O_winners hr (by decide) (pa_cons (pv 0) (pa_cons (pv 2) pa_nil))) (nomark _)))), ?_⟩
    obtain ⟨x, rfl, hp, hq⟩ := h

    obtain ⟨A, B, v, r, s⟩ := x
    obtain ⟨hpa, hA, hB, ⟨hr0, hrun⟩, ⟨hs0, hsun⟩, hw⟩ := hp
    replace hpa : PaR K A B v H := hpa
    replace hw : SameW A B r s := hw
    have call : ∀ {tr : TE} {t : Rn}, Ev tr (start D_alike.N [v, .str (rs r), .str (rs s)]) H (.str (rs t)) → t.length ≤ 1000 → isRunB A B t = true → Ev (tCall (sp_winners K) [] E0 (tCons (tVar 0) (tCons tr tNil))) (start D_alike.N [v, .str (rs r), .str (rs s)]) H (.str (rs (winS t (srt A B)))) := fun {tr t} ht h1 h2 =>
      EvR.vv (r_call (ea_cons (ev_var rfl) (ea_cons ht ea_nil)) fun H1 e Q q => ⟨(A, B, v, t), rfl, ⟨keeps_pa _ _ _ e hpa, hA, hB, h1, h2⟩, fun v' H' e' hv => q v' H' e' hv⟩)
    refine r_ret (Ev.r (ev_is (ev_op (call (ev_var rfl) hr0 hrun) (call (ev_var rfl) hs0 hsun) (rv_eq rfl)) ?_)) fun v' H4 e4 hv' => hq v' H4 e4 hv'
    rw [rs_eqN, hw.win, decide_eq_true rfl]

end HdX
end

section
set_option Elab.async false
set_option linter.all false
set_option maxRecDepth 100000
set_option maxHeartbeats 4000000
namespace HdX
open PySem PySem.Spec PyProof.Rows L2 Evl
open _root_.TT hiding Run
/-! ### concerned: pairs of steps, as a dict of pairs -/
abbrev PK (i j : Nat) : List Key := [Sum.inl (i : Int), Sum.inl (j : Int)]
def DctF (F : Nat → Nat → Bool) (kvs : List (List Key × V)) : Prop := ∀ i j, (valV kvs (PK i j)).isSome = F i j
theorem DctF.put {F : Nat → Nat → Bool} {kvs : List (List Key × V)} (h : DctF F kvs) (a b : Nat) (v : V) : DctF (fun i j => F i j || (decide (i = a) && decide (j = b))) (putK kvs (PK a b) v) := fun i j => by
  rw [valV_put]
  by_cases e : PK i j = PK a b
  · rw [if_pos e]
    have e1 : (Sum.inl (i : Int) : Key) = Sum.inl (a : Int) := (List.cons.inj e).1
    have e2 : (Sum.inl (j : Int) : Key) = Sum.inl (b : Int) := (List.cons.inj (List.cons.inj e).2).1
    have h1 : i = a := by have := Sum.inl.inj e1; omega
    have h2 : j = b := by have := Sum.inl.inj e2; omega
    simp [h1, h2]
  · rw [if_neg e, h i j]
    have : (decide (i = a) && decide (j = b)) = false := by
      rw [Bool.and_eq_false_iff, decide_eq_false_iff_not, decide_eq_false_iff_not]
      by_cases h1 : i = a
      · right; intro h2; exact e (by rw [h1, h2])
      · exact .inl h1
    show F i j = (F i j || (decide (i = a) && decide (j = b)))
    rw [this, Bool.or_false]
theorem DctF.imp {F G : Nat → Nat → Bool} {kvs : List (List Key × V)} (h : DctF F kvs) (e : ∀ i j, F i j = G i j) : DctF G kvs := fun i j => (h i j).trans (e i j)
def cMeet (c : Con Str) (i j : Nat) : Bool := (decide (i = c.ab) || decide (i = c.ae)) && (decide (j = c.bb) || decide (j = c.be))
theorem conc_srt (A B : Thr) (i j : Nat) : ((srt A B).any fun c => cMeet c i j) = concB A B i j := by
  unfold concB
  rw [Bool.eq_iff_iff, List.any_eq_true, List.any_eq_true]
  constructor
  · rintro ⟨c, h1, h2⟩; exact ⟨c, mem_srt.mp h1, h2⟩
  · rintro ⟨c, h1, h2⟩; exact ⟨c, mem_srt.mpr h1, h2⟩
def CcR (A B : Thr) : VR := fun v H => ∃ a kvs, v = .ref a ∧ H a = some (.dT kvs) ∧ DctF (concB A B) kvs
theorem keeps_cc {A B : Thr} : Keeps (CcR A B) := fun _ _ _ e ⟨a, kvs, h, q, f⟩ => ⟨a, kvs, h, e _ _ q, f⟩
section
variable {K : PySem.W.Frag} {σ : L2.St} {H : Hp} {te : TE}
theorem r_slF {a : List V} {lo hi : Option Int} {tl th : TO} {P : VR} (h : EvR te σ H fun v H1 => ∃ p, v = .ref p ∧ SqT K H1 p a) (h1 : ∀ H', EvO tl σ H' lo) (h2 : ∀ H', EvO th σ H' hi) (hn : ¬ (HT.sIx a.length 0 lo = 0 ∧ HT.sIx a.length a.length hi = a.length)) (hP : ∀ p H, H p = some (.tup (cutV a lo hi)) → P (.ref p) H) :
    EvR (tSl (rSlA K) te tl th) σ H P := fun H1 e Q q =>
  h H1 e _ fun v H2 e2 ⟨p, hv, hs⟩ => h1 H2 H2 (Ex.refl _) _ fun H3 e3 => h2 H3 H3 (Ex.refl _) _ fun H4 e4 => ⟨p, a, hv, ex_t (e3.trans e4) hs, fun hw => absurd hw hn, fun _ b hb => q _ _ (((e2.trans e3).trans e4).trans (Ex.new hb)) (hP _ _ upd_same)⟩
theorem tuo_ints {p : Addr} {l : List Nat} (h : H p = some (.tup (l.map fun n => .int (n : Nat)))) : TuO K NtR l (.ref p) H := ⟨p, _, rfl, st_of h, by simp, fun i x y hx hy => by
  rw [List.getElem?_map, hx] at hy
  cases hy
  rfl⟩
end
abbrev sp_concerned (K : PySem.W.Frag) : Sp := SpF (α := Thr × Thr × V) (fun x => [x.2.2]) (PreP K) (fun x => CcR x.1 x.2.1)
namespace D_concerned
abbrev N : List Str := ["pair", "found", "contest", "own", "its"]
abbrev SC : Scope := defScope s_concerned
theorem sc : FnScope N ["pair"] SC := ⟨rfl, rfl, rfl, by decide +kernel, rfl, by decide +kernel, by decide +kernel⟩
theorem nd : N.Nodup := sc.nd
end D_concerned
open D_concerned in
theorem ok_concerned {P : Program} {w : World} {K : PySem.W.Frag} {mg : Str → Option Value} {base : Heap} (T : Tx K mg) (O_contests : OK P w K mg base 3 "contests" ["pair"] (sp_contests K)) : OK P w K mg base 4 "concerned" ["pair"] (sp_concerned K) := by
  obtain ⟨fd, F⟩ := T.f_concerned
  refine OK.of T.g_concerned F (F.ok sc (fun vs H Q E h => ?len) (fun cdv A outer s H vs Q E hr h => ?body)) (F.bindsN fun _ _ _ _ _ _ us hl => match us, hl with | [_], _ => rfl)
  case len =>
    obtain ⟨x, rfl, _⟩ := h
    rfl
  case body =>
    have hu := hu_of hr
    refine ⟨_, PSs.nox (pss_cons (ps_set (i := 1) nd rfl (Or.inl rfl) pe_dnewT)
  (pss_cons (ps_for PassesOwn.never rfl (pi_tupK K (pcall O_contests hr (by decide) (pa_cons (pv 0) pa_nil))) (pg_name (i := 2) nd rfl (Or.inl rfl))
  (pss_one (ps_for PassesOwn.never rfl (pi_tupK K (pe_slice (sl_tupK K) (pv 2) po_none (po_some pe_int))) (pg_name (i := 3) nd rfl (Or.inl rfl))
  (pss_one (ps_for PassesOwn.never rfl (pi_tupK K (pe_slice (sl_tupK K) (pv 2) (po_some pe_int) (po_some pe_int))) (pg_name (i := 4) nd rfl (Or.inl rfl))
  (pss_one (ps_dput hu (pv 1) (pe_tup (pa_cons (pv 3) (pa_cons (pv 4) pa_nil))) pe_bl rfl)))))))
  (pss_one (ps_ret (pv 1))))), ?_⟩
    obtain ⟨x, rfl, hp, hq⟩ := h

    obtain ⟨A, B, v⟩ := x
    obtain ⟨hpa, hA, hB⟩ := hp
    replace hpa : PaR K A B v H := hpa
    replace hA : Gd A := hA
    replace hB : Gd B := hB
    have hcl := srt_len hA hB
    intro d hd0
    have e1 : Ex H (upd H d (.dT [])) := Ex.new hd0
    have hd1 : upd H d (.dT []) d = some (.dT []) := upd_same
    generalize upd H d (.dT []) = H1 at e1 hd1
    have mt : ∀ {h : Hp}, (∃ kvs, h d = some (.dT kvs)) → MutA (fun a => a = d) h := fun {h} ⟨kvs, e⟩ a ea => ⟨.dT kvs, by have ea : a = d := ea; rw [ea]; exact e, rfl⟩
    refine r_forM (ej_tupR (xs := srt A B) (R := Rc K conV) (fun _ => ro_rc) (r_call (ea_cons (ev_var rfl) ea_nil) fun H2 e Q q => ⟨(A, B, v), rfl, ⟨keeps_pa _ _ _ (e1.trans e) hpa, hA, hB⟩, fun v' H' e' hv => q v' H' e' hv⟩)) (fun a => a = d) (mt ⟨_, hd1⟩) fun H2 e2 =>
      ⟨fun n σ' H' => (∃ b c e, σ' = [some v, some (.ref d), b, c, e]) ∧ ExM (fun a => a = d) H2 H' ∧ ∃ kvs, H' d = some (.dT kvs) ∧ kvs.length ≤ 4 * n ∧ DctF (fun i j => ((srt A B).take n).any fun c => cMeet c i j) kvs,
        ⟨⟨_, _, _, rfl⟩, ExM.refl _ _, [], e2 _ _ hd1, Nat.le_refl _, fun i j => rfl⟩, fun n σ' H' p => p.2.1, ?_, ?_⟩
    · rintro n σ' H3 u H4 hn ⟨⟨b, c, e, rfl⟩, ex, kvs, hk, hkl, hF⟩ ⟨rfl, ct, hct, hR⟩
      -- own
      refine r_forM1 (ej_tupR (xs := [ct.ab, ct.ae]) (R := NtR) (fun _ => ro_is) (r_slF (r_var (i := 2) (P := Rc K conV ct) keeps_rc rfl hR) (fun H' => eo_none) (fun H' => eo_some ev_c) (by show ¬ (HT.sIx 6 0 none = 0 ∧ HT.sIx 6 6 (some 2) = 6); decide) fun p H h => tuo_ints (l := [ct.ab, ct.ae]) h)) (fun a => a = d) (mt ⟨_, hk⟩) fun H5 e5 =>
        ⟨fun m σ' H' => (∃ c e, σ' = [some v, some (.ref d), some u, c, e]) ∧ ExM (fun a => a = d) H5 H' ∧ ∃ kvs, H' d = some (.dT kvs) ∧ kvs.length ≤ 4 * n + 2 * m ∧ DctF (fun i j => (((srt A B).take n).any fun c => cMeet c i j) || ((([ct.ab, ct.ae].take m).any fun x => decide (i = x)) && (decide (j = ct.bb) || decide (j = ct.be)))) kvs,
          ⟨⟨_, _, rfl⟩, ExM.refl _ _, kvs, e5 _ _ hk, by omega, hF.imp fun i j => by simp⟩, fun m σ' H' p => p.2.1, ?_, ?_⟩
      · rintro m σ' H6 w H7 hm ⟨⟨c, e, rfl⟩, ex6, kvs6, hk6, hkl6, hF6⟩ ⟨rfl, own, hown, hw⟩
        have hw : w = .int (own : Nat) := hw
        subst hw
        have hR6 : Rc K conV ct u H7 := ro_rc _ _ _ _ (mt ⟨_, e5 _ _ hk⟩) ex6 (keeps_rc _ _ _ e5 hR)
        -- its
        refine r_forM1 (ej_tupR (xs := [ct.bb, ct.be]) (R := NtR) (fun _ => ro_is) (r_slF (r_var (i := 2) (P := Rc K conV ct) keeps_rc rfl hR6) (fun H' => eo_some ev_c) (fun H' => eo_some ev_c) (by show ¬ (HT.sIx 6 0 (some 2) = 0 ∧ HT.sIx 6 6 (some 4) = 6); decide) fun p H h => tuo_ints (l := [ct.bb, ct.be]) h)) (fun a => a = d) (mt ⟨_, hk6⟩) fun H8 e8 =>
          ⟨fun k σ' H' => (∃ e, σ' = [some v, some (.ref d), some u, some (.int (own : Nat)), e]) ∧ ExM (fun a => a = d) H8 H' ∧ ∃ kvs, H' d = some (.dT kvs) ∧ kvs.length ≤ 4 * n + 2 * m + k ∧ DctF (fun i j => ((((srt A B).take n).any fun c => cMeet c i j) || ((([ct.ab, ct.ae].take m).any fun x => decide (i = x)) && (decide (j = ct.bb) || decide (j = ct.be)))) || (decide (i = own) && (([ct.bb, ct.be].take k).any fun y => decide (j = y)))) kvs,
            ⟨⟨_, rfl⟩, ExM.refl _ _, kvs6, e8 _ _ hk6, by omega, hF6.imp fun i j => by simp⟩, fun k σ' H' p => p.2.1, ?_, ?_⟩
        · rintro k σ' H9 x H10 hk' ⟨⟨e, rfl⟩, ex9, kvs9, hk9, hkl9, hF9⟩ ⟨rfl, its, hits, hx⟩
          have hx : x = .int (its : Nat) := hx
          subst hx
          refine ⟨_, rfl, ?_⟩
          refine eu_tup (ea_cons (ev_var rfl) (ea_cons (ev_var rfl) ea_nil)) (Nat.le_of_ble_eq_true rfl) H10 (Ex.refl _) _ fun p H11 hp0 e11 hp11 => ?_
          refine ⟨d, _, rfl, DPut.t (k := PK own its) (e11 _ _ hk9) hp11 (sz_lt (by have : k < 2 := hk'; have : m < 2 := hm; omega)), ⟨_, rfl⟩, (ex9.trans (ExM.ex e11)).set rfl, _, upd_same, ?_, ?_⟩
          · have := length_putK kvs9 (PK own its) (.bl true)
            omega
          · refine (hF9.put own its (.bl true)).imp fun i j => ?_
            rw [List.take_add_one, hits]
            simp only [Option.toList_some, List.any_append, List.any_cons, List.any_nil, Bool.or_false, Bool.and_or_distrib_left, Bool.or_assoc]
        · rintro σ' H9 ⟨⟨e, rfl⟩, ex9, kvs9, hk9, hkl9, hF9⟩
          refine ⟨⟨_, _, rfl⟩, (ex6.trans (ExM.ex e8)).trans ex9, kvs9, hk9, by have : kvs9.length ≤ 4 * n + 2 * m + 2 := hkl9; omega, hF9.imp fun i j => ?_⟩
          rw [List.take_add_one, hown]
          simp only [Option.toList_some, List.any_append, List.any_cons, List.any_nil, Bool.or_false, List.length_cons, List.length_nil, List.take_succ_cons, List.take_nil, List.take_zero]
          cases ((srt A B).take n).any fun c => cMeet c i j <;> cases ([ct.ab, ct.ae].take m).any fun x => decide (i = x) <;> cases decide (i = own) <;> cases decide (j = ct.bb) <;> cases decide (j = ct.be) <;> rfl
      · rintro σ' H6 ⟨⟨c, e, rfl⟩, ex6, kvs6, hk6, hkl6, hF6⟩
        refine ⟨⟨_, _, _, rfl⟩, (ex.trans (ExM.ex e5)).trans ex6, kvs6, hk6, by have : kvs6.length ≤ 4 * n + 2 * 2 := hkl6; omega, hF6.imp fun i j => ?_⟩
        rw [List.take_add_one, hct]
        simp only [Option.toList_some, List.any_append, List.any_cons, List.any_nil, Bool.or_false, List.length_cons, List.length_nil, List.take_succ_cons, List.take_nil, List.take_zero]
        rfl
    · rintro σ' H3 ⟨⟨b, c, e, rfl⟩, ex, kvs, hk, hkl, hF⟩
      rw [List.take_length] at hF
      refine r_ret (Ev.r (ev_var rfl)) fun v' H4 e4 hv' => ?_
      have hv' : v' = .ref d := hv'
      subst hv'
      exact hq _ H4 ((ex_of (e1.trans e2) (fun a e => by have e : a = d := e; rw [e]; exact hd0) ex).trans e4) (fun a e => by cases e; exact hd0) ⟨d, kvs, rfl, e4 _ _ hk, hF.imp (conc_srt A B)⟩

end HdX
end

section
set_option Elab.async false
set_option linter.all false
set_option maxRecDepth 100000
set_option maxHeartbeats 4000000
namespace HdX
open PySem PySem.Spec PyProof.Rows L2 Evl
open _root_.TT hiding Run
/-! ### the law's concerned -/
theorem p_cons {σ : L2.St} {H : Hp} {tk tv : TE} {r : List (TE × TE)} {vs : List V} {y : V} {Q : List (V × V) → Hp → Prop} (hk : EvU tk σ H vs) (hv : ∀ H', Ev tv σ H' y) (k : ∀ p H1, Ex H H1 → H1 p = some (.tup vs) → tPairs r σ H1 fun ps H3 => Q ((.ref p, y) :: ps) H3) : tPairs ((tk, tv) :: r) σ H Q :=
  hk H (Ex.refl H) _ fun p H1 _ e1 hp => hv H1 H1 (Ex.refl H1) _ fun H2 e2 => k p H2 (e1.trans e2) (e2 _ _ hp)
theorem merge_some (kvs : List (List Key × V)) : ∀ (more : List (List Key × V)) (k : List Key), (valV (mergeT kvs more) k).isSome = ((valV kvs k).isSome || (valV more k).isSome) := by
  intro more
  induction more generalizing kvs with
  | nil => intro k; show _ = (_ || false); rw [Bool.or_false]; rfl
  | cons p more ih =>
    intro k
    show (valV (mergeT (putK kvs p.1 p.2) more) k).isSome = _
    rw [ih, valV_put]
    by_cases e : k = p.1
    · rw [if_pos e, valV_pos e.symm]
      simp
    · rw [if_neg e, valV_neg (fun z => e z.symm)]
theorem DctF.merge {F G : Nat → Nat → Bool} {kvs more : List (List Key × V)} (h : DctF F kvs) (g : DctF G more) : DctF (fun i j => F i j || G i j) (mergeT kvs more) := fun i j => by rw [merge_some, h i j, g i j]
theorem keys_put {kvs : List (List Key × V)} {k : List Key} {v : V} (h : (kvs.map (·.1)).Nodup) : ((putK kvs k v).map (·.1)).Nodup ∧ ∀ q ∈ (putK kvs k v).map (·.1), q = k ∨ q ∈ kvs.map (·.1) := by
  unfold putK
  by_cases a : (kvs.any fun kv => decide (kv.1 = k)) = true
  · rw [if_pos a, List.map_map]
    have e : ((fun x : List Key × V => x.1) ∘ fun kv : List Key × V => if kv.1 = k then (kv.1, v) else kv) = fun x => x.1 := by
      funext kv
      show (if kv.1 = k then (kv.1, v) else kv).1 = kv.1
      split <;> rfl
    rw [e]
    exact ⟨h, fun q hq => .inr hq⟩
  · rw [if_neg a, List.map_append]
    refine ⟨?_, fun q hq => ?_⟩
    · rw [List.nodup_append]
      refine ⟨h, by simp, fun x hx y hy e => ?_⟩
      simp at hy
      subst hy e
      obtain ⟨kv, h1, h2⟩ := List.mem_map.mp hx
      exact a (List.any_eq_true.mpr ⟨kv, h1, by simpa using h2⟩)
    · rcases List.mem_append.mp hq with z | z
      · exact .inr z
      · left; simpa using z
def four (c : Con Str) : List (List Key × V) := [(PK c.ab c.bb, .bl true), (PK c.ab c.be, .bl true), (PK c.ae c.bb, .bl true), (PK c.ae c.be, .bl true)]
theorem four_ok (c : Con Str) : DctF (cMeet c) (mergeT [] (four c)) ∧ ((mergeT [] (four c)).map (·.1)).Nodup ∧ ∀ q ∈ (mergeT [] (four c)).map (·.1), ∃ i j, q = PK i j ∧ (i = c.ab ∨ i = c.ae) ∧ (j = c.bb ∨ j = c.be) := by
  have d0 : DctF (fun _ _ => false) [] := fun i j => rfl
  have k1 := keys_put (kvs := []) (k := PK c.ab c.bb) (v := .bl true) List.nodup_nil
  have k2 := keys_put (k := PK c.ab c.be) (v := .bl true) k1.1
  have k3 := keys_put (k := PK c.ae c.bb) (v := .bl true) k2.1
  have k4 := keys_put (k := PK c.ae c.be) (v := .bl true) k3.1
  refine ⟨((((d0.put c.ab c.bb (.bl true)).put c.ab c.be (.bl true)).put c.ae c.bb (.bl true)).put c.ae c.be (.bl true)).imp fun i j => ?_, k4.1, fun q hq => ?_⟩
  · unfold cMeet
    cases decide (i = c.ab) <;> cases decide (i = c.ae) <;> cases decide (j = c.bb) <;> cases decide (j = c.be) <;> rfl
  · rcases k4.2 q hq with z | z
    · exact ⟨_, _, z, .inr rfl, .inr rfl⟩
    · rcases k3.2 q z with z | z
      · exact ⟨_, _, z, .inr rfl, .inl rfl⟩
      · rcases k2.2 q z with z | z
        · exact ⟨_, _, z, .inl rfl, .inr rfl⟩
        · rcases k1.2 q z with z | z
          · exact ⟨_, _, z, .inl rfl, .inl rfl⟩
          · cases z
theorem con_lt {A B : Thr} (hA : Gd A) (hB : Gd B) {c : Con Str} (h : c ∈ cons A B) : c.ab < 81 ∧ c.ae < 81 ∧ c.bb < 81 ∧ c.be < 81 := by
  have h1 := hA.le80
  have h2 := hB.le80
  rcases con_shape hA.wf hB.wf h with ⟨e1, e2, l1, l2⟩ | ⟨w, v, sa, sb, _⟩
  · omega
  · have a1 := (List.getElem?_eq_some_iff.mp sa.at_e).1
    have a2 := sa.lt
    have b1 := (List.getElem?_eq_some_iff.mp sb.at_e).1
    have b2 := sb.lt
    omega
theorem hash_nodup {P : Program} {w : World} {l : List (List Key × V)} (h : (l.map (·.1)).Nodup) (hk : ∀ q ∈ l.map (·.1), ∃ i j, q = PK i j ∧ i < 81 ∧ j < 81) : (l.map fun p => hashT P w p.1).Nodup := by
  rw [List.Nodup, List.pairwise_map] at h ⊢
  refine List.Pairwise.imp_of_mem (fun {a b} ha hb hne e => ?_) h
  obtain ⟨i, j, e1, l1, l2⟩ := hk a.1 (List.mem_map_of_mem ha)
  obtain ⟨k, m, e2, l3, l4⟩ := hk b.1 (List.mem_map_of_mem hb)
  rw [e1, e2, hashT_pair, hashT_pair] at e
  obtain ⟨rfl, rfl⟩ := HsX.h2_inj l1 l2 l3 l4 e
  exact hne (e1.trans e2.symm)
abbrev sp_w_concerned (K : PySem.W.Frag) : Sp := SpF (α := Thr × Thr × V) (fun x => [x.2.2]) (PreP K) (fun x => CcR x.1 x.2.1)
namespace D_w_concerned
abbrev N : List Str := ["_law_pair_here", "_law_found", "_law_abegin", "_law_aend", "_law_bbegin", "_law_bend", "_law_kind", "_law_name"]
abbrev SC : Scope := defScope s_w_concerned
theorem sc : FnScope N ["_law_pair_here"] SC := ⟨rfl, rfl, rfl, by decide +kernel, rfl, by decide +kernel, by decide +kernel⟩
theorem nd : N.Nodup := sc.nd
end D_w_concerned
open D_w_concerned in
theorem ok_w_concerned {P : Program} {w : World} {K : PySem.W.Frag} {mg : Str → Option Value} {base : Heap} (T : Tx K mg) (O_w_contests : OK P w K mg base 2 "_law_contests" ["_law_pair_here"] (sp_w_contests K)) : OK P w K mg base 3 "_law_concerned" ["_law_pair_here"] (sp_w_concerned K) := by
  obtain ⟨fd, F⟩ := T.f_w_concerned
  refine OK.of T.g__law_concerned F (F.ok sc (fun vs H Q E h => ?len) (fun cdv A outer s H vs Q E hr h => ?body)) (F.bindsN fun _ _ _ _ _ _ us hl => match us, hl with | [_], _ => rfl)
  case len =>
    obtain ⟨x, rfl, _⟩ := h
    rfl
  case body =>
    have hu := hu_of hr
    refine ⟨_, PSs.nox (pss_cons (ps_set (i := 1) nd rfl (Or.inl rfl) pe_dnewT)
  (pss_cons (ps_for PassesOwn.never rfl (pi_listK K (pcall O_w_contests hr (by decide) (pa_cons (pv 0) pa_nil))) (pg_tupK (n := 6) K rfl (pgs_cons (pg_name (i := 2) nd rfl (Or.inl rfl)) (pgs_cons (pg_name (i := 3) nd rfl (Or.inl rfl)) (pgs_cons (pg_name (i := 4) nd rfl (Or.inl rfl)) (pgs_cons (pg_name (i := 5) nd rfl (Or.inl rfl)) (pgs_cons (pg_name (i := 6) nd rfl (Or.inl rfl)) (pgs_cons (pg_name (i := 7) nd rfl (Or.inl rfl)) pgs_nil)))))))
  (pss_one (ps_expr (pe_bm PySem.F.plainAttrs_dict PySem.F.slot_dict_update PySem.F.type_dict_update (mt_updT hu) (pv 1) (pa_cons (pe_dispT hu (pps_cons (pe_tup (pa_cons (pv 2) (pa_cons (pv 4) pa_nil))) pe_bl (pps_cons (pe_tup (pa_cons (pv 2) (pa_cons (pv 5) pa_nil))) pe_bl (pps_cons (pe_tup (pa_cons (pv 3) (pa_cons (pv 4) pa_nil))) pe_bl (pps_cons (pe_tup (pa_cons (pv 3) (pa_cons (pv 5) pa_nil))) pe_bl pps_nil)))) (by rfl) (by rfl) (fun z => by cases z) (by decide)) pa_nil)))))
  (pss_one (ps_ret (pv 1))))), ?_⟩
    obtain ⟨x, rfl, hp, hq⟩ := h

    obtain ⟨A, B, v⟩ := x
    obtain ⟨hpa, hA, hB⟩ := hp
    replace hpa : PaR K A B v H := hpa
    replace hA : Gd A := hA
    replace hB : Gd B := hB
    have hcl := srt_len hA hB
    intro d hd0
    have e1 : Ex H (upd H d (.dT [])) := Ex.new hd0
    have hd1 : upd H d (.dT []) d = some (.dT []) := upd_same
    generalize upd H d (.dT []) = H1 at e1 hd1
    have mt : ∀ {h : Hp}, (∃ kvs, h d = some (.dT kvs)) → MutA (fun a => a = d) h := fun {h} ⟨kvs, e⟩ a ea => ⟨.dT kvs, by have ea : a = d := ea; rw [ea]; exact e, rfl⟩
    refine r_forM (ej_listF (xs := srt A B) (R := Rc K conV) (fun _ => ro_rc) (f_call (ea_cons (ev_var rfl) ea_nil) fun H2 e Q q => ⟨(A, B, v), rfl, ⟨keeps_pa _ _ _ (e1.trans e) hpa, hA, hB⟩, fun v' H' e' f hv => q v' H' e' f hv⟩)) (fun a => a = d) (mt ⟨_, hd1⟩) fun H2 e2 =>
      ⟨fun n σ' H' => (∃ b c e f g h, σ' = [some v, some (.ref d), b, c, e, f, g, h]) ∧ ExM (fun a => a = d) H2 H' ∧ ∃ kvs, H' d = some (.dT kvs) ∧ kvs.length ≤ 4 * n ∧ DctF (fun i j => ((srt A B).take n).any fun c => cMeet c i j) kvs,
        ⟨⟨_, _, _, _, _, _, rfl⟩, ExM.refl _ _, [], e2 _ _ hd1, Nat.le_refl _, fun i j => rfl⟩, fun n σ' H' p => p.2.1, ?_, ?_⟩
    · rintro n σ' H3 u H4 hn ⟨⟨b, c, e, f, g, h, rfl⟩, ex, kvs, hk, hkl, hF⟩ ⟨rfl, ct, hct, a, rfl, ha⟩
      refine g6n ha ?_
      obtain ⟨f1, f2, f3⟩ := four_ok ct
      have hlt := con_lt hA hB (mem_srt.mp (List.mem_of_getElem? hct))
      have hml : (mergeT [] (four ct)).length ≤ 4 := length_mergeT (four ct) []
      refine ⟨_, rfl, .inr (.inr (.inl ⟨rfl, .inr ⟨_, hk⟩⟩)), fun p hp => ?_⟩
      have npd : p ≠ d := fun z => by rw [z, hk] at hp; cases hp
      refine p_cons (vs := [.int (ct.ab : Nat), .int (ct.bb : Nat)]) (eu_tup (ea_cons (ev_var rfl) (ea_cons (ev_var rfl) ea_nil)) (Nat.le_of_ble_eq_true rfl)) (fun _ => ev_c) fun t1 H5 e5 h1 => ?_
      refine p_cons (vs := [.int (ct.ab : Nat), .int (ct.be : Nat)]) (eu_tup (ea_cons (ev_var rfl) (ea_cons (ev_var rfl) ea_nil)) (Nat.le_of_ble_eq_true rfl)) (fun _ => ev_c) fun t2 H6 e6 h2 => ?_
      refine p_cons (vs := [.int (ct.ae : Nat), .int (ct.bb : Nat)]) (eu_tup (ea_cons (ev_var rfl) (ea_cons (ev_var rfl) ea_nil)) (Nat.le_of_ble_eq_true rfl)) (fun _ => ev_c) fun t3 H7 e7 h3 => ?_
      refine p_cons (vs := [.int (ct.ae : Nat), .int (ct.be : Nat)]) (eu_tup (ea_cons (ev_var rfl) (ea_cons (ev_var rfl) ea_nil)) (Nat.le_of_ble_eq_true rfl)) (fun _ => ev_c) fun t4 H8 e8 h4 => ?_
      have e58 := ((e5.trans e6).trans e7).trans e8
      have hp8 : H8 p = some (.dT []) := e58 _ _ upd_same
      have hd8 : H8 d = some (.dT kvs) := e58 _ _ (by rw [upd_ne (Ne.symm npd)]; exact hk)
      refine ⟨hp8, four ct, .cons ⟨⟨t1, rfl, e8 _ _ (e7 _ _ (e6 _ _ h1))⟩, rfl⟩ (.cons ⟨⟨t2, rfl, e8 _ _ (e7 _ _ h2)⟩, rfl⟩ (.cons ⟨⟨t3, rfl, e8 _ _ h3⟩, rfl⟩ (.cons ⟨⟨t4, rfl, h4⟩, rfl⟩ .nil))), by show 4 ≤ 15; decide, ?_⟩
      refine ⟨d, p, kvs, mergeT [] (four ct), rfl, rfl, by rw [upd_ne (Ne.symm npd)]; exact hd8, upd_same, Ne.symm npd, .inr (hash_nodup f2 fun q hq => ?_), by omega, ⟨_, _, _, _, _, _, rfl⟩, ?_, _, upd_same, ?_, ?_⟩
      · obtain ⟨i, j, e, hi, hj⟩ := f3 q hq
        refine ⟨i, j, e, ?_, ?_⟩
        · rcases hi with z | z <;> omega
        · rcases hj with z | z <;> omega
      · have hex : ExM (fun a => a = d) H4 (upd H8 p (.dT (mergeT [] (four ct)))) := fun a o na h => by
          have nap : a ≠ p := fun z => by rw [z, hp] at h; cases h
          rw [upd_ne nap]
          exact e58 _ _ (by rw [upd_ne nap]; exact h)
        exact (ex.trans hex).set rfl
      · have := length_mergeT (four ct) []
        have := length_mergeT (mergeT [] (four ct)) kvs
        omega
      · refine (hF.merge f1).imp fun i j => ?_
        rw [List.take_add_one, hct]
        simp
    · rintro σ' H3 ⟨⟨b, c, e, f, g, h, rfl⟩, ex, kvs, hk, hkl, hF⟩
      rw [List.take_length] at hF
      refine r_ret (Ev.r (ev_var rfl)) fun v' H4 e4 hv' => ?_
      have hv' : v' = .ref d := hv'
      subst hv'
      exact hq _ H4 ((ex_of (e1.trans e2) (fun a e => by have e : a = d := e; rw [e]; exact hd0) ex).trans e4) (fun a e => by cases e; exact hd0) ⟨d, kvs, rfl, e4 _ _ hk, hF.imp (conc_srt A B)⟩

end HdX
end

section
set_option Elab.async false
set_option linter.all false
set_option maxRecDepth 100000
set_option maxHeartbeats 4000000
namespace HdX
open PySem PySem.Spec PyProof.Rows L2 Evl
open _root_.TT hiding Run
/-! ### the law's winners -/
abbrev NoM : Addr → Prop := fun _ => False
theorem mutNo {H : Hp} : MutA NoM H := fun _ f => f.elim
theorem exm_ex {H H' : Hp} (e : ExM NoM H H') : Ex H H' := fun a o h => e a o (fun f => f) h
abbrev sp_w_winners (K : PySem.W.Frag) : Sp := SpP (α := Thr × Thr × V × Rn) (fun x => [x.2.2.1, .str (rs x.2.2.2)]) (PreR K) (fun x => Is (.str (rs (winS x.2.2.2 (srt x.1 x.2.1)))))
namespace D_w_winners
abbrev N : List Str := ["_law_pair_here", "_law_run", "_law_places", "_law_found", "_law_contest", "_law_one", "_law_at", "_law_letter"]
abbrev SC : Scope := defScope s_w_winners
theorem sc : FnScope N ["_law_pair_here", "_law_run"] SC := ⟨rfl, rfl, rfl, by decide +kernel, rfl, by decide +kernel, by decide +kernel⟩
theorem nd : N.Nodup := sc.nd
end D_w_winners
open D_w_winners in
theorem ok_w_winners {P : Program} {w : World} {K : PySem.W.Frag} {mg : Str → Option Value} {base : Heap} (T : Tx K mg) (O_w_contests : OK P w K mg base 2 "_law_contests" ["_law_pair_here"] (sp_w_contests K)) : OK P w K mg base 3 "_law_winners" ["_law_pair_here", "_law_run"] (sp_w_winners K) := by
  obtain ⟨fd, F⟩ := T.f_w_winners
  refine OK.of T.g__law_winners F (F.ok sc (fun vs H Q E h => ?len) (fun cdv A outer s H vs Q E hr h => ?body)) (F.bindsN fun _ _ _ _ _ _ us hl => match us, hl with | [_, _], _ => rfl)
  case len =>
    obtain ⟨x, rfl, _⟩ := h
    rfl
  case body =>
    have hu := hu_of hr
    refine ⟨_, PSs.nox (pss_cons (ps_setLc (i := 2) (own := [("_law_one", 5)]) (tt := tYes) rfl nd rfl rfl (sw_true rfl rfl rfl (by decide +kernel)) (pi_str pe_str) (blkOk_by (N := N) (sc := SC) (by decide +kernel)) (fun _ _ _ _ _ => (pg_name (i := 5) nd rfl (Or.inr rfl))) (fun _ _ _ _ _ => pts_nil) (fun _ _ _ _ _ => (pe_lc (own := [("_law_at", 6), ("_law_letter", 7)]) (by rfl) nd (pi_enumS rfl T.b_enumerate (pa_cons (pv 1) pa_nil)) (blkOk_by (by rfl)) (fun _ _ _ _ _ => (pg_tupK (n := 2) K rfl (pgs_cons (pg_name (i := 6) nd rfl (Or.inl rfl)) (pgs_cons (pg_name (i := 7) nd rfl (Or.inl rfl)) pgs_nil)))) (fun _ _ _ _ _ => (pts_one (pt_cmpR op_eq (pv 7) (pv 5) (nomark _)))) (fun _ _ _ _ _ => (pv 6)))))
  (pss_cons (ps_set (i := 3) nd rfl (Or.inl rfl) pe_str)
  (pss_cons (ps_for PassesOwn.never rfl (pi_listK K (pcall O_w_contests hr (by decide) (pa_cons (pv 0) pa_nil))) (pg_name (i := 4) nd rfl (Or.inl rfl))
  (pss_one (ps_set (i := 3) nd rfl (Or.inl rfl) (pe_op op_add_str (pv 3) (pe_ifExp (pt_cmpR op_lt (pe_ix (ix_listK K) (pe_ix (ix_listK K) (pv 2) pe_int (fun _ _ => rfl)) (pe_ix (ix_tupK K) (pv 4) pe_int (fun _ _ => rfl)) (fun _ _ => rfl)) (pe_ix (ix_listK K) (pe_ix (ix_listK K) (pv 2) pe_int (fun _ _ => rfl)) (pe_ix (ix_tupK K) (pv 4) pe_int (fun _ _ => rfl)) (fun _ _ => rfl)) (nomark _)) pe_str pe_str)))))
  (pss_one (ps_ret (pv 3)))))), ?_⟩
    obtain ⟨x, rfl, hp, hq⟩ := h

    obtain ⟨A, B, v, r⟩ := x
    obtain ⟨hpa, hA, hB, hr0, hrun⟩ := hp
    replace hpa : PaR K A B v H := hpa
    replace hA : Gd A := hA
    replace hB : Gd B := hB
    replace hr0 : r.length ≤ 1000 := hr0
    replace hrun : isRunB A B r = true := hrun
    have hcl := srt_len hA hB
    have hin := srt_in hA hB hrun
    have two : ∀ {j c : Nat}, (Str.ofString "ab").cps[j]? = some c → ∃ b, [true, false][j]? = some b ∧ c = lt b := fun {j c} h => by rw [lit_ab] at h; exact rs_at h
    refine r_asg (P := LsN (PlR r) [true, false]) ((r_lcO (n := 2) (Y := YS (Str.ofString "ab")) (fun j v H => ∃ b, [true, false][j]? = some b ∧ PlR r b v H) (fun _ => true) (fun j v H H' e ⟨b, hb, h⟩ => ⟨b, hb, keeps_lsn (fun _ => keeps_is) _ _ _ e h⟩) ?_ (by decide) ?_).imp fun v' H1 _ hv => ?_) fun pl H1 e1 hpl => ?_
    · have : EvI (iStr (tC (.str "ab"))) (start D_w_winners.N [v, V.str (rs r)]) H (Str.ofString "ab").cps.size (YS (Str.ofString "ab")) := ei_str ev_c
      exact this
    · rintro j y H1 H2 hj e1 ⟨rfl, c, hc, rfl⟩
      obtain ⟨b, hb, rfl⟩ := two hc
      refine ⟨Ex.refl _, _, fun Q q => q, rfl, et_yes, fun _ => ?_⟩
      have inner := r_lcG (te := tVar 6) (tt := tTest (tOp rEq (tVar 7) (tVar 5))) (vs := [6, 7]) (σ := (wipe (start D_w_winners.N [v, V.str (rs r)]) [5]).set 5 (some (.str ⟨#[lt b]⟩))) (g := gTup K 2 (gCons (gName 6) (gCons (gName 7) gNil)))
        (H := H2) (wi := iEnumS (tCons (tVar 1) tNil)) NtR (fun i => r[i]? == some b) (fun _ => keeps_is) (fun _ => stF_is) (ei_enumS (z := rs r) (ev_var rfl)) (by rw [rs_size]; omega) (by
          rintro i y H3 H4 hi e3 ⟨T, c, rfl, hT, rfl, hc⟩
          obtain ⟨b', hb', rfl⟩ := rs_at hc
          refine ⟨Ex.new hT, _, fun Q q => g2n (st_of upd_same) q, rfl, ?_, fun _ => (Ev.r (ev_var rfl)).gg stF_is⟩
          refine et_is (et_test (ev_op (ev_var rfl) (ev_var rfl) (rv_eq rfl))) ?_
          show decide (V.str (rs [b']) = V.str (rs [b])) = (r[i]? == some b)
          rw [rs_eqN, hb', Bool.eq_iff_iff]
          simp)
      intro H5 e5 Q q
      refine inner H5 e5 Q fun v H6 e6 hv hst => q v H6 e6 ⟨b, hb, ?_⟩ fun D zs zs' hD => ⟨b, hb, ?_⟩
      · unfold PlR places
        rw [rs_size] at hv
        exact hv
      · have := hst D zs zs' hD
        unfold PlR places
        rw [rs_size] at this
        exact this
    · obtain ⟨a, ys, h1, h2, h3⟩ := hv
      refine ⟨a, ys, h1, h2, ?_⟩
      have e : giv 2 (fun _ => true) = [0, 1] := by decide
      rw [e] at h3
      refine ⟨h3.len, fun j b w hb hw => ?_⟩
      have hj : j < 2 := (List.getElem?_eq_some_iff.mp hb).1
      have e2 : [0, 1][j]? = some j := by
        match j, hj with
        | 0, _ => rfl
        | 1, _ => rfl
      obtain ⟨b', hb', h⟩ := h3.at_ j j w e2 hw
      rw [hb] at hb'
      cases hb'
      exact h
    refine q_asg (v := .str (rs [])) (by rw [← lit_0]; exact ev_c) fun H2 e2 => ?_
    have hpl2 := keeps_lsn (fun _ => keeps_lsn fun _ => keeps_is) _ _ _ e2 hpl
    refine r_forM (ej_listF (xs := srt A B) (R := Rc K conV) (fun _ => ro_rc) (f_call (ea_cons (ev_var rfl) ea_nil) fun H3 e Q q => ⟨(A, B, v), rfl, ⟨keeps_pa _ _ _ ((e1.trans e2).trans e) hpa, hA, hB⟩, fun v' H' e' f hv => q v' H' e' f hv⟩)) NoM mutNo fun H3 e3 =>
      ⟨fun n σ' H' => (∃ e, σ' = [some v, some (.str (rs r)), some pl, some (.str (rs ((winS r (srt A B)).take n))), e, none, none, none]) ∧ ExM NoM H3 H',
        ⟨⟨_, rfl⟩, ExM.refl _ _⟩, fun n σ' H' p => p.2, ?_, ?_⟩
    · rintro n σ' H4 u H5 hn ⟨⟨e, rfl⟩, ex⟩ ⟨rfl, ct, hct, hR⟩
      have e35 : Ex H2 H5 := e3.trans (exm_ex ex)
      obtain ⟨c1, c2⟩ := hin n ct hct
      obtain ⟨w1, w2⟩ := win_pos c1 c2
      have hcv : EvR (tVar 4) [some v, some (.str (rs r)), some pl, some (.str (rs ((winS r (srt A B)).take n))), some u, none, none, none] H5 (Rc K conV ct) := r_var keeps_rc rfl hR
      have hpv : EvR (tVar 2) [some v, some (.str (rs r)), some pl, some (.str (rs ((winS r (srt A B)).take n))), some u, none, none, none] H5 (LsO K (PlR r) [true, false]) := r_var (keeps_lso fun _ => keeps_lsn fun _ => keeps_is) rfl (keeps_lsn (fun _ => keeps_lsn fun _ => keeps_is) _ _ _ e35 hpl2).o
      have o1 := pl_ix (K := K) (r_ixLR (i := 0) (x := true) (fun _ => keeps_lsn fun _ => keeps_is) hpv (ev_c (v := .int 0)) rfl) (rc_ix (i := 1) hcv (ev_c (v := .int 1)) rfl) c1
      have o2 := pl_ix (K := K) (r_ixLR (i := 1) (x := false) (fun _ => keeps_lsn fun _ => keeps_is) hpv (ev_c (v := .int 1)) rfl) (rc_ix (i := 2) hcv (ev_c (v := .int 2)) rfl) c2
      have hb : decide (((pos true r ct.ae : Nat) : Int) < ((pos false r ct.bb : Nat) : Int)) = aWins r ct := by
        rw [← w1]
        exact decide_eq_decide.mpr (by omega)
      have step : (winS r (srt A B)).take (n + 1) = (winS r (srt A B)).take n ++ [aWins r ct] := by
        rw [List.take_add_one, List.getElem?_map, hct]
        rfl
      refine s_asg (v := .str (rs ((winS r (srt A B)).take (n + 1)))) ?_ fun H6 e6 => ⟨⟨_, rfl⟩, ex.trans (ExM.ex e6)⟩
      rw [step]
      refine ev_cat (ev_var rfl) (ev_if (et_is (et_test (ev_op o1 o2 rv_I0)) hb) (fun hw => ?_) fun hw => ?_) (by simp; omega)
      · rw [hw]; exact ev_cA
      · rw [hw]; exact ev_cB
    · rintro σ' H4 ⟨⟨e, rfl⟩, ex⟩
      have eL : (winS r (srt A B)).take (srt A B).length = winS r (srt A B) := List.take_of_length_le (by simp)
      rw [eL]
      exact r_ret (Ev.r (ev_var rfl)) fun v' H5 e5 hv' => hq v' H5 ((((e1.trans e2).trans e3).trans (exm_ex ex)).trans e5) hv'

end HdX
end

section
set_option Elab.async false
set_option linter.all false
set_option maxRecDepth 100000
set_option maxHeartbeats 4000000
namespace HdX
open PySem PySem.Spec PyProof.Rows L2 Evl
open _root_.TT hiding Run
/-! ### check_alike, exchanges, distance -/
abbrev tstB (g h : Rn) (p : Nat) (x y : Bool) : Bool := ((decide ([x, y] = [true, false]) && decide (((pos true g (cA (h.take p)) : Nat) : Int) > ((pos false g (cB (h.take p)) : Nat) : Int))) || (decide ([x, y] = [false, true]) && decide (((pos true g (cA (h.take p)) : Nat) : Int) < ((pos false g (cB (h.take p)) : Nat) : Int))))
theorem goes_tst {g h : Rn} {p : Nat} {x y : Bool} (hp : p + 1 < h.length) (hx : h[p]? = some x) (hy : h[p + 1]? = some y) (ca : cA h = cA g) (cb : cB h = cB g) :
    (x ≠ y → cA (h.take p) < cA g ∧ cB (h.take p) < cB g) ∧
    (tstB g h p x y = true ↔ Goes g h p) := by
  have lt2 : x ≠ y → cA (h.take p) < cA g ∧ cB (h.take p) < cB g := fun hne => by
    obtain ⟨l, x', y', s, rfl, rfl, hx', hy', ht⟩ := split_at h hp
    rw [hx] at hx'; cases hx'
    rw [hy] at hy'; cases hy'
    rw [ht, ← ca, ← cb, cA_app, cB_app]
    cases x <;> cases y <;> simp at hne ⊢ <;> omega
  refine ⟨lt2, ?_⟩
  unfold TT.Goes
  rw [hx, hy]
  cases x <;> cases y
  · simp
  · obtain ⟨a, b⟩ := lt2 (by decide)
    obtain ⟨e1, e2⟩ := pos_lt g _ _ a b
    simp [hp]
    omega
  · obtain ⟨a, b⟩ := lt2 (by decide)
    obtain ⟨e1, e2⟩ := pos_lt g _ _ a b
    simp [hp]
    omega
  · simp
theorem sum_le {l : List Nat} {c : Nat} (h : ∀ x ∈ l, x ≤ c) : l.sum ≤ l.length * c := by
  induction l with
  | nil => simp
  | cons x l ih =>
    have h1 := h x List.mem_cons_self
    have h2 := ih fun y hy => h y (List.mem_cons_of_mem _ hy)
    rw [List.sum_cons, List.length_cons, Nat.succ_mul]
    omega
theorem unl_le {g h : Rn} {n m : Nat} (h1 : cA g ≤ n) (h2 : cA h ≤ n) (h3 : cB h ≤ m) : unl g h ≤ m * n := by
  unfold unl
  refine Nat.le_trans (sum_le (c := n) fun x hx => ?_) ?_
  · obtain ⟨j, _, rfl⟩ := List.mem_map.mp hx
    have := row_le h j
    have := row_le g j
    omega
  · rw [List.length_map, List.length_range]
    exact Nat.mul_le_mul_right _ h3
section
variable {K : PySem.W.Frag} {σ : L2.St} {H : Hp} {D : Ends} {tz : TS}
theorem r_par {i j : Nat} {ta : TA} {a b : V} (h : EvA ta σ H [a, b]) (k : ∀ H1, Ex H H1 → tz D ((σ.set i (some a)).set j (some b)) H1) : tSeq (tPar i j ta) tz D σ H := h H (Ex.refl H) _ fun H1 e => ⟨a, b, rfl, k H1 e⟩
/-- the third a new list, behind what was made ahead of it -/
theorem r_par3L {i j l : Nat} {t1 t2 t3 : TE} {P : VR} {b : V} {xs : List V} (h1 : EvR t1 σ H P) (h2 : Ev t2 σ H b) (h3 : EvL t3 σ H xs) (k : ∀ a p Ha H1, Ex H Ha → P a Ha → Ha p = none → Ex Ha H1 → H1 p = some (.lst xs) → tz D (((σ.set i (some a)).set j (some b)).set l (some (.ref p))) H1) :
    tSeq (tPar3 i j l (tCons t1 (tCons t2 (tCons t3 tNil)))) tz D σ H :=
  h1 H (Ex.refl H) _ fun a Ha ea pa => h2 Ha ea _ fun Hb eb => h3 Hb (ea.trans eb) _ fun p Hc hp ec hc => ⟨a, b, .ref p, rfl, k a p Ha Hc ea pa (fresh_back eb hp) (eb.trans ec) hc⟩
theorem ej_enumZ {ta tb : TE} {x y : Str} (ha : Ev ta σ H (.str x)) (hb : Ev tb σ H (.str y)) (en : x.cps.size = y.cps.size) :
    EvJ (iEnumZ (tCons ta (tCons tb tNil))) σ H x.cps.size (fun i H v H' => ∃ T1 T2 c1 c2, v = .ref T2 ∧ H T1 = none ∧ T2 ≠ T1 ∧ H T2 = none ∧ H' = upd (upd H T1 (.tup [.str ⟨#[c1]⟩, .str ⟨#[c2]⟩])) T2 (.tup [.int (i : Nat), .ref T1]) ∧ x.cps[i]? = some c1 ∧ y.cps[i]? = some c2) := fun H1 e R k =>
  ha H1 e _ fun H2 e2 => hb H2 (e.trans e2) _ fun H3 e3 => ⟨x, y, rfl, k _ H3 (fun _ => True) (e2.trans e3) trivial (fun _ _ _ _ _ _ _ => trivial)
    { go := fun i _ _ hi => ⟨hi, by rw [← en]; exact hi⟩, st := fun _ _ => ⟨Nat.le_refl _, by rw [en]; exact Nat.le_refl _, .inl rfl⟩, yl := fun _ _ _ _ _ h => h }⟩
end
abbrev sp_check_alike (K : PySem.W.Frag) : Sp := SpP (α := Thr × Thr × V × Rn × Rn) argRR (PreRR K) (fun _ => Is .non)
namespace D_check_alike
abbrev N : List Str := ["pair", "run", "other", "one_row", "other_row", "number", "one", "two"]
abbrev SC : Scope := defScope s_check_alike
theorem sc : FnScope N ["pair", "run", "other"] SC := ⟨rfl, rfl, rfl, by decide +kernel, rfl, by decide +kernel, by decide +kernel⟩
theorem nd : N.Nodup := sc.nd
end D_check_alike
open D_check_alike in
theorem ok_check_alike {P : Program} {w : World} {K : PySem.W.Frag} {mg : Str → Option Value} {base : Heap} (T : Tx K mg) (O_winners : OK P w K mg base 6 "winners" ["pair", "run"] (sp_winners K)) : OK P w K mg base 7 "check_alike" ["pair", "run", "other"] (sp_check_alike K) := by
  obtain ⟨fd, F⟩ := T.f_check_alike
  refine OK.of T.g_check_alike F (F.ok sc (fun vs H Q E h => ?len) (fun cdv A outer s H vs Q E hr h => ?body)) (F.bindsN fun _ _ _ _ _ _ us hl => match us, hl with | [_, _, _], _ => rfl)
  case len =>
    obtain ⟨x, rfl, _⟩ := h
    rfl
  case body =>
    have hu := hu_of hr
    refine ⟨_, PSs.nox (pss_cons (ps_par (i := 3) (j := 4) rfl nd rfl rfl (by decide) rfl rfl (pa_cons (pcall O_winners hr (by decide) (pa_cons (pv 0) (pa_cons (pv 1) pa_nil))) (pa_cons (pcall O_winners hr (by decide) (pa_cons (pv 0) (pa_cons (pv 2) pa_nil))) pa_nil)) rfl)
  (pss_one (ps_for PassesOwn.never rfl (pi_enumZ rfl T.b_enumerate rfl T.b_zip (pa_cons (pv 3) (pa_cons (pv 4) pa_nil))) (pg_tupK (n := 2) K rfl (pgs_cons (pg_name (i := 5) nd rfl (Or.inl rfl)) (pgs_cons (pg_tupK (n := 2) K rfl (pgs_cons (pg_name (i := 6) nd rfl (Or.inl rfl)) (pgs_cons (pg_name (i := 7) nd rfl (Or.inl rfl)) pgs_nil))) pgs_nil)))
  (pss_one (ps_if (pt_cmpR op_ne (pv 6) (pv 7) (nomark _))
  (pss_one ps_never)
  pss_nil))))), ?_⟩
    obtain ⟨x, rfl, hp, hq⟩ := h

    obtain ⟨A, B, v, r, s⟩ := x
    obtain ⟨hpa, hA, hB, ⟨hr0, hrun⟩, ⟨hs0, hsun⟩, hw⟩ := hp
    replace hpa : PaR K A B v H := hpa
    replace hw : SameW A B r s := hw
    have call : ∀ {tr : TE} {t : Rn}, Ev tr (start D_check_alike.N [v, .str (rs r), .str (rs s)]) H (.str (rs t)) → t.length ≤ 1000 → isRunB A B t = true → Ev (tCall (sp_winners K) [] E0 (tCons (tVar 0) (tCons tr tNil))) (start D_check_alike.N [v, .str (rs r), .str (rs s)]) H (.str (rs (winS t (srt A B)))) := fun {tr t} ht h1 h2 =>
      EvR.vv (r_call (ea_cons (ev_var rfl) (ea_cons ht ea_nil)) fun H1 e Q q => ⟨(A, B, v, t), rfl, ⟨keeps_pa _ _ _ e hpa, hA, hB, h1, h2⟩, fun v' H' e' hv => q v' H' e' hv⟩)
    refine r_par (ea_cons (call (ev_var rfl) hr0 hrun) (ea_cons (call (ev_var rfl) hs0 hsun) ea_nil)) fun H1 e1 => ?_
    rw [hw.win]
    generalize winS s (srt A B) = W
    refine r_forM1 (ej_enumZ (x := rs W) (y := rs W) (ev_var rfl) (ev_var rfl) rfl) NoM mutNo fun H2 e2 => ⟨fun n σ' H' => (∃ a b c, σ' = [some v, some (.str (rs r)), some (.str (rs s)), some (.str (rs W)), some (.str (rs W)), a, b, c]) ∧ ExM NoM H2 H',
      ⟨⟨_, _, _, rfl⟩, ExM.refl _ _⟩, fun n σ' H' p => p.2, ?_, ?_⟩
    · rintro n σ' H3 u H4 hn ⟨⟨a, b, c, rfl⟩, ex⟩ ⟨T1, T2, c1, c2, rfl, h1, h2, h3, rfl, h4, h5⟩
      have ec : c1 = c2 := by rw [h4] at h5; exact Option.some.inj h5
      subst ec
      refine g2t (st_of upd_same) (st_of (by rw [upd_ne (Ne.symm h2)]; exact upd_same)) ?_
      refine s_when (b := false) (et_is (et_test (ev_op (ev_var rfl) (ev_var rfl) (rv_ne rfl))) (by simp)) (fun h => by cases h) fun _ H5 e5 => ⟨⟨_, _, _, rfl⟩, ex.trans (ExM.ex ((Ex.new h1).trans ((Ex.new (by rw [upd_ne h2]; exact h3)).trans e5)))⟩
    · rintro σ' H3 ⟨⟨a, b, c, rfl⟩, ex⟩
      exact hq .non H3 ((e1.trans e2).trans (exm_ex ex)) rfl
/-- what exchanges gives -/
def ExR (K : PySem.W.Frag) (g one : Rn) : VR := fun v H => ∃ f, Way g one f ∧ path one f = g ∧ TuO K NtR f v H
theorem keeps_exr {K : PySem.W.Frag} {g one : Rn} : Keeps (ExR K g one) := fun _ _ _ e ⟨f, h1, h2, h3⟩ => ⟨f, h1, h2, keeps_tuo (fun _ => keeps_is) _ _ _ e h3⟩
abbrev sp_exchanges (K : PySem.W.Frag) : Sp := SpP (α := Thr × Thr × V × Rn × Rn) argRR (PreRR K) (fun x => ExR K x.2.2.2.2 x.2.2.2.1)
namespace D_exchanges
abbrev N : List Str := ["pair", "run", "other", "goal", "here", "found", "place", "i", "j", "pair_here"]
abbrev SC : Scope := defScope s_exchanges
theorem sc : FnScope N ["pair", "run", "other"] SC := ⟨rfl, rfl, rfl, by decide +kernel, rfl, by decide +kernel, by decide +kernel⟩
theorem nd : N.Nodup := sc.nd
end D_exchanges
open D_exchanges in
theorem ok_exchanges {P : Program} {w : World} {K : PySem.W.Frag} {mg : Str → Option Value} {base : Heap} (T : Tx K mg) (O_check_alike : OK P w K mg base 7 "check_alike" ["pair", "run", "other"] (sp_check_alike K)) (O_places_of : OK P w K mg base 1 "places_of" ["run"] (sp_places_of K)) (O_step_pair : OK P w K mg base 1 "step_pair" ["run", "place"] (sp_step_pair K)) (O_swapped : OK P w K mg base 1 "swapped" ["run", "place"] (sp_swapped K)) : OK P w K mg base 8 "exchanges" ["pair", "run", "other"] (sp_exchanges K) := by
  obtain ⟨fd, F⟩ := T.f_exchanges
  obtain ⟨tLETTERS, cLETTERS⟩ := T.c_LETTERS
  obtain ⟨tTURNED, cTURNED⟩ := T.c_TURNED
  refine OK.of T.g_exchanges F (F.ok sc (fun vs H Q E h => ?len) (fun cdv A outer s H vs Q E hr h => ?body)) (F.bindsN fun _ _ _ _ _ _ us hl => match us, hl with | [_, _, _], _ => rfl)
  case len =>
    obtain ⟨x, rfl, _⟩ := h
    rfl
  case body =>
    have hu := hu_of hr
    refine ⟨_, PSs.nox (pss_cons (ps_expr (pcall O_check_alike hr (by decide) (pa_cons (pv 0) (pa_cons (pv 1) (pa_cons (pv 2) pa_nil)))))
  (pss_cons (ps_par3 (i := 3) (j := 4) (l := 5) rfl nd rfl rfl rfl (by decide) (by decide) (by decide) rfl rfl rfl (pa_cons (pcall O_places_of hr (by decide) (pa_cons (pv 2) pa_nil)) (pa_cons (pv 1) (pa_cons (pe_lst pa_nil) pa_nil))) rfl)
  (pss_cons (ps_set (i := 6) nd rfl (Or.inl rfl) pe_int)
  (pss_cons (ps_while PassesOwn.never (pt_cmpR op_lt (pv 6) (pe_op op_sub (pe_callB call_len_str (by rfl) T.b_len PySem.boot_len (pa_cons (pv 4) pa_nil)) pe_int) (nomark _))
  (pss_cons (ps_asg (pcall O_step_pair hr (by decide) (pa_cons (pv 4) (pa_cons (pv 6) pa_nil))) (pg_tupK (n := 2) K rfl (pgs_cons (pg_name (i := 7) nd rfl (Or.inl rfl)) (pgs_cons (pg_name (i := 8) nd rfl (Or.inl rfl)) pgs_nil))))
  (pss_cons (ps_set (i := 9) nd rfl (Or.inl rfl) (pe_slice sl_str (pv 4) (po_some (pv 6)) (po_some (pe_op op_add (pv 6) pe_int))))
  (pss_one (ps_if (PW.pt (pw_or (PW.pt (pw_and (pt_cmpR op_eq (pv 9) (pe_gs rfl cLETTERS) (nomark _)) (pw_and1 (pt_cmpR op_gt (pe_ix (ix_listK K) (pe_ix (ix_listK K) (pv 3) pe_int (fun _ _ => rfl)) (pv 7) (fun _ _ => rfl)) (pe_ix (ix_listK K) (pe_ix (ix_listK K) (pv 3) pe_int (fun _ _ => rfl)) (pv 8) (fun _ _ => rfl)) (nomark _))))) (pw_or1 (PW.pt (pw_and (pt_cmpR op_eq (pv 9) (pe_gs rfl cTURNED) (nomark _)) (pw_and1 (pt_cmpR op_lt (pe_ix (ix_listK K) (pe_ix (ix_listK K) (pv 3) pe_int (fun _ _ => rfl)) (pv 7) (fun _ _ => rfl)) (pe_ix (ix_listK K) (pe_ix (ix_listK K) (pv 3) pe_int (fun _ _ => rfl)) (pv 8) (fun _ _ => rfl)) (nomark _))))))))
  (pss_cons (ps_expr (pe_bm PySem.F.plainAttrs_list PySem.F.slot_list_append PySem.F.type_list_append mt_append (pv 5) (pa_cons (pv 6) pa_nil)))
  (pss_cons (ps_set (i := 4) nd rfl (Or.inl rfl) (pcall O_swapped hr (by decide) (pa_cons (pv 4) (pa_cons (pv 6) pa_nil))))
  (pss_one (ps_set (i := 6) nd rfl (Or.inl rfl) (pe_callB (call_max2 rfl) (by rfl) T.b_max (by decide +kernel) (pa_cons pe_int (pa_cons (pe_op op_sub (pv 6) pe_int) pa_nil)))))))
  (pss_one (ps_aug (i := 6) nd rfl (Or.inl rfl) pe_int ip_add)))))))
  (pss_one (ps_ret (pe_callTy (call_tupK K) (by rfl) T.b_tuple (by decide +kernel) (pa_cons (pv 5) pa_nil)))))))), ?_⟩
    obtain ⟨x, rfl, hp, hq⟩ := h

    obtain ⟨A, B, v, one, g⟩ := x
    obtain ⟨hpa, hA, hB, ⟨hr0, hrun⟩, ⟨hs0, hsun⟩, hw⟩ := hp
    replace hpa : PaR K A B v H := hpa
    replace hA : Gd A := hA
    replace hB : Gd B := hB
    replace hr0 : one.length ≤ 1000 := hr0
    replace hs0 : g.length ≤ 1000 := hs0
    replace hrun : isRunB A B one = true := hrun
    replace hsun : isRunB A B g = true := hsun
    have Ro := isRunB_iff.mp hrun
    have Rg := isRunB_iff.mp hsun
    have ub : unl g one ≤ 100 * 100 := unl_le (by rw [Rg.a]; exact hA.len) (by rw [Ro.a]; exact hA.len) (by rw [Ro.b]; exact hB.len)
    refine r_drop (P := Is .non) (r_call (ea_cons (ev_var rfl) (ea_cons (ev_var rfl) (ea_cons (ev_var rfl) ea_nil))) fun H1 e Q q => ⟨(A, B, v, one, g), rfl, ⟨keeps_pa _ _ _ e hpa, hA, hB, ⟨hr0, hrun⟩, ⟨hs0, hsun⟩, hw⟩, fun v' H' e' hv => q v' H' e' hv⟩) fun _ H1 e1 _ => ?_
    refine r_par3L (P := LsN (PlR g) [true, false]) (r_call (ea_cons (ev_var rfl) ea_nil) fun H2 e Q q => ⟨g, rfl, hs0, fun v' H' e' hv => q v' H' e' hv⟩) (ev_var rfl) (el_lst ea_nil (by decide)) fun goal l Ha H2 ea hgoal hl0 e2 hl2 => ?_
    refine q_asg (v := .int (0 : Nat)) ev_c fun H3 e3 => ?_
    refine q_while (fun m σ' H' => ∃ f p, (∃ i j ph, σ' = [some v, some (.str (rs one)), some (.str (rs g)), some goal, some (.str (rs (path one f))), some (.ref l), some (.int (p : Nat)), i, j, ph]) ∧ Ex Ha H' ∧ (∃ ys, H' l = some (.lst ys) ∧ Al (fun x v => NtR x v H') f ys) ∧ Way g one f ∧ Clean g (path one f) p ∧ m = 2 * unl g (path one f) + (one.length - p)) (2 * unl g one + one.length)
      ⟨[], 0, ⟨_, _, _, rfl⟩, e2.trans e3, ⟨[], e3 _ _ hl2, Al.nil⟩, Way.nil _ _, fun q hq => by omega, rfl⟩ ?_
    rintro m σ' H4 ⟨f, p, ⟨i, j, ph, rfl⟩, e4, ⟨ys, hy, al⟩, way, cl, rfl⟩
    have hca : cA (path one f) = cA g := by rw [way.cnt.1, Ro.a, Rg.a]
    have hcb : cB (path one f) = cB g := by rw [way.cnt.2, Ro.b, Rg.b]
    have hlen : (path one f).length = one.length := by rw [← cAB, ← cAB one, way.cnt.1, way.cnt.2]
    have hfl : f.length ≤ 10000 := by have := way.num; omega
    refine ⟨decide (p + 1 < one.length), ?_, fun hb H5 e5 => ?_, fun hb H5 e5 => ?_⟩
    · refine et_is (et_test (ev_op (ev_var rfl) (ev_op (ev_lenR (r := path one f) (ev_var rfl) (by omega)) ev_c rv_I0) rv_I0)) ?_
      rw [hlen]
      exact decide_eq_decide.mpr (by omega)
    · have hp1 : p + 1 < one.length := by simpa using hb
      generalize hh : path one f = h at *
      have hp : p + 1 < h.length := by omega
      have hx : h[p]? = some h[p] := by simp
      have hy' : h[p + 1]? = some h[p + 1] := by simp
      generalize h[p] = x at hx
      generalize h[p + 1] = y at hy'
      obtain ⟨lt2, tst⟩ := goes_tst hp hx hy' hca hcb
      have hd : (h.drop p).take (p + 2 - p) = [x, y] := by
        have : p + 2 - p = 2 := by omega
        rw [this]
        apply List.ext_getElem?
        intro k
        rw [List.getElem?_take, List.getElem?_drop]
        match k with
        | 0 => simpa using hx
        | 1 => simpa using hy'
        | k + 2 => rw [if_neg (by omega)]; rfl
      refine ⟨_, fun σ2 H6 q => q, ?_⟩
      refine r_asgG (P := IsTup [.int (cA (h.take p) : Nat), .int (cB (h.take p) : Nat)]) (r_call (ea_cons (ev_var rfl) (ea_cons (ev_var rfl) ea_nil)) fun H6 e Q q => ⟨(h, p), rfl, by show h.length ≤ 1000; omega, fun v' H' e' hv => q v' H' e' hv⟩) fun tv H6 e6 ⟨pt, etv, hpt⟩ => ?_
      subst etv
      refine g2n (st_of hpt) ?_
      refine q_asg (ev_lh (r := h) (p := p) (q := p + 2) (ev_var rfl) (ev_var rfl) (ev_is (ev_op (ev_var rfl) ev_c rv_I0) (by show V.int ((p : Int) + 2) = _; congr 1)) (by omega)) fun H7 e7 => ?_
      rw [hd]
      have e47 := (e5.trans e6).trans e7
      have hg7 := keeps_lsn (fun _ => keeps_lsn fun _ => keeps_is) _ _ _ (e4.trans e47) hgoal
      have hgv : ∀ {σ2 : L2.St}, σ2[3]? = some (some goal) → EvR (tVar 3) σ2 H7 (LsO K (PlR g) [true, false]) := fun h => r_var (keeps_lso fun _ => keeps_lsn fun _ => keeps_is) h hg7.o
      have oA : ∀ {σ2 : L2.St}, σ2[3]? = some (some goal) → σ2[7]? = some (some (.int (cA (h.take p) : Nat))) → x ≠ y → Ev (tOp (rIxL K) (tOp (rIxL K) (tVar 3) (tC (.int 0))) (tVar 7)) σ2 H7 (.int (pos true g (cA (h.take p)) : Nat)) := fun {σ2} h3 h7 hne =>
        pl_ix (r_ixLR (i := 0) (x := true) (fun _ => keeps_lsn fun _ => keeps_is) (hgv h3) (ev_c (v := .int 0)) rfl) (ev_var h7) (lt2 hne).1
      have oB : ∀ {σ2 : L2.St}, σ2[3]? = some (some goal) → σ2[8]? = some (some (.int (cB (h.take p) : Nat))) → x ≠ y → Ev (tOp (rIxL K) (tOp (rIxL K) (tVar 3) (tC (.int 1))) (tVar 8)) σ2 H7 (.int (pos false g (cB (h.take p)) : Nat)) := fun {σ2} h3 h8 hne =>
        pl_ix (r_ixLR (i := 1) (x := false) (fun _ => keeps_lsn fun _ => keeps_is) (hgv h3) (ev_c (v := .int 1)) rfl) (ev_var h8) (lt2 hne).2
      refine s_if (b := tstB g h p x y) (et_or (et_and (et_is (et_test (ev_op (ev_var rfl) (ev_c (v := .str (rs [true, false]))) (rv_eq rfl))) rs_eqN) fun hd1 => ?_) fun _ => et_and (et_is (et_test (ev_op (ev_var rfl) (ev_c (v := .str (rs [false, true]))) (rv_eq rfl))) rs_eqN) fun hd2 => ?_) (fun hb H8 e8 => ?_) fun hb H8 e8 => ?_
      · have : x ≠ y := by
          have := of_decide_eq_true hd1
          cases this
          decide
        exact et_test (ev_op (oA rfl rfl this) (oB rfl rfl this) rv_I0)
      · have : x ≠ y := by
          have := of_decide_eq_true hd2
          cases this
          decide
        exact et_test (ev_op (oA rfl rfl this) (oB rfl rfl this) rv_I0)
      · have go := tst.mp hb
        have hl8 : H8 l = some (.lst ys) := (e47.trans e8) _ _ hy
        refine q_app hl8 (ev_var rfl) (ev_var rfl) (by have := al.len; omega) fun H9 e9 => ?_
        refine q_asg (v := .str (rs (swp h p))) (EvR.vv (r_call (ea_cons (ev_var rfl) (ea_cons (ev_var rfl) ea_nil)) fun H10 e Q q => ⟨(h, p), rfl, ⟨by show h.length ≤ 1000; omega, hp⟩, fun v' H' e' hv => q v' H' e' hv⟩)) fun H10 e10 => ?_
        have hgo : Goes g (path one f) p := by rw [hh]; exact go
        have hps : path one (f ++ [p]) = swp h p := by rw [path_snoc, hh]
        refine s_asg (ev_is (ev_max2 ev_c (ev_op (ev_var rfl) ev_c rv_I0)) (show _ = V.int ((p - 1 : Nat) : Int) from ?_)) fun H11 e11 => ?_
        · congr 1
          split <;> omega
        · refine ⟨_, ?_, f ++ [p], p - 1, ⟨_, _, _, by rw [hps]; rfl⟩, ?_, ⟨ys ++ [.int (p : Nat)], e11 _ _ (e10 _ _ upd_same), Al.snoc (R := fun x v => NtR x v H11) (y := .int (p : Nat)) (al.mono fun x v hv => hv) (show V.int (p : Nat) = V.int (p : Nat) from rfl)⟩, way.snoc hgo, by rw [hps]; exact cl.swap go, rfl⟩
          · rw [hps]
            have := go.unl
            omega
          · exact ((((e4.trans e47).trans e8).trans e9).mut hl0).trans (e10.trans e11)
      · have ngo : ¬ Goes g h p := fun z => by
          have hb' := tst.mpr z
          rw [hb'] at hb
          cases hb
        refine s_aug (a := (p : Int)) (b := 1) rfl ev_c fun H9 e9 => ?_
        refine ⟨_, ?_, f, p + 1, ⟨_, _, _, by rw [hh]; rfl⟩, ?_, ⟨ys, e9 _ _ ((e47.trans e8) _ _ hy), al.mono fun x v hv => hv⟩, way, by rw [hh]; exact cl.step ngo, rfl⟩
        · rw [hh]
          omega
        · exact ((e4.trans e47).trans e8).trans e9
    · have hp1 : ¬ p + 1 < one.length := by simpa using hb
      have hfin : path one f = g := cl.all (by omega) hca hcb
      refine r_ret (r_tupof (R := NtR) (xs := f) (fun _ => keeps_is) (r_var (keeps_lsn fun _ => keeps_is) rfl ⟨l, ys, rfl, e5 _ _ hy, al.mono fun x v hv => hv⟩)) fun v' H6 e6 hv' => hq v' H6 (((e1.trans ea).trans e4).trans (e5.trans e6)) ⟨f, way, hfin, hv'⟩
abbrev sp_distance (K : PySem.W.Frag) : Sp := SpP (α := Thr × Thr × V × Rn × Rn) argRR (PreRR K) (fun x => Is (.int (unl x.2.2.2.2 x.2.2.2.1 : Nat)))
namespace D_distance
abbrev N : List Str := ["pair", "run", "other"]
abbrev SC : Scope := defScope s_distance
theorem sc : FnScope N ["pair", "run", "other"] SC := ⟨rfl, rfl, rfl, by decide +kernel, rfl, by decide +kernel, by decide +kernel⟩
theorem nd : N.Nodup := sc.nd
end D_distance
theorem ExR.len {K : PySem.W.Frag} {σ : L2.St} {H : Hp} {te : TE} {g one : Rn} (h : EvR te σ H (ExR K g one)) : Ev (tCB (rLenS K) (tCons te tNil)) σ H (.int (unl g one : Nat)) := fun H1 e Q q =>
  h H1 e _ fun v H2 e2 ⟨f, w, hp, a, vs, h1, h2, al⟩ => ⟨a, vs, by rw [h1], .inr h2, by
    have h3 := w.num
    rw [hp, unl_self, Nat.add_zero] at h3
    rw [← al.len, h3]
    exact q H2 e2⟩
open D_distance in
theorem ok_distance {P : Program} {w : World} {K : PySem.W.Frag} {mg : Str → Option Value} {base : Heap} (T : Tx K mg) (O_exchanges : OK P w K mg base 8 "exchanges" ["pair", "run", "other"] (sp_exchanges K)) : OK P w K mg base 9 "distance" ["pair", "run", "other"] (sp_distance K) := by
  obtain ⟨fd, F⟩ := T.f_distance
  refine OK.of T.g_distance F (F.ok sc (fun vs H Q E h => ?len) (fun cdv A outer s H vs Q E hr h => ?body)) (F.bindsN fun _ _ _ _ _ _ us hl => match us, hl with | [_, _, _], _ => rfl)
  case len =>
    obtain ⟨x, rfl, _⟩ := h
    rfl
  case body =>
    have hu := hu_of hr
    refine ⟨_, PSs.nox (pss_one (ps_ret (pe_callB (call_lenK K) (by rfl) T.b_len PySem.boot_len (pa_cons (pcall O_exchanges hr (by decide) (pa_cons (pv 0) (pa_cons (pv 1) (pa_cons (pv 2) pa_nil)))) pa_nil)))), ?_⟩
    obtain ⟨x, rfl, hp, hq⟩ := h

    obtain ⟨A, B, v, one, g⟩ := x
    obtain ⟨hpa, hrest⟩ := hp
    replace hpa : PaR K A B v H := hpa
    exact r_ret (Ev.r (ExR.len (g := g) (one := one) (r_call (ea_cons (ev_var rfl) (ea_cons (ev_var rfl) (ea_cons (ev_var rfl) ea_nil))) fun H1 e Q q => ⟨(A, B, v, one, g), rfl, ⟨keeps_pa _ _ _ e hpa, hrest⟩, fun v' H' e' hv => q v' H' e' hv⟩))) fun v' H4 e4 hv' => hq v' H4 e4 hv'

end HdX
end

section
set_option Elab.async false
set_option linter.all false
set_option maxRecDepth 100000
set_option maxHeartbeats 4000000
namespace HdX
open PySem PySem.Spec PyProof.Rows L2 Evl
open _root_.TT hiding Run
/-! ### _law_unlike, _law_row_right -/
section
variable {K : PySem.W.Frag} {σ : L2.St} {H : Hp} {D : Ends} {tz : TS} {ta te tb : TE}
def rowL (r : Rn) : List Nat := (List.range (cB r)).map (row r)
theorem LsN.map {α β : Type} {R : α → VR} {S : β → VR} {h : α → β} {xs : List α} {v : V} {H : Hp} (l : LsN R xs v H) (hh : ∀ x v, R x v H → S (h x) v H) : LsN S (xs.map h) v H := by
  have := l.fm (h := fun x => some (h x)) (S := S) fun x v q => ⟨_, rfl, hh x v q⟩
  have e : xs.filterMap (fun x => some (h x)) = xs.map h := by
    induction xs with
    | nil => rfl
    | cons x xs ih => simp
  rw [e] at this
  exact this
theorem s_appG {l : Addr} {xs : List V} {P : VR} (hl : H l = some (.lst xs)) (ha : Ev ta σ H (.ref l)) (h : EvG te σ H P) (hz : xs.length < 100000) (k : ∀ v H1, Ex H H1 → (∀ zs, P v (upd H1 l (.lst zs))) → D.nx σ (upd H1 l (.lst (xs ++ [v])))) :
    tDrop (tBM K "list" rAppend ta (tCons te tNil)) D σ H := ha H (Ex.refl H) _ fun H1 e1 =>
  ⟨Or.inl ⟨rfl, xs, sq_of (e1 l _ hl)⟩, h H1 e1 _ fun v H2 e2 _ hst => ⟨l, xs, v, rfl, rfl, e2 l _ (e1 l _ hl), sz_lt hz, k v H2 (e1.trans e2) fun zs => hst l xs zs (e1 l _ hl)⟩⟩
theorem ei_zipL {xs ys : List V} (ha : EvR ta σ H fun v H1 => ∃ a, v = .ref a ∧ SqL K H1 a xs) (hb : EvR tb σ H fun v H1 => ∃ a, v = .ref a ∧ SqL K H1 a ys) (hn : xs.length = ys.length) :
    EvI (iZip K (tCons ta (tCons tb tNil))) σ H xs.length (fun i H v H' => ∃ T x y, v = .ref T ∧ H T = none ∧ H' = upd H T (.tup [x, y]) ∧ xs[i]? = some x ∧ ys[i]? = some y) := fun H1 e R k =>
  ha H1 e _ fun v H2 e2 ⟨a, hv, qa⟩ => hb H2 (e.trans e2) _ fun w H3 e3 ⟨b, hw, qb⟩ => ⟨a, b, xs, ys, by rw [hv, hw], ex_l e3 qa, qb, k _ H3 (e2.trans e3)
    { go := fun i H' e' hi => ⟨xs, ys, xs[i], ys[i]'(by rw [← hn]; exact hi), ex_l (e3.trans e') qa, ex_l e' qb, by simp, by simp⟩
      st := fun H' e' => ⟨xs, ys, ex_l (e3.trans e') qa, ex_l e' qb, .inl (Nat.le_refl _)⟩
      yl := fun i H' x H'' e' ⟨T, x1, y1, h1, h2, h3, h4, h5⟩ => ⟨T, x1, y1, h1, h2, h3, h4 _ (ex_l (e3.trans e') qa), h5 _ (ex_l e' qb)⟩ }⟩
theorem r_par3R {i j l : Nat} {t1 t2 t3 : TE} {P P3 : VR} {b : V} (kP : Keeps P) (h1 : EvR t1 σ H P) (h2 : Ev t2 σ H b) (h3 : EvR t3 σ H P3) (k : ∀ a c H1, Ex H H1 → P a H1 → P3 c H1 → tz D (((σ.set i (some a)).set j (some b)).set l (some c)) H1) :
    tSeq (tPar3 i j l (tCons t1 (tCons t2 (tCons t3 tNil)))) tz D σ H :=
  h1 H (Ex.refl H) _ fun a Ha ea pa => h2 Ha ea _ fun Hb eb => h3 Hb (ea.trans eb) _ fun c Hc ec pc => ⟨a, b, c, rfl, k a c Hc ((ea.trans eb).trans ec) (kP _ _ _ (eb.trans ec) pa) pc⟩
theorem ev_cin {A B : Thr} {i j : Nat} {ty td : TE} (hy : EvR ty σ H (IsTup [.int (i : Nat), .int (j : Nat)])) (hd : EvR td σ H (CcR A B)) : Ev (tDIn ty td) σ H (.bl (concB A B i j)) := fun H1 e Q q =>
  hy H1 e _ fun y H2 e2 ⟨p, hp, hp2⟩ => hd H2 (e.trans e2) _ fun d H3 e3 ⟨a, kvs, ha, ha2, hF⟩ => ⟨a, valV kvs (PK i j), by rw [ha], by rw [hp]; exact DGet.t (k := PK i j) ha2 (e3 _ _ hp2), by rw [hF i j]; exact q H3 (e2.trans e3)⟩
theorem ev_cnin {A B : Thr} {i j : Nat} {ty td : TE} (hy : EvR ty σ H (IsTup [.int (i : Nat), .int (j : Nat)])) (hd : EvR td σ H (CcR A B)) : Ev (tDNotIn ty td) σ H (.bl (!concB A B i j)) := fun H1 e Q q =>
  hy H1 e _ fun y H2 e2 ⟨p, hp, hp2⟩ => hd H2 (e.trans e2) _ fun d H3 e3 ⟨a, kvs, ha, ha2, hF⟩ => ⟨a, valV kvs (PK i j), by rw [ha], by rw [hp]; exact DGet.t (k := PK i j) ha2 (e3 _ _ hp2), by rw [hF i j]; exact q H3 (e2.trans e3)⟩
theorem keeps_tup {vs : List V} : Keeps (IsTup vs) := fun _ _ _ e ⟨p, h, q⟩ => ⟨p, h, e _ _ q⟩
theorem rv_isB {x y : Bool} : RV rIsB (.bl x) (.bl y) H (.bl (decide (x = y))) := fun H1 _ _ q => ⟨x, y, rfl, rfl, q H1 (Ex.refl H1)⟩
theorem lsn_ints {xs : List Nat} {P : VR} (h : EvR te σ H (LsN NtR xs)) : EvR te σ H fun v H1 => ∃ a, v = .ref a ∧ SqL K H1 a (xs.map fun n => V.int (n : Nat)) := h.imp fun v H1 _ ⟨a, ys, h1, h2, al⟩ => ⟨a, h1, by
  rw [al_is al] at h2
  exact sq_of h2⟩
end
theorem sum_cast (l : List Nat) : (l.map fun n : Nat => (n : Int)).sum = ((l.sum : Nat) : Int) := by
  induction l with
  | nil => rfl
  | cons x l ih => rw [List.map_cons, List.sum_cons, List.sum_cons, ih]; omega
abbrev sp_w_unlike (K : PySem.W.Frag) : Sp := SpP (α := Rn × Rn) (fun x => [.str (rs x.1), .str (rs x.2)]) (fun x _ => x.1.length ≤ 1000 ∧ x.2.length ≤ 1000 ∧ cB x.1 = cB x.2) (fun x => Is (.int (unl x.2 x.1 : Nat)))
namespace D_w_unlike
abbrev N : List Str := ["_law_one", "_law_other", "_law_rows", "_law_run", "_law_at", "_law_letter", "_law_first", "_law_second"]
abbrev SC : Scope := defScope s_w_unlike
theorem sc : FnScope N ["_law_one", "_law_other"] SC := ⟨rfl, rfl, rfl, by decide +kernel, rfl, by decide +kernel, by decide +kernel⟩
theorem nd : N.Nodup := sc.nd
end D_w_unlike
open D_w_unlike in
theorem ok_w_unlike {P : Program} {w : World} {K : PySem.W.Frag} {mg : Str → Option Value} {base : Heap} (T : Tx K mg)  : OK P w K mg base 1 "_law_unlike" ["_law_one", "_law_other"] (sp_w_unlike K) := by
  obtain ⟨fd, F⟩ := T.f_w_unlike
  refine OK.of T.g__law_unlike F (F.ok sc (fun vs H Q E h => ?len) (fun cdv A outer s H vs Q E hr h => ?body)) (F.bindsN fun _ _ _ _ _ _ us hl => match us, hl with | [_, _], _ => rfl)
  case len =>
    obtain ⟨x, rfl, _⟩ := h
    rfl
  case body =>
    have hu := hu_of hr
    refine ⟨_, PSs.nox (pss_cons (ps_set (i := 2) nd rfl (Or.inl rfl) (pe_lst pa_nil))
  (pss_cons (ps_for PassesOwn.never rfl (pi_tupK K (pe_tup (pa_cons (pv 0) (pa_cons (pv 1) pa_nil)))) (pg_name (i := 3) nd rfl (Or.inr rfl))
  (pss_one (ps_expr (pe_bm PySem.F.plainAttrs_list PySem.F.slot_list_append PySem.F.type_list_append mt_append (pv 2) (pa_cons (pe_lc (own := [("_law_at", 4), ("_law_letter", 5)]) (by rfl) nd (pi_enumS rfl T.b_enumerate (pa_cons (pv 3) pa_nil)) (blkOk_by (N := N) (sc := SC) (by decide +kernel)) (fun _ _ _ _ _ => (pg_tupK (n := 2) K rfl (pgs_cons (pg_name (i := 4) nd rfl (Or.inl rfl)) (pgs_cons (pg_name (i := 5) nd rfl (Or.inl rfl)) pgs_nil)))) (fun _ _ _ _ _ => (pts_one (pt_cmpR op_eq (pv 5) pe_str (nomark _)))) (fun _ _ _ _ _ => (pe_m1 PySem.F.slot_str_count PySem.F.type_str_count mt_count (pe_slice sl_str (pv 3) po_none (po_some (pv 4))) pe_str))) pa_nil)))))
  (pss_one (ps_ret (pe_callB (cr_sumK K rfl) (by rfl) T.b_sum (by decide +kernel) (pa_cons (pe_lc (own := [("_law_first", 6), ("_law_second", 7)]) (tt := tYes) (by rfl) nd (pi_zipK K rfl T.b_zip (pa_cons (pe_ix (ix_listK K) (pv 2) pe_int (fun _ _ => rfl)) (pa_cons (pe_ix (ix_listK K) (pv 2) pe_int (fun _ _ => rfl)) pa_nil))) (blkOk_by (N := N) (sc := SC) (by decide +kernel)) (fun _ _ _ _ _ => (pg_tupK (n := 2) K rfl (pgs_cons (pg_name (i := 6) nd rfl (Or.inl rfl)) (pgs_cons (pg_name (i := 7) nd rfl (Or.inl rfl)) pgs_nil)))) (fun _ _ _ _ _ => pts_nil) (fun _ _ _ _ _ => (pe_callB call_abs (by rfl) T.b_abs (by decide +kernel) (pa_cons (pe_op op_sub (pv 6) (pv 7)) pa_nil)))) pa_nil)))))), ?_⟩
    obtain ⟨x, rfl, hp, hq⟩ := h

    obtain ⟨one, g⟩ := x
    obtain ⟨h1, h2, hb⟩ := hp
    replace h1 : one.length ≤ 1000 := h1
    replace h2 : g.length ≤ 1000 := h2
    replace hb : cB one = cB g := hb
    refine q_asgL (el_lst ea_nil (by decide)) fun l H1 hl0 e1 hl1 => ?_
    have mt : ∀ {h : Hp}, (∃ zs, h l = some (.lst zs)) → MutA (fun a => a = l) h := fun {h} ⟨zs, e⟩ a ea => ⟨.lst zs, by have ea : a = l := ea; rw [ea]; exact e, rfl⟩
    refine r_forM (ej_tupR (K := K) (xs := [one, g]) (R := fun r => Is (.str (rs r))) (fun _ => ro_is) ((r_tup (ea_cons (ev_var rfl) (ea_cons (ev_var rfl) ea_nil)) (Nat.le_of_ble_eq_true rfl)).imp fun v H2 _ ⟨p, hp1, hp2⟩ => ⟨p, _, hp1, st_of hp2, rfl, fun i x y hx hy => by
      match i with
      | 0 => cases hx; cases hy; rfl
      | 1 => cases hx; cases hy; rfl
      | i + 2 => simp at hx⟩)) (fun a => a = l) (mt ⟨_, hl1⟩) fun H2 e2 =>
      ⟨fun n σ' H' => (∃ e, σ' = [some (.str (rs one)), some (.str (rs g)), some (.ref l), e, none, none, none, none]) ∧ ExM (fun a => a = l) H2 H' ∧ ∃ ys, H' l = some (.lst ys) ∧ Al (fun r v => ∀ zs, LsN NtR (rowL r) v (upd H' l (.lst zs))) ([one, g].take n) ys,
        ⟨⟨_, rfl⟩, ExM.refl _ _, [], e2 _ _ hl1, Al.nil⟩, fun n σ' H' p => p.2.1, ?_, ?_⟩
    · rintro n σ' H3 u H4 hn ⟨⟨e, rfl⟩, ex, ys, hy, al⟩ ⟨rfl, r, hr, hu⟩
      have hu : u = .str (rs r) := hu
      subst hu
      have hrl : r.length ≤ 1000 := by
        match n with
        | 0 => cases hr; exact h1
        | 1 => cases hr; exact h2
        | n + 2 => simp at hr
      refine s_appG (P := LsN (fun i : Nat => NtR (cA (r.take i))) (giv r.length fun i => r[i]? == some false)) hy (ev_var rfl) ?_ (by have := al.len; rw [← this]; simp; omega) fun v H5 e5 hv => ?_
      · have := r_lcG (te := tM1 rCntS (tSl rSlS (tVar 3) tNoPart (tPart (tVar 4))) (tC (.str "a"))) (tt := tTest (tOp rEq (tVar 5) (tC (.str "b")))) (vs := [4, 5]) (σ := [some (.str (rs one)), some (.str (rs g)), some (.ref l), some (.str (rs r)), none, none, none, none]) (g := gTup K 2 (gCons (gName 4) (gCons (gName 5) gNil)))
          (H := H4) (wi := iEnumS (tCons (tVar 3) tNil)) (fun i : Nat => NtR (cA (r.take i))) (fun i => r[i]? == some false) (fun _ => keeps_is) (fun _ => stF_is) (ei_enumS (z := rs r) (ev_var rfl)) (by rw [rs_size]; omega) (by
            rintro i y H5 H6 hi e3 ⟨T, c, rfl, hT, rfl, hc⟩
            obtain ⟨b', hb', rfl⟩ := rs_at hc
            refine ⟨Ex.new hT, _, fun Q q => g2n (st_of upd_same) q, rfl, ?_, fun _ => (Ev.r (ev_cnt (r := r.take i) (ev_hi (ev_var rfl) (ev_var rfl) (by omega)) ev_cA)).gg stF_is⟩
            refine et_is (et_test (ev_op (ev_var rfl) ev_cB (rv_eq rfl))) ?_
            show decide (V.str (rs [b']) = V.str (rs [false])) = (r[i]? == some false)
            rw [rs_eqN, hb', Bool.eq_iff_iff]
            simp)
        rw [rs_size] at this
        exact this
      · refine ⟨⟨_, rfl⟩, (ex.trans (ExM.ex e5)).set rfl, _, upd_same, ?_⟩
        rw [List.take_add_one, hr]
        refine Al.snoc (al.mono fun q w hw zs => ?_) fun zs => ?_
        · rw [upd_two]
          exact keeps_lsn (fun _ => keeps_is) _ _ _ (ex_both e5) (hw zs)
        · rw [upd_two]
          have := (hv zs).map (S := NtR) (h := fun i => cA (r.take i)) fun _ _ q => q
          unfold giv at this
          rw [rows_eq] at this
          exact this
    · rintro σ' H3 ⟨⟨e, rfl⟩, ex, ys, hy, al⟩
      have al2 : Al (fun r v => LsN NtR (rowL r) v H3) [one, g] ys := al.mono fun r v q => by
        have := q ys
        rw [upd_self hy] at this
        exact this
      have hls : LsO K (fun r => LsN NtR (rowL r)) [one, g] (.ref l) H3 := ⟨l, ys, rfl, sq_of hy, al2⟩
      have kk : ∀ r : Rn, Keeps (LsN NtR (rowL r)) := fun _ => keeps_lsn fun _ => keeps_is
      have it : ∀ {i : Nat} {r : Rn}, [one, g][i]? = some r → EvR (tOp (rIxL K) (tVar 2) (tC (.int (i : Nat)))) [some (.str (rs one)), some (.str (rs g)), some (.ref l), e, none, none, none, none] H3 fun v H1 => ∃ a, v = .ref a ∧ SqL K H1 a ((rowL r).map fun n => V.int (n : Nat)) := fun {i r} hr =>
        lsn_ints (P := fun _ _ => True) (r_ixLR (R := fun r => LsN NtR (rowL r)) kk (r_var (keeps_lso kk) rfl hls) ev_c hr)
      have hn1 : ((rowL one).map fun n => V.int (n : Nat)).length = ((rowL g).map fun n => V.int (n : Nat)).length := by simp [rowL, hb]
      have hcl : cB one ≤ 1000 := Nat.le_trans (List.count_le_length) h1
      have lc := r_lcO (te := tCB (fun xs H Q => ∃ i, xs = [.int i] ∧ Q (.int (if i < 0 then -i else i)) H) (tCons (tOp (rI0 fun i j => .int (i - j)) (tVar 6) (tVar 7)) tNil)) (tt := tYes) (vs := [6, 7]) (g := gTup K 2 (gCons (gName 6) (gCons (gName 7) gNil))) (fun i => NtR (((row one i : Nat) : Int) - ((row g i : Nat) : Int)).natAbs) (fun _ => true) (fun _ => keeps_is) (ei_zipL (it (i := 0) (r := one) rfl) (it (i := 1) (r := g) rfl) hn1) (by simp [rowL]; omega) (by
        rintro i y H5 H6 hi e3 ⟨T, x1, y1, rfl, hT, rfl, hx, hy1⟩
        have hi' : i < cB one := by simpa [rowL] using hi
        have ex1 : x1 = .int (row one i : Nat) := by
          simp [rowL, hi'] at hx
          exact hx.symm
        have ey1 : y1 = .int (row g i : Nat) := by
          simp [rowL, hb ▸ hi'] at hy1
          exact hy1.symm
        subst ex1 ey1
        refine ⟨Ex.new hT, _, fun Q q => g2n (st_of upd_same) q, rfl, et_yes, fun _ => (Ev.r ?_).gg stF_is⟩
        refine ev_is (ev_cb (ea_cons (ev_op (ev_var rfl) (ev_var rfl) rv_I0) ea_nil) fun H7 _ Q q => ⟨_, rfl, q H7 (Ex.refl _)⟩) ?_
        congr 1
        split <;> omega)
      refine r_ret (P := Is (.int (unl g one : Nat))) (r_cb (ea1 (keeps_lsn fun _ => keeps_is) lc) fun vs H5 e5 ⟨v, hvs, a, zs, hv, hz, alz⟩ Q' q => ?_) fun v' H4 e4 hv' => hq v' H4 ((ex_of (e1.trans e2) (fun a e => by have e : a = l := e; rw [e]; exact hl0) ex).trans e4) hv'
      rw [giv_all1] at alz
      have ez := al_is alz
      have el : ((rowL one).map fun n => V.int (n : Nat)).length = cB one := by simp [rowL]
      rw [el] at ez
      refine ⟨a, ((List.range (cB one)).map fun j => ((row one j : Int) - (row g j : Int)).natAbs).map (fun n : Nat => (n : Int)), by rw [hvs, hv], sq_of (by rw [hz, ez, List.map_map, List.map_map]; rfl), ?_⟩
      rw [sum_cast]
      exact q _ H5 (Ex.refl _) rfl
abbrev sp_w_row_right (K : PySem.W.Frag) : Sp := SpP (α := Thr × Thr × V × Rn × Rn) argRR (PreRR K) (fun _ => Is (.bl true))
namespace D_w_row_right
abbrev N : List Str := ["_law_pair_here", "_law_one", "_law_other", "_law_near", "_law_here", "_law_found", "_law_place"]
abbrev SC : Scope := defScope s_w_row_right
theorem sc : FnScope N ["_law_pair_here", "_law_one", "_law_other"] SC := ⟨rfl, rfl, rfl, by decide +kernel, rfl, by decide +kernel, by decide +kernel⟩
theorem nd : N.Nodup := sc.nd
end D_w_row_right
theorem way_take {g one : Rn} {f : List Nat} (w : Way g one f) : ∀ n, n ≤ f.length → Way g one (f.take n) := by
  intro n
  induction n with
  | zero => intro _; rw [List.take_zero]; exact Way.nil _ _
  | succ n ih =>
    intro h
    have hn : f[n]? = some f[n] := by simp
    rw [List.take_add_one, hn]
    exact (ih (by omega)).snoc (w.good n _ hn)
open D_w_row_right in
theorem ok_w_row_right {P : Program} {w : World} {K : PySem.W.Frag} {mg : Str → Option Value} {base : Heap} (T : Tx K mg) (O_exchanges : OK P w K mg base 8 "exchanges" ["pair", "run", "other"] (sp_exchanges K)) (O_w_concerned : OK P w K mg base 3 "_law_concerned" ["_law_pair_here"] (sp_w_concerned K)) (O_distance : OK P w K mg base 9 "distance" ["pair", "run", "other"] (sp_distance K)) (O_w_unlike : OK P w K mg base 1 "_law_unlike" ["_law_one", "_law_other"] (sp_w_unlike K)) (O_w_turned : OK P w K mg base 1 "_law_turned" ["_law_run", "_law_place"] (sp_w_turned K)) (O_alike : OK P w K mg base 7 "alike" ["pair", "run", "other"] (sp_alike K)) : OK P w K mg base 10 "_law_row_right" ["_law_pair_here", "_law_one", "_law_other"] (sp_w_row_right K) := by
  obtain ⟨fd, F⟩ := T.f_w_row_right
  refine OK.of T.g__law_row_right F (F.ok sc (fun vs H Q E h => ?len) (fun cdv A outer s H vs Q E hr h => ?body)) (F.bindsN fun _ _ _ _ _ _ us hl => match us, hl with | [_, _, _], _ => rfl)
  case len =>
    obtain ⟨x, rfl, _⟩ := h
    rfl
  case body =>
    have hu := hu_of hr
    refine ⟨_, PSs.nox (pss_cons (ps_par3 (i := 3) (j := 4) (l := 5) rfl nd rfl rfl rfl (by decide) (by decide) (by decide) rfl rfl rfl (pa_cons (pcall O_w_concerned hr (by decide) (pa_cons (pv 0) pa_nil)) (pa_cons (pv 1) (pa_cons (pcall O_exchanges hr (by decide) (pa_cons (pv 0) (pa_cons (pv 1) (pa_cons (pv 2) pa_nil)))) pa_nil))) rfl)
  (pss_cons (ps_if (PW.pt (pw_or (pt_cmpR op_ne (pe_callB (call_lenK K) (by rfl) T.b_len PySem.boot_len (pa_cons (pv 5) pa_nil)) (pcall O_w_unlike hr (by decide) (pa_cons (pv 1) (pa_cons (pv 2) pa_nil))) (nomark _)) (pw_or1 (pt_cmpR op_ne (pcall O_distance hr (by decide) (pa_cons (pv 0) (pa_cons (pv 1) (pa_cons (pv 2) pa_nil)))) (pe_callB (call_lenK K) (by rfl) T.b_len PySem.boot_len (pa_cons (pv 5) pa_nil)) (nomark _)))))
  (pss_one (ps_ret pe_bl))
  pss_nil)
  (pss_cons (ps_for PassesOwn.never rfl (pi_tupK K (pv 5)) (pg_name (i := 6) nd rfl (Or.inl rfl))
  (pss_cons (ps_if (PW.pt (pw_or (pt_not (pt_chain op_le op_lt pe_int (pv 6) (pe_op op_sub (pe_callB call_len_str (by rfl) T.b_len PySem.boot_len (pa_cons (pv 4) pa_nil)) pe_int))) (pw_or1 (pt_cmpR op_eq (pe_ix ix_str (pv 4) (pv 6) (fun _ _ => rfl)) (pe_ix ix_str (pv 4) (pe_op op_add (pv 6) pe_int) (fun _ _ => rfl)) (nomark _)))))
  (pss_one (ps_ret pe_bl))
  pss_nil)
  (pss_cons (ps_if (pt_cmp (pc_din hu (pe_tup (pa_cons (pe_m1 PySem.F.slot_str_count PySem.F.type_str_count mt_count (pe_slice sl_str (pv 4) po_none (po_some (pv 6))) pe_str) (pa_cons (pe_m1 PySem.F.slot_str_count PySem.F.type_str_count mt_count (pe_slice sl_str (pv 4) po_none (po_some (pv 6))) pe_str) pa_nil))) (pv 3)))
  (pss_one (ps_ret pe_bl))
  pss_nil)
  (pss_one (ps_set (i := 4) nd rfl (Or.inl rfl) (pcall O_w_turned hr (by decide) (pa_cons (pv 4) (pa_cons (pv 6) pa_nil))))))))
  (pss_one (ps_ret (pe_and (pe_cmpR op_eq (pv 4) (pv 2) (nomark _)) (pe_one (pe_cmpR op_isBl (pcall O_alike hr (by decide) (pa_cons (pv 0) (pa_cons (pv 1) (pa_cons (pv 2) pa_nil)))) pe_bl (nomark _))))))))), ?_⟩
    obtain ⟨x, rfl, hp, hq⟩ := h

    obtain ⟨A, B, v, one, g⟩ := x
    obtain ⟨hpa, hA, hB, ⟨hr0, hrun⟩, ⟨hs0, hsun⟩, hw⟩ := hp
    replace hpa : PaR K A B v H := hpa
    replace hA : Gd A := hA
    replace hB : Gd B := hB
    replace hr0 : one.length ≤ 1000 := hr0
    replace hs0 : g.length ≤ 1000 := hs0
    replace hrun : isRunB A B one = true := hrun
    replace hsun : isRunB A B g = true := hsun
    replace hw : SameW A B one g := hw
    have Ro := isRunB_iff.mp hrun
    have Rg := isRunB_iff.mp hsun
    have pre : ∀ {H1 : Hp}, Ex H H1 → PreRR K (A, B, v, one, g) H1 := fun e => ⟨keeps_pa _ _ _ e hpa, hA, hB, ⟨hr0, hrun⟩, ⟨hs0, hsun⟩, hw⟩
    refine r_par3R (P := CcR A B) (P3 := ExR K g one) keeps_cc (f_call (ea_cons (ev_var rfl) ea_nil) fun H2 e Q q => ⟨(A, B, v), rfl, ⟨keeps_pa _ _ _ e hpa, hA, hB⟩, fun v' H' e' f hv => q v' H' e' f hv⟩).rr (ev_var rfl)
      (r_call (ea_cons (ev_var rfl) (ea_cons (ev_var rfl) (ea_cons (ev_var rfl) ea_nil))) fun H1 e Q q => ⟨(A, B, v, one, g), rfl, pre e, fun v' H' e' hv => q v' H' e' hv⟩) fun near found H1 e1 hnear ⟨f, way, hfin, hf⟩ => ?_
    have num : f.length = unl g one := by
      have h3 := way.num
      rw [hfin, unl_self, Nat.add_zero] at h3
      exact h3
    have lf : ∀ {σ2 : L2.St}, σ2[5]? = some (some found) → Ev (tCB (rLenS K) (tCons (tVar 5) tNil)) σ2 H1 (.int (unl g one : Nat)) := fun h => by
      rw [← num]
      exact v_lenT (fun _ => keeps_is) (r_var (keeps_tuo fun _ => keeps_is) h hf)
    refine q_when (b := false) (et_is (et_or (a := false) (b := false) (et_is (et_test (ev_op (lf rfl) (EvR.vv (z := .int (unl g one : Nat)) (r_call (ea_cons (ev_var rfl) (ea_cons (ev_var rfl) ea_nil)) fun H2 e Q q => ⟨(one, g), rfl, ⟨hr0, hs0, by show cB one = cB g; rw [Ro.b, Rg.b]⟩, fun v' H' e' hv => q v' H' e' hv⟩)) (rv_ne rfl))) (by simp))
      fun _ => et_is (et_test (ev_op (EvR.vv (z := .int (unl g one : Nat)) (r_call (ea_cons (ev_var rfl) (ea_cons (ev_var rfl) (ea_cons (ev_var rfl) ea_nil))) fun H2 e Q q => ⟨(A, B, v, one, g), rfl, pre (e1.trans e), fun v' H' e' hv => q v' H' e' hv⟩)) (lf rfl) (rv_ne rfl))) (by simp)) rfl) (fun h => by cases h) fun _ H2 e2 => ?_
    refine r_forM (ej_tupR (K := K) (xs := f) (R := NtR) (fun _ => ro_is) (r_var (keeps_tuo fun _ => keeps_is) rfl (keeps_tuo (fun _ => keeps_is) _ _ _ e2 hf))) NoM mutNo fun H3 e3 =>
      ⟨fun n σ' H' => (∃ e, σ' = [some v, some (.str (rs one)), some (.str (rs g)), some near, some (.str (rs (path one (f.take n)))), some found, e]) ∧ ExM NoM H3 H',
        ⟨⟨_, rfl⟩, ExM.refl _ _⟩, fun n σ' H' p => p.2, ?_, ?_⟩
    · rintro n σ' H4 u H5 hn ⟨⟨e, rfl⟩, ex⟩ ⟨rfl, p, hp, hu⟩
      have hu : u = .int (p : Nat) := hu
      subst hu
      have go := way.good n p hp
      have wn := way_take way n (by omega)
      have free := way_free hA.wf hB.wf Ro Rg hw wn go
      have hps : path one (f.take (n + 1)) = swp (path one (f.take n)) p := by rw [List.take_add_one, hp]; exact path_snoc _ _ _
      have hlen : (path one (f.take n)).length = one.length := by rw [← cAB, ← cAB one, wn.cnt.1, wn.cnt.2]
      generalize hh : path one (f.take n) = h at *
      have hp1 := go.1
      have hx : h[p]? = some h[p] := by simp
      have hy' : h[p + 1]? = some h[p + 1] := by simp
      have hne := go.ne
      generalize h[p] = x at hx
      generalize h[p + 1] = y at hy'
      rw [hx, hy'] at hne
      have hxy : x ≠ y := fun z => hne (by rw [z])
      have ei1 : ∀ {σ2 : L2.St} {H' : Hp}, σ2[6]? = some (some (.int (p : Nat))) → Ev (tOp (rI0 fun i j => .int (i + j)) (tVar 6) (tC (.int 1))) σ2 H' (.int ((p + 1 : Nat) : Int)) := fun h => ev_is (ev_op (ev_var h) ev_c rv_I0) (by show V.int ((p : Int) + 1) = _; congr 1)
      refine q_when (b := false) (et_is (et_or (a := false) (b := false) (et_is (et_not (et_test (ev_chain ev_c (ev_var rfl) (ev_op (ev_lenR (r := h) (ev_var rfl) (by omega)) ev_c rv_I0) rv_I0 rv_I0))) ?_) fun _ => et_is (et_test (ev_op (ev_ix (r := h) (p := p) (b := x) (ev_var rfl) (ev_var rfl) (by omega) hx) (ev_ix (r := h) (p := p + 1) (b := y) (ev_var rfl) (ei1 rfl) (by omega) hy') (rv_eq rfl))) ?_) rfl) (fun h => by cases h) fun _ H6 e6 => ?_
      · have a1 : decide ((0 : Int) ≤ ((p : Nat) : Int)) = true := decide_eq_true (by omega)
        have a2 : decide (((p : Nat) : Int) < ((h.length : Nat) : Int) - 1) = true := decide_eq_true (by omega)
        rw [a1, a2]
        rfl
      · rw [rs_eqN]
        exact decide_eq_false fun z => hxy (by cases z; rfl)
      have hnear6 : CcR A B near H6 := keeps_cc _ _ _ (((e2.trans e3).trans (exm_ex ex)).trans e6) hnear
      refine q_when (b := false) (et_is (et_B (ev_cin (A := A) (B := B) (i := cA (h.take p)) (j := cB (h.take p)) (r_tup (ea_cons (ev_cnt (r := h.take p) (b := true) (ev_hi (ev_var rfl) (ev_var rfl) (by omega)) ev_cA) (ea_cons (ev_cnt (r := h.take p) (b := false) (ev_hi (ev_var rfl) (ev_var rfl) (by omega)) ev_cB) ea_nil)) (Nat.le_of_ble_eq_true rfl)) (r_var keeps_cc rfl hnear6))) free) (fun h => by cases h) fun _ H7 e7 => ?_
      refine s_asg (v := .str (rs (swp h p))) (EvR.vv (r_call (ea_cons (ev_var rfl) (ea_cons (ev_var rfl) ea_nil)) fun H8 e Q q => ⟨(h, p), rfl, ⟨by show h.length ≤ 1000; omega, hp1⟩, fun v' H' e' hv => q v' H' e' hv⟩)) fun H8 e8 => ?_
      exact ⟨⟨_, by rw [hps]; rfl⟩, ex.trans (ExM.ex ((e6.trans e7).trans e8))⟩
    · rintro σ' H4 ⟨⟨e, rfl⟩, ex⟩
      rw [List.take_length, hfin]
      have e04 : Ex H H4 := ((e1.trans e2).trans e3).trans (exm_ex ex)
      refine r_ret (Ev.r (z := .bl true) (ev_is (ev_andV (a := true) (b := true) (ev_is (ev_op (ev_var rfl) (ev_var rfl) (rv_eq rfl)) (by simp)) fun _ => ev_is (ev_op (EvR.vv (z := .bl true) (r_call (ea_cons (ev_var rfl) (ea_cons (ev_var rfl) (ea_cons (ev_var rfl) ea_nil))) fun H2 e Q q => ⟨(A, B, v, one, g), rfl, pre (e04.trans e), fun v' H' e' hv => q v' H' e' hv⟩)) ev_c rv_isB) (by simp)) rfl)) fun v' H5 e5 hv' => hq v' H5 (e04.trans e5) hv'

end HdX
end

section
set_option Elab.async false
set_option linter.all false
set_option maxRecDepth 100000
set_option maxHeartbeats 4000000
namespace HdX
open PySem PySem.Spec PyProof.Rows L2 Evl
open _root_.TT hiding Run
/-! ### exchanged, its error, _law_told -/
/-- what the written part says of the two classes -/
structure Xt (K : PySem.W.Frag) : Prop where
  oC : OexC K (He.ga K "CannotExchange")
  xf : XfC K (He.ga K "CannotExchange")
  iC : PySem.W.findIn K (.ref (He.ga K "CannotExchange")) "__init__" = some (some (.ref (He.ma K (He.ga K "CannotExchange") "__init__")))
  tI : PySem.W.typeIn K (.ref (He.ma K (He.ga K "CannotExchange") "__init__")) = some (.type "function")
  hno : PySem.W.findIn K (.ref (He.ga K "CannotExchange")) "place" = some none
  rd : ∃ mc, ClX.CRead K (He.ga K "ThreadError") mc ∧ PySem.W.findCls K (.ref (He.ga K "ThreadError")) mc "__init__" = some (.val (.builtin "ValueError.__init__"))
  ms : PySem.W.exmOne K (.ref (He.ga K "CannotExchange")) (.ref (He.ga K "ThreadError")) = some true
structure OKX (P : Program) (w : World) (K : PySem.W.Frag) (mg : Str → Option Value) (base : Heap) (k : Nat) (x : Str) (ps : List Str) (sp : Sp) : Prop where
  gl : mg x = some (.ref (He.ga K x))
  fd : ∃ fd : FuncData, FnOk P w K mg base (L2.CX P w) k (He.ga K x) fd ps sp ∧ Binds K fd ps []
  kp : PySem.W.keepIn K (.ref (He.ga K x)) = true
theorem OKX.of {P : Program} {w : World} {K : PySem.W.Frag} {mg : Str → Option Value} {base : Heap} {k : Nat} {x q : Str} {ps : List Str} {sp : Sp} {a : Arguments} {b : List Stmt} {sc : Scope} {fd : FuncData} (g : mg x = some (.ref (He.ga K x)))
    (F : FunD K x q a b sc [] [] (He.ga K x) fd) (h : FnOk P w K mg base (L2.CX P w) k (He.ga K x) fd ps sp) (hb : Binds K fd ps []) : OKX P w K mg base k x ps sp := ⟨g, ⟨fd, h, hb⟩, F.kp⟩
def SpI (K : PySem.W.Frag) : Sp := fun vs H Q _ => ∃ x : Addr × Int, vs = [.ref x.1, .int x.2] ∧ H x.1 = some (exo x.1 (He.ga K "CannotExchange") none) ∧ ∀ dx, H dx = none → dx ≠ x.1 → Q .non (upd (upd H dx (exd dx [("place", .int x.2)])) x.1 (exo x.1 (He.ga K "CannotExchange") (some dx)))
abbrev sp_CannotExchange___init__ (K : PySem.W.Frag) : Sp := SpI K
namespace D_CannotExchange___init__
abbrev N : List Str := ["self", "place"]
abbrev SC : Scope := defScope s_CannotExchange___init__
theorem sc : FnScope N ["self", "place"] SC := ⟨rfl, rfl, rfl, by decide +kernel, rfl, by decide +kernel, by decide +kernel⟩
theorem nd : N.Nodup := sc.nd
end D_CannotExchange___init__
open D_CannotExchange___init__ in
theorem ok_CannotExchange___init__ {P : Program} {w : World} {K : PySem.W.Frag} {mg : Str → Option Value} {base : Heap} (T : Tx K mg)  (Y : Xt K): OKm P w K mg base 1 (He.ma K (He.ga K "CannotExchange") "__init__") ["self", "place"] (sp_CannotExchange___init__ K) := by
  obtain ⟨fd, F⟩ := T.f_CannotExchange___init__
  obtain ⟨mc, hrd, hvV⟩ := Y.rd
  refine ⟨fd, F.ok sc (fun vs H Q E h => ?len) (fun cdv A outer s H vs Q E hr h => ?body), F.bindsN fun _ _ _ _ _ _ us hl => match us, hl with | [_, _], _ => rfl⟩
  case len =>
    obtain ⟨x, rfl, _⟩ := h
    rfl
  case body =>
    have hu := hu_of hr
    refine ⟨_, PSs.nox (pss_cons (ps_expr (pe_veinitC rfl T.g_ThreadError hrd hvV (pa_cons (pv 0) (pa_cons pe_str pa_nil))))
  (pss_one (ps_ost (pv 0) (pv 1)))), ?_⟩
    obtain ⟨x, rfl, hp, hq⟩ := h

    obtain ⟨a, p⟩ := x
    exact ⟨_, rfl, a, _, [_], rfl, by decide, Y.oC, hp, ⟨_, rfl, _, rfl, a, _, rfl, Y.oC, Y.hno, .inl ⟨hp, fun dx h1 h2 => hq dx h1 h2⟩⟩⟩
def badP (A B : Thr) (r : Rn) (p : Nat) : Bool := decide (r[p]? = r[p + 1]?) || concB A B (cA (r.take p)) (cB (r.take p))
abbrev xPl (p : Nat) : HO := .xd [("place", .int (p : Nat))]
def SpX (K : PySem.W.Frag) : Sp := fun vs H Q E => ∃ x : Thr × Thr × V × Rn × Nat, vs = [x.2.2.1, .str (rs x.2.2.2.1), .int (x.2.2.2.2 : Nat)] ∧ (PreR K (x.1, x.2.1, x.2.2.1, x.2.2.2.1) H ∧ x.2.2.2.2 + 1 < x.2.2.2.1.length) ∧
  (badP x.1 x.2.1 x.2.2.2.1 x.2.2.2.2 = true → ∀ d H', Ex H H' → H' d = some (xPl x.2.2.2.2) → E (.ref (He.ga K "CannotExchange")) (some d) H') ∧ (badP x.1 x.2.1 x.2.2.2.1 x.2.2.2.2 = false → ∀ H', Ex H H' → Q (.str (rs (swp x.2.2.2.1 x.2.2.2.2))) H')
abbrev sp_exchanged (K : PySem.W.Frag) : Sp := SpX K
namespace D_exchanged
abbrev N : List Str := ["pair", "run", "place"]
abbrev SC : Scope := defScope s_exchanged
theorem sc : FnScope N ["pair", "run", "place"] SC := ⟨rfl, rfl, rfl, by decide +kernel, rfl, by decide +kernel, by decide +kernel⟩
theorem nd : N.Nodup := sc.nd
end D_exchanged
theorem raised {K : PySem.W.Frag} {σ : L2.St} {H H0 : Hp} {E : XK} {p : Nat} (h : σ[2]? = some (some (.int (p : Nat)))) (e0 : Ex H0 H) (k : ∀ d H', Ex H0 H' → H' d = some (xPl p) → E (.ref (He.ga K "CannotExchange")) (some d) H') :
    tMkO (He.ga K "CannotExchange") (SpI K) [] (tCons (tVar 2) tNil) σ H fun cls d H' => E cls d H' := by
  refine ⟨_, h, Nat.le_of_ble_eq_true rfl, fun a ha => ⟨(a, (p : Int)), rfl, upd_same, fun dx h1 h2 => ⟨rfl, dx, [("place", .int (p : Nat))], upd_same, ?_, ?_, ?_⟩⟩⟩
  · show upd _ a _ dx = _
    rw [upd_ne h2, upd_same]
  · replace h1 : upd H a (exo a (He.ga K "CannotExchange") none) dx = none := h1
    rw [upd_ne h2] at h1
    exact h1
  · replace h1 : upd H a (exo a (He.ga K "CannotExchange") none) dx = none := h1
    rw [upd_ne h2] at h1
    refine k dx _ (fun b o hb => ?_) upd_same
    have hb1 := e0 b o hb
    have n1 : b ≠ a := fun z => by rw [z, ha] at hb1; cases hb1
    have n2 : b ≠ dx := fun z => by rw [z, h1] at hb1; cases hb1
    rw [upd_ne n2, del_ne n1]
    show upd _ a _ b = _
    rw [upd_ne n1, upd_ne n2, upd_ne n1]
    exact hb1
open D_exchanged in
theorem ok_exchanged {P : Program} {w : World} {K : PySem.W.Frag} {mg : Str → Option Value} {base : Heap} (T : Tx K mg) (O_check_run : OK P w K mg base 5 "check_run" ["pair", "value"] (sp_check_run K)) (O_is_integer : OK P w K mg base 1 "is_integer" ["value"] (sp_is_integer K)) (O_step_pair : OK P w K mg base 1 "step_pair" ["run", "place"] (sp_step_pair K)) (O_concerned : OK P w K mg base 4 "concerned" ["pair"] (sp_concerned K)) (O_swapped : OK P w K mg base 1 "swapped" ["run", "place"] (sp_swapped K)) (Y : Xt K) (O_I : OKm P w K mg base 1 (He.ma K (He.ga K "CannotExchange") "__init__") ["self", "place"] (sp_CannotExchange___init__ K)) : OKX P w K mg base 6 "exchanged" ["pair", "run", "place"] (sp_exchanged K) := by
  obtain ⟨fd, F⟩ := T.f_exchanged
  obtain ⟨fdI, FI, bI⟩ := O_I
  refine OKX.of T.g_exchanged F (F.ok sc (fun vs H Q E h => ?len) (fun cdv A outer s H vs Q E hr h => ?body)) (F.bindsN fun _ _ _ _ _ _ us hl => match us, hl with | [_, _, _], _ => rfl)
  case len =>
    obtain ⟨x, rfl, _⟩ := h
    rfl
  case body =>
    have hu := hu_of hr
    refine ⟨_, (pss_cons (ps_expr (pcall O_check_run hr (by decide) (pa_cons (pv 0) (pa_cons (pv 1) pa_nil))))
  (pss_cons (ps_if (PW.pt (pw_or (pt_not (pt_val (pcall O_is_integer hr (by decide) (pa_cons (pv 2) pa_nil)) (fun _ => rfl))) (pw_or (pt_not (pt_chain op_le op_lt pe_int (pv 2) (pe_op op_sub (pe_callB call_len_str (by rfl) T.b_len PySem.boot_len (pa_cons (pv 1) pa_nil)) pe_int))) (pw_or1 (pt_cmpR op_eq (pe_ix ix_str (pv 1) (pv 2) (fun _ _ => rfl)) (pe_ix ix_str (pv 1) (pe_op op_add (pv 2) pe_int) (fun _ _ => rfl)) (nomark _))))))
  (pss_one (ps_raise rfl (takes_of rfl rfl rfl rfl) (pmk_oex Y.oC Y.iC Y.tI FI (hr.mono (by decide)) bI .nil pass0 rfl T.g_CannotExchange (pa_cons (pv 2) pa_nil))))
  pss_nil)
  (pss_cons (ps_if (pt_cmp (pc_din hu (pcall O_step_pair hr (by decide) (pa_cons (pv 1) (pa_cons (pv 2) pa_nil))) (pcall O_concerned hr (by decide) (pa_cons (pv 0) pa_nil))))
  (pss_one (ps_raise rfl (takes_of rfl rfl rfl rfl) (pmk_oex Y.oC Y.iC Y.tI FI (hr.mono (by decide)) bI .nil pass0 rfl T.g_CannotExchange (pa_cons (pv 2) pa_nil))))
  pss_nil)
  (pss_one (ps_ret (pcall O_swapped hr (by decide) (pa_cons (pv 1) (pa_cons (pv 2) pa_nil)))))))), ?_⟩
    obtain ⟨x, rfl, hp, hq⟩ := h

    obtain ⟨A, B, v, r, p⟩ := x
    obtain ⟨⟨hpa, hA, hB, hr0, hrun⟩, hpl⟩ := hp
    obtain ⟨hbad, hgood⟩ := hq
    replace hpa : PaR K A B v H := hpa
    replace hr0 : r.length ≤ 1000 := hr0
    replace hrun : isRunB A B r = true := hrun
    replace hpl : p + 1 < r.length := hpl
    replace hbad : badP A B r p = true → ∀ d H', Ex H H' → H' d = some (xPl p) → E (.ref (He.ga K "CannotExchange")) (some d) H' := hbad
    replace hgood : badP A B r p = false → ∀ H', Ex H H' → Q (.str (rs (swp r p))) H' := hgood
    have hx : r[p]? = some r[p] := by simp
    have hy : r[p + 1]? = some r[p + 1] := by simp
    generalize r[p] = x at hx
    generalize r[p + 1] = y at hy
    refine r_drop (P := Is .non) (r_call (ea_cons (ev_var rfl) (ea_cons (ev_var rfl) ea_nil)) fun H1 e Q q => ⟨(A, B, v, r), rfl, ⟨keeps_pa _ _ _ e hpa, hA, hB, hr0, hrun⟩, fun v' H' e' hv => q v' H' e' hv⟩) fun _ H1 e1 _ => ?_
    refine q_when (b := decide (x = y)) (et_is (et_or (a := false) (b := decide (x = y)) (et_is (et_not (et_B (EvR.vv (z := .bl true) (r_call (ea_cons (ev_var rfl) ea_nil) fun H1 e Q q => ⟨(p : Int), rfl, trivial, fun v' H' e' hv => q v' H' e' hv⟩)))) rfl)
      fun _ => et_is (et_or (a := false) (b := decide (x = y)) (et_is (et_not (et_test (ev_chain ev_c (ev_var rfl) (ev_op (ev_lenR (r := r) (ev_var rfl) (by omega)) ev_c rv_I0) rv_I0 rv_I0))) ?_) fun _ => et_is (et_test (ev_op (ev_ix (r := r) (p := p) (b := x) (ev_var rfl) (ev_var rfl) (by omega) hx) (ev_ix (r := r) (p := p + 1) (b := y) (ev_var rfl) (ev_is (ev_op (ev_var rfl) ev_c rv_I0) (by show V.int ((p : Int) + 1) = _; congr 1)) (by omega) hy) (rv_eq rfl))) ?_) rfl) rfl) (fun hb H2 e2 => ?_) fun hb H2 e2 => ?_
    · have a1 : decide ((0 : Int) ≤ ((p : Nat) : Int)) = true := decide_eq_true (by omega)
      have a2 : decide (((p : Nat) : Int) < ((r.length : Nat) : Int) - 1) = true := decide_eq_true (by omega)
      rw [a1, a2]
      rfl
    · rw [rs_eqN]
      exact decide_eq_decide.mpr ⟨fun z => by cases z; rfl, fun z => by rw [z]⟩
    · have hb' : badP A B r p = true := by unfold badP; rw [hx, hy, of_decide_eq_true hb]; simp
      exact raised rfl (e1.trans e2) (hbad hb')
    · have hxy : x ≠ y := of_decide_eq_false hb
      have hpa2 := keeps_pa _ _ _ (e1.trans e2) hpa
      refine q_when (b := concB A B (cA (r.take p)) (cB (r.take p))) (et_B (ev_cin (A := A) (B := B) (i := cA (r.take p)) (j := cB (r.take p)) (r_call (ea_cons (ev_var rfl) (ea_cons (ev_var rfl) ea_nil)) fun H6 e Q q => ⟨(r, p), rfl, hr0, fun v' H' e' hv => q v' H' e' hv⟩)
        (f_call (ea_cons (ev_var rfl) ea_nil) fun H6 e Q q => ⟨(A, B, v), rfl, ⟨keeps_pa _ _ _ e hpa2, hA, hB⟩, fun v' H' e' f hv => q v' H' e' f hv⟩).rr)) (fun hc H3 e3 => ?_) fun hc H3 e3 => ?_
      · have hb' : badP A B r p = true := by unfold badP; rw [hc, Bool.or_true]
        exact raised rfl ((e1.trans e2).trans e3) (hbad hb')
      · have hb' : badP A B r p = false := by
          unfold badP
          rw [hc, hx, hy, Bool.or_false]
          exact decide_eq_false fun z => hxy (Option.some.inj z)
        exact r_ret (P := Is (.str (rs (swp r p)))) (r_call (ea_cons (ev_var rfl) (ea_cons (ev_var rfl) ea_nil)) fun H8 e Q q => ⟨(r, p), rfl, ⟨hr0, hpl⟩, fun v' H' e' hv => q v' H' e' hv⟩) fun v' H4 e4 hv' => by
          have hv' : v' = .str (rs (swp r p)) := hv'
          rw [hv']
          exact hgood hb' H4 (((e1.trans e2).trans e3).trans e4)
def toldV (A B : Thr) (r : Rn) (p : Nat) : List V := if badP A B r p = true then [.str "place", .int (p : Nat)] else [.str "run", .str (rs (swp r p))]
theorem rv_isN {x : V} {H : Hp} : RV (fun x y H Q => y = .non ∧ Q (.bl (decide (x = .non))) H) x .non H (.bl (decide (x = .non))) := fun H1 _ Q q => ⟨rfl, q H1 (Ex.refl _)⟩
abbrev sp_w_told (K : PySem.W.Frag) : Sp := SpP (α := Thr × Thr × V × Rn × Nat) (fun x => [x.2.2.1, .str (rs x.2.2.2.1), .int (x.2.2.2.2 : Nat)]) (fun x H => PreR K (x.1, x.2.1, x.2.2.1, x.2.2.2.1) H ∧ x.2.2.2.2 + 1 < x.2.2.2.1.length) (fun x => IsTup (toldV x.1 x.2.1 x.2.2.2.1 x.2.2.2.2))
namespace D_w_told
abbrev N : List Str := ["_law_pair_here", "_law_run", "_law_place", "_law_caught", "_law_found", "error"]
abbrev SC : Scope := defScope s_w_told
theorem sc : FnScope N ["_law_pair_here", "_law_run", "_law_place"] SC := ⟨rfl, rfl, rfl, by decide +kernel, rfl, by decide +kernel, by decide +kernel⟩
theorem nd : N.Nodup := sc.nd
end D_w_told
open D_w_told in
theorem ok_w_told {P : Program} {w : World} {K : PySem.W.Frag} {mg : Str → Option Value} {base : Heap} (T : Tx K mg)  (Y : Xt K) (O_X : OKX P w K mg base 6 "exchanged" ["pair", "run", "place"] (sp_exchanged K)) : OK P w K mg base 7 "_law_told" ["_law_pair_here", "_law_run", "_law_place"] (sp_w_told K) := by
  obtain ⟨fd, F⟩ := T.f_w_told
  obtain ⟨fdX, GX, bX⟩ := O_X.fd
  refine OK.of T.g__law_told F (F.ok sc (fun vs H Q E h => ?len) (fun cdv A outer s H vs Q E hr h => ?body)) (F.bindsN fun _ _ _ _ _ _ us hl => match us, hl with | [_, _, _], _ => rfl)
  case len =>
    obtain ⟨x, rfl, _⟩ := h
    rfl
  case body =>
    have hu := hu_of hr
    refine ⟨_, PSs.nox (pss_cons (ps_asg (pe_tup (pa_cons pe_non (pa_cons pe_non pa_nil))) (pg_tupK (n := 2) K rfl (pgs_cons (pg_name (i := 3) nd rfl (Or.inl rfl)) (pgs_cons (pg_name (i := 4) nd rfl (Or.inl rfl)) pgs_nil))))
  (pss_cons (ps_try_keep (i := 5) (tb := fun W => tAsg (tCallS (sp_exchanged K) (WE W) (tCons (tVar 0) (tCons (tVar 1) (tCons (tVar 2) tNil)))) (gName 4)) (ts := fun a cls d => tAsg (tVar 5) (gName 3)) rfl rfl rfl nd rfl rfl ⟨rfl, by decide, Or.inl T.g_ThreadError⟩ (fun W pn xe tk _ => pss_one (ps_set (i := 4) nd rfl (Or.inl rfl) (by exact (pe_callS GX hr rfl O_X.gl O_X.kp bX (fun σ => passAt tk σ) (by exact (pa_cons (pv 0) (pa_cons (pv 1) (pa_cons (pv 2) pa_nil)))))))) (fun a oe cls d pn hz hf => pss_one (ps_set (i := 3) nd rfl (Or.inl rfl) (pv 5))))
  (pss_cons (ps_if (pt_cmpR op_isN (pv 3) pe_non (nomark _))
  (pss_one (ps_ret (pe_tup (pa_cons pe_str (pa_cons (pv 4) pa_nil)))))
  pss_nil)
  (pss_one (ps_ret (pe_ifExp (pt_val (pe_callB (call_isH (C := He.ga K "CannotExchange")) (by rfl) T.b_isinstance (by decide +kernel) (pa_cons (pv 3) (pa_cons (pe_gr rfl T.g_CannotExchange) pa_nil))) (fun _ => rfl)) (pe_tup (pa_cons pe_str (pa_cons (pe_xh Y.xf Y.hno (pv 3)) pa_nil))) (pe_tup (pa_cons pe_str (pa_cons pe_non pa_nil))))))))), ?_⟩
    obtain ⟨x, rfl, hp, hq⟩ := h

    obtain ⟨A, B, v, r, p⟩ := x
    obtain ⟨⟨hpa, hA, hB, hr0, hrun⟩, hpl⟩ := hp
    replace hpa : PaR K A B v H := hpa
    replace hq : ∀ v' H', Ex H H' → IsTup (toldV A B r p) v' H' → Q v' H' := hq
    refine r_asgG (P := IsTup [.non, .non]) (r_tup (ea_cons ev_c (ea_cons ev_c ea_nil)) (Nat.le_of_ble_eq_true rfl)) fun tv H1 e1 ⟨pt, etv, hpt⟩ => ?_
    subst etv
    refine g2n (st_of hpt) ?_
    refine ⟨_, rfl, _, rfl, _, rfl, ⟨(A, B, v, r, p), rfl, ⟨⟨keeps_pa _ _ _ e1 hpa, hA, hB, hr0, hrun⟩, hpl⟩, fun hb d H2 e2 hd => ⟨Y.ms, fun a ha => ⟨_, rfl, fun ha2 => ?_⟩⟩, fun hb H2 e2 => ?_⟩⟩
    · replace hb : badP A B r p = true := hb
      have et : toldV A B r p = [.str "place", .int (p : Nat)] := by unfold toldV; rw [if_pos hb]
      rw [et] at hq
      have nd : d ≠ a := fun z => by rw [z, ha] at hd; cases hd
      refine q_when (b := false) (et_is (et_test (ev_op (x := .ref a) (ev_var rfl) ev_c rv_isN)) (decide_eq_false (fun z => nomatch z))) (fun h => by cases h) fun _ H3 e3 => ?_
      have ha3 : H3 a = some (exh a (.ref (He.ga K "CannotExchange")) (some d)) := e3 _ _ upd_same
      have hd3 : H3 d = some (xPl p) := e3 _ _ (by rw [upd_ne nd]; exact hd)
      refine r_ret (P := IsTup [.str "place", .int (p : Nat)]) (r_if (b := true) (et_B (ev_cb (ea_cons (ev_var rfl) (ea_cons ev_c ea_nil)) ?_)) (fun _ => r_tup (ea_cons ev_c (ea_cons ?_ ea_nil)) (Nat.le_of_ble_eq_true rfl)) fun h => by cases h) fun v' H4 e4 hv' => hq v' H4 (((e1.trans e2).trans (Ex.new ha)).trans (e3.trans e4)) hv'
      · exact fun H4 e4 Q q => ⟨a, some d, _, rfl, fun u hu => hu, e4 _ _ ha3, q H4 (Ex.refl _)⟩
      · exact fun H4 e4 Q q => ⟨_, rfl, a, d, [("place", .int (p : Nat))], .int (p : Nat), rfl, e4 _ _ ha3, e4 _ _ hd3, rfl, q H4 (Ex.refl _)⟩
    · replace hb : badP A B r p = false := hb
      have et : toldV A B r p = [.str "run", .str (rs (swp r p))] := by unfold toldV; rw [if_neg (by rw [hb]; decide)]
      rw [et] at hq
      refine q_when (b := true) (et_is (et_test (ev_op (ev_var rfl) ev_c rv_isN)) (decide_eq_true rfl)) (fun _ H3 e3 => ?_) (fun h => by cases h)
      exact r_ret (P := IsTup [.str "run", .str (rs (swp r p))]) (r_tup (ea_cons ev_c (ea_cons (ev_var rfl) ea_nil)) (Nat.le_of_ble_eq_true rfl)) fun v' H4 e4 hv' => hq v' H4 ((e1.trans e2).trans (e3.trans e4)) hv'

end HdX
end

section
set_option Elab.async false
set_option linter.all false
set_option maxRecDepth 100000
set_option maxHeartbeats 4000000
namespace HdX
open PySem PySem.Spec PyProof.Rows L2 Evl
open _root_.TT hiding Run
/-! ### the source of numbers: three ints, changed in place -/
def Src (H : Hp) (g : Addr) (n : Nat) : Prop := ∃ a b c : Int, H g = some (.lst [.int a, .int b, .int c]) ∧ (0 ≤ b ∧ b < 2305843009213693907) ∧ 0 ≤ c ∧ c ≤ n
abbrev Mg (g : Addr) : Addr → Prop := fun a => a = g
theorem Src.ex {H H' : Hp} {g : Addr} {n : Nat} (h : Src H g n) (e : Ex H H') : Src H' g n := let ⟨a, b, c, h1, h2⟩ := h; ⟨a, b, c, e _ _ h1, h2⟩
theorem Src.mono {H : Hp} {g : Addr} {n m : Nat} (h : Src H g n) (e : n ≤ m) : Src H g m := let ⟨a, b, c, h1, h2, h3, h4⟩ := h; ⟨a, b, c, h1, h2, h3, by omega⟩
theorem Src.mut {H : Hp} {g : Addr} {n : Nat} (h : Src H g n) : MutA (Mg g) H := fun a e => by
  obtain ⟨x, b, c, h1, _⟩ := h
  have e : a = g := e
  subst e
  exact ⟨_, h1, rfl⟩
/-- of a def that draws: what it is given, what it gives; the source's count may grow by bud -/
def SpG {α : Type} (bud : Nat) (args : α → List V) (Pre : Addr → α → Hp → Prop) (Post : α → VR) : Sp := fun vs H Q _ => ∃ x : α × Addr × Nat, vs = .ref x.2.1 :: args x.1 ∧ (Src H x.2.1 x.2.2 ∧ x.2.2 + bud ≤ 100000 ∧ Pre x.2.1 x.1 H) ∧
  ∀ v H', ExM (Mg x.2.1) H H' → Src H' x.2.1 (x.2.2 + bud) → Post x.1 v H' → Q v H'
section
variable {K : PySem.W.Frag} {σ : L2.St} {H : Hp} {D : Ends} {tz : TS} {Q : VK}
theorem c_call {sp : Sp} {ta : TA} {vs : List V} (h : EvA ta σ H vs) (k : ∀ H1, Ex H H1 → sp vs H1 Q E0) : tCall sp [] E0 ta σ H Q := h H (Ex.refl H) _ fun H1 e1 => by
  show sp (vs ++ []) H1 Q E0
  rw [List.append_nil]
  exact k H1 e1
theorem src_ix {g : Addr} {xs : List V} {tg ti : TE} {i : Nat} {x : V} (hg : H g = some (.lst xs)) (h : Ev tg σ H (.ref g)) (hi : Ev ti σ H (.int (i : Nat))) (hx : xs[i]? = some x) : Ev (tOp (rIxL K) tg ti) σ H x := r_ixL ((Ev.r h).imp fun v H1 e hv => ⟨g, hv, sq_of (e _ _ hg)⟩) hi hx
theorem rv_pow {i j : Int} (h : CPow i j) : RV (rI CPow fun i j => .int (i ^ j.toNat)) (.int i) (.int j) H (.int (i ^ j.toNat)) := rv_I h
theorem rv_mul {i j : Int} (h : CMul i j) : RV (rI CMul fun i j => .int (i * j)) (.int i) (.int j) H (.int (i * j)) := rv_I h
theorem rv_mod {i j : Int} (h : 0 < j) : RV (rI (fun _ j => 0 < j) fun i j => .int (i % j)) (.int i) (.int j) H (.int (i % j)) := rv_I h
theorem rv_div {i j : Int} (h : CDiv i j) : RV (rI CDiv fun i j => .int (i / j)) (.int i) (.int j) H (.int (i / j)) := rv_I h
end
abbrev sp_w_start (K : PySem.W.Frag) : Sp := SpF (α := Addr × List Int × Nat) (fun x => [.ref x.1, .int (x.2.2 : Nat)]) (fun x H => SqL K H x.1 (x.2.1.map V.int) ∧ x.2.2 ≤ 10) (fun _ v H => ∃ g, v = .ref g ∧ Src H g 0)
namespace D_w_start
abbrev N : List Str := ["_law_script", "_law_k", "_law_cell", "_law_large"]
abbrev SC : Scope := defScope s_w_start
theorem sc : FnScope N ["_law_script", "_law_k"] SC := ⟨rfl, rfl, rfl, by decide +kernel, rfl, by decide +kernel, by decide +kernel⟩
theorem nd : N.Nodup := sc.nd
end D_w_start
open D_w_start in
theorem ok_w_start {P : Program} {w : World} {K : PySem.W.Frag} {mg : Str → Option Value} {base : Heap} (T : Tx K mg)  : OK P w K mg base 1 "_law_start" ["_law_script", "_law_k"] (sp_w_start K) := by
  obtain ⟨fd, F⟩ := T.f_w_start
  refine OK.of T.g__law_start F (F.ok sc (fun vs H Q E h => ?len) (fun cdv A outer s H vs Q E hr h => ?body)) (F.bindsN fun _ _ _ _ _ _ us hl => match us, hl with | [_, _], _ => rfl)
  case len =>
    obtain ⟨x, rfl, _⟩ := h
    rfl
  case body =>
    have hu := hu_of hr
    refine ⟨_, PSs.nox (pss_cons (ps_set (i := 2) nd rfl (Or.inl rfl) (pe_ifExp (pt_cmpR op_lt (pv 1) (pe_callB (call_lenK K) (by rfl) T.b_len PySem.boot_len (pa_cons (pv 0) pa_nil)) (nomark _)) (pe_ix (ix_listK K) (pv 0) (pv 1) (fun _ _ => rfl)) (pe_op op_add (pe_op op_mul pe_int (pv 1)) pe_int)))
  (pss_cons (ps_set (i := 3) nd rfl (Or.inl rfl) (pe_op op_mul (pe_op op_mod (pe_callB call_abs (by rfl) T.b_abs (by decide +kernel) (pa_cons (pv 2) pa_nil)) (pe_op op_powW (pe_op op_pow pe_int pe_int) pe_int)) (pe_callTy call_int1 (by rfl) T.b_int (by decide +kernel) (pa_cons (pe_cmpR op_ge (pe_callB call_abs (by rfl) T.b_abs (by decide +kernel) (pa_cons (pv 2) pa_nil)) (pe_op op_pow pe_int pe_int) (nomark _)) pa_nil))))
  (pss_one (ps_ret (pe_lst (pa_cons (pv 3) (pa_cons (pe_op op_mod (pe_op op_mul (pe_op op_add (pe_op op_add (pe_op op_mod (pv 2) pe_int) (pe_op op_mul (pe_op op_mul pe_int (pv 1)) (pv 1))) pe_int) pe_int) pe_int) (pa_cons pe_int pa_nil)))))))), ?_⟩
    obtain ⟨x, rfl, hp, hq⟩ := h

    obtain ⟨a, ns, k⟩ := x
    obtain ⟨hs, hk⟩ := hp
    replace hs : SqL K H a (ns.map V.int) := hs
    replace hk : k ≤ 10 := hk
    obtain ⟨cell, hcell⟩ : ∃ cell : Int, (k < ns.length → (ns.map V.int)[k]? = some (.int cell)) ∧ (¬ k < ns.length → cell = 13 * (k : Int) + 7) := by
      by_cases h : k < ns.length
      · exact ⟨ns[k], fun _ => by simp [h], fun z => absurd h z⟩
      · exact ⟨13 * (k : Int) + 7, fun z => absurd z h, fun _ => rfl⟩
    refine q_asg (v := .int cell) (ev_if (b := decide (k < ns.length)) ?_ (fun hb => ?_) fun hb => ?_) fun H1 e1 => ?_
    · refine et_is (et_test (ev_op (x := .int (k : Nat)) (ev_var rfl) (ev_len (p := a) (xs := ns.map V.int) (ev_var rfl) hs) rv_I0)) ?_
      rw [List.length_map]
      exact decide_eq_decide.mpr (by omega)
    · exact r_ixL (i := k) ((Ev.r (z := .ref a) (ev_var rfl)).imp fun v H1 e hv => ⟨a, hv, ex_l e hs⟩) (ev_var rfl) (hcell.1 (of_decide_eq_true hb))
    · exact ev_is (ev_op (ev_op ev_c (ev_var rfl) (rv_mul (.inl ⟨by decide, by decide⟩))) ev_c rv_I0) (by rw [hcell.2 (of_decide_eq_false hb)])
    have abs : ∀ {σ2 : L2.St} {H2 : Hp}, σ2[2]? = some (some (.int cell)) → Ev (tCB (fun xs H Q => ∃ i, xs = [.int i] ∧ Q (.int (if i < 0 then -i else i)) H) (tCons (tVar 2) tNil)) σ2 H2 (.int (if cell < 0 then -cell else cell)) := fun h => ev_cb (ea_cons (ev_var h) ea_nil) fun H3 _ Q q => ⟨_, rfl, q H3 (Ex.refl _)⟩
    generalize (if cell < 0 then -cell else cell) = ab at abs
    refine q_asg (ev_op (ev_op (abs rfl) (ev_op (ev_op ev_c ev_c (rv_pow ⟨by decide, by decide, by decide⟩)) ev_c (rv_I ⟨by decide, by decide +kernel⟩)) (rv_mod (by decide +kernel))) (ev_cb (ea_cons (ev_op (abs rfl) (ev_op ev_c ev_c (rv_pow ⟨by decide, by decide, by decide⟩)) rv_I0) ea_nil) fun H3 _ Q q => .inr ⟨_, rfl, q H3 (Ex.refl _)⟩) (rv_mul (.inr (by split <;> exact ⟨by decide, by decide⟩)))) fun H2 e2 => ?_
    refine s_retL (el_lst (ea_cons (ev_var rfl) (ea_cons (ev_op (ev_op (ev_op (ev_op (ev_op (ev_var rfl) ev_c (rv_mod (by decide))) (ev_op (ev_op ev_c (ev_var rfl) (rv_mul (.inl ⟨by decide, by decide⟩))) (ev_var rfl) (rv_mul (j := (k : Nat)) (.inr ⟨by omega, by omega⟩))) rv_I0) ev_c rv_I0) ev_c (rv_mul (.inr ⟨by decide, by decide⟩))) ev_c (rv_mod (by decide))) (ea_cons ev_c ea_nil))) (Nat.le_of_ble_eq_true rfl)) fun p H3 hp0 e3 hp3 => ?_
    exact hq _ H3 ((e1.trans e2).trans e3) (fun b e => by cases e; exact fresh_back (e1.trans e2) hp0) ⟨p, rfl, _, _, _, hp3, ⟨Int.emod_nonneg _ (by decide), Int.emod_lt_of_pos _ (by decide)⟩, by decide, by decide⟩
abbrev sp_w_draw (K : PySem.W.Frag) : Sp := SpG (α := Int) 1 (fun x => [.int x]) (fun _ x _ => 0 < x ∧ x < 1073741824) (fun x v _ => ∃ r : Nat, v = .int (r : Nat) ∧ (r : Int) < x)
namespace D_w_draw
abbrev N : List Str := ["_law_source", "_law_limit", "_law_digit", "_law_prime", "_law_mixed_here"]
abbrev SC : Scope := defScope s_w_draw
theorem sc : FnScope N ["_law_source", "_law_limit"] SC := ⟨rfl, rfl, rfl, by decide +kernel, rfl, by decide +kernel, by decide +kernel⟩
theorem nd : N.Nodup := sc.nd
end D_w_draw
theorem nat_of {z L : Int} (hL : 0 < L) : ∃ r : Nat, V.int (z % L) = V.int (r : Nat) ∧ (r : Int) < L := ⟨(z % L).toNat, by rw [Int.toNat_of_nonneg (Int.emod_nonneg _ (by omega))], by rw [Int.toNat_of_nonneg (Int.emod_nonneg _ (by omega))]; exact Int.emod_lt_of_pos _ hL⟩
def primes7 : List Int := [2147483647, 2147483629, 2147483587, 2147483579, 2147483563, 2147483549, 2147483543]
open D_w_draw in
theorem ok_w_draw {P : Program} {w : World} {K : PySem.W.Frag} {mg : Str → Option Value} {base : Heap} (T : Tx K mg)  : OK P w K mg base 1 "_law_draw" ["_law_source", "_law_limit"] (sp_w_draw K) := by
  obtain ⟨fd, F⟩ := T.f_w_draw
  refine OK.of T.g__law_draw F (F.ok sc (fun vs H Q E h => ?len) (fun cdv A outer s H vs Q E hr h => ?body)) (F.bindsN fun _ _ _ _ _ _ us hl => match us, hl with | [_, _], _ => rfl)
  case len =>
    obtain ⟨x, rfl, _⟩ := h
    rfl
  case body =>
    have hu := hu_of hr
    refine ⟨_, PSs.nox (pss_cons (ps_if (pt_cmpR op_gt (pe_ix (ix_listK K) (pv 0) pe_int (fun _ _ => rfl)) pe_int (nomark _))
  (pss_cons (ps_set (i := 2) nd rfl (Or.inl rfl) (pe_op op_mod (pe_ix (ix_listK K) (pv 0) pe_int (fun _ _ => rfl)) (pv 1)))
  (pss_cons (ps_asg (pe_op op_fdiv (pe_ix (ix_listK K) (pv 0) pe_int (fun _ _ => rfl)) (pv 1)) (pg_sub (pv 0) pe_int set_list (fun _ => rfl)))
  (pss_one (ps_ret (pv 2)))))
  pss_nil)
  (pss_cons (ps_asg (pe_op op_add (pe_ix (ix_listK K) (pv 0) pe_int (fun _ _ => rfl)) pe_int) (pg_sub (pv 0) pe_int set_list (fun _ => rfl)))
  (pss_cons (ps_set (i := 3) nd rfl (Or.inl rfl) (pe_ix (ix_listK K) (pe_lst (pa_cons pe_int (pa_cons pe_int (pa_cons pe_int (pa_cons pe_int (pa_cons pe_int (pa_cons pe_int (pa_cons pe_int pa_nil)))))))) (pe_op op_mod (pe_ix (ix_listK K) (pv 0) pe_int (fun _ _ => rfl)) pe_int) (fun _ _ => rfl)))
  (pss_cons (ps_set (i := 4) nd rfl (Or.inl rfl) (pe_op op_mod (pe_op op_pow (pe_op op_add (pe_op op_add (pe_ix (ix_listK K) (pv 0) pe_int (fun _ _ => rfl)) (pe_op op_mul (pe_op op_mul pe_int (pe_ix (ix_listK K) (pv 0) pe_int (fun _ _ => rfl))) (pe_ix (ix_listK K) (pv 0) pe_int (fun _ _ => rfl)))) pe_int) pe_int) (pv 3)))
  (pss_one (ps_ret (pe_op op_mod (pe_op op_fdiv (pe_op op_mod (pe_op op_mul (pv 4) (pe_op op_add (pe_op op_mod (pv 4) pe_int) (pe_op op_mul pe_int (pe_ix (ix_listK K) (pv 0) pe_int (fun _ _ => rfl))))) pe_int) pe_int) (pv 1)))))))), ?_⟩
    obtain ⟨x, rfl, hp, hq⟩ := h

    obtain ⟨L, g, n⟩ := x
    obtain ⟨⟨a, b, c, hg, ⟨b0, b1⟩, c0, c1⟩, hn, L0, L1⟩ := hp
    replace hg : H g = some (.lst [.int a, .int b, .int c]) := hg
    replace hn : n + 1 ≤ 100000 := hn
    replace L0 : 0 < L := L0
    replace L1 : L < 1073741824 := L1
    replace c1 : c ≤ n := c1
    replace hq : ∀ v H', ExM (Mg g) H H' → Src H' g (n + 1) → (∃ r : Nat, v = .int (r : Nat) ∧ (r : Int) < L) → Q v H' := hq
    refine q_when (b := decide (0 < a)) (et_test (ev_op (src_ix (i := 0) hg (ev_var rfl) ev_c rfl) ev_c rv_I0)) (fun _ H1 e1 => ?_) fun _ H1 e1 => ?_
    · refine q_asg (ev_op (src_ix (i := 0) (e1 _ _ hg) (ev_var rfl) ev_c rfl) (ev_var rfl) (rv_mod L0)) fun H2 e2 => ?_
      refine q_setL (j := 0) ((e1.trans e2) _ _ hg) (ev_op (src_ix (i := 0) ((e1.trans e2) _ _ hg) (ev_var rfl) ev_c rfl) (ev_var rfl) (rv_div ⟨L0, L1⟩)) (ev_var rfl) ev_c (by show 0 < 3; decide) fun H3 e3 => ?_
      refine r_ret (Ev.r (ev_var rfl)) fun v H4 e4 hv => hq v H4 ?_ ?_ ?_
      · exact (ExM.set (M := Mg g) (ExM.ex ((e1.trans e2).trans e3)) rfl).trans (ExM.ex e4)
      · exact ⟨_, b, c, e4 _ _ upd_same, ⟨b0, b1⟩, c0, by omega⟩
      · have hv : v = .int (a % L) := hv
        rw [hv]
        exact nat_of L0
    · refine q_setL (j := 2) (e1 _ _ hg) (ev_op (src_ix (i := 2) (e1 _ _ hg) (ev_var rfl) ev_c rfl) ev_c rv_I0) (ev_var rfl) ev_c (by show 2 < 3; decide) fun H2 e2 => ?_
      have x2 : ExM (Mg g) H (upd H2 g (.lst ([V.int a, .int b, .int c].set 2 (.int (c + 1))))) := ExM.set (M := Mg g) (ExM.ex (e1.trans e2)) rfl
      have hg2 : upd H2 g (.lst ([V.int a, .int b, .int c].set 2 (.int (c + 1)))) g = some (.lst [.int a, .int b, .int (c + 1)]) := upd_same
      generalize upd H2 g (.lst ([V.int a, .int b, .int c].set 2 (.int (c + 1)))) = H2' at x2 hg2
      have m0 : 0 ≤ (c + 1) % 7 := Int.emod_nonneg _ (by decide)
      have m1 : (c + 1) % 7 < 7 := Int.emod_lt_of_pos _ (by decide)
      obtain ⟨pr, hpr, p0, p1⟩ : ∃ pr : Int, (primes7.map V.int)[((c + 1) % 7).toNat]? = some (.int pr) ∧ 0 < pr ∧ pr < 2147483648 := by
        have h : ∀ i : Nat, i < 7 → ∃ pr : Int, (primes7.map V.int)[i]? = some (.int pr) ∧ 0 < pr ∧ pr < 2147483648 := fun i hi => by
          have h7 : i < primes7.length := hi
          refine ⟨primes7[i], by simp [h7], ?_⟩
          have : ∀ z ∈ primes7, (0 : Int) < z ∧ z < 2147483648 := by decide
          exact this _ (List.getElem_mem h7)
        exact h _ (by omega)
      refine q_asg (v := .int pr) (r_ixL (i := ((c + 1) % 7).toNat) ((r_lst (vs := primes7.map V.int) (ea_cons ev_c (ea_cons ev_c (ea_cons ev_c (ea_cons ev_c (ea_cons ev_c (ea_cons ev_c (ea_cons ev_c ea_nil))))))) (by decide)).imp fun v H3 _ ⟨p, h1, h2⟩ => ⟨p, h1, sq_of h2⟩)
        (ev_is (ev_op (src_ix (i := 2) hg2 (ev_var rfl) ev_c rfl) ev_c (rv_mod (by decide))) (by rw [Int.toNat_of_nonneg m0])) hpr) fun H3 e3 => ?_
      have hg3 := e3 _ _ hg2
      have cc : 0 ≤ (c + 1) * (c + 1) ∧ (c + 1) * (c + 1) ≤ 100000 * 100000 := ⟨Int.mul_nonneg (by omega) (by omega), Int.mul_le_mul (by omega) (by omega) (by omega) (by omega)⟩
      have ec : 6700417 * (c + 1) * (c + 1) = 6700417 * ((c + 1) * (c + 1)) := Int.mul_assoc _ _ _
      refine q_asg (ev_op (ev_op (ev_op (ev_op (src_ix (i := 1) hg3 (ev_var rfl) ev_c rfl) (ev_op (ev_op ev_c (src_ix (i := 2) hg3 (ev_var rfl) ev_c rfl) (rv_mul (.inl ⟨by decide, by decide⟩))) (src_ix (i := 2) hg3 (ev_var rfl) ev_c rfl) (rv_mul (.inr ⟨by omega, by omega⟩))) rv_I0) ev_c rv_I0) ev_c (rv_pow ⟨by decide, by decide, by omega⟩)) (ev_var rfl) (rv_mod p0)) fun H4 e4 => ?_
      generalize hm : (b + 6700417 * (c + 1) * (c + 1) + 19) ^ (3 : Int).toNat % pr = m
      have hm0 : 0 ≤ m := by rw [← hm]; exact Int.emod_nonneg _ (by omega)
      have hm1 : m < pr := by rw [← hm]; exact Int.emod_lt_of_pos _ p0
      have hg4 := e4 _ _ hg3
      refine r_ret (Ev.r (ev_op (ev_op (ev_op (ev_op (ev_var rfl) (ev_op (ev_op (ev_var rfl) ev_c (rv_mod (by decide))) (ev_op ev_c (src_ix (i := 2) hg4 (ev_var rfl) ev_c rfl) (rv_mul (.inl ⟨by decide, by decide⟩))) rv_I0) (rv_mul (.inl ⟨by omega, by omega⟩))) ev_c (rv_mod (by decide))) ev_c (rv_div ⟨by decide, by decide⟩)) (ev_var rfl) (rv_mod L0))) fun v H5 e5 hv => hq v H5 (x2.trans (ExM.ex ((e3.trans e4).trans e5))) ⟨a, b, c + 1, e5 _ _ hg4, ⟨b0, b1⟩, by omega, by omega⟩ ?_
      have hv : v = _ := hv
      rw [hv]
      exact nat_of L0

end HdX
end

section
set_option Elab.async false
set_option linter.all false
set_option maxRecDepth 100000
set_option maxHeartbeats 4000000
namespace HdX
open PySem PySem.Spec PyProof.Rows L2 Evl
open _root_.TT hiding Run
/-! ### a choice, names -/
theorem exm_at {g a : Addr} {H H' : Hp} {o : HO} (e : ExM (Mg g) H H') (n : a ≠ g) (h : H a = some o) : H' a = some o := e a o n h
theorem strs_ne {g a : Addr} {H : Hp} {n : Nat} {xs : List Str} (h : Src H g n) (ha : H a = some (.lst (xs.map V.str))) : a ≠ g := fun z => by
  obtain ⟨x, y, w, h1, _⟩ := h
  rw [z, h1] at ha
  cases xs with
  | nil => cases ha
  | cons s xs => cases ha
abbrev sp_w_choice (K : PySem.W.Frag) : Sp := SpG (α := Addr × List Str) 1 (fun x => [.ref x.1]) (fun _ x H => H x.1 = some (.lst (x.2.map V.str)) ∧ 0 < x.2.length ∧ x.2.length ≤ 1000) (fun x v _ => ∃ s, s ∈ x.2 ∧ v = .str s)
namespace D_w_choice
abbrev N : List Str := ["_law_source", "_law_items"]
abbrev SC : Scope := defScope s_w_choice
theorem sc : FnScope N ["_law_source", "_law_items"] SC := ⟨rfl, rfl, rfl, by decide +kernel, rfl, by decide +kernel, by decide +kernel⟩
theorem nd : N.Nodup := sc.nd
end D_w_choice
open D_w_choice in
theorem ok_w_choice {P : Program} {w : World} {K : PySem.W.Frag} {mg : Str → Option Value} {base : Heap} (T : Tx K mg) (O_w_draw : OK P w K mg base 1 "_law_draw" ["_law_source", "_law_limit"] (sp_w_draw K)) : OK P w K mg base 2 "_law_choice" ["_law_source", "_law_items"] (sp_w_choice K) := by
  obtain ⟨fd, F⟩ := T.f_w_choice
  refine OK.of T.g__law_choice F (F.ok sc (fun vs H Q E h => ?len) (fun cdv A outer s H vs Q E hr h => ?body)) (F.bindsN fun _ _ _ _ _ _ us hl => match us, hl with | [_, _], _ => rfl)
  case len =>
    obtain ⟨x, rfl, _⟩ := h
    rfl
  case body =>
    have hu := hu_of hr
    refine ⟨_, PSs.nox (pss_one (ps_ret (pe_ix (ix_listK K) (pv 1) (pcall O_w_draw hr (by decide) (pa_cons (pv 0) (pa_cons (pe_callB (call_lenK K) (by rfl) T.b_len PySem.boot_len (pa_cons (pv 1) pa_nil)) pa_nil))) (fun _ _ => rfl)))), ?_⟩
    obtain ⟨x, rfl, hp, hq⟩ := h

    obtain ⟨⟨a, xs⟩, g, n⟩ := x
    obtain ⟨hg, hn, ha, l0, l1⟩ := hp
    replace hg : Src H g n := hg
    replace hn : n + 1 ≤ 100000 := hn
    replace ha : H a = some (.lst (xs.map V.str)) := ha
    replace l0 : 0 < xs.length := l0
    replace l1 : xs.length ≤ 1000 := l1
    have nag := strs_ne hg ha
    refine ⟨.ref a, rfl, ?_⟩
    refine c_call (vs := [.ref g, .int (xs.length : Nat)]) (ea_cons (ev_var rfl) (ea_cons (ev_is (ev_len (p := a) (xs := xs.map V.str) (ev_var rfl) (sq_of ha)) (by rw [List.length_map])) ea_nil)) fun H1 e1 => ⟨((xs.length : Nat), g, n), rfl, ⟨hg.ex e1, hn, by show (0 : Int) < (xs.length : Nat); omega, by show ((xs.length : Nat) : Int) < _; omega⟩, ?_⟩
    rintro v H2 x2 s2 ⟨r, rfl, hr⟩
    replace hr : ((r : Nat) : Int) < ((xs.length : Nat) : Int) := hr
    have hr' : r < xs.length := by omega
    refine ⟨a, _, (r : Int), .str xs[r], rfl, rfl, sq_of (exm_at x2 nag (e1 _ _ ha)), atI_nat (by simp [hr']), ?_⟩
    exact hq _ H2 ((ExM.ex e1).trans x2) s2 ⟨xs[r], List.getElem_mem hr', rfl⟩
abbrev ch1 (c : Nat) : Str := ⟨#[c]⟩
theorem app_inj {s a b : Str} (h : s ++ a = s ++ b) : a = b := by
  have h1 : (s ++ a).cps.toList = (s ++ b).cps.toList := by rw [h]
  have e : ∀ x : Str, (s ++ x).cps.toList = s.cps.toList ++ x.cps.toList := fun x => by
    show (s.cps ++ x.cps).toList = _
    rw [Array.toList_append]
  rw [e, e] at h1
  have h2 := List.append_cancel_left h1
  cases a; cases b
  congr 1
  exact Array.toList_inj.mp h2
def stems : List Str := ["", "m", "lock", "zzzzzzz", "v"]
theorem nm_ok : ∀ s ∈ stems, ∀ i : Nat, i < 26 → PyData.strOk (s ++ ch1 (97 + i)) = true := by decide +kernel
theorem nm_len : ∀ s ∈ stems, s.length ≤ 10 := by decide +kernel
theorem alpha_at : ∀ i : Nat, i < 26 → ("abcdefghijklmnopqrstuvwxyz" : Str).cps.toList[i]? = some (97 + i) := by decide +kernel
/-- a list of names -/
def NmL (k : Nat) : VR := fun v H => ∃ (p : Addr) (xs : List Str), v = .ref p ∧ H p = some (.lst (xs.map V.str)) ∧ xs.length = k ∧ xs.Nodup ∧ ∀ s ∈ xs, PyData.strOk s = true
abbrev sp_w_names (K : PySem.W.Frag) : Sp := SpG (α := Nat) 2 (fun x => [.int (x : Nat)]) (fun _ x _ => x ≤ 20) NmL
namespace D_w_names
abbrev N : List Str := ["_law_source", "_law_count", "_law_stem", "_law_first", "_law_at"]
abbrev SC : Scope := defScope s_w_names
theorem sc : FnScope N ["_law_source", "_law_count"] SC := ⟨rfl, rfl, rfl, by decide +kernel, rfl, by decide +kernel, by decide +kernel⟩
theorem nd : N.Nodup := sc.nd
end D_w_names
theorem exm_none {g a : Addr} {n : Nat} {H H' : Hp} (e : ExM (Mg g) H H') (hg : Src H' g n) (h : H' a = none) : H a = none := by
  cases z : H a with
  | none => rfl
  | some u =>
    by_cases q : a = g
    · subst q
      obtain ⟨x, y, w, h1, _⟩ := hg
      rw [h1] at h
      cases h
    · rw [e a u q z] at h
      cases h
section
variable {K : PySem.W.Frag} {σ : L2.St} {H : Hp} {D : Ends} {tz : TS} {Q : VK} {g : Addr} {n : Nat}
theorem c_choice {t0 tl : TE} {xs : List Str} (hg : Src H g n) (hn : n + 1 ≤ 100000) (h0 : Ev t0 σ H (.ref g)) (hL : EvL tl σ H (xs.map V.str)) (l0 : 0 < xs.length) (l1 : xs.length ≤ 1000) (k : ∀ s H1, s ∈ xs → ExM (Mg g) H H1 → Src H1 g (n + 1) → Q (.str s) H1) :
    tCall (sp_w_choice K) [] E0 (tCons t0 (tCons tl tNil)) σ H Q :=
  h0 H (Ex.refl H) _ fun H1 e1 => hL H1 e1 _ fun p H2 hp e2 h2 => ⟨((p, xs), g, n), rfl, ⟨hg.ex (e1.trans e2), hn, h2, l0, l1⟩, fun v H' x' s' ⟨s, hs, hv⟩ => by
    have hv : v = .str s := hv
    rw [hv]
    exact k s H' hs ((ExM.ex (e1.trans e2)).trans x') s'⟩
theorem c_choiceV {t0 tl : TE} {a : Addr} {xs : List Str} (hg : Src H g n) (hn : n + 1 ≤ 100000) (h0 : Ev t0 σ H (.ref g)) (hL : Ev tl σ H (.ref a)) (ha : H a = some (.lst (xs.map V.str))) (l0 : 0 < xs.length) (l1 : xs.length ≤ 1000) (k : ∀ s H1, s ∈ xs → ExM (Mg g) H H1 → Src H1 g (n + 1) → Q (.str s) H1) :
    tCall (sp_w_choice K) [] E0 (tCons t0 (tCons tl tNil)) σ H Q :=
  h0 H (Ex.refl H) _ fun H1 e1 => hL H1 e1 _ fun H2 e2 => ⟨((a, xs), g, n), rfl, ⟨hg.ex (e1.trans e2), hn, (e1.trans e2) _ _ ha, l0, l1⟩, fun v H' x' s' ⟨s, hs, hv⟩ => by
    have hv : v = .str s := hv
    rw [hv]
    exact k s H' hs ((ExM.ex (e1.trans e2)).trans x') s'⟩
theorem c_draw {ta : TA} {L : Int} (hg : Src H g n) (hn : n + 1 ≤ 100000) (h : EvA ta σ H [.ref g, .int L]) (l0 : 0 < L) (l1 : L < 1073741824) (k : ∀ (r : Nat) H1, (r : Int) < L → ExM (Mg g) H H1 → Src H1 g (n + 1) → Q (.int (r : Nat)) H1) : tCall (sp_w_draw K) [] E0 ta σ H Q :=
  c_call h fun H1 e1 => ⟨(L, g, n), rfl, ⟨hg.ex e1, hn, l0, l1⟩, fun v H' x' s' ⟨r, hv, hr⟩ => by
    have hv : v = .int (r : Nat) := hv
    rw [hv]
    exact k r H' hr ((ExM.ex e1).trans x') s'⟩
theorem ev_catS {ta tb : TE} {a b : Str} (ha : Ev ta σ H (.str a)) (hb : Ev tb σ H (.str b)) (hz : a.length + b.length ≤ 100000) : Ev (tOp rCatS ta tb) σ H (.str (a ++ b)) := ev_op ha hb fun H1 _ Q q => ⟨_, _, rfl, rfl, sz_of hz, q H1 (Ex.refl H1)⟩
end
theorem nodup_names {s : Str} {f k : Nat} (hk : k ≤ 20) : ((List.range k).map fun i => s ++ ch1 (97 + (f + 7 * i) % 26)).Nodup := by
  rw [List.Nodup, List.pairwise_map]
  refine List.Pairwise.imp_of_mem (fun {i j} hi hj hne e => ?_) (List.nodup_range (n := k))
  have hi := List.mem_range.mp hi
  have hj := List.mem_range.mp hj
  have h1 := app_inj e
  have h2 : 97 + (f + 7 * i) % 26 = 97 + (f + 7 * j) % 26 := by injection h1 with h1; injection h1 with h1; injection h1
  exact hne (by omega)
open D_w_names in
theorem ok_w_names {P : Program} {w : World} {K : PySem.W.Frag} {mg : Str → Option Value} {base : Heap} (T : Tx K mg) (O_w_draw : OK P w K mg base 1 "_law_draw" ["_law_source", "_law_limit"] (sp_w_draw K)) (O_w_choice : OK P w K mg base 2 "_law_choice" ["_law_source", "_law_items"] (sp_w_choice K)) : OK P w K mg base 3 "_law_names" ["_law_source", "_law_count"] (sp_w_names K) := by
  obtain ⟨fd, F⟩ := T.f_w_names
  refine OK.of T.g__law_names F (F.ok sc (fun vs H Q E h => ?len) (fun cdv A outer s H vs Q E hr h => ?body)) (F.bindsN fun _ _ _ _ _ _ us hl => match us, hl with | [_, _], _ => rfl)
  case len =>
    obtain ⟨x, rfl, _⟩ := h
    rfl
  case body =>
    have hu := hu_of hr
    refine ⟨_, PSs.nox (pss_cons (ps_asg (pe_tup (pa_cons (pcall O_w_choice hr (by decide) (pa_cons (pv 0) (pa_cons (pe_lst (pa_cons pe_str (pa_cons pe_str (pa_cons pe_str (pa_cons pe_str (pa_cons pe_str pa_nil)))))) pa_nil))) (pa_cons (pcall O_w_draw hr (by decide) (pa_cons (pv 0) (pa_cons pe_int pa_nil))) pa_nil))) (pg_tupK (n := 2) K rfl (pgs_cons (pg_name (i := 2) nd rfl (Or.inr rfl)) (pgs_cons (pg_name (i := 3) nd rfl (Or.inr rfl)) pgs_nil))))
  (pss_one (ps_ret (pe_callB (cr_sortedSK K) (by rfl) T.b_sorted (by decide +kernel) (pa_cons (pe_lc (own := [("_law_at", 4)]) (tt := tYes) (by rfl) nd (pi_range1 rfl T.b_range (pa_cons (pv 1) pa_nil)) (blkOk_by (N := N) (sc := SC) (by decide +kernel)) (fun _ _ _ _ _ => (pg_name (i := 4) nd rfl (Or.inl rfl))) (fun _ _ _ _ _ => pts_nil) (fun _ _ _ _ _ => (pe_op op_add_str (pv 2) (pe_ix ix_str pe_str (pe_op op_mod (pe_op op_add (pv 3) (pe_op op_mul pe_int (pv 4))) pe_int) (fun _ _ => rfl))))) pa_nil))))), ?_⟩
    obtain ⟨x, rfl, hp, hq⟩ := h

    obtain ⟨k, g, n⟩ := x
    obtain ⟨hg, hn, hk⟩ := hp
    replace hg : Src H g n := hg
    replace hn : n + 2 ≤ 100000 := hn
    replace hk : k ≤ 20 := hk
    replace hq : ∀ v H', ExM (Mg g) H H' → Src H' g (n + 2) → NmL k v H' → Q v H' := hq
    refine c_choice (xs := stems) hg (by omega) (ev_var rfl) (el_lst (ea_cons ev_c (ea_cons ev_c (ea_cons ev_c (ea_cons ev_c (ea_cons ev_c ea_nil))))) (Nat.le_of_ble_eq_true rfl)) (by decide) (by decide) fun s H1 hs x1 s1 => ?_
    refine c_draw (L := 26) s1 (by omega) (ea_cons (ev_var rfl) (ea_cons ev_c ea_nil)) (by decide) (by decide) fun f H2 hf x2 s2 => ?_
    refine ⟨Nat.le_of_ble_eq_true rfl, fun p hp => ?_⟩
    refine g2n (st_of upd_same) ?_
    have e3 : Ex H2 (upd H2 p (.tup [.str s, .int (f : Nat)])) := Ex.new hp
    generalize upd H2 p (.tup [.str s, .int (f : Nat)]) = H3 at e3
    have s3 := s2.ex e3
    have hl : EvR (tLc (iRng1 (tCons (tVar 1) tNil)) (gName 4) tYes (tOp rCatS (tVar 2) (tOp rIxS (tC (.str "abcdefghijklmnopqrstuvwxyz")) (tOp (rI (fun _ j => 0 < j) fun i j => .int (i % j)) (tOp (rI0 fun i j => .int (i + j)) (tVar 3) (tOp (rI CMul fun i j => .int (i * j)) (tC (.int 7)) (tVar 4))) (tC (.int 26))))) [4])
        [some (.ref g), some (.int (k : Nat)), some (.str s), some (.int (f : Nat)), none] H3 (fun v H => ∃ p, v = .ref p ∧ H p = some (.lst (((List.range k).map fun i => s ++ ch1 (97 + (f + 7 * i) % 26)).map V.str))) := fun H0 e0 Q' q' => by
      refine el_lcR1 (n := (k : Nat)) (j := 4) (vs := [4]) (σ := [some (.ref g), some (.int (k : Nat)), some (.str s), some (.int (f : Nat)), none]) (H := H3) (fun _ => true) (fun i => .str (s ++ ch1 (97 + (f + 7 * i) % 26))) (ea_cons (ev_var rfl) ea_nil) ⟨by omega, by omega⟩ (fun x => rfl) (fun i H4 e4 hi => et_yes) (fun i H4 e4 hi _ => ?_) H0 e0 _ fun q H4 hq0 e4 hq4 => q' _ H4 e4 ⟨q, rfl, ?_⟩
      · refine ev_catS (ev_var rfl) (ev_op ev_c (ev_op (ev_op (ev_var rfl) (ev_op ev_c (ev_var rfl) (rv_mul (.inl ⟨by decide, by decide⟩))) rv_I0) ev_c (rv_mod (by decide))) ?_) (by
          have := nm_len s hs
          show s.length + 1 ≤ 100000
          omega)
        have hi6 : (f + 7 * i) % 26 < 26 := Nat.mod_lt _ (by decide)
        have ei2 : (((f : Nat) : Int) + 7 * ((i : Nat) : Int)) % 26 = (((f + 7 * i) % 26 : Nat) : Int) := by omega
        rw [ei2]
        exact rv_ixS (by decide +kernel) (atI_nat (alpha_at _ hi6))
      · have eg : given ((k : Nat) : Int).toNat (fun _ => true) (fun i => V.str (s ++ ch1 (97 + (f + 7 * i) % 26))) = ((List.range k).map fun i => s ++ ch1 (97 + (f + 7 * i) % 26)).map V.str := by
          unfold given
          rw [List.filter_eq_self.mpr (fun _ _ => rfl), List.map_map]
          rfl
        rw [eg] at hq4
        exact hq4
    refine r_ret (P := NmL k) (r_cb (ea1 (fun v H H' e ⟨p, h1, h2⟩ => ⟨p, h1, e _ _ h2⟩) hl) fun vs H5 e5 ⟨v, hvs, q, hv, hq5⟩ Q' q' => ⟨q, _, by rw [hvs, hv], sq_of hq5, by rw [List.length_map, List.length_range]; omega, fun ys p2 perm _ hp2 => q' _ _ (Ex.new hp2) ⟨p2, ys, rfl, upd_same, ?_, perm.nodup_iff.mpr (nodup_names hk), fun z hz => ?_⟩⟩) fun v H4 e4 hv => hq v H4 ((x1.trans x2).trans (ExM.ex (e3.trans e4))) (s3.ex e4) hv
    · rw [perm.length_eq, List.length_map, List.length_range]
    · obtain ⟨i, _, rfl⟩ := List.mem_map.mp (perm.mem_iff.mp hz)
      exact nm_ok s hs _ (Nat.mod_lt _ (by decide))

end HdX
end

section
set_option Elab.async false
set_option linter.all false
set_option maxRecDepth 100000
set_option maxHeartbeats 4000000
namespace HdX
open PySem PySem.Spec PyProof.Rows L2 Evl
open _root_.TT hiding Run
/-! ### a thread that is drawn -/
theorem lay_strs : ∀ xs : List Str, (∀ s ∈ xs, PyData.strOk s = true) → PyData.canLayAll0 (xs.map .str) = true ∧ PyData.depthAll (xs.map .str) = 0
  | [], _ => ⟨rfl, rfl⟩
  | s :: xs, h => by
    obtain ⟨h1, h2⟩ := lay_strs xs fun z hz => h z (List.mem_cons_of_mem _ hz)
    refine ⟨?_, ?_⟩
    · show (PyData.strOk s && PyData.canLayAll0 (xs.map .str)) = true
      rw [h s List.mem_cons_self, h1]
      rfl
    · show max 0 (PyData.depthAll (xs.map .str)) = 0
      rw [h2]
      rfl
theorem shaped_strs {xs : List Str} (h : ∀ s ∈ xs, PyData.strOk s = true) : SeqAt.shaped (.list (xs.map .str)) = true := by
  obtain ⟨h1, h2⟩ := lay_strs xs h
  show (PyData.canLayAll0 (xs.map .str) && decide (PyData.depthAll (xs.map .str) + 1 ≤ 64)) = true
  rw [h1, h2]
  rfl
theorem dp_strs {K : PySem.W.Frag} {H : Hp} : ∀ xs : List Str, DpAll K H (xs.map V.str) (xs.map PyData.str)
  | [] => .nil
  | s :: xs => .cons (.str s) (dp_strs xs)
section
variable {K : PySem.W.Frag} {σ : L2.St} {H : Hp} {D : Ends} {tz : TS} {Q : VK} {g : Addr} {n : Nat} {te ta tb : TE}
theorem eqv_nil (xs : List Str) : PyData.eqv (.list (xs.map .str)) (.list []) = decide (xs = []) := by
  cases xs <;> rfl
theorem ev_neNil {a : Addr} {xs : List Str} (ha : Ev ta σ H (.ref a)) (h : H a = some (.lst (xs.map V.str))) (ok : ∀ s ∈ xs, PyData.strOk s = true) (hb : EvL tb σ H []) : Ev (tOp (rNeD K) ta tb) σ H (.bl (!decide (xs = []))) :=
  ev_opL ha hb fun p H1 hp e1 H2 e2 Q q => ⟨.list (xs.map .str), .list [], .lst (sq_of (e2 _ _ (e1 _ _ h))) (dp_strs xs), .lst (sq_of (e2 _ _ hp)) .nil, shaped_strs ok, by decide +kernel, by rw [eqv_nil]; exact q H2 (Ex.refl _)⟩
theorem ev_eqNil {a : Addr} {xs : List Str} (ha : Ev ta σ H (.ref a)) (h : H a = some (.lst (xs.map V.str))) (ok : ∀ s ∈ xs, PyData.strOk s = true) (hb : EvL tb σ H []) : Ev (tOp (rEqD K) ta tb) σ H (.bl (decide (xs = []))) :=
  ev_opL ha hb fun p H1 hp e1 H2 e2 Q q => ⟨.list (xs.map .str), .list [], .lst (sq_of (e2 _ _ (e1 _ _ h))) (dp_strs xs), .lst (sq_of (e2 _ _ hp)) .nil, shaped_strs ok, by decide +kernel, by rw [eqv_nil]; exact q H2 (Ex.refl _)⟩
def gP {α : Type} (l : List α) (p : α → Bool) (i : Nat) : Bool := match l[i]? with | some s => p s | none => false
def gV {α : Type} (l : List α) (v : α → V) (i : Nat) : V := match l[i]? with | some s => v s | none => .non
theorem gP_at {α : Type} {l : List α} {p : α → Bool} {i : Nat} {s : α} (h : l[i]? = some s) : gP l p i = p s := by unfold gP; rw [h]
theorem gV_at {α : Type} {l : List α} {v : α → V} {i : Nat} {s : α} (h : l[i]? = some s) : gV l v i = v s := by unfold gV; rw [h]
theorem given_filter {α : Type} {p : α → Bool} {v : α → V} : ∀ l : List α, given l.length (gP l p) (gV l v) = (l.filter p).map v := by
  intro l
  induction l with
  | nil => rfl
  | cons x l ih =>
    unfold given at *
    rw [List.length_cons, List.range_succ_eq_map, List.filter_cons, List.filter_map, List.filter_cons]
    have e1 : (gP (x :: l) p ∘ Nat.succ) = gP l p := by funext i; rfl
    rw [e1]
    have e2 : (List.map (gV (x :: l) v) (List.map Nat.succ ((List.range l.length).filter (gP l p)))) = (l.filter p).map v := by
      rw [List.map_map, ← ih]
      rfl
    by_cases h : p x = true
    · rw [if_pos h, if_pos (show gP (x :: l) p 0 = true from h), List.map_cons, List.map_cons, e2]
      rfl
    · rw [if_neg h, if_neg (show ¬ gP (x :: l) p 0 = true from h), e2]
/-! steps of what may change the source -/
theorem c_cons {tr : TA} {Q : List V → Hp → Prop} (h : te σ H fun v H1 => tr σ H1 fun vs H2 => Q (v :: vs) H2) : tCons te tr σ H Q := h
theorem c_nil {Q : List V → Hp → Prop} (h : Q [] H) : tNil σ H Q := h
theorem c_ev {v : V} (h : Ev te σ H v) (k : ∀ H1, Ex H H1 → Q v H1) : te σ H Q := h H (Ex.refl H) Q k
theorem c_L {xs : List V} (h : EvL te σ H xs) (k : ∀ p H1, H p = none → Ex H H1 → H1 p = some (.lst xs) → Q (.ref p) H1) : te σ H Q := h H (Ex.refl H) Q k
theorem c_par {i j : Nat} {ta : TA} (h : ta σ H fun vs H1 => ∃ v w, vs = [v, w] ∧ tz D ((σ.set i (some v)).set j (some w)) H1) : tSeq (tPar i j ta) tz D σ H := h
theorem c_asg {i : Nat} (h : te σ H fun v H1 => tz D (σ.set i (some v)) H1) : tSeq (tAsg te (gName i)) tz D σ H := h
theorem c_asg1 {i : Nat} (h : te σ H fun v H1 => D.nx (σ.set i (some v)) H1) : tAsg te (gName i) D σ H := h
theorem c_ret (h : te σ H D.rt) : tRet te D σ H := h
theorem c_tup {ta : TA} (h : ta σ H fun vs H1 => vs.length ≤ sizeLine ∧ ∀ p, H1 p = none → Q (.ref p) (upd H1 p (.tup vs))) : tTup ta σ H Q := h
theorem c_op {r : R2} (h : ta σ H fun x H1 => tb σ H1 fun y H2 => r x y H2 Q) : tOp r ta tb σ H Q := h
theorem c_app1 {l : Addr} {xs : List V} (ha : Ev ta σ H (.ref l)) (hl : H l = some (.lst xs)) (k : ∀ H1, Ex H H1 → te σ H1 fun v H2 => rAppend (.ref l) [v] H2 fun _ H3 => D.nx σ H3) : tDrop (tBM K "list" rAppend ta (tCons te tNil)) D σ H :=
  ha H (Ex.refl H) _ fun H1 e1 => ⟨Or.inl ⟨rfl, xs, sq_of (e1 _ _ hl)⟩, k H1 e1⟩
theorem c_app {l : Addr} {xs : List V} (ha : Ev ta σ H (.ref l)) (hl : H l = some (.lst xs)) (k : ∀ H1, Ex H H1 → te σ H1 fun v H2 => rAppend (.ref l) [v] H2 fun _ H3 => tz D σ H3) : tSeq (tDrop (tBM K "list" rAppend ta (tCons te tNil))) tz D σ H :=
  c_app1 (D := { D with nx := tz D }) ha hl k
theorem c_rem {l : Addr} {ns : List Str} {k : Str} {j : Nat} (ha : Ev ta σ H (.ref l)) (hl : H l = some (.lst (ns.map V.str))) (hk : Ev te σ H (.str k)) (hj : ns[j]? = some k) (hno : ∀ m : Nat, m < j → ns[m]? ≠ some k) (q : ∀ H1, Ex H H1 → tz D σ (upd H1 l (.lst ((ns.eraseIdx j).map V.str)))) :
    tSeq (tDrop (tBM K "list" rRemS ta (tCons te tNil))) tz D σ H :=
  ha H (Ex.refl H) _ fun H1 e1 => ⟨Or.inl ⟨rfl, _, sq_of (e1 _ _ hl)⟩, hk H1 e1 _ fun H2 e2 => ⟨l, ns, k, j, rfl, rfl, (e1.trans e2) _ _ hl, hj, hno, q H2 (e1.trans e2)⟩⟩
theorem c_forR {ta : TA} {i : Nat} {tu : TS} {Pm : Nat → Hp → Prop} (h : ∀ R' : List V → Hp → Prop, (∀ (m : Nat) H1, Pm m H1 → R' [.int (m : Nat)] H1) → ta σ H R')
    (k : ∀ m H1, Pm m H1 → m ≤ 100000 ∧ ∃ Pv : Nat → L2.St → Hp → Prop, Pv 0 σ H1 ∧ (∀ (j : Nat) σ' H', j < m → Pv j σ' H' → tu { D with nx := Pv (j + 1), ct := Pv (j + 1), bk := tz D } (σ'.set i (some (.int (j : Nat)))) H') ∧ (∀ σ' H', Pv m σ' H' → tz D σ' H')) :
    tSeq (tFor (iRng1 ta) (gName i) tu) tz D σ H :=
  h _ fun m H1 pm => by
    obtain ⟨hm, Pv, h0, hs, hd⟩ := k m H1 pm
    refine ⟨(m : Int), rfl, by omega, by omega, ?_⟩
    refine for_it (n := m) (Y := YR 0) (Iv := fun _ => True) (D := { D with nx := tz D }) (J := Itr 0 ((m : Nat) : Int).toNat) ?_ Pv h0 (fun _ _ _ _ => trivial) (fun j σ' H' x H2 hj p y => ?_) hd
    · rw [Int.toNat_natCast]
      exact { go := fun _ _ _ hi => hi, st := fun _ _ => Nat.le_refl _, yl := fun _ _ _ _ _ h => h }
    · obtain ⟨rfl, rfl⟩ := y
      have e : (0 : Int) + ((j : Nat) : Int) = ((j : Nat) : Int) := Int.zero_add _
      rw [e]
      exact hs j σ' _ hj p
theorem r_catT {α : Type} {R : α → VR} {xs ys : List α} (kr : ∀ x, Keeps (R x)) (ha : EvR ta σ H (TuO K R xs)) (hb : EvR tb σ H (TuO K R ys)) (hz : xs.length + ys.length ≤ 100000) : EvR (tOp (rCatA K) ta tb) σ H (TuO K R (xs ++ ys)) :=
  r_op (keeps_tuo kr) ha hb fun x y H1 e1 ⟨a, vs, h1, h2, al⟩ ⟨b, ws, h3, h4, bl⟩ Q k => by
    refine ⟨a, b, vs, ws, h1, h3, h2, h4, sz_of (by rw [← al.len, ← bl.len]; exact hz), fun h0 => ?_, fun h0 h5 => ?_, fun h0 h5 p hp => ?_⟩
    · subst h0
      have : xs = [] := List.length_eq_zero_iff.mp al.len
      subst this
      exact k _ H1 (Ex.refl _) ⟨b, ws, rfl, h4, bl⟩
    · subst h5
      have : ys = [] := List.length_eq_zero_iff.mp bl.len
      subst this
      rw [List.append_nil] at k
      exact k _ H1 (Ex.refl _) ⟨a, vs, rfl, h2, al⟩
    · have e2 : Ex H1 (upd H1 p (.tup (vs ++ ws))) := Ex.new hp
      exact k _ _ e2 ⟨p, _, rfl, st_of upd_same, (al.mono fun x v q => kr x v _ _ e2 q).app (bl.mono fun x v q => kr x v _ _ e2 q)⟩
end
/-- what stands of the two lists of a thread that is being drawn -/
structure TH (K : PySem.W.Frag) (g lf lk : Addr) (H0 : Hp) (n : Nat) (H : Hp) (t : Thr) (ks : List Str) : Prop where
  ex : ExM (fun a => a = g ∨ a = lf ∨ a = lk) H0 H
  src : Src H g n
  f : ∃ ys, H lf = some (.lst ys) ∧ Al (fun s v => Rc K stV s v H) t ys
  k : H lk = some (.lst (ks.map V.str))
structure LG (most : Nat) (t : Thr) (ks : List Str) : Prop where
  gen : Gen t ks
  len : t.length + ks.length ≤ most
  okt : ∀ s ∈ t, PyData.strOk s.2 = true
  okk : ∀ s ∈ ks, PyData.strOk s = true
section
variable {K : PySem.W.Frag} {g lf lk : Addr} {H0 H H' : Hp} {n m : Nat} {t : Thr} {ks : List Str}
theorem TH.draw (h : TH K g lf lk H0 n H t ks) (ne1 : lf ≠ g) (ne2 : lk ≠ g) (e : ExM (Mg g) H H') (s : Src H' g m) : TH K g lf lk H0 m H' t ks := by
  obtain ⟨ys, hy, al⟩ := h.f
  exact ⟨h.ex.trans fun a o na q => e a o (fun z => na (.inl z)) q, s, ⟨ys, e _ _ ne1 hy, al.mono fun x v q => ro_rc _ _ _ _ h.src.mut e q⟩, e _ _ ne2 h.k⟩
theorem TH.ext (h : TH K g lf lk H0 n H t ks) (e : Ex H H') : TH K g lf lk H0 n H' t ks := by
  obtain ⟨ys, hy, al⟩ := h.f
  exact ⟨h.ex.trans (ExM.ex e), h.src.ex e, ⟨ys, e _ _ hy, al.mono fun x v q => keeps_rc _ _ _ e q⟩, e _ _ h.k⟩
theorem TH.app (h : TH K g lf lk H0 n H t ks) (ne1 : lf ≠ g) (ne : lf ≠ lk) {p : Addr} {s : Wd × Str} (hp : H p = some (.tup (stV s))) : ∃ ys, H lf = some (.lst ys) ∧ ys.length = t.length ∧ TH K g lf lk H0 n (upd H lf (.lst (ys ++ [.ref p]))) (t ++ [s]) ks := by
  obtain ⟨ys, hy, al⟩ := h.f
  obtain ⟨a, b, c, h1, h2⟩ := h.src
  refine ⟨ys, hy, al.len.symm, h.ex.set (.inr (.inl rfl)), ⟨a, b, c, by rw [upd_ne (Ne.symm ne1)]; exact h1, h2⟩, ⟨_, upd_same, Al.snoc (al.mono fun x v q => ro_rc.stF _ _ _ _ _ hy q) (ro_rc.stF _ _ _ _ _ hy ⟨p, rfl, st_of hp⟩)⟩, by rw [upd_ne (Ne.symm ne)]; exact h.k⟩
theorem TH.kap (h : TH K g lf lk H0 n H t ks) (ne2 : lk ≠ g) (ne : lf ≠ lk) (ks' : List Str) : TH K g lf lk H0 n (upd H lk (.lst (ks'.map V.str))) t ks' := by
  obtain ⟨ys, hy, al⟩ := h.f
  obtain ⟨a, b, c, h1, h2⟩ := h.src
  exact ⟨h.ex.set (.inr (.inr rfl)), ⟨a, b, c, by rw [upd_ne (Ne.symm ne2)]; exact h1, h2⟩, ⟨ys, by rw [upd_ne ne]; exact hy, al.mono fun x v q => ro_rc.stF _ _ _ _ _ h.k q⟩, upd_same⟩
end
theorem first_erase : ∀ {ks : List Str} {x : Str}, x ∈ ks → ∃ j, ks[j]? = some x ∧ (∀ m : Nat, m < j → ks[m]? ≠ some x) ∧ ks.eraseIdx j = ks.erase x
  | [], x, h => by cases h
  | a :: ks, x, h => by
    by_cases e : a = x
    · exact ⟨0, by rw [e]; rfl, fun m hm => absurd hm (Nat.not_lt_zero _), by rw [e]; simp⟩
    · have hx : x ∈ ks := by
        rcases List.mem_cons.mp h with z | z
        · exact absurd z.symm e
        · exact z
      obtain ⟨j, h1, h2, h3⟩ := first_erase hx
      refine ⟨j + 1, h1, fun m hm => ?_, ?_⟩
      · match m with
        | 0 => exact fun z => e (Option.some.inj z)
        | m + 1 => exact h2 m (by omega)
      · rw [List.erase_cons_tail (by simpa using e), ← h3]
        rfl
theorem atI_last (xs : List V) (x : V) : atI (xs ++ [x]) (-1) = some x := by
  unfold atI ixN
  rw [if_neg (by decide), if_pos (by simp; omega)]
  show (xs ++ [x])[((-1 : Int) + ((xs ++ [x]).length : Int)).toNat]? = some x
  have : ((-1 : Int) + ((xs ++ [x]).length : Int)).toNat = xs.length := by simp; omega
  rw [this]
  simp
theorem inV_strs (s : Str) (ks : List Str) : inV (.str s) (ks.map V.str) = decide (s ∈ ks) := by
  induction ks with
  | nil => rfl
  | cons a ks ih =>
    show ((a == s) || inV (.str s) (ks.map V.str)) = _
    rw [ih]
    by_cases h : a = s
    · subst h
      simp
    · have h' : s ≠ a := fun z => h z.symm
      simp [h, h']
theorem flat_strs (ks : List Str) : (ks.map V.str).all flatV = true := by simp [flatV]

end HdX
end

section
set_option Elab.async false
set_option linter.all false
set_option maxRecDepth 100000
set_option maxHeartbeats 4000000
namespace HdX
open PySem PySem.Spec PyProof.Rows L2 Evl
open _root_.TT hiding Run
def takeW : List Str := ["lock", "lock", "lock", "share"]
def otherW : List Str := ["read", "write", "write", "work"]
theorem takeW_ok : ∀ s ∈ takeW, ∃ w : Wd, wdS w = s ∧ w.takes = true := by
  intro s hs
  have h : s = wdS .lock ∨ s = wdS .share := by
    revert s
    decide +kernel
  rcases h with rfl | rfl
  · exact ⟨.lock, rfl, rfl⟩
  · exact ⟨.share, rfl, rfl⟩
theorem otherW_ok : ∀ s ∈ otherW, ∃ w : Wd, wdS w = s ∧ w.takes = false ∧ w ≠ .free := by
  intro s hs
  have h : s = wdS .read ∨ s = wdS .write ∨ s = wdS .work := by
    revert s
    decide +kernel
  rcases h with rfl | rfl | rfl
  · exact ⟨.read, rfl, rfl, by decide⟩
  · exact ⟨.write, rfl, rfl, by decide⟩
  · exact ⟨.work, rfl, rfl, by decide⟩
structure ThA where
  a1 : Addr
  locks : List Str
  a2 : Addr
  vars : List Str
  most : Nat
structure ThP (x : ThA) (H : Hp) : Prop where
  h1 : H x.a1 = some (.lst (x.locks.map V.str))
  h2 : H x.a2 = some (.lst (x.vars.map V.str))
  o1 : ∀ s ∈ x.locks, PyData.strOk s = true
  o2 : ∀ s ∈ x.vars, PyData.strOk s = true
  v0 : 0 < x.vars.length
  v1 : x.vars.length ≤ 100
  l1 : x.locks.length ≤ 100
  m : x.most ≤ 40
/-- a thread -/
def ThrR (K : PySem.W.Frag) : VR := fun v H => ∃ t : Thr, ThR K t v H ∧ Gd t ∧ t.length ≤ 40
section
variable {K : PySem.W.Frag} {σ : L2.St} {g lf lk : Addr} {H0 H H' : Hp} {n m : Nat} {t : Thr} {ks : List Str} {te : TE} {D : Ends} {tz : TS} {gt : TG}
theorem TH.mono (h : TH K g lf lk H0 n H t ks) (e : n ≤ m) : TH K g lf lk H0 m H t ks := ⟨h.ex, h.src.mono e, h.f, h.k⟩
theorem TH.lenf (h : TH K g lf lk H0 n H t ks) {i : Nat} (hv : σ[i]? = some (some (.ref lf))) : Ev (tCB (rLenS K) (tCons (tVar i) tNil)) σ H (.int (t.length : Nat)) := by
  obtain ⟨ys, hy, al⟩ := h.f
  rw [al.len]
  exact ev_len (ev_var hv) (sq_of hy)
theorem TH.lenk (h : TH K g lf lk H0 n H t ks) {i : Nat} (hv : σ[i]? = some (some (.ref lk))) : Ev (tCB (rLenS K) (tCons (tVar i) tNil)) σ H (.int (ks.length : Nat)) :=
  ev_is (ev_len (ev_var hv) (sq_of h.k)) (by rw [List.length_map])
theorem c_asgG (h : te σ H fun v H1 => gt v σ H1 fun σ2 H2 => tz D σ2 H2) : tSeq (tAsg te gt) tz D σ H := h
end
abbrev sp_w_thread (K : PySem.W.Frag) : Sp := SpG (α := ThA) 300 (fun x => [.ref x.a1, .ref x.a2, .int (x.most : Nat)]) (fun _ x H => ThP x H) (fun _ => ThrR K)
namespace D_w_thread
abbrev N : List Str := ["_law_source", "_law_locks", "_law_variables", "_law_most", "_law_found", "_law_kept_here", "_law_turn", "_law_way", "_law_free", "_law_name", "_law_word"]
abbrev SC : Scope := defScope s_w_thread
theorem sc : FnScope N ["_law_source", "_law_locks", "_law_variables", "_law_most"] SC := ⟨rfl, rfl, rfl, by decide +kernel, rfl, by decide +kernel, by decide +kernel⟩
theorem nd : N.Nodup := sc.nd
end D_w_thread
open D_w_thread in
theorem ok_w_thread {P : Program} {w : World} {K : PySem.W.Frag} {mg : Str → Option Value} {base : Heap} (T : Tx K mg) (O_w_draw : OK P w K mg base 1 "_law_draw" ["_law_source", "_law_limit"] (sp_w_draw K)) (O_w_choice : OK P w K mg base 2 "_law_choice" ["_law_source", "_law_items"] (sp_w_choice K)) : OK P w K mg base 3 "_law_thread" ["_law_source", "_law_locks", "_law_variables", "_law_most"] (sp_w_thread K) := by
  obtain ⟨fd, F⟩ := T.f_w_thread
  refine OK.of T.g__law_thread F (F.ok sc (fun vs H Q E h => ?len) (fun cdv A outer s H vs Q E hr h => ?body)) (F.bindsN fun _ _ _ _ _ _ us hl => match us, hl with | [_, _, _, _], _ => rfl)
  case len =>
    obtain ⟨x, rfl, _⟩ := h
    rfl
  case body =>
    have hu := hu_of hr
    refine ⟨_, PSs.nox (pss_cons (ps_asg (pe_tup (pa_cons (pe_lst pa_nil) (pa_cons (pe_lst pa_nil) pa_nil))) (pg_tupK (n := 2) K rfl (pgs_cons (pg_name (i := 4) nd rfl (Or.inl rfl)) (pgs_cons (pg_name (i := 5) nd rfl (Or.inr rfl)) pgs_nil))))
  (pss_cons (ps_for PassesOwn.never rfl (pi_range1 rfl T.b_range (pa_cons (pcall O_w_draw hr (by decide) (pa_cons (pv 0) (pa_cons (pe_op op_add (pv 3) pe_int) pa_nil))) pa_nil)) (pg_name (i := 6) nd rfl (Or.inl rfl))
  (pss_cons (ps_par (i := 7) (j := 8) rfl nd rfl rfl (by decide) rfl rfl (pa_cons (pcall O_w_draw hr (by decide) (pa_cons (pv 0) (pa_cons pe_int pa_nil))) (pa_cons (pe_lc (own := [("_law_name", 9)]) (by rfl) nd (pi_listK K (pv 1)) (blkOk_by (N := N) (sc := SC) (by decide +kernel)) (fun _ _ _ _ _ => (pg_name (i := 9) nd rfl (Or.inl rfl))) (fun _ _ _ _ _ => (pts_one (pt_cmpR (op_notIn_seqK K) (pv 9) (pv 5) (by with_unfolding_all rfl)))) (fun _ _ _ _ _ => (pv 9))) pa_nil)) rfl)
  (pss_one (ps_if (PW.pt (pw_and (pt_cmpR op_lt (pv 7) pe_int (nomark _)) (pw_and (pt_cmpR (op_neDK K hr.units) (pv 8) (pe_lst pa_nil) (nomark _)) (pw_and1 (pt_cmpR op_le (pe_op op_add (pe_op op_add (pe_callB (call_lenK K) (by rfl) T.b_len PySem.boot_len (pa_cons (pv 4) pa_nil)) (pe_callB (call_lenK K) (by rfl) T.b_len PySem.boot_len (pa_cons (pv 5) pa_nil))) pe_int) (pv 3) (nomark _))))))
  (pss_cons (ps_expr (pe_bm PySem.F.plainAttrs_list PySem.F.slot_list_append PySem.F.type_list_append mt_append (pv 5) (pa_cons (pcall O_w_choice hr (by decide) (pa_cons (pv 0) (pa_cons (pv 8) pa_nil))) pa_nil)))
  (pss_one (ps_expr (pe_bm PySem.F.plainAttrs_list PySem.F.slot_list_append PySem.F.type_list_append mt_append (pv 4) (pa_cons (pe_tup (pa_cons (pcall O_w_choice hr (by decide) (pa_cons (pv 0) (pa_cons (pe_lst (pa_cons pe_str (pa_cons pe_str (pa_cons pe_str (pa_cons pe_str pa_nil))))) pa_nil))) (pa_cons (pe_ix (ix_listK K) (pv 5) (pe_un un_neg pe_int) (fun _ _ => rfl)) pa_nil))) pa_nil)))))
  (pss_one (ps_if (PW.pt (pw_and (pt_cmpR op_lt (pv 7) pe_int (nomark _)) (pw_and1 (pt_cmpR (op_neDK K hr.units) (pv 5) (pe_lst pa_nil) (nomark _)))))
  (pss_cons (ps_set (i := 9) nd rfl (Or.inl rfl) (pcall O_w_choice hr (by decide) (pa_cons (pv 0) (pa_cons (pv 5) pa_nil))))
  (pss_cons (ps_expr (pe_bm PySem.F.plainAttrs_list PySem.F.slot_list_remove PySem.F.type_list_remove mt_removeS (pv 5) (pa_cons (pv 9) pa_nil)))
  (pss_one (ps_expr (pe_bm PySem.F.plainAttrs_list PySem.F.slot_list_append PySem.F.type_list_append mt_append (pv 4) (pa_cons (pe_tup (pa_cons pe_str (pa_cons (pv 9) pa_nil))) pa_nil))))))
  (pss_one (ps_if (pt_cmpR op_le (pe_op op_add (pe_op op_add (pe_callB (call_lenK K) (by rfl) T.b_len PySem.boot_len (pa_cons (pv 4) pa_nil)) (pe_callB (call_lenK K) (by rfl) T.b_len PySem.boot_len (pa_cons (pv 5) pa_nil))) pe_int) (pv 3) (nomark _))
  (pss_cons (ps_set (i := 10) nd rfl (Or.inl rfl) (pcall O_w_choice hr (by decide) (pa_cons (pv 0) (pa_cons (pe_lst (pa_cons pe_str (pa_cons pe_str (pa_cons pe_str (pa_cons pe_str pa_nil))))) pa_nil))))
  (pss_one (ps_expr (pe_bm PySem.F.plainAttrs_list PySem.F.slot_list_append PySem.F.type_list_append mt_append (pv 4) (pa_cons (pe_tup (pa_cons (pv 10) (pa_cons (pcall O_w_choice hr (by decide) (pa_cons (pv 0) (pa_cons (pv 2) pa_nil))) pa_nil))) pa_nil)))))
  pss_nil))))))))
  (pss_one (ps_ret (pe_op (op_catAK K) (pe_callTy (call_tupK K) (by rfl) T.b_tuple (by decide +kernel) (pa_cons (pv 4) pa_nil)) (pe_callTy (call_tupK K) (by rfl) T.b_tuple (by decide +kernel) (pa_cons (pe_lc (own := [("_law_name", 9)]) (tt := tYes) (by rfl) nd (pi_listK K (pv 5)) (blkOk_by (N := N) (sc := SC) (by decide +kernel)) (fun _ _ _ _ _ => (pg_name (i := 9) nd rfl (Or.inl rfl))) (fun _ _ _ _ _ => pts_nil) (fun _ _ _ _ _ => (pe_tup (pa_cons pe_str (pa_cons (pv 9) pa_nil))))) pa_nil))))))), ?_⟩
    obtain ⟨x, rfl, hp, hq⟩ := h

    obtain ⟨⟨a1, locks, a2, vars, most⟩, g, n⟩ := x
    obtain ⟨hg, hn, ha1, ha2, o1, o2, v0, v1, l1, hm⟩ := hp
    replace hg : Src H g n := hg
    replace hn : n + 300 ≤ 100000 := hn
    replace ha1 : H a1 = some (.lst (locks.map V.str)) := ha1
    replace ha2 : H a2 = some (.lst (vars.map V.str)) := ha2
    replace o1 : ∀ s ∈ locks, PyData.strOk s = true := o1
    replace o2 : ∀ s ∈ vars, PyData.strOk s = true := o2
    replace v0 : 0 < vars.length := v0
    replace v1 : vars.length ≤ 100 := v1
    replace l1 : locks.length ≤ 100 := l1
    replace hm : most ≤ 40 := hm
    replace hq : ∀ v H', ExM (Mg g) H H' → Src H' g (n + 300) → ThrR K v H' → Q v H' := hq
    have n1 := strs_ne hg ha1
    have n2 := strs_ne hg ha2
    have ng : ∀ {a : Addr}, H a = none → a ≠ g := fun {a} h z => by
      obtain ⟨x, y, w, h1, _⟩ := hg
      rw [z, h1] at h
      cases h
    refine c_asgG (c_tup (c_cons (c_L (el_lst ea_nil (by decide)) fun lf H1 hf0 e1 hf1 => c_cons (c_L (el_lst ea_nil (by decide)) fun lk H2 hk0 e2 hk2 => c_nil ⟨Nat.le_of_ble_eq_true rfl, fun p hp => ?_⟩))))
    refine g2n (st_of upd_same) ?_
    have e3 : Ex H2 (upd H2 p (.tup [.ref lf, .ref lk])) := Ex.new hp
    generalize upd H2 p (.tup [.ref lf, .ref lk]) = H3 at e3
    have hkH : H lk = none := fresh_back e1 hk0
    have nfg : lf ≠ g := ng hf0
    have nkg : lk ≠ g := ng hkH
    have nfk : lf ≠ lk := fun z => by rw [z, hk0] at hf1; cases hf1
    have e03 : Ex H H3 := (e1.trans e2).trans e3
    have out : ∀ {a : Addr} {o : HO}, a ≠ g → H a = some o → ¬ (a = g ∨ a = lf ∨ a = lk) := fun {a o} na ha z => by
      rcases z with z | z | z
      · exact na z
      · rw [z, hf0] at ha; cases ha
      · rw [z, hkH] at ha; cases ha
    have s3 := hg.ex e03
    refine c_forR (Pm := fun r H' => (r : Int) < (most : Nat) + 1 ∧ ExM (Mg g) H3 H' ∧ Src H' g (n + 1)) (fun R' q => c_cons (c_draw (L := (most : Nat) + 1) s3 (by omega) (ea_cons (ev_var rfl) (ea_cons (ev_op (ev_var rfl) ev_c rv_I0) ea_nil)) (by omega) (by omega) fun r H4 hr x s => c_nil (q r H4 ⟨hr, x, s⟩)))
      fun r H4 ⟨hr, x4, s4⟩ => ⟨by omega, fun j σ' H' => (∃ b c d e f, σ' = [some (.ref g), some (.ref a1), some (.ref a2), some (.int (most : Nat)), some (.ref lf), some (.ref lk), b, c, d, e, f]) ∧ ∃ t ks, TH K g lf lk H3 (n + 1 + 5 * j) H' t ks ∧ LG most t ks,
        ⟨⟨_, _, _, _, _, rfl⟩, [], [], ⟨fun a o na q => x4 a o (fun z => na (.inl z)) q, s4, ⟨[], x4 _ _ nfg (e3 _ _ (e2 _ _ hf1)), Al.nil⟩, x4 _ _ nkg (e3 _ _ hk2)⟩, ⟨Gen.nil, by simp, (fun s h => nomatch h), (fun s h => nomatch h)⟩⟩, ?_, ?_⟩
    · rintro j σ' H5 hj ⟨⟨b, c, d, e, f, rfl⟩, t, ks, th, lg⟩
      have hjm : j < 41 := by omega
      have lglen := lg.len
      refine c_par (c_cons (c_draw (L := 8) th.src (by omega) (ea_cons (ev_var rfl) (ea_cons ev_c ea_nil)) (by decide) (by decide) fun w H6 hw x6 s6 => ?_))
      have th6 := th.draw nfg nkg x6 s6
      have hl6 : H6 a1 = some (.lst (locks.map V.str)) := th6.ex _ _ (out n1 ha1) (e03 _ _ ha1)
      have hlc : EvL (tLc (iList K (tVar 1)) (gName 9) (tTest (tOp (rIn K true) (tVar 9) (tVar 5))) (tVar 9) [9]) [some (.ref g), some (.ref a1), some (.ref a2), some (.int (most : Nat)), some (.ref lf), some (.ref lk), some (.int (j : Nat)), c, d, e, f] H6 ((locks.filter fun s => !decide (s ∈ ks)).map V.str) := by
        rw [← given_filter]
        have := el_lcL (K := K) (a := a1) (xs := locks.map V.str) (tl := tVar 1) (j := 9) (vs := [9]) (t := tTest (tOp (rIn K true) (tVar 9) (tVar 5))) (te := tVar 9) (σ := [some (.ref g), some (.ref a1), some (.ref a2), some (.int (most : Nat)), some (.ref lf), some (.ref lk), some (.int (j : Nat)), c, d, e, f]) (H := H6)
          (gP locks fun s => !decide (s ∈ ks)) (gV locks V.str) (ev_var rfl) (sq_of hl6) (by rw [List.length_map]; omega) (fun x => rfl) (fun i x H7 e7 hx => ?_) (fun i x H7 e7 hx _ => ?_)
        · rw [List.length_map] at this
          exact this
        · rw [List.getElem?_map] at hx
          obtain ⟨s, hs, rfl⟩ := Option.map_eq_some_iff.mp hx
          rw [gP_at hs]
          refine et_is (et_test (ev_op (ev_var rfl) (ev_var rfl) (rv_niL (sq_of (e7 _ _ th6.k)) rfl (flat_strs ks)))) ?_
          rw [inV_strs]
        · rw [List.getElem?_map] at hx
          obtain ⟨s, hs, rfl⟩ := Option.map_eq_some_iff.mp hx
          rw [gV_at hs]
          exact ev_var rfl
      refine c_cons (c_L hlc fun p7 H7 hp0 e7 hp7 => c_nil ⟨_, _, rfl, ?_⟩)
      have th7 := th6.ext e7
      generalize hfr : (locks.filter fun s => !decide (s ∈ ks)) = fr at hp7
      have frm : ∀ s ∈ fr, s ∈ locks ∧ s ∉ ks := fun s hs => by
        rw [← hfr] at hs
        obtain ⟨h1, h2⟩ := List.mem_filter.mp hs
        exact ⟨h1, by simpa using h2⟩
      have frl : fr.length ≤ 100 := by
        rw [← hfr]
        exact Nat.le_trans (List.length_filter_le _ _) l1
      have fin : ∀ {H8 : Hp} {k : Nat} {t' : Thr} {ks' : List Str} {c d e f : Option V}, TH K g lf lk H3 k H8 t' ks' → k ≤ n + 1 + 5 * (j + 1) → LG most t' ks' →
          (∃ b' c' d' e' f', [some (V.ref g), some (V.ref a1), some (V.ref a2), some (V.int (most : Nat)), some (V.ref lf), some (V.ref lk), some (V.int (j : Nat)), c, d, e, f] = [some (V.ref g), some (V.ref a1), some (V.ref a2), some (V.int (most : Nat)), some (V.ref lf), some (V.ref lk), b', c', d', e', f']) ∧ ∃ t ks, TH K g lf lk H3 (n + 1 + 5 * (j + 1)) H8 t ks ∧ LG most t ks :=
        fun h1 h2 h3 => ⟨⟨_, _, _, _, _, rfl⟩, _, _, h1.mono h2, h3⟩
      refine s_if (b := decide ((w : Int) < 3) && ((!decide (fr = [])) && decide (t.length + ks.length + 2 ≤ most))) (et_and (et_test (ev_op (ev_var rfl) ev_c rv_I0)) fun _ => et_and (et_test (ev_neNil (ev_var rfl) hp7 (fun s hs => o1 s (frm s hs).1) (el_lst ea_nil (by decide)))) fun _ => et_is (et_test (ev_op (ev_op (ev_op (th7.lenf rfl) (th7.lenk rfl) rv_I0) ev_c rv_I0) (ev_var rfl) rv_I0)) (decide_eq_decide.mpr (by omega))) (fun hb H8 e8 => ?_) fun hb H8 e8 => ?_
      · -- a lock taken
        rw [Bool.and_eq_true, Bool.and_eq_true] at hb
        obtain ⟨_, hb1, hb2⟩ := hb
        have hlen := of_decide_eq_true hb2
        have fr0 : 0 < fr.length := by
          cases fr with
          | nil => cases hb1
          | cons s fr => exact Nat.succ_pos _
        have th8 := th7.ext e8
        refine c_app (ev_var rfl) th8.k fun H9 e9 => c_choiceV (a := p7) (xs := fr) (th8.ext e9).src (by omega) (ev_var rfl) (ev_var rfl) ((e8.trans e9) _ _ hp7) fr0 (by omega) fun s H10 hs x10 s10 => ?_
        have th10 := (th8.ext e9).draw nfg nkg x10 s10
        refine ⟨lk, _, _, rfl, rfl, th10.k, sz_lt (by rw [List.length_map]; omega), ?_⟩
        have ek : ks.map V.str ++ [V.str s] = (ks ++ [s]).map V.str := by rw [List.map_append]; rfl
        rw [ek]
        have th11 := th10.kap nkg nfk (ks ++ [s])
        generalize upd H10 lk (.lst ((ks ++ [s]).map V.str)) = H11 at th11
        obtain ⟨ys11, hy11, _⟩ := th11.f
        refine c_app1 (ev_var rfl) hy11 fun H12 e12 => c_tup (c_cons (c_choice (xs := takeW) (th11.ext e12).src (by omega) (ev_var rfl) (el_lst (ea_cons ev_c (ea_cons ev_c (ea_cons ev_c (ea_cons ev_c ea_nil)))) (Nat.le_of_ble_eq_true rfl)) (by decide) (by decide) fun wd H13 hwd x13 s13 => ?_))
        obtain ⟨wv, rfl, hwt⟩ := takeW_ok wd hwd
        have th13 := (th11.ext e12).draw nfg nkg x13 s13
        refine c_cons (c_ev (ev_op (ev_var rfl) (ev_un ev_c ru_neg) (rv_ixL (sq_of th13.k) (by rw [List.map_append]; exact atI_last _ _))) fun H14 e14 => c_nil ⟨Nat.le_of_ble_eq_true rfl, fun q hq => ?_⟩)
        have e15 : Ex H14 (upd H14 q (.tup [.str (wdS wv), .str s])) := Ex.new hq
        obtain ⟨ys, hy, hl, th16⟩ := ((th13.ext e14).ext e15).app nfg nfk (s := (wv, s)) upd_same
        refine ⟨lf, ys, _, rfl, rfl, hy, sz_lt (by omega), fin th16 (by omega) ⟨lg.gen.take hwt (frm s hs).2, by simp; omega, fun z hz => ?_, fun z hz => ?_⟩⟩
        · rcases List.mem_append.mp hz with z' | z'
          · exact lg.okt z z'
          · rw [List.mem_singleton.mp z']; exact o1 s (frm s hs).1
        · rcases List.mem_append.mp hz with z' | z'
          · exact lg.okk z z'
          · rw [List.mem_singleton.mp z']; exact o1 s (frm s hs).1
      · have th8 := th7.ext e8
        refine s_if (b := decide ((w : Int) < 6) && !decide (ks = [])) (et_and (et_test (ev_op (ev_var rfl) ev_c rv_I0)) fun _ => et_test (ev_neNil (ev_var rfl) th8.k lg.okk (el_lst ea_nil (by decide)))) (fun hb2 H9 e9 => ?_) fun hb2 H9 e9 => ?_
        · -- a lock freed
          rw [Bool.and_eq_true] at hb2
          have ks0 : 0 < ks.length := by
            cases ks with
            | nil => cases hb2.2
            | cons s ks => exact Nat.succ_pos _
          have th9 := th8.ext e9
          refine c_asg (c_choiceV (a := lk) (xs := ks) th9.src (by omega) (ev_var rfl) (ev_var rfl) th9.k ks0 (by omega) fun s H10 hs x10 s10 => ?_)
          have th10 := th9.draw nfg nkg x10 s10
          obtain ⟨j2, h1, h2, h3⟩ := first_erase hs
          refine c_rem (ev_var rfl) th10.k (ev_var rfl) h1 h2 fun H11 e11 => ?_
          rw [h3]
          have th12 := (th10.ext e11).kap nkg nfk (ks.erase s)
          generalize upd H11 lk (.lst ((ks.erase s).map V.str)) = H12 at th12
          obtain ⟨ys12, hy12, _⟩ := th12.f
          refine c_app1 (ev_var rfl) hy12 fun H13 e13 => c_tup (c_cons (c_ev ev_c fun H14 e14 => c_cons (c_ev (ev_var rfl) fun H15 e15 => c_nil ⟨Nat.le_of_ble_eq_true rfl, fun q hq => ?_⟩)))
          have e16 : Ex H15 (upd H15 q (.tup (stV (Wd.free, s)))) := Ex.new hq
          obtain ⟨ys, hy, hl, th16⟩ := ((((th12.ext e13).ext e14).ext e15).ext e16).app nfg nfk (s := (Wd.free, s)) upd_same
          have el := List.length_erase_of_mem hs
          refine ⟨lf, ys, _, rfl, rfl, hy, sz_lt (by omega), fin th16 (by omega) ⟨lg.gen.free hs, by simp; omega, fun z hz => ?_, fun z hz => lg.okk z (List.mem_of_mem_erase hz)⟩⟩
          rcases List.mem_append.mp hz with z' | z'
          · exact lg.okt z z'
          · rw [List.mem_singleton.mp z']; exact lg.okk s hs
        · have th9 := th8.ext e9
          refine s_when (b := decide (t.length + ks.length + 1 ≤ most)) (et_is (et_test (ev_op (ev_op (ev_op (th9.lenf rfl) (th9.lenk rfl) rv_I0) ev_c rv_I0) (ev_var rfl) rv_I0)) (decide_eq_decide.mpr (by omega))) (fun hb3 H10 e10 => ?_) fun hb3 H10 e10 => ?_
          · have hlen := of_decide_eq_true hb3
            have th10 := th9.ext e10
            refine c_asg (c_choice (xs := otherW) th10.src (by omega) (ev_var rfl) (el_lst (ea_cons ev_c (ea_cons ev_c (ea_cons ev_c (ea_cons ev_c ea_nil)))) (Nat.le_of_ble_eq_true rfl)) (by decide) (by decide) fun wd H11 hwd x11 s11 => ?_)
            obtain ⟨wv, rfl, hwt, hwf⟩ := otherW_ok wd hwd
            have th11 := th10.draw nfg nkg x11 s11
            obtain ⟨ys11, hy11, _⟩ := th11.f
            refine c_app1 (ev_var rfl) hy11 fun H12 e12 => c_tup (c_cons (c_ev (ev_var rfl) fun H13 e13 => c_cons (c_choiceV (a := a2) (xs := vars) ((th11.ext e12).ext e13).src (by omega) (ev_var rfl) (ev_var rfl) (((th11.ext e12).ext e13).ex _ _ (out n2 ha2) (e03 _ _ ha2)) v0 (by omega) fun s H14 hs x14 s14 => ?_)))
            have th14 := ((th11.ext e12).ext e13).draw nfg nkg x14 s14
            refine c_nil ⟨Nat.le_of_ble_eq_true rfl, fun q hq => ?_⟩
            have e15 : Ex H14 (upd H14 q (.tup [.str (wdS wv), .str s])) := Ex.new hq
            obtain ⟨ys, hy, hl, th16⟩ := (th14.ext e15).app nfg nfk (s := (wv, s)) upd_same
            refine ⟨lf, ys, _, rfl, rfl, hy, sz_lt (by omega), fin th16 (by omega) ⟨lg.gen.other hwt hwf, by simp; omega, fun z hz => ?_, lg.okk⟩⟩
            rcases List.mem_append.mp hz with z' | z'
            · exact lg.okt z z'
            · rw [List.mem_singleton.mp z']; exact o2 s hs
          · exact fin (th9.ext e10) (by omega) lg
    · rintro σ' H5 ⟨⟨b, c, d, e, f, rfl⟩, t, ks, th, lg⟩
      have lglen := lg.len
      obtain ⟨ys, hy, al⟩ := th.f
      have lcR : EvR (tLc (iList K (tVar 5)) (gName 9) tYes (tTup (tCons (tC (.str "free")) (tCons (tVar 9) tNil))) [9]) [some (.ref g), some (.ref a1), some (.ref a2), some (.int (most : Nat)), some (.ref lf), some (.ref lk), b, c, d, e, f] H5 (LsN (Rc K stV) (ks.map fun s => (Wd.free, s))) := by
        refine (r_lcO (fun i v H => ∃ s, ks[i]? = some s ∧ Rc K stV (Wd.free, s) v H) (fun _ => true) (fun i v H H' e ⟨s, hs, h⟩ => ⟨s, hs, keeps_rc _ _ _ e h⟩) (ei_list (K := K) (vs := ks.map V.str) ((Ev.r (z := .ref lk) (ev_var rfl)).imp fun v H1 e hv => ⟨lk, hv, sq_of (e _ _ th.k)⟩)) (by rw [List.length_map]; omega) ?_).imp fun v H1 _ ⟨a, zs, h1, h2, bl⟩ => ?_
        · rintro i y H6 H7 hi e6 ⟨rfl, hyy⟩
          rw [List.getElem?_map] at hyy
          obtain ⟨s, hs, rfl⟩ := Option.map_eq_some_iff.mp hyy
          refine ⟨Ex.refl _, _, fun Q q => q, rfl, et_yes, fun _ => EvR.gg ((rc_of (enc := stV) (x := (Wd.free, s)) (r_tup (ea_cons ev_c (ea_cons (ev_var rfl) ea_nil)) (Nat.le_of_ble_eq_true rfl)) rfl).imp fun v H _ h => ⟨s, hs, h⟩) fun v H D zs zs' hD ⟨s, hs, h⟩ => ⟨s, hs, stF_rc _ _ _ _ _ hD h⟩⟩
        · rw [giv_all1] at bl
          refine ⟨a, zs, h1, h2, by rw [← bl.len]; simp, fun i x y hx hyy => ?_⟩
          rw [List.getElem?_map] at hx
          obtain ⟨s, hs, rfl⟩ := Option.map_eq_some_iff.mp hx
          have hi : i < (ks.map V.str).length := by rw [List.length_map]; exact (List.getElem?_eq_some_iff.mp hs).1
          obtain ⟨s', hs', hr⟩ := bl.at_ i i y (List.getElem?_range hi) hyy
          rw [hs] at hs'
          cases hs'
          exact hr
      refine r_ret (P := ThR K (t ++ ks.map fun s => (Wd.free, s))) (r_catT (fun _ => keeps_rc) (r_tupof (fun _ => keeps_rc) (r_var (keeps_lsn fun _ => keeps_rc) rfl ⟨lf, ys, rfl, hy, al⟩)) (r_tupof (fun _ => keeps_rc) lcR) (by simp; omega)) fun v H6 e6 hv => hq v H6 (fun a o na q => e6 _ _ (th.ex a o (out na q) (e03 _ _ q))) ((th.src.ex e6).mono (by omega)) ⟨_, hv, ⟨lg.gen.done, by simp; omega, fun i s hs => ?_⟩, by simp; omega⟩
      rcases List.mem_append.mp (List.mem_of_getElem? hs) with z | z
      · exact lg.okt s z
      · obtain ⟨k, hk, rfl⟩ := List.mem_map.mp z
        exact lg.okk k hk

end HdX
end

section
set_option Elab.async false
set_option linter.all false
set_option maxRecDepth 100000
set_option maxHeartbeats 4000000
namespace HdX
open PySem PySem.Spec PyProof.Rows L2 Evl
open _root_.TT hiding Run
/-! ### pairs that are drawn -/
section
variable {K : PySem.W.Frag} {σ : L2.St} {H : Hp} {D : Ends} {tz tu : TS} {Q : VK} {te ta tb : TE}
theorem c_callA {sp : Sp} {ta : TA} (h : ta σ H fun vs H1 => sp (vs ++ []) H1 Q E0) : tCall sp [] E0 ta σ H Q := h
theorem c_lst {ta : TA} (h : ta σ H fun vs H1 => vs.length ≤ sizeLine ∧ ∀ p, H1 p = none → Q (.ref p) (upd H1 p (.lst vs))) : tLst ta σ H Q := h
theorem c_when (h : te σ H fun v H1 => ∃ b, v = .bl b ∧ (if b = true then tu { D with nx := tz D } σ H1 else tz D σ H1)) : tSeq (tIfS (tTest te) tu tNext) tz D σ H := h
theorem Al.cons {α β : Type} {R : α → β → Prop} {xs : List α} {ys : List β} (a : Al R xs ys) {x : α} {y : β} (h : R x y) : Al R (x :: xs) (y :: ys) := by
  refine ⟨by simp [a.len], fun i u v h1 h2 => ?_⟩
  match i with
  | 0 => cases h1; cases h2; exact h
  | i + 1 => exact a.at_ i u v h1 h2
theorem ar_al0 {α : Type} {R : α → VR} : EaR tNil σ H fun vs H1 => Al (fun x v => R x v H1) [] vs := fun H1 _ Q q => q [] H1 (Ex.refl _) Al.nil
theorem ar_al {α : Type} {R : α → VR} {x : α} {xs : List α} {tr : TA} (kr : ∀ x, Keeps (R x)) (h : EvR te σ H (R x)) (hr : EaR tr σ H fun vs H1 => Al (fun x v => R x v H1) xs vs) : EaR (tCons te tr) σ H fun vs H1 => Al (fun x v => R x v H1) (x :: xs) vs := fun H1 e Q q =>
  h H1 e _ fun v H2 e2 p => hr H2 (e.trans e2) _ fun r H3 e3 pr => q (v :: r) H3 (e2.trans e3) (Al.cons pr (kr x v _ _ e3 p))
theorem r_tupAl {α : Type} {R : α → VR} {xs : List α} {ta : TA} (kr : ∀ x, Keeps (R x)) (h : EaR ta σ H fun vs H1 => Al (fun x v => R x v H1) xs vs) (hl : xs.length ≤ 100000) : EvR (tTup ta) σ H (TuO K R xs) := fun H1 e Q q =>
  h H1 e _ fun vs H2 e2 al => ⟨sz_of (by rw [← al.len]; exact hl), fun a ha => q _ _ (e2.trans (Ex.new ha)) ⟨a, vs, rfl, st_of upd_same, al.mono fun x v p => kr x v _ _ (Ex.new ha) p⟩⟩
theorem r_pair {A B : Thr} {t1 t2 : TE} (h1 : EvR t1 σ H (ThR K A)) (h2 : EvR t2 σ H (ThR K B)) : EvR (tTup (tCons t1 (tCons t2 tNil))) σ H (PaR K A B) := fun H1 e Q q =>
  h1 H1 e _ fun u H2 e2 p1 => h2 H2 (e.trans e2) _ fun w H3 e3 p2 => ⟨Nat.le_of_ble_eq_true rfl, fun a ha => q _ _ ((e2.trans e3).trans (Ex.new ha)) ⟨a, u, w, rfl, st_of upd_same, keeps_th _ _ _ (e3.trans (Ex.new ha)) p1, keeps_th _ _ _ (Ex.new ha) p2⟩⟩
theorem al_rep {α β : Type} {R : α → β → Prop} {xs : List α} {ys : List β} (a : Al R xs ys) : ∀ k, Al R (List.replicate k xs).flatten (List.replicate k ys).flatten
  | 0 => Al.nil
  | k + 1 => by
    rw [List.replicate_succ, List.replicate_succ, List.flatten_cons, List.flatten_cons]
    exact a.app (al_rep a k)
theorem r_rep {α : Type} {R : α → VR} {xs : List α} {k : Nat} (kr : ∀ x, Keeps (R x)) (ha : EvR ta σ H (TuO K R xs)) (hb : Ev tb σ H (.int (k : Nat))) (h0 : xs ≠ []) (hl : xs.length ≤ 1000) (k2 : 2 ≤ k) (k3 : k ≤ 1000) : EvR (tOp (rRepT K) ta tb) σ H (TuO K R (List.replicate k xs).flatten) :=
  r_op (keeps_tuo kr) ha (Ev.r hb) fun x y H1 e1 ⟨a, vs, h1, h2, al⟩ hy Q q => by
    refine ⟨a, (k : Int), vs, h1, hy, h2, fun z => h0 (List.length_eq_zero_iff.mp (by rw [al.len, z]; rfl)), by omega, by omega, by rw [← al.len]; exact hl, fun p hp => ?_⟩
    rw [Int.toNat_natCast]
    exact q _ _ (Ex.new hp) ⟨p, _, rfl, st_of upd_same, al_rep (al.mono fun x v z => kr x v _ _ (Ex.new hp) z) k⟩
end
/-- a pair of threads -/
def PairR (K : PySem.W.Frag) : VR := fun v H => ∃ A B : Thr, PaR K A B v H ∧ Gd A ∧ Gd B ∧ A.length ≤ 40 ∧ B.length ≤ 40
theorem gd_nil : Gd ([] : Thr) := ⟨Gen.nil.wf, by decide, fun i s h => by simp at h⟩
abbrev sp_w_pair (K : PySem.W.Frag) : Sp := SpG (α := Nat) 700 (fun x => [.int (x : Nat)]) (fun _ x _ => x ≤ 40) (fun _ => PairR K)
namespace D_w_pair
abbrev N : List Str := ["_law_source", "_law_most", "_law_locks", "_law_variables", "_law_pair_here"]
abbrev SC : Scope := defScope s_w_pair
theorem sc : FnScope N ["_law_source", "_law_most"] SC := ⟨rfl, rfl, rfl, by decide +kernel, rfl, by decide +kernel, by decide +kernel⟩
theorem nd : N.Nodup := sc.nd
end D_w_pair
open D_w_pair in
theorem ok_w_pair {P : Program} {w : World} {K : PySem.W.Frag} {mg : Str → Option Value} {base : Heap} (T : Tx K mg) (O_w_names : OK P w K mg base 3 "_law_names" ["_law_source", "_law_count"] (sp_w_names K)) (O_w_draw : OK P w K mg base 1 "_law_draw" ["_law_source", "_law_limit"] (sp_w_draw K)) (O_w_thread : OK P w K mg base 3 "_law_thread" ["_law_source", "_law_locks", "_law_variables", "_law_most"] (sp_w_thread K)) (O_w_contests : OK P w K mg base 2 "_law_contests" ["_law_pair_here"] (sp_w_contests K)) : OK P w K mg base 4 "_law_pair" ["_law_source", "_law_most"] (sp_w_pair K) := by
  obtain ⟨fd, F⟩ := T.f_w_pair
  refine OK.of T.g__law_pair F (F.ok sc (fun vs H Q E h => ?len) (fun cdv A outer s H vs Q E hr h => ?body)) (F.bindsN fun _ _ _ _ _ _ us hl => match us, hl with | [_, _], _ => rfl)
  case len =>
    obtain ⟨x, rfl, _⟩ := h
    rfl
  case body =>
    have hu := hu_of hr
    refine ⟨_, PSs.nox (pss_cons (ps_par (i := 2) (j := 3) rfl nd rfl rfl (by decide) rfl rfl (pa_cons (pcall O_w_names hr (by decide) (pa_cons (pv 0) (pa_cons (pe_op op_add pe_int (pcall O_w_draw hr (by decide) (pa_cons (pv 0) (pa_cons pe_int pa_nil)))) pa_nil))) (pa_cons (pcall O_w_names hr (by decide) (pa_cons (pv 0) (pa_cons pe_int pa_nil))) pa_nil)) rfl)
  (pss_cons (ps_set (i := 4) nd rfl (Or.inl rfl) (pe_tup (pa_cons (pcall O_w_thread hr (by decide) (pa_cons (pv 0) (pa_cons (pv 2) (pa_cons (pv 3) (pa_cons (pv 1) pa_nil))))) (pa_cons (pcall O_w_thread hr (by decide) (pa_cons (pv 0) (pa_cons (pv 2) (pa_cons (pv 3) (pa_cons (pv 1) pa_nil))))) pa_nil))))
  (pss_one (ps_ret (pe_ifExp (pt_cmpR op_lt (pe_callB (call_lenK K) (by rfl) T.b_len PySem.boot_len (pa_cons (pcall O_w_contests hr (by decide) (pa_cons (pv 4) pa_nil)) pa_nil)) pe_int (nomark _)) (pv 4) (pe_tup (pa_cons (pe_ix (ix_tupK K) (pv 4) pe_int (fun _ _ => rfl)) (pa_cons (pe_tup pa_nil) pa_nil)))))))), ?_⟩
    obtain ⟨x, rfl, hp, hq⟩ := h

    obtain ⟨most, g, n⟩ := x
    obtain ⟨hg, hn, hm⟩ := hp
    replace hg : Src H g n := hg
    replace hn : n + 700 ≤ 100000 := hn
    replace hm : most ≤ 40 := hm
    replace hq : ∀ v H', ExM (Mg g) H H' → Src H' g (n + 700) → PairR K v H' → Q v H' := hq
    refine c_par (c_cons (c_callA (c_cons (c_ev (ev_var rfl) fun H1 e1 => c_cons (c_op (c_ev ev_c fun H2 e2 => c_draw (L := 4) (hg.ex (e1.trans e2)) (by omega) (ea_cons (ev_var rfl) (ea_cons ev_c ea_nil)) (by decide) (by decide) fun r H3 hr x3 s3 => ⟨1, (r : Int), rfl, rfl, c_nil ?_⟩))))))
    refine ⟨(1 + r, g, n + 1), by show [V.ref g, V.int (1 + (r : Int))] = [V.ref g, V.int ((1 + r : Nat) : Int)]; congr 3, ⟨s3, by show n + 1 + 2 ≤ 100000; omega, by show 1 + r ≤ 20; omega⟩, ?_⟩
    rintro v1 H4 x4 s4 ⟨p1, xs1, rfl, hp1, hl1, nd1, ok1⟩
    replace x4 : ExM (Mg g) H3 H4 := x4
    replace s4 : Src H4 g (n + 1 + 2) := s4
    replace hl1 : xs1.length = 1 + r := hl1
    refine c_cons (c_call (vs := [.ref g, .int (3 : Nat)]) (ea_cons (ev_var rfl) (ea_cons ev_c ea_nil)) fun H5 e5 => ⟨(3, g, n + 1 + 2), rfl, ⟨s4.ex e5, by show n + 1 + 2 + 2 ≤ 100000; omega, by show 3 ≤ 20; decide⟩, ?_⟩)
    rintro v2 H6 x6 s6 ⟨p2, xs2, rfl, hp2, hl2, nd2, ok2⟩
    replace x6 : ExM (Mg g) H5 H6 := x6
    replace s6 : Src H6 g (n + 1 + 2 + 2) := s6
    replace hl2 : xs2.length = 3 := hl2
    have hp1' : H6 p1 = some (.lst (xs1.map V.str)) := exm_at x6 (strs_ne (s4.ex e5) (e5 _ _ hp1)) (e5 _ _ hp1)
    refine c_nil ⟨_, _, rfl, ?_⟩
    have tp : ∀ {H' : Hp}, H' p1 = some (.lst (xs1.map V.str)) → H' p2 = some (.lst (xs2.map V.str)) → ThP ⟨p1, xs1, p2, xs2, most⟩ H' := fun h1 h2 => ⟨h1, h2, ok1, ok2, by show 0 < xs2.length; omega, by show xs2.length ≤ 100; omega, by show xs1.length ≤ 100; omega, hm⟩
    refine c_asg (c_tup (c_cons (c_call (vs := [.ref g, .ref p1, .ref p2, .int (most : Nat)]) (ea_cons (ev_var rfl) (ea_cons (ev_var rfl) (ea_cons (ev_var rfl) (ea_cons (ev_var rfl) ea_nil)))) fun H7 e7 => ⟨(⟨p1, xs1, p2, xs2, most⟩, g, n + 5), rfl, ⟨Src.mono (m := n + 5) (s6.ex e7) (by omega), by show n + 5 + 300 ≤ 100000; omega, tp (e7 _ _ hp1') (e7 _ _ hp2)⟩, ?_⟩)))
    rintro v3 H8 x8 s8 ⟨A, hA, gA, lA⟩
    replace x8 : ExM (Mg g) H7 H8 := x8
    replace s8 : Src H8 g (n + 5 + 300) := s8
    have hp1'' : H8 p1 = some (.lst (xs1.map V.str)) := exm_at x8 (strs_ne (s6.ex e7) (e7 _ _ hp1')) (e7 _ _ hp1')
    have hp2'' : H8 p2 = some (.lst (xs2.map V.str)) := exm_at x8 (strs_ne (s6.ex e7) (e7 _ _ hp2)) (e7 _ _ hp2)
    refine c_cons (c_call (vs := [.ref g, .ref p1, .ref p2, .int (most : Nat)]) (ea_cons (ev_var rfl) (ea_cons (ev_var rfl) (ea_cons (ev_var rfl) (ea_cons (ev_var rfl) ea_nil)))) fun H9 e9 => ⟨(⟨p1, xs1, p2, xs2, most⟩, g, n + 5 + 300), rfl, ⟨s8.ex e9, by show n + 5 + 300 + 300 ≤ 100000; omega, tp (e9 _ _ hp1'') (e9 _ _ hp2'')⟩, ?_⟩)
    rintro v4 H10 x10 s10 ⟨B, hB, gB, lB⟩
    replace x10 : ExM (Mg g) H9 H10 := x10
    replace s10 : Src H10 g (n + 5 + 300 + 300) := s10
    refine c_nil ⟨Nat.le_of_ble_eq_true rfl, fun p hp => ?_⟩
    have hA10 : ThR K A v3 H10 := ro_th _ _ _ _ (s8.ex e9).mut x10 (keeps_th _ _ _ e9 hA)
    have e11 : Ex H10 (upd H10 p (.tup [v3, v4])) := Ex.new hp
    have hpa : PaR K A B (.ref p) (upd H10 p (.tup [v3, v4])) := ⟨p, v3, v4, rfl, st_of upd_same, keeps_th _ _ _ e11 hA10, keeps_th _ _ _ e11 hB⟩
    generalize upd H10 p (.tup [v3, v4]) = H11 at e11 hpa
    have xall : ExM (Mg g) H H11 := (((((ExM.ex (e1.trans e2)).trans x3).trans x4).trans ((ExM.ex e5).trans x6)).trans ((ExM.ex e7).trans x8)).trans (((ExM.ex e9).trans x10).trans (ExM.ex e11))
    refine r_ret (P := fun v H => ∃ B', PaR K A B' v H ∧ Gd B' ∧ B'.length ≤ 40) (r_if (b := decide ((srt A B).length < 121)) (et_is (et_test (ev_op (v_lenL (K := K) (xs := srt A B) (R := Rc K conV) ((f_call (ea_cons (ev_var rfl) ea_nil) fun H12 e Q q => ⟨(A, B, .ref p), rfl, ⟨keeps_pa _ _ _ e hpa, gA, gB⟩, fun v' H' e' f hv => q v' H' e' f hv⟩).rr.imp fun v H _ h => LsN.o h)) ev_c rv_I0)) (decide_eq_decide.mpr (by omega)))
      (fun _ => (r_var keeps_pa rfl hpa).imp fun v H _ h => ⟨B, h, gB, lB⟩) fun _ => (r_pair (A := A) (B := []) (r_pa0 (r_var keeps_pa rfl hpa) ev_c) (r_tupAl (fun _ => keeps_rc) ar_al0 (by decide))).imp fun v H _ h => ⟨[], h, gd_nil, by decide⟩) fun v H12 e12 ⟨B', h1, h2, h3⟩ => hq v H12 (xall.trans (ExM.ex e12)) ((s10.ex (e11.trans e12)).mono (by omega)) ⟨A, B', h1, gA, h2, lA, h3⟩

end HdX
end

section
set_option Elab.async false
set_option linter.all false
set_option maxRecDepth 100000
set_option maxHeartbeats 4000000
namespace HdX
open PySem PySem.Spec PyProof.Rows L2 Evl
open _root_.TT hiding Run
/-! ### pairs without contests -/
def FreeR (K : PySem.W.Frag) : VR := fun v H => ∃ A B : Thr, PaR K A B v H ∧ Gd A ∧ Gd B ∧ cons A B = [] ∧ A.length ≤ 40 ∧ B.length ≤ 40
theorem gd_rep (k : Nat) (hk : k ≤ 40) (n : Str) (ok : PyData.strOk n = true) : Gd (List.replicate k (Wd.work, n)) := ⟨(rep_work k n).wf, by rw [List.length_replicate]; omega, fun i s h => by
  have := List.eq_of_mem_replicate (List.mem_of_getElem? h)
  rw [this]
  exact ok⟩
theorem reps_len (k : Nat) (t : Thr) : (reps k t).length = k * t.length := by
  induction k with
  | zero => simp [reps]
  | succ k ih => rw [reps_succ, List.length_append, ih, Nat.succ_mul]
theorem gd_reps {k : Nat} {t : Thr} (w : WF (reps k t)) (hl : k * t.length ≤ 80) (ok : ∀ s ∈ t, PyData.strOk s.2 = true) : Gd (reps k t) := ⟨w, by rw [reps_len]; exact hl, fun i s h => ok s (mem_reps (List.mem_of_getElem? h))⟩
theorem flat_one {α : Type} (k : Nat) (x : α) : (List.replicate k [x]).flatten = List.replicate k x := by
  induction k with
  | zero => rfl
  | succ k ih => rw [List.replicate_succ, List.flatten_cons, ih, List.replicate_succ]; rfl
abbrev sp_w_free_pair (K : PySem.W.Frag) : Sp := SpG (α := Unit) 10 (fun _ => []) (fun _ _ _ => True) (fun _ => FreeR K)
namespace D_w_free_pair
abbrev N : List Str := ["_law_source", "_law_many", "_law_names_here", "_law_one", "_law_other"]
abbrev SC : Scope := defScope s_w_free_pair
theorem sc : FnScope N ["_law_source"] SC := ⟨rfl, rfl, rfl, by decide +kernel, rfl, by decide +kernel, by decide +kernel⟩
theorem nd : N.Nodup := sc.nd
end D_w_free_pair
section
variable {K : PySem.W.Frag} {σ : L2.St} {H : Hp}
theorem r_st {t1 t2 : TE} {w : Wd} {n : Str} (h1 : Ev t1 σ H (.str (wdS w))) (h2 : Ev t2 σ H (.str n)) : EvR (tTup (tCons t1 (tCons t2 tNil))) σ H (Rc K stV (w, n)) := rc_of (r_tup (ea_cons h1 (ea_cons h2 ea_nil)) (Nat.le_of_ble_eq_true rfl)) rfl
theorem r_rep1 {ta tb : TE} {k : Nat} {n : Str} {w : Wd} (ha : EvR ta σ H (Rc K stV (w, n))) (hb : Ev tb σ H (.int (k : Nat))) (k2 : 2 ≤ k) (k3 : k ≤ 1000) : EvR (tOp (rRepT K) (tTup (tCons ta tNil)) tb) σ H (ThR K (List.replicate k (w, n))) := by
  have := r_rep (K := K) (R := Rc K stV) (xs := [(w, n)]) (k := k) (fun _ => keeps_rc) (r_tupAl (fun _ => keeps_rc) (ar_al (fun _ => keeps_rc) ha ar_al0) (by show 1 ≤ 100000; decide)) hb (by simp) (by show 1 ≤ 1000; decide) k2 k3
  rw [flat_one] at this
  exact this
end
open D_w_free_pair in
theorem ok_w_free_pair {P : Program} {w : World} {K : PySem.W.Frag} {mg : Str → Option Value} {base : Heap} (T : Tx K mg) (O_w_draw : OK P w K mg base 1 "_law_draw" ["_law_source", "_law_limit"] (sp_w_draw K)) (O_w_names : OK P w K mg base 3 "_law_names" ["_law_source", "_law_count"] (sp_w_names K)) : OK P w K mg base 4 "_law_free_pair" ["_law_source"] (sp_w_free_pair K) := by
  obtain ⟨fd, F⟩ := T.f_w_free_pair
  refine OK.of T.g__law_free_pair F (F.ok sc (fun vs H Q E h => ?len) (fun cdv A outer s H vs Q E hr h => ?body)) (F.bindsN fun _ _ _ _ _ _ us hl => match us, hl with | [_], _ => rfl)
  case len =>
    obtain ⟨x, rfl, _⟩ := h
    rfl
  case body =>
    have hu := hu_of hr
    refine ⟨_, PSs.nox (pss_cons (ps_set (i := 1) nd rfl (Or.inl rfl) (pe_lst (pa_cons (pe_op op_sub pe_int (pcall O_w_draw hr (by decide) (pa_cons (pv 0) (pa_cons pe_int pa_nil)))) (pa_cons (pe_op op_sub pe_int (pcall O_w_draw hr (by decide) (pa_cons (pv 0) (pa_cons pe_int pa_nil)))) pa_nil))))
  (pss_cons (ps_if (pt_cmpR op_eq (pcall O_w_draw hr (by decide) (pa_cons (pv 0) (pa_cons pe_int pa_nil))) pe_int (nomark _))
  (pss_one (ps_ret (pe_tup (pa_cons (pe_op (op_repTK K) (pe_tup (pa_cons (pe_tup (pa_cons pe_str (pa_cons pe_str pa_nil))) pa_nil)) (pe_ix (ix_listK K) (pv 1) pe_int (fun _ _ => rfl))) (pa_cons (pe_op (op_repTK K) (pe_tup (pa_cons (pe_tup (pa_cons pe_str (pa_cons pe_str pa_nil))) pa_nil)) (pe_ix (ix_listK K) (pv 1) pe_int (fun _ _ => rfl))) pa_nil)))))
  pss_nil)
  (pss_cons (ps_set (i := 2) nd rfl (Or.inl rfl) (pcall O_w_names hr (by decide) (pa_cons (pv 0) (pa_cons pe_int pa_nil))))
  (pss_cons (ps_set (i := 3) nd rfl (Or.inl rfl) (pe_tup (pa_cons (pe_tup (pa_cons pe_str (pa_cons (pe_ix (ix_listK K) (pv 2) pe_int (fun _ _ => rfl)) pa_nil))) (pa_cons (pe_tup (pa_cons pe_str (pa_cons (pe_ix (ix_listK K) (pv 2) pe_int (fun _ _ => rfl)) pa_nil))) (pa_cons (pe_tup (pa_cons pe_str (pa_cons (pe_ix (ix_listK K) (pv 2) pe_int (fun _ _ => rfl)) pa_nil))) (pa_cons (pe_tup (pa_cons pe_str (pa_cons (pe_ix (ix_listK K) (pv 2) pe_int (fun _ _ => rfl)) pa_nil))) (pa_cons (pe_tup (pa_cons pe_str (pa_cons (pe_ix (ix_listK K) (pv 2) pe_int (fun _ _ => rfl)) pa_nil))) pa_nil)))))))
  (pss_cons (ps_set (i := 4) nd rfl (Or.inl rfl) (pe_tup (pa_cons (pe_tup (pa_cons pe_str (pa_cons (pe_ix (ix_listK K) (pv 2) pe_int (fun _ _ => rfl)) pa_nil))) (pa_cons (pe_tup (pa_cons pe_str (pa_cons (pe_ix (ix_listK K) (pv 2) pe_int (fun _ _ => rfl)) pa_nil))) (pa_cons (pe_tup (pa_cons pe_str (pa_cons (pe_ix (ix_listK K) (pv 2) pe_int (fun _ _ => rfl)) pa_nil))) (pa_cons (pe_tup (pa_cons pe_str (pa_cons (pe_ix (ix_listK K) (pv 2) pe_int (fun _ _ => rfl)) pa_nil))) (pa_cons (pe_tup (pa_cons pe_str (pa_cons (pe_ix (ix_listK K) (pv 2) pe_int (fun _ _ => rfl)) pa_nil))) pa_nil)))))))
  (pss_one (ps_ret (pe_tup (pa_cons (pe_op (op_repTK K) (pv 3) (pe_op op_fdiv (pe_ix (ix_listK K) (pv 1) pe_int (fun _ _ => rfl)) pe_int)) (pa_cons (pe_op (op_repTK K) (pv 4) (pe_op op_fdiv (pe_ix (ix_listK K) (pv 1) pe_int (fun _ _ => rfl)) pe_int)) pa_nil)))))))))), ?_⟩
    obtain ⟨x, rfl, hp, hq⟩ := h

    obtain ⟨u, g, n⟩ := x
    obtain ⟨hg, hn, _⟩ := hp
    replace hg : Src H g n := hg
    replace hn : n + 10 ≤ 100000 := hn
    replace hq : ∀ v H', ExM (Mg g) H H' → Src H' g (n + 10) → FreeR K v H' → Q v H' := hq
    refine c_asg (c_lst (c_cons (c_op (c_ev ev_c fun H1 e1 => c_draw (L := 20) (hg.ex e1) (by omega) (ea_cons (ev_var rfl) (ea_cons ev_c ea_nil)) (by decide) (by decide) fun r1 H2 hr1 x2 s2 => ⟨40, (r1 : Int), rfl, rfl, ?_⟩))))
    refine c_cons (c_op (c_ev ev_c fun H3 e3 => c_draw (L := 20) (s2.ex e3) (by omega) (ea_cons (ev_var rfl) (ea_cons ev_c ea_nil)) (by decide) (by decide) fun r2 H4 hr2 x4 s4 => ⟨40, (r2 : Int), rfl, rfl, c_nil ⟨Nat.le_of_ble_eq_true rfl, fun pm hpm => ?_⟩⟩))
    obtain ⟨k1, hk1, ek1⟩ : ∃ k1 : Nat, (20 < k1 ∧ k1 ≤ 40) ∧ (40 : Int) - (r1 : Int) = (k1 : Int) := ⟨40 - r1, by omega, by omega⟩
    obtain ⟨k2, hk2, ek2⟩ : ∃ k2 : Nat, (20 < k2 ∧ k2 ≤ 40) ∧ (40 : Int) - (r2 : Int) = (k2 : Int) := ⟨40 - r2, by omega, by omega⟩
    dsimp only
    rw [ek1, ek2]
    have e5 : Ex H4 (upd H4 pm (.lst [V.int (k1 : Int), V.int (k2 : Int)])) := Ex.new hpm
    have hm5 : upd H4 pm (.lst [V.int (k1 : Int), V.int (k2 : Int)]) pm = some (.lst [V.int (k1 : Int), V.int (k2 : Int)]) := upd_same
    have x5 : ExM (Mg g) H (upd H4 pm (.lst [V.int (k1 : Int), V.int (k2 : Int)])) := (((ExM.ex e1).trans x2).trans ((ExM.ex e3).trans x4)).trans (ExM.ex e5)
    have s5 := s4.ex e5
    have nmg : pm ≠ g := fun z => by
      obtain ⟨x, y, w, h1, _⟩ := s4
      rw [z, h1] at hpm
      cases hpm
    generalize upd H4 pm (.lst [V.int (k1 : Int), V.int (k2 : Int)]) = H5 at hm5 x5 s5
    have many : ∀ {σ2 : L2.St} {H' : Hp} {i k : Nat}, H' pm = some (.lst [V.int (k1 : Int), V.int (k2 : Int)]) → σ2[1]? = some (some (.ref pm)) → [V.int (k1 : Int), V.int (k2 : Int)][i]? = some (.int (k : Nat)) → Ev (tOp (rIxL K) (tVar 1) (tC (.int (i : Nat)))) σ2 H' (.int (k : Nat)) := fun h1 h2 h3 => src_ix h1 (ev_var h2) ev_c h3
    refine c_when (c_op (c_draw (L := 2) s5 (by omega) (ea_cons (ev_var rfl) (ea_cons ev_c ea_nil)) (by decide) (by decide) fun r3 H6 hr3 x6 s6 => c_ev ev_c fun H7 e7 => ⟨rfl, _, rfl, ?_⟩))
    have hm7 : H7 pm = some (.lst [V.int (k1 : Int), V.int (k2 : Int)]) := e7 _ _ (exm_at x6 nmg hm5)
    have x7 := x5.trans (x6.trans (ExM.ex e7))
    have s7 := s6.ex e7
    cases decide (V.int (r3 : Nat) = V.int 0) with
    | true =>
      refine iteT ?_
      exact r_ret (P := PaR K (List.replicate k1 (Wd.work, ("w" : Str))) (List.replicate k2 (Wd.work, ("v" : Str)))) (r_pair (r_rep1 (w := .work) (n := "w") (r_st ev_c ev_c) (many (i := 0) (k := k1) hm7 rfl rfl) (by omega) (by omega)) (r_rep1 (w := .work) (n := "v") (r_st ev_c ev_c) (many (i := 1) (k := k2) hm7 rfl rfl) (by omega) (by omega))) fun v H8 e8 hv =>
        hq v H8 (x7.trans (ExM.ex e8)) ((s7.ex e8).mono (by omega)) ⟨_, _, hv, gd_rep k1 hk1.2 _ (by decide +kernel), gd_rep k2 hk2.2 _ (by decide +kernel), cons_work _ _ _ _, by rw [List.length_replicate]; omega, by rw [List.length_replicate]; omega⟩
    | false =>
      refine iteF ?_
      refine c_asg (c_call (vs := [.ref g, .int (4 : Nat)]) (ea_cons (ev_var rfl) (ea_cons ev_c ea_nil)) fun H8 e8 => ⟨(4, g, n + 3), rfl, ⟨Src.mono (m := n + 3) (s7.ex e8) (by omega), by show n + 3 + 2 ≤ 100000; omega, by show 4 ≤ 20; decide⟩, ?_⟩)
      rintro v9 H9 x9 s9 ⟨pn, xs, rfl, hpn, hxl, nd, ok⟩
      replace x9 : ExM (Mg g) H8 H9 := x9
      replace s9 : Src H9 g (n + 3 + 2) := s9
      replace hxl : xs.length = 4 := hxl
      obtain ⟨a, b, c, d, rfl⟩ : ∃ a b c d, xs = [a, b, c, d] := by
        match xs, hxl with
        | [a, b, c, d], _ => exact ⟨a, b, c, d, rfl⟩
      have hm9 : H9 pm = some (.lst [V.int (k1 : Int), V.int (k2 : Int)]) := exm_at x9 nmg (e8 _ _ hm7)
      have nm : ∀ {σ2 : L2.St} {H' : Hp} {i : Nat} {z : Str}, H' pn = some (.lst ([a, b, c, d].map V.str)) → σ2[2]? = some (some (.ref pn)) → ([a, b, c, d].map V.str)[i]? = some (.str z) → Ev (tOp (rIxL K) (tVar 2) (tC (.int (i : Nat)))) σ2 H' (.str z) := fun h1 h2 h3 => src_ix h1 (ev_var h2) ev_c h3
      refine r_asg (P := ThR K (blA a b c d)) (r_tupAl (xs := blA a b c d) (fun _ => keeps_rc) (ar_al (fun _ => keeps_rc) (r_st (w := .lock) ev_c (nm (i := 0) hpn rfl rfl)) (ar_al (fun _ => keeps_rc) (r_st (w := .read) ev_c (nm (i := 3) hpn rfl rfl)) (ar_al (fun _ => keeps_rc) (r_st (w := .free) ev_c (nm (i := 0) hpn rfl rfl)) (ar_al (fun _ => keeps_rc) (r_st (w := .share) ev_c (nm (i := 1) hpn rfl rfl)) (ar_al (fun _ => keeps_rc) (r_st (w := .free) ev_c (nm (i := 1) hpn rfl rfl)) ar_al0))))) (by show 5 ≤ 100000; decide)) fun va H10 e10 hva => ?_
      have hpn10 := e10 _ _ hpn
      refine r_asg (P := ThR K (blB a b c d)) (r_tupAl (xs := blB a b c d) (fun _ => keeps_rc) (ar_al (fun _ => keeps_rc) (r_st (w := .lock) ev_c (nm (i := 2) hpn10 rfl rfl)) (ar_al (fun _ => keeps_rc) (r_st (w := .free) ev_c (nm (i := 2) hpn10 rfl rfl)) (ar_al (fun _ => keeps_rc) (r_st (w := .read) ev_c (nm (i := 3) hpn10 rfl rfl)) (ar_al (fun _ => keeps_rc) (r_st (w := .share) ev_c (nm (i := 1) hpn10 rfl rfl)) (ar_al (fun _ => keeps_rc) (r_st (w := .free) ev_c (nm (i := 1) hpn10 rfl rfl)) ar_al0))))) (by show 5 ≤ 100000; decide)) fun vb H11 e11 hvb => ?_
      have hm11 := (e10.trans e11) _ _ hm9
      have div : ∀ {σ2 : L2.St} {i k : Nat}, σ2[1]? = some (some (.ref pm)) → [V.int (k1 : Int), V.int (k2 : Int)][i]? = some (.int (k : Nat)) → Ev (tOp (rI CDiv fun i j => .int (i / j)) (tOp (rIxL K) (tVar 1) (tC (.int (i : Nat)))) (tC (.int 5))) σ2 H11 (.int ((k / 5 : Nat) : Int)) := fun {σ2 i k} h1 h2 => ev_is (ev_op (many (i := i) (k := k) hm11 h1 h2) ev_c (rv_div ⟨by decide, by decide⟩)) (by congr 1)
      refine r_ret (P := PaR K (reps (k1 / 5) (blA a b c d)) (reps (k2 / 5) (blB a b c d))) (r_pair (r_rep (fun _ => keeps_rc) (r_var keeps_th rfl (keeps_th _ _ _ e11 hva)) (div (i := 0) (k := k1) rfl rfl) (by simp [blA]) (by show 5 ≤ 1000; decide) (by omega) (by omega)) (r_rep (fun _ => keeps_rc) (r_var keeps_th rfl hvb) (div (i := 1) (k := k2) rfl rfl) (by simp [blB]) (by show 5 ≤ 1000; decide) (by omega) (by omega))) fun v H12 e12 hv => ?_
      have okm : ∀ z ∈ [a, b, c, d], PyData.strOk z = true := ok
      have oka := okm a (by simp)
      have okb := okm b (by simp)
      have okc := okm c (by simp)
      have okd := okm d (by simp)
      refine hq v H12 ((((x7.trans (ExM.ex e8)).trans x9).trans (ExM.ex (e10.trans e11))).trans (ExM.ex e12)) (((s9.ex (e10.trans e11)).ex e12).mono (by omega)) ⟨_, _, hv, gd_reps (gen_blA _ _ _ _ _).wf (by show k1 / 5 * 5 ≤ 80; omega) fun s hs => ?_, gd_reps (gen_blB _ _ _ _ _).wf (by show k2 / 5 * 5 ≤ 80; omega) fun s hs => ?_, cons_bl _ _ nd, by rw [reps_len]; show k1 / 5 * 5 ≤ 40; omega, by rw [reps_len]; show k2 / 5 * 5 ≤ 40; omega⟩
      · simp [blA] at hs
        rcases hs with rfl | rfl | rfl | rfl | rfl <;> assumption
      · simp [blB] at hs
        rcases hs with rfl | rfl | rfl | rfl | rfl <;> assumption

end HdX
end

section
set_option Elab.async false
set_option linter.all false
set_option maxRecDepth 100000
set_option maxHeartbeats 4000000
namespace HdX
open PySem PySem.Spec PyProof.Rows L2 Evl
open _root_.TT hiding Run
/-! ### a run that is drawn -/
def RunR (A B : Thr) : VR := fun v _ => ∃ r : Rn, v = .str (rs r) ∧ isRunB A B r = true
theorem run_len {A B : Thr} {r : Rn} (h : isRunB A B r = true) : r.length = A.length + B.length := by
  have R := isRunB_iff.mp h
  rw [← cAB, R.a, R.b]
theorem atI_lastN {α : Type} (xs : List α) (x : α) : atI (xs ++ [x]) (-1) = some x := by
  unfold atI ixN
  rw [if_neg (by decide), if_pos (by simp; omega)]
  show (xs ++ [x])[((-1 : Int) + ((xs ++ [x]).length : Int)).toNat]? = some x
  have : ((-1 : Int) + ((xs ++ [x]).length : Int)).toNat = xs.length := by simp; omega
  rw [this]
  simp
abbrev sp_w_walk (K : PySem.W.Frag) : Sp := SpG (α := Thr × Thr × V) 100 (fun x => [x.2.2]) (fun _ x H => PaR K x.1 x.2.1 x.2.2 H ∧ Gd x.1 ∧ Gd x.2.1 ∧ x.1.length ≤ 40 ∧ x.2.1.length ≤ 40) (fun x => RunR x.1 x.2.1)
namespace D_w_walk
abbrev N : List Str := ["_law_source", "_law_pair_here", "_law_i", "_law_j", "_law_found", "_law_some"]
abbrev SC : Scope := defScope s_w_walk
theorem sc : FnScope N ["_law_source", "_law_pair_here"] SC := ⟨rfl, rfl, rfl, by decide +kernel, rfl, by decide +kernel, by decide +kernel⟩
theorem nd : N.Nodup := sc.nd
end D_w_walk
section
variable {K : PySem.W.Frag} {σ : L2.St} {H : Hp} {D : Ends} {tz : TS} {te ta ti tj : TE} {t : TT}
theorem et_open {A B : Thr} {v : V} {i j : Nat} (hp : σ[1]? = some (some v)) (hpa : PaR K A B v H) (gA : Gd A) (gB : Gd B) (hi : Ev ti σ H (.int (i : Nat))) (hj : Ev tj σ H (.int (j : Nat))) (li : i ≤ A.length) (lj : j ≤ B.length) :
    EvT (tB (tCall (sp_w_is_open K) [] E0 (tCons (tVar 1) (tCons (tTup (tCons ti (tCons tj tNil))) tNil)))) σ H (openAt A B i j) :=
  et_B fun H1 e Q q => c_callA <| c_cons <| ev_var hp H1 e _ fun H2 e2 => c_cons <| (r_tup (ea_cons hi (ea_cons hj ea_nil)) (Nat.le_of_ble_eq_true rfl)) H2 (e.trans e2) _ fun u H3 e3 ⟨p, hu, hp3⟩ => c_nil <| ⟨(A, B, v, i, j, u), rfl, ⟨keeps_pa _ _ _ ((e.trans e2).trans e3) hpa, gA, gB, ⟨p, hu, st_of hp3⟩, li, lj⟩, fun v' H' e' hv => by
    have hv : v' = .bl (openAt A B i j) := hv
    rw [hv]
    exact q H' ((e2.trans e3).trans e')⟩
theorem q_addif {b : Bool} {xs : List V} {l : Addr} {z : V} (ht : EvT t σ H b) (ha : ∀ H', Ev ta σ H' (.ref l)) (hv : ∀ H', Ev te σ H' z) (hl : H l = some (.lst xs)) (hn : xs.length < 100000) (k : ∀ H', ExM (fun a => a = l) H H' → H' l = some (.lst (xs ++ if b then [z] else [])) → tz D σ H') :
    tSeq (tIfS t (tDrop (tBM K "list" rAppend ta (tCons te tNil))) tNext) tz D σ H :=
  q_when ht (fun hb H1 e1 => s_app (e1 _ _ hl) (ha H1) (hv H1) hn fun H2 e2 => k _ (ExM.set (M := fun a => a = l) (ExM.ex (e1.trans e2)) rfl) (by rw [hb]; exact upd_same)) fun hb H1 e1 => k H1 (ExM.ex e1) (by rw [hb]; simpa using e1 _ _ hl)
theorem s_par {i j : Nat} {ta : TA} {a b : V} (h : EvA ta σ H [a, b]) (k : ∀ H1, Ex H H1 → D.nx ((σ.set i (some a)).set j (some b)) H1) : tPar i j ta D σ H := h H (Ex.refl H) _ fun H1 e => ⟨a, b, rfl, k H1 e⟩
theorem ev_intEq {r : Rn} {x y : Bool} {te : TE} (h : Ev te σ H (.str (rs (r ++ [x])))) {tc : TE} (hc : Ev tc σ H (.str (rs [y]))) (hl : r.length ≤ 1000) :
    Ev (tCB (fun xs H Q => (∃ i, xs = [.int i] ∧ Q (.int i) H) ∨ ∃ k, xs = [.bl k] ∧ Q (.int (if k then 1 else 0)) H) (tCons (tOp rEq (tOp rIxS te (tUn (rU fun i => .int (-i)) (tC (.int 1)))) tc) tNil)) σ H (.int (if x = y then 1 else 0)) := by
  refine ev_is (ev_cb (ea_cons (ev_op (ev_op h (ev_un ev_c ru_neg) (rv_ixS (c := lt x) (by rw [rs_len]; simp; omega) (by rw [rs_cps, List.map_append]; exact atI_lastN _ _))) hc (rv_eq rfl)) ea_nil) fun H8 _ Q q => .inr ⟨_, rfl, q H8 (Ex.refl _)⟩) ?_
  have e : decide (V.str (⟨#[lt x]⟩ : Str) = V.str (rs [y])) = decide (x = y) := by
    have := rs_eqN (r := [x]) (s := [y])
    rw [rs_one] at this
    rw [this]
    exact decide_eq_decide.mpr ⟨fun z => by cases z; rfl, fun z => by rw [z]⟩
  rw [e]
  cases x <;> cases y <;> rfl
end
open D_w_walk in
theorem ok_w_walk {P : Program} {w : World} {K : PySem.W.Frag} {mg : Str → Option Value} {base : Heap} (T : Tx K mg) (O_w_is_open : OK P w K mg base 2 "_law_is_open" ["_law_pair_here", "_law_state"] (sp_w_is_open K)) (O_w_choice : OK P w K mg base 2 "_law_choice" ["_law_source", "_law_items"] (sp_w_choice K)) : OK P w K mg base 3 "_law_walk" ["_law_source", "_law_pair_here"] (sp_w_walk K) := by
  obtain ⟨fd, F⟩ := T.f_w_walk
  refine OK.of T.g__law_walk F (F.ok sc (fun vs H Q E h => ?len) (fun cdv A outer s H vs Q E hr h => ?body)) (F.bindsN fun _ _ _ _ _ _ us hl => match us, hl with | [_, _], _ => rfl)
  case len =>
    obtain ⟨x, rfl, _⟩ := h
    rfl
  case body =>
    have hu := hu_of hr
    refine ⟨_, PSs.nox (pss_cons (ps_asg (pe_tup (pa_cons pe_int (pa_cons pe_int (pa_cons pe_str pa_nil)))) (pg_tupK (n := 3) K rfl (pgs_cons (pg_name (i := 2) nd rfl (Or.inl rfl)) (pgs_cons (pg_name (i := 3) nd rfl (Or.inl rfl)) (pgs_cons (pg_name (i := 4) nd rfl (Or.inl rfl)) pgs_nil)))))
  (pss_cons (ps_while PassesOwn.never (pt_cmpR op_lt (pe_callB call_len_str (by rfl) T.b_len PySem.boot_len (pa_cons (pv 4) pa_nil)) (pe_op op_add (pe_callB (call_lenK K) (by rfl) T.b_len PySem.boot_len (pa_cons (pe_ix (ix_tupK K) (pv 1) pe_int (fun _ _ => rfl)) pa_nil)) (pe_callB (call_lenK K) (by rfl) T.b_len PySem.boot_len (pa_cons (pe_ix (ix_tupK K) (pv 1) pe_int (fun _ _ => rfl)) pa_nil))) (nomark _))
  (pss_cons (ps_set (i := 5) nd rfl (Or.inl rfl) (pe_lst pa_nil))
  (pss_cons (ps_if (PW.pt (pw_and (pt_cmpR op_lt (pv 2) (pe_callB (call_lenK K) (by rfl) T.b_len PySem.boot_len (pa_cons (pe_ix (ix_tupK K) (pv 1) pe_int (fun _ _ => rfl)) pa_nil)) (nomark _)) (pw_and1 (pt_val (pcall O_w_is_open hr (by decide) (pa_cons (pv 1) (pa_cons (pe_tup (pa_cons (pe_op op_add (pv 2) pe_int) (pa_cons (pv 3) pa_nil))) pa_nil))) (fun _ => rfl)))))
  (pss_one (ps_expr (pe_bm PySem.F.plainAttrs_list PySem.F.slot_list_append PySem.F.type_list_append mt_append (pv 5) (pa_cons pe_str pa_nil))))
  pss_nil)
  (pss_cons (ps_if (PW.pt (pw_and (pt_cmpR op_lt (pv 3) (pe_callB (call_lenK K) (by rfl) T.b_len PySem.boot_len (pa_cons (pe_ix (ix_tupK K) (pv 1) pe_int (fun _ _ => rfl)) pa_nil)) (nomark _)) (pw_and1 (pt_val (pcall O_w_is_open hr (by decide) (pa_cons (pv 1) (pa_cons (pe_tup (pa_cons (pv 2) (pa_cons (pe_op op_add (pv 3) pe_int) pa_nil))) pa_nil))) (fun _ => rfl)))))
  (pss_one (ps_expr (pe_bm PySem.F.plainAttrs_list PySem.F.slot_list_append PySem.F.type_list_append mt_append (pv 5) (pa_cons pe_str pa_nil))))
  pss_nil)
  (pss_cons (ps_if (pt_cmpR (op_eqDK K hr.units) (pv 5) (pe_lst pa_nil) (nomark _))
  (pss_one (ps_ret (pe_op op_add_str (pe_op op_repS pe_str (pe_callB (call_lenK K) (by rfl) T.b_len PySem.boot_len (pa_cons (pe_ix (ix_tupK K) (pv 1) pe_int (fun _ _ => rfl)) pa_nil))) (pe_op op_repS pe_str (pe_callB (call_lenK K) (by rfl) T.b_len PySem.boot_len (pa_cons (pe_ix (ix_tupK K) (pv 1) pe_int (fun _ _ => rfl)) pa_nil))))))
  pss_nil)
  (pss_cons (ps_set (i := 4) nd rfl (Or.inl rfl) (pe_op op_add_str (pv 4) (pcall O_w_choice hr (by decide) (pa_cons (pv 0) (pa_cons (pv 5) pa_nil)))))
  (pss_one (ps_par (i := 2) (j := 3) rfl nd rfl rfl (by decide) rfl rfl (pa_cons (pe_op op_add (pv 2) (pe_callTy call_int1 (by rfl) T.b_int (by decide +kernel) (pa_cons (pe_cmpR op_eq (pe_ix ix_str (pv 4) (pe_un un_neg pe_int) (fun _ _ => rfl)) pe_str (nomark _)) pa_nil))) (pa_cons (pe_op op_add (pv 3) (pe_callTy call_int1 (by rfl) T.b_int (by decide +kernel) (pa_cons (pe_cmpR op_eq (pe_ix ix_str (pv 4) (pe_un un_neg pe_int) (fun _ _ => rfl)) pe_str (nomark _)) pa_nil))) pa_nil)) rfl))))))))
  (pss_one (ps_ret (pv 4))))), ?_⟩
    obtain ⟨x, rfl, hp, hq⟩ := h

    obtain ⟨⟨A, B, v⟩, g, n⟩ := x
    obtain ⟨hg, hn, hpa, gA, gB, lA, lB⟩ := hp
    replace hg : Src H g n := hg
    replace hn : n + 100 ≤ 100000 := hn
    replace hpa : PaR K A B v H := hpa
    replace gA : Gd A := gA
    replace gB : Gd B := gB
    replace lA : A.length ≤ 40 := lA
    replace lB : B.length ≤ 40 := lB
    replace hq : ∀ v H', ExM (Mg g) H H' → Src H' g (n + 100) → RunR A B v H' → Q v H' := hq
    refine r_asgG (P := IsTup [.int 0, .int 0, .str (rs [])]) (r_tup (ea_cons ev_c (ea_cons ev_c (ea_cons (by rw [← lit_0]; exact ev_c) ea_nil))) (Nat.le_of_ble_eq_true rfl)) fun tv H1 e1 ⟨pt, etv, hpt⟩ => ?_
    subst etv
    refine g3n (st_of hpt) ?_
    refine q_while (fun m σ' H' => ∃ r, (∃ x, σ' = [some (.ref g), some v, some (.int (cA r : Nat)), some (.int (cB r : Nat)), some (.str (rs r)), x]) ∧ ExM (Mg g) H H' ∧ Src H' g (n + r.length) ∧ IsPre A B r ∧ r.length ≤ A.length + B.length ∧ m = A.length + B.length - r.length) (A.length + B.length)
      ⟨[], ⟨_, rfl⟩, ExM.ex e1, hg.ex e1, IsPre.nil A B, by simp, rfl⟩ ?_
    rintro m σ' H2 ⟨r, ⟨x, rfl⟩, x2, s2, pre, rl, rfl⟩
    have hpa2 : PaR K A B v H2 := ro_pa _ _ _ _ hg.mut x2 hpa
    have pa : ∀ {H' : Hp} {σ2 : L2.St}, Ex H2 H' → σ2[1]? = some (some v) → EvR (tVar 1) σ2 H' (PaR K A B) := fun e h => r_var keeps_pa h (keeps_pa _ _ _ e hpa2)
    have lenA : ∀ {H' : Hp} {σ2 : L2.St}, Ex H2 H' → σ2[1]? = some (some v) → Ev (tCB (rLenS K) (tCons (tOp (rIxT K) (tVar 1) (tC (.int 0))) tNil)) σ2 H' (.int (A.length : Nat)) := fun e h => v_lenT (fun _ => keeps_rc) (r_pa0 (pa e h) ev_c)
    have lenB : ∀ {H' : Hp} {σ2 : L2.St}, Ex H2 H' → σ2[1]? = some (some v) → Ev (tCB (rLenS K) (tCons (tOp (rIxT K) (tVar 1) (tC (.int 1))) tNil)) σ2 H' (.int (B.length : Nat)) := fun e h => v_lenT (fun _ => keeps_rc) (r_pa1 (pa e h) ev_c)
    refine ⟨decide (r.length < A.length + B.length), ?_, fun hb H3 e3 => ?_, fun hb H3 e3 => ?_⟩
    · exact et_is (et_test (ev_op (ev_lenR (r := r) (ev_var rfl) (by omega)) (ev_op (lenA (Ex.refl _) rfl) (lenB (Ex.refl _) rfl) rv_I0) rv_I0)) (decide_eq_decide.mpr (by omega))
    · have hb := of_decide_eq_true hb
      refine ⟨_, fun σ2 H6 q => q, ?_⟩
      refine q_asgL (el_lst ea_nil (by decide)) fun p H4 hp0 e4 hp4 => ?_
      have e24 := e3.trans e4
      have i1 : ∀ {i : Nat} {k : Nat} {H' : Hp} {σ2 : L2.St}, σ2[i]? = some (some (.int (k : Nat))) → Ev (tOp (rI0 fun i j => .int (i + j)) (tVar i) (tC (.int 1))) σ2 H' (.int ((k + 1 : Nat) : Int)) := fun {i k H' σ2} h => ev_is (ev_op (ev_var h) ev_c rv_I0) (by show V.int ((k : Int) + 1) = _; congr 1)
      refine q_addif (b := decide (cA r < A.length) && openAt A B (cA r + 1) (cB r)) (z := .str (rs [true])) (et_and (et_is (et_test (ev_op (ev_var rfl) (lenA e24 rfl) rv_I0)) (decide_eq_decide.mpr (by omega))) fun h => et_open rfl (keeps_pa _ _ _ e24 hpa2) gA gB (i1 rfl) (ev_var rfl) (of_decide_eq_true h) pre.b) (fun _ => ev_var rfl) (fun _ => ev_cA) hp4 (by decide) fun H5 x5 hp5 => ?_
      have ex5 : Ex H2 H5 := ex_of e24 (fun a e => by have e : a = p := e; rw [e]; exact fresh_back e3 hp0) x5
      refine q_addif (b := decide (cB r < B.length) && openAt A B (cA r) (cB r + 1)) (z := .str (rs [false])) (et_and (et_is (et_test (ev_op (ev_var rfl) (lenB ex5 rfl) rv_I0)) (decide_eq_decide.mpr (by omega))) fun h => et_open rfl (keeps_pa _ _ _ ex5 hpa2) gA gB (ev_var rfl) (i1 rfl) pre.a (of_decide_eq_true h)) (fun _ => ev_var rfl) (fun _ => ev_cB) hp5 (by simp; split <;> decide) fun H6 x6 hp6 => ?_
      have ex6 : Ex H2 H6 := ex_of ex5 (fun a e => by have e : a = p := e; rw [e]; exact fresh_back e3 hp0) x6
      generalize hc1 : (decide (cA r < A.length) && openAt A B (cA r + 1) (cB r)) = c1 at hp6
      generalize hc2 : (decide (cB r < B.length) && openAt A B (cA r) (cB r + 1)) = c2 at hp6
      have hbs : H6 p = some (.lst ((((if c1 then [true] else []) ++ (if c2 then [false] else [])).map fun b => rs [b]).map V.str)) := by
        rw [hp6]
        cases c1 <;> cases c2 <;> rfl
      have bsm : ∀ x ∈ ((if c1 then [true] else []) ++ (if c2 then [false] else []) : List Bool), (x = true ∧ c1 = true) ∨ (x = false ∧ c2 = true) := by
        cases c1 <;> cases c2 <;> decide
      have bsl : ((if c1 then [true] else []) ++ (if c2 then [false] else []) : List Bool).length ≤ 2 := by
        cases c1 <;> cases c2 <;> decide
      generalize ((if c1 then [true] else []) ++ (if c2 then [false] else []) : List Bool) = bs at hbs bsm bsl
      have okb : ∀ s ∈ (bs.map fun b => rs [b]), PyData.strOk s = true := fun s hs => by
        obtain ⟨b, _, rfl⟩ := List.mem_map.mp hs
        cases b <;> decide +kernel
      refine q_when (b := decide ((bs.map fun b => rs [b]) = [])) (et_test (ev_eqNil (ev_var rfl) hbs okb (el_lst ea_nil (by decide)))) (fun _ H7 e7 => ?_) fun hne H7 e7 => ?_
      · have ex7 := ex6.trans e7
        refine r_ret (P := Is (.str (rs (List.replicate A.length true ++ List.replicate B.length false)))) (Ev.r (ev_cat (ev_rep (x := true) ev_cA (lenA ex7 rfl) (by omega)) (ev_rep (x := false) ev_cB (lenB ex7 rfl) (by omega)) (by simp; omega))) fun v' H8 e8 hv => hq v' H8 (x2.trans (ExM.ex (ex7.trans e8))) ((s2.ex (ex7.trans e8)).mono (by omega)) ⟨_, hv, isRunB_iff.mpr (serial_ab gA.wf gB.wf)⟩
      · have hne := of_decide_eq_false hne
        have bs0 : 0 < (bs.map fun b => rs [b]).length := Nat.pos_of_ne_zero fun z => hne (List.length_eq_zero_iff.mp z)
        have ex7 := ex6.trans e7
        refine c_asg (c_op (c_ev (ev_var rfl) fun H8 e8 => c_choiceV (a := p) (xs := bs.map fun b => rs [b]) (s2.ex (ex7.trans e8)) (by omega) (ev_var rfl) (ev_var rfl) ((e7.trans e8) _ _ hbs) bs0 (by rw [List.length_map]; omega) fun s H9 hs x9 s9 => ?_))
        obtain ⟨x', hx', rfl⟩ := List.mem_map.mp hs
        refine ⟨_, _, rfl, rfl, sz_of (by rw [rs_len, rs_len]; show r.length + 1 ≤ 100000; omega), ?_⟩
        rw [rs_app]
        have ca : cA (r ++ [x']) = cA r + if x' = true then 1 else 0 := by rw [cA_app]; cases x' <;> rfl
        have cb : cB (r ++ [x']) = cB r + if x' = false then 1 else 0 := by rw [cB_app]; cases x' <;> rfl
        refine s_par (a := .int (cA (r ++ [x']) : Nat)) (b := .int (cB (r ++ [x']) : Nat)) (ea_cons (ev_is (ev_op (ev_var rfl) (ev_intEq (r := r) (x := x') (y := true) (ev_var rfl) ev_cA (by omega)) rv_I0) ?_) (ea_cons (ev_is (ev_op (ev_var rfl) (ev_intEq (r := r) (x := x') (y := false) (ev_var rfl) ev_cB (by omega)) rv_I0) ?_) ea_nil)) fun H10 e10 => ?_
        · rw [ca]
          cases x' <;> rfl
        · rw [cb]
          cases x' <;> rfl
        · have pr : IsPre A B (r ++ [x']) := by
            rcases bsm x' hx' with ⟨rfl, h⟩ | ⟨rfl, h⟩
            · rw [← hc1, Bool.and_eq_true] at h
              have h1 := of_decide_eq_true h.1
              refine pre.snoc ?_ ?_ ?_
              · rw [ca]; simp; omega
              · rw [cb]; simpa using pre.b
              · rw [ca, cb]; exact h.2
            · rw [← hc2, Bool.and_eq_true] at h
              have h1 := of_decide_eq_true h.1
              refine pre.snoc ?_ ?_ ?_
              · rw [ca]; simpa using pre.a
              · rw [cb]; simp; omega
              · rw [ca, cb]; exact h.2
          refine ⟨A.length + B.length - (r ++ [x']).length, by simp; omega, r ++ [x'], ⟨_, rfl⟩, ((x2.trans (ExM.ex (ex7.trans e8))).trans x9).trans (ExM.ex e10), (s9.ex e10).mono (by simp; omega), pr, by simp; omega, rfl⟩
    · have hb := of_decide_eq_false hb
      have R := pre.done (by omega)
      exact r_ret (Ev.r (ev_var rfl)) fun v' H8 e8 hv => hq v' H8 (x2.trans (ExM.ex (e3.trans e8))) ((s2.ex (e3.trans e8)).mono (by omega)) ⟨r, hv, isRunB_iff.mpr R⟩

end HdX
end

section
set_option Elab.async false
set_option linter.all false
set_option maxRecDepth 100000
set_option maxHeartbeats 4000000
namespace HdX
open PySem PySem.Spec PyProof.Rows L2 Evl
open _root_.TT hiding Run
/-! ### a run, its letters exchanged where no contest is -/
def MixR (A B : Thr) (r : Rn) : VR := fun v _ => ∃ s : Rn, v = .str (rs s) ∧ isRunB A B s = true ∧ SameW A B r s
theorem cc_g {A B : Thr} {g : Addr} {n : Nat} {H H' : Hp} {v : V} (s : Src H g n) (e : ExM (Mg g) H H') (h : CcR A B v H) : CcR A B v H' := by
  obtain ⟨a, kvs, h1, h2, h3⟩ := h
  refine ⟨a, kvs, h1, e a _ (fun z => ?_) h2, h3⟩
  have z : a = g := z
  obtain ⟨x, y, w, h4, _⟩ := s
  rw [z, h4] at h2
  cases h2
abbrev sp_w_mixed (K : PySem.W.Frag) : Sp := SpG (α := Thr × Thr × V × Rn) 60 (fun x => [x.2.2.1, .str (rs x.2.2.2)]) (fun _ x H => PreR K x H ∧ x.1.length ≤ 40 ∧ x.2.1.length ≤ 40) (fun x => MixR x.1 x.2.1 x.2.2.2)
namespace D_w_mixed
abbrev N : List Str := ["_law_source", "_law_pair_here", "_law_run", "_law_here", "_law_near", "_law_turn", "_law_place", "_law_numbers"]
abbrev SC : Scope := defScope s_w_mixed
theorem sc : FnScope N ["_law_source", "_law_pair_here", "_law_run"] SC := ⟨rfl, rfl, rfl, by decide +kernel, rfl, by decide +kernel, by decide +kernel⟩
theorem nd : N.Nodup := sc.nd
end D_w_mixed
open D_w_mixed in
theorem ok_w_mixed {P : Program} {w : World} {K : PySem.W.Frag} {mg : Str → Option Value} {base : Heap} (T : Tx K mg) (O_w_concerned : OK P w K mg base 3 "_law_concerned" ["_law_pair_here"] (sp_w_concerned K)) (O_w_draw : OK P w K mg base 1 "_law_draw" ["_law_source", "_law_limit"] (sp_w_draw K)) (O_w_turned : OK P w K mg base 1 "_law_turned" ["_law_run", "_law_place"] (sp_w_turned K)) : OK P w K mg base 4 "_law_mixed" ["_law_source", "_law_pair_here", "_law_run"] (sp_w_mixed K) := by
  obtain ⟨fd, F⟩ := T.f_w_mixed
  refine OK.of T.g__law_mixed F (F.ok sc (fun vs H Q E h => ?len) (fun cdv A outer s H vs Q E hr h => ?body)) (F.bindsN fun _ _ _ _ _ _ us hl => match us, hl with | [_, _, _], _ => rfl)
  case len =>
    obtain ⟨x, rfl, _⟩ := h
    rfl
  case body =>
    have hu := hu_of hr
    refine ⟨_, PSs.nox (pss_cons (ps_par (i := 3) (j := 4) rfl nd rfl rfl (by decide) rfl rfl (pa_cons (pv 2) (pa_cons (pcall O_w_concerned hr (by decide) (pa_cons (pv 1) pa_nil)) pa_nil)) rfl)
  (pss_cons (ps_for PassesOwn.never rfl (pi_range1 rfl T.b_range (pa_cons (pe_op op_mul (pcall O_w_draw hr (by decide) (pa_cons (pv 0) (pa_cons pe_int pa_nil))) (pe_callTy call_int1 (by rfl) T.b_int (by decide +kernel) (pa_cons (pe_cmpR op_gt (pe_callB call_len_str (by rfl) T.b_len PySem.boot_len (pa_cons (pv 2) pa_nil)) pe_int (nomark _)) pa_nil))) pa_nil)) (pg_name (i := 5) nd rfl (Or.inl rfl))
  (pss_cons (ps_set (i := 6) nd rfl (Or.inl rfl) (pcall O_w_draw hr (by decide) (pa_cons (pv 0) (pa_cons (pe_op op_sub (pe_callB call_len_str (by rfl) T.b_len PySem.boot_len (pa_cons (pv 2) pa_nil)) pe_int) pa_nil))))
  (pss_cons (ps_set (i := 7) nd rfl (Or.inl rfl) (pe_tup (pa_cons (pe_m1 PySem.F.slot_str_count PySem.F.type_str_count mt_count (pe_slice sl_str (pv 3) po_none (po_some (pv 6))) pe_str) (pa_cons (pe_m1 PySem.F.slot_str_count PySem.F.type_str_count mt_count (pe_slice sl_str (pv 3) po_none (po_some (pv 6))) pe_str) pa_nil))))
  (pss_one (ps_if (PW.pt (pw_and (pt_cmpR op_ne (pe_ix ix_str (pv 3) (pv 6) (fun _ _ => rfl)) (pe_ix ix_str (pv 3) (pe_op op_add (pv 6) pe_int) (fun _ _ => rfl)) (nomark _)) (pw_and1 (pt_cmp (pc_dnotin hu (pv 7) (pv 4))))))
  (pss_one (ps_set (i := 3) nd rfl (Or.inl rfl) (pcall O_w_turned hr (by decide) (pa_cons (pv 3) (pa_cons (pv 6) pa_nil)))))
  pss_nil)))))
  (pss_one (ps_ret (pv 3))))), ?_⟩
    obtain ⟨x, rfl, hp, hq⟩ := h

    obtain ⟨⟨A, B, v, r⟩, g, n⟩ := x
    obtain ⟨hg, hn, ⟨hpa, gA, gB, hr0, hrun⟩, lA, lB⟩ := hp
    replace hg : Src H g n := hg
    replace hn : n + 60 ≤ 100000 := hn
    replace hpa : PaR K A B v H := hpa
    replace gA : Gd A := gA
    replace gB : Gd B := gB
    replace lA : A.length ≤ 40 := lA
    replace lB : B.length ≤ 40 := lB
    replace hr0 : r.length ≤ 1000 := hr0
    replace hrun : isRunB A B r = true := hrun
    replace hq : ∀ v H', ExM (Mg g) H H' → Src H' g (n + 60) → MixR A B r v H' → Q v H' := hq
    have rl := run_len hrun
    refine c_par (c_cons (c_ev (ev_var rfl) fun H1 e1 => c_cons ((f_call (P := CcR A B) (ea_cons (ev_var rfl) ea_nil) fun H6 e Q q => ⟨(A, B, v), rfl, ⟨keeps_pa _ _ _ (e1.trans e) hpa, gA, gB⟩, fun v' H' e' f hv => q v' H' e' f hv⟩).rr H1 (Ex.refl _) _ fun near H2 e2 hnear => c_nil ⟨_, _, rfl, ?_⟩)))
    have s2 := hg.ex (e1.trans e2)
    refine c_forR (Pm := fun m H' => m ≤ 40 ∧ (0 < m → 1 < r.length) ∧ ExM (Mg g) H2 H' ∧ Src H' g (n + 1)) (fun R' q => c_cons (c_op (c_draw (L := 41) s2 (by omega) (ea_cons (ev_var rfl) (ea_cons ev_c ea_nil)) (by decide) (by decide) fun k H3 hk x3 s3 => c_ev (v := .int (if 1 < r.length then 1 else 0)) (ev_is (ev_cb (ea_cons (ev_op (ev_lenR (r := r) (ev_var rfl) (by omega)) ev_c rv_I0) ea_nil) fun H8 _ Q q => .inr ⟨_, rfl, q H8 (Ex.refl _)⟩) ?_) fun H4 e4 => ⟨(k : Int), _, rfl, rfl, .inr ?_, ?_⟩)))
      fun m H3 ⟨hm, hm1, x3, s3⟩ => ⟨by omega, fun j σ' H' => (∃ a b c s, σ' = [some (.ref g), some v, some (.str (rs r)), some (.str (rs s)), some near, a, b, c] ∧ isRunB A B s = true ∧ SameW A B r s) ∧ ExM (Mg g) H2 H' ∧ Src H' g (n + 1 + j),
        ⟨⟨_, _, _, r, rfl, hrun, fun _ _ => rfl⟩, x3, s3⟩, ?_, ?_⟩
    · by_cases h : 1 < r.length
      · have hd : decide ((1 : Int) < ((r.length : Nat) : Int)) = true := decide_eq_true (by omega)
        rw [if_pos h, hd]
        rfl
      · have hd : decide ((1 : Int) < ((r.length : Nat) : Int)) = false := decide_eq_false (by omega)
        rw [if_neg h, hd]
        rfl
    · split <;> exact ⟨by decide, by decide⟩
    · refine c_nil ?_
      by_cases h : 1 < r.length
      · have := q k H4 ⟨by omega, fun _ => h, x3.trans (ExM.ex e4), s3.ex e4⟩
        rw [if_pos h]
        show R' [V.int ((k : Int) * 1)] H4
        rw [Int.mul_one]
        exact this
      · have := q 0 H4 ⟨by omega, fun z => absurd z (by decide), x3.trans (ExM.ex e4), s3.ex e4⟩
        rw [if_neg h]
        show R' [V.int ((k : Int) * 0)] H4
        rw [Int.mul_zero]
        exact this
    · rintro j σ' H4 hj ⟨⟨a, b, c, s, rfl, hs, hw⟩, x4, s4⟩
      have rl1 := hm1 (by omega)
      have sl : s.length = r.length := by rw [run_len hs, rl]
      refine c_asg (c_draw (L := (r.length : Nat) - 1) s4 (by omega) (ea_cons (ev_var rfl) (ea_cons (ev_op (ev_lenR (r := r) (ev_var rfl) (by omega)) ev_c rv_I0) ea_nil)) (by omega) (by omega) fun p H5 hp x5 s5 => ?_)
      have hp1 : p + 1 < s.length := by omega
      refine r_asg (P := IsTup [.int (cA (s.take p) : Nat), .int (cB (s.take p) : Nat)]) (r_tup (ea_cons (ev_cnt (r := s.take p) (b := true) (ev_hi (r := s) (ev_var rfl) (ev_var rfl) (by omega)) ev_cA) (ea_cons (ev_cnt (r := s.take p) (b := false) (ev_hi (r := s) (ev_var rfl) (ev_var rfl) (by omega)) ev_cB) ea_nil)) (Nat.le_of_ble_eq_true rfl)) fun nv H6 e6 hnv => ?_
      have x6 : ExM (Mg g) H2 H6 := (x4.trans x5).trans (ExM.ex e6)
      have hx : s[p]? = some s[p] := by simp
      have hy : s[p + 1]? = some s[p + 1] := by simp
      generalize s[p] = x at hx
      generalize s[p + 1] = y at hy
      refine s_when (b := !decide (x = y) && !concB A B (cA (s.take p)) (cB (s.take p))) (et_and (et_is (et_test (ev_op (ev_ix (r := s) (p := p) (b := x) (ev_var rfl) (ev_var rfl) (by omega) hx) (ev_ix (r := s) (p := p + 1) (b := y) (ev_var rfl) (ev_is (ev_op (ev_var rfl) ev_c rv_I0) (by show V.int ((p : Int) + 1) = _; congr 1)) (by omega) hy) (rv_ne rfl))) ?_) fun _ => et_B (ev_cnin (r_var keeps_tup rfl hnv) (r_var keeps_cc rfl (cc_g s2 x6 hnear)))) (fun hb H7 e7 => ?_) fun hb H7 e7 => ?_
      · rw [rs_eqN]
        congr 1
        exact decide_eq_decide.mpr ⟨fun z => by cases z; rfl, fun z => by rw [z]⟩
      · rw [Bool.and_eq_true] at hb
        have hxy : x ≠ y := by simpa using hb.1
        have hc : concB A B (cA (s.take p)) (cB (s.take p)) = false := by simpa using hb.2
        obtain ⟨E1, E2⟩ := exch gA.wf gB.wf (isRunB_iff.mp hs) hp1 (by rw [hx, hy]; exact fun z => hxy (Option.some.inj z)) hc
        refine s_asg (v := .str (rs (swp s p))) (EvR.vv (r_call (ea_cons (ev_var rfl) (ea_cons (ev_var rfl) ea_nil)) fun H8 e Q q => ⟨(s, p), rfl, ⟨by show s.length ≤ 1000; omega, hp1⟩, fun v' H' e' hv => q v' H' e' hv⟩)) fun H8 e8 => ?_
        exact ⟨⟨_, _, _, swp s p, rfl, isRunB_iff.mpr E1, fun c hc => (hw c hc).trans (E2 c hc).symm⟩, x6.trans (ExM.ex (e7.trans e8)), ((s5.ex e6).ex (e7.trans e8)).mono (by omega)⟩
      · exact ⟨⟨_, _, _, s, rfl, hs, hw⟩, x6.trans (ExM.ex e7), ((s5.ex e6).ex e7).mono (by omega)⟩
    · rintro σ' H4 ⟨⟨a, b, c, s, rfl, hs, hw⟩, x4, s4⟩
      exact r_ret (Ev.r (ev_var rfl)) fun v' H8 e8 hv => hq v' H8 (((ExM.ex (e1.trans e2)).trans x4).trans (ExM.ex e8)) ((s4.ex e8).mono (by omega)) ⟨s, hv, hs, hw⟩

end HdX
end

section
set_option Elab.async false
set_option linter.all false
set_option maxRecDepth 100000
set_option maxHeartbeats 4000000
namespace HdX
open PySem PySem.Spec PyProof.Rows L2 Evl
open _root_.TT hiding Run
/-! ### the places are told right -/
theorem strOk_rs (r : Rn) : PyData.strOk (rs r) = true := by
  show ((r.map lt).toArray).all (fun c => decide (c < 0x110000)) = true
  rw [List.all_toArray, List.all_eq_true]
  intro c hc
  obtain ⟨b, _, rfl⟩ := List.mem_map.mp hc
  cases b <;> decide
def toldD (A B : Thr) (r : Rn) (p : Nat) : PyData := if badP A B r p = true then .tuple [.str "place", .int (p : Nat)] else .tuple [.str "run", .str (rs (swp r p))]
theorem dp_told {K : PySem.W.Frag} {H : Hp} {A B : Thr} {r : Rn} {p : Nat} {v : V} (h : IsTup (toldV A B r p) v H) : Dp K H v (toldD A B r p) := by
  obtain ⟨a, rfl, ha⟩ := h
  unfold toldV at ha
  unfold toldD
  by_cases b : badP A B r p = true
  · rw [if_pos b] at ha ⊢
    exact .tup (st_of ha) (.cons (.str _) (.cons (.int _) .nil))
  · rw [if_neg b] at ha ⊢
    exact .tup (st_of ha) (.cons (.str _) (.cons (.str _) .nil))
theorem shaped_told (A B : Thr) (r : Rn) (p : Nat) : SeqAt.shaped (toldD A B r p) = true := by
  unfold toldD
  by_cases b : badP A B r p = true
  · rw [if_pos b]
    have h : PyData.strOk "place" = true := by decide +kernel
    show ((PyData.strOk "place" && (true && true)) && decide ((max 0 (max 0 0) : Nat) + 1 ≤ 64)) = true
    rw [h]
    rfl
  · rw [if_neg b]
    have h : PyData.strOk "run" = true := by decide +kernel
    show ((PyData.strOk "run" && (PyData.strOk (rs (swp r p)) && true)) && decide ((max 0 (max 0 0) : Nat) + 1 ≤ 64)) = true
    rw [h, strOk_rs]
    rfl
theorem eqv_told (A B : Thr) (r : Rn) (p : Nat) : PyData.eqv (toldD A B r p) (toldD A B r p) = true := by
  unfold toldD
  by_cases b : badP A B r p = true
  · rw [if_pos b]
    show (("place" : Str) == "place" && (((p : Int) == (p : Int)) && true)) = true
    simp
  · rw [if_neg b]
    show (("run" : Str) == "run" && ((rs (swp r p) == rs (swp r p)) && true)) = true
    simp
theorem ne_told {K : PySem.W.Frag} {σ : L2.St} {H : Hp} {ta tb : TE} {A B : Thr} {r : Rn} {p : Nat} (ha : EvR ta σ H (IsTup (toldV A B r p))) (hb : EvR tb σ H (IsTup (toldV A B r p))) : Ev (tOp (rNeD K) ta tb) σ H (.bl false) :=
  v_op keeps_tup ha hb fun x y H1 _ hx hy Q k => ⟨_, _, dp_told hx, dp_told hy, shaped_told A B r p, shaped_told A B r p, by rw [eqv_told]; exact k⟩
abbrev sp_w_places_right (K : PySem.W.Frag) : Sp := SpG (α := Thr × Thr × V × Rn) 20 (fun x => [x.2.2.1, .str (rs x.2.2.2)]) (fun _ x H => PreR K x H) (fun _ => Is (.bl true))
namespace D_w_places_right
abbrev N : List Str := ["_law_source", "_law_pair_here", "_law_run", "_law_near", "_law_turn", "_law_place", "_law_numbers", "_law_due"]
abbrev SC : Scope := defScope s_w_places_right
theorem sc : FnScope N ["_law_source", "_law_pair_here", "_law_run"] SC := ⟨rfl, rfl, rfl, by decide +kernel, rfl, by decide +kernel, by decide +kernel⟩
theorem nd : N.Nodup := sc.nd
end D_w_places_right
open D_w_places_right in
theorem ok_w_places_right {P : Program} {w : World} {K : PySem.W.Frag} {mg : Str → Option Value} {base : Heap} (T : Tx K mg) (O_w_concerned : OK P w K mg base 3 "_law_concerned" ["_law_pair_here"] (sp_w_concerned K)) (O_w_draw : OK P w K mg base 1 "_law_draw" ["_law_source", "_law_limit"] (sp_w_draw K)) (O_w_turned : OK P w K mg base 1 "_law_turned" ["_law_run", "_law_place"] (sp_w_turned K)) (O_w_told : OK P w K mg base 7 "_law_told" ["_law_pair_here", "_law_run", "_law_place"] (sp_w_told K)) : OK P w K mg base 8 "_law_places_right" ["_law_source", "_law_pair_here", "_law_run"] (sp_w_places_right K) := by
  obtain ⟨fd, F⟩ := T.f_w_places_right
  refine OK.of T.g__law_places_right F (F.ok sc (fun vs H Q E h => ?len) (fun cdv A outer s H vs Q E hr h => ?body)) (F.bindsN fun _ _ _ _ _ _ us hl => match us, hl with | [_, _, _], _ => rfl)
  case len =>
    obtain ⟨x, rfl, _⟩ := h
    rfl
  case body =>
    have hu := hu_of hr
    refine ⟨_, PSs.nox (pss_cons (ps_set (i := 3) nd rfl (Or.inl rfl) (pcall O_w_concerned hr (by decide) (pa_cons (pv 1) pa_nil)))
  (pss_cons (ps_for PassesOwn.never rfl (pi_range1 rfl T.b_range (pa_cons (pe_op op_mul pe_int (pe_callTy call_int1 (by rfl) T.b_int (by decide +kernel) (pa_cons (pe_cmpR op_gt (pe_callB call_len_str (by rfl) T.b_len PySem.boot_len (pa_cons (pv 2) pa_nil)) pe_int (nomark _)) pa_nil))) pa_nil)) (pg_name (i := 4) nd rfl (Or.inl rfl))
  (pss_cons (ps_set (i := 5) nd rfl (Or.inl rfl) (pcall O_w_draw hr (by decide) (pa_cons (pv 0) (pa_cons (pe_op op_sub (pe_callB call_len_str (by rfl) T.b_len PySem.boot_len (pa_cons (pv 2) pa_nil)) pe_int) pa_nil))))
  (pss_cons (ps_set (i := 6) nd rfl (Or.inl rfl) (pe_tup (pa_cons (pe_m1 PySem.F.slot_str_count PySem.F.type_str_count mt_count (pe_slice sl_str (pv 2) po_none (po_some (pv 5))) pe_str) (pa_cons (pe_m1 PySem.F.slot_str_count PySem.F.type_str_count mt_count (pe_slice sl_str (pv 2) po_none (po_some (pv 5))) pe_str) pa_nil))))
  (pss_cons (ps_set (i := 7) nd rfl (Or.inl rfl) (pe_tup (pa_cons pe_str (pa_cons (pv 5) pa_nil))))
  (pss_cons (ps_if (PW.pt (pw_and (pt_cmpR op_ne (pe_ix ix_str (pv 2) (pv 5) (fun _ _ => rfl)) (pe_ix ix_str (pv 2) (pe_op op_add (pv 5) pe_int) (fun _ _ => rfl)) (nomark _)) (pw_and1 (pt_cmp (pc_dnotin hu (pv 6) (pv 3))))))
  (pss_one (ps_set (i := 7) nd rfl (Or.inl rfl) (pe_tup (pa_cons pe_str (pa_cons (pcall O_w_turned hr (by decide) (pa_cons (pv 2) (pa_cons (pv 5) pa_nil))) pa_nil)))))
  pss_nil)
  (pss_one (ps_if (pt_cmpR (op_neDK K hr.units) (pcall O_w_told hr (by decide) (pa_cons (pv 1) (pa_cons (pv 2) (pa_cons (pv 5) pa_nil)))) (pv 7) (nomark _))
  (pss_one (ps_ret pe_bl))
  pss_nil)))))))
  (pss_one (ps_ret pe_bl)))), ?_⟩
    obtain ⟨x, rfl, hp, hq⟩ := h

    obtain ⟨⟨A, B, v, r⟩, g, n⟩ := x
    obtain ⟨hg, hn, ⟨hpa, gA, gB, hr0, hrun⟩⟩ := hp
    replace hg : Src H g n := hg
    replace hn : n + 20 ≤ 100000 := hn
    replace hpa : PaR K A B v H := hpa
    replace gA : Gd A := gA
    replace gB : Gd B := gB
    replace hr0 : r.length ≤ 1000 := hr0
    replace hrun : isRunB A B r = true := hrun
    replace hq : ∀ v' H', ExM (Mg g) H H' → Src H' g (n + 20) → v' = .bl true → Q v' H' := hq
    refine r_asg (P := CcR A B) (f_call (ea_cons (ev_var rfl) ea_nil) fun H6 e Q q => ⟨(A, B, v), rfl, ⟨keeps_pa _ _ _ e hpa, gA, gB⟩, fun v' H' e' f hv => q v' H' e' f hv⟩).rr fun near H1 e1 hnear => ?_
    have s1 := hg.ex e1
    refine c_forR (Pm := fun m H' => m ≤ 12 ∧ (0 < m → 1 < r.length) ∧ Ex H1 H') (fun R' q => c_cons (c_ev (v := .int ((if 1 < r.length then 12 else 0 : Nat) : Int)) (ev_is (ev_op ev_c (ev_cb (ea_cons (ev_op (ev_lenR (r := r) (ev_var rfl) (by omega)) ev_c rv_I0) ea_nil) fun H8 _ Q q => .inr ⟨_, rfl, q H8 (Ex.refl _)⟩) (rv_mul (.inl ⟨by decide, by decide⟩))) ?_) fun H2 e2 => c_nil (q _ H2 ⟨by split <;> omega, fun z => ?_, e2⟩)))
      fun m H2 ⟨hm, hm1, e2⟩ => ⟨by omega, fun j σ' H' => (∃ a b c d, σ' = [some (.ref g), some v, some (.str (rs r)), some near, a, b, c, d]) ∧ ExM (Mg g) H1 H' ∧ Src H' g (n + j),
        ⟨⟨_, _, _, _, rfl⟩, ExM.ex e2, s1.ex e2⟩, ?_, ?_⟩
    · by_cases h : 1 < r.length
      · have hd : decide ((1 : Int) < ((r.length : Nat) : Int)) = true := decide_eq_true (by omega)
        rw [if_pos h, hd]
        rfl
      · have hd : decide ((1 : Int) < ((r.length : Nat) : Int)) = false := decide_eq_false (by omega)
        rw [if_neg h, hd]
        rfl
    · by_cases h : 1 < r.length
      · exact h
      · rw [if_neg h] at z
        exact absurd z (by decide)
    · rintro j σ' H3 hj ⟨⟨a, b, c, d, rfl⟩, x3, s3⟩
      have rl1 := hm1 (by omega)
      refine c_asg (c_draw (L := (r.length : Nat) - 1) s3 (by omega) (ea_cons (ev_var rfl) (ea_cons (ev_op (ev_lenR (r := r) (ev_var rfl) (by omega)) ev_c rv_I0) ea_nil)) (by omega) (by omega) fun p H5 hp x5 s5 => ?_)
      have hp1 : p + 1 < r.length := by omega
      refine r_asg (P := IsTup [.int (cA (r.take p) : Nat), .int (cB (r.take p) : Nat)]) (r_tup (ea_cons (ev_cnt (r := r.take p) (b := true) (ev_hi (r := r) (ev_var rfl) (ev_var rfl) (by omega)) ev_cA) (ea_cons (ev_cnt (r := r.take p) (b := false) (ev_hi (r := r) (ev_var rfl) (ev_var rfl) (by omega)) ev_cB) ea_nil)) (Nat.le_of_ble_eq_true rfl)) fun nv H6 e6 hnv => ?_
      refine r_asg (P := IsTup [.str "place", .int (p : Nat)]) (r_tup (ea_cons ev_c (ea_cons (ev_var rfl) ea_nil)) (Nat.le_of_ble_eq_true rfl)) fun dv H7 e7 hdv => ?_
      have x7 : ExM (Mg g) H1 H7 := (x3.trans x5).trans (ExM.ex (e6.trans e7))
      have s7 := s5.ex (e6.trans e7)
      have hpa7 : PaR K A B v H7 := ro_pa _ _ _ _ s1.mut x7 (keeps_pa _ _ _ e1 hpa)
      have hx : r[p]? = some r[p] := by simp
      have hy : r[p + 1]? = some r[p + 1] := by simp
      generalize r[p] = x at hx
      generalize r[p + 1] = y at hy
      have hbad : badP A B r p = (decide (x = y) || concB A B (cA (r.take p)) (cB (r.take p))) := by
        unfold badP
        rw [hx, hy]
        congr 1
        exact decide_eq_decide.mpr ⟨fun z => Option.some.inj z, fun z => by rw [z]⟩
      have rest : ∀ {D : Ends} {w : V} {H8 : Hp}, Ex H7 H8 → IsTup (toldV A B r p) w H8 → (∀ H9, ExM (Mg g) H1 H9 → Src H9 g (n + (j + 1)) → D.nx [some (.ref g), some v, some (.str (rs r)), some near, some (.int (j : Nat)), some (.int (p : Nat)), some nv, some w] H9) →
          tIfS (tTest (tOp (rNeD K) (tCall (sp_w_told K) [] E0 (tCons (tVar 1) (tCons (tVar 2) (tCons (tVar 5) tNil)))) (tVar 7))) (tRet (tC (.bl false))) tNext D [some (.ref g), some v, some (.str (rs r)), some near, some (.int (j : Nat)), some (.int (p : Nat)), some nv, some w] H8 := fun {D w H8} e8 hw hD =>
        s_when (b := false) (et_test (ne_told (r_call (ea_cons (ev_var rfl) (ea_cons (ev_var rfl) (ea_cons (ev_var rfl) ea_nil))) fun H9 e Q q => ⟨(A, B, v, r, p), rfl, ⟨⟨keeps_pa _ _ _ (e8.trans e) hpa7, gA, gB, hr0, hrun⟩, hp1⟩, fun v' H' e' hv => q v' H' e' hv⟩) (r_var keeps_tup rfl hw))) (fun h => by cases h) fun _ H9 e9 => hD H9 (x7.trans (ExM.ex (e8.trans e9))) ((s7.ex (e8.trans e9)).mono (by omega))
      refine q_when (b := !decide (x = y) && !concB A B (cA (r.take p)) (cB (r.take p))) (et_and (et_is (et_test (ev_op (ev_ix (r := r) (p := p) (b := x) (ev_var rfl) (ev_var rfl) (by omega) hx) (ev_ix (r := r) (p := p + 1) (b := y) (ev_var rfl) (ev_is (ev_op (ev_var rfl) ev_c rv_I0) (by show V.int ((p : Int) + 1) = _; congr 1)) (by omega) hy) (rv_ne rfl))) ?_) fun _ => et_B (ev_cnin (r_var keeps_tup rfl (keeps_tup _ _ _ e7 hnv)) (r_var keeps_cc rfl (cc_g s1 x7 hnear)))) (fun hb H8 e8 => ?_) fun hb H8 e8 => ?_
      · rw [rs_eqN]
        congr 1
        exact decide_eq_decide.mpr ⟨fun z => by cases z; rfl, fun z => by rw [z]⟩
      · have hb' : badP A B r p = false := by
          rw [hbad]
          revert hb
          cases decide (x = y) <;> cases concB A B (cA (r.take p)) (cB (r.take p)) <;> decide
        have et : toldV A B r p = [.str "run", .str (rs (swp r p))] := by unfold toldV; rw [if_neg (by rw [hb']; decide)]
        refine r_asg1 (P := IsTup (toldV A B r p)) ((r_tup (vs := [.str "run", .str (rs (swp r p))]) (ea_cons ev_c (ea_cons (EvR.vv (r_call (ea_cons (ev_var rfl) (ea_cons (ev_var rfl) ea_nil)) fun H8 e Q q => ⟨(r, p), rfl, ⟨hr0, hp1⟩, fun v' H' e' hv => q v' H' e' hv⟩)) ea_nil)) (Nat.le_of_ble_eq_true rfl)).imp fun v H _ h => by rw [et]; exact h) fun w H9 e9 hw => rest (e8.trans e9) hw fun H10 x10 s10 => ⟨⟨_, _, _, _, rfl⟩, x10, s10⟩
      · have hb' : badP A B r p = true := by
          rw [hbad]
          revert hb
          cases decide (x = y) <;> cases concB A B (cA (r.take p)) (cB (r.take p)) <;> decide
        have et : toldV A B r p = [.str "place", .int (p : Nat)] := by unfold toldV; rw [if_pos hb']
        exact rest e8 (by rw [et]; exact keeps_tup _ _ _ e8 hdv) fun H10 x10 s10 => ⟨⟨_, _, _, _, rfl⟩, x10, s10⟩
    · rintro σ' H4 ⟨⟨a, b, c, d, rfl⟩, x4, s4⟩
      exact r_ret (Ev.r (ev_c (v := .bl true))) fun v' H8 e8 hv => hq v' H8 (((ExM.ex e1).trans x4).trans (ExM.ex e8)) ((s4.ex e8).mono (by omega)) hv

end HdX
end

section
set_option Elab.async false
set_option linter.all false
set_option maxRecDepth 100000
set_option maxHeartbeats 4000000
namespace HdX
open PySem PySem.Spec PyProof.Rows L2 Evl
open _root_.TT hiding Run
/-! ### the texts are told right -/
section
variable {K : PySem.W.Frag} {σ : L2.St} {H : Hp} {te ti : TE}
theorem ev_flip {x : Bool} (h : ∀ H', Ex H H' → Ev ti σ H' (.str (rs [x]))) : Ev (tDGet (tDisp [(tC (.str "a"), tC (.str "b")), (tC (.str "b"), tC (.str "a"))]) ti) σ H (.str (rs [!x])) := fun H1 e Q q => fun p hp => by
  refine ⟨upd_same, [(Sum.inr "a", .str "b"), (Sum.inr "b", .str "a")], rfl, by decide, ?_⟩
  have e2 : Ex H1 (upd (upd H1 p (.dK [])) p (.dK (mergeK [] [(Sum.inr "a", .str "b"), (Sum.inr "b", .str "a")]))) := Ex.mut (Ex.new hp) hp
  have hd : upd (upd H1 p (.dK [])) p (.dK (mergeK [] [(Sum.inr "a", .str "b"), (Sum.inr "b", .str "a")])) p = some (.dK (mergeK [] [(Sum.inr "a", .str "b"), (Sum.inr "b", .str "a")])) := upd_same
  generalize upd (upd H1 p (.dK [])) p (.dK (mergeK [] [(Sum.inr "a", .str "b"), (Sum.inr "b", .str "a")])) = H2 at e2 hd
  refine h H2 (e.trans e2) H2 (Ex.refl _) _ fun H3 e3 => ⟨p, .str (rs [!x]), rfl, ?_, q H3 (e2.trans e3)⟩
  have hv : valV (mergeK [] [(Sum.inr "a", V.str "b"), (Sum.inr "b", V.str "a")]) (Sum.inr (rs [x])) = some (.str (rs [!x])) := by
    cases x <;> decide +kernel
  have := DGet.k (k := Sum.inr (rs [x])) (e3 _ _ hd)
  rw [hv] at this
  exact this
theorem ev_repr {b : Bool} (h : Ev te σ H (.bl b)) : Ev (tCB (fun xs H Q => ∃ b, xs = [.bl b] ∧ Q (.str (if b then "True" else "False")) H) (tCons te tNil)) σ H (.str (if b then "True" else "False")) := ev_cb (ea_cons h ea_nil) fun H8 _ Q q => ⟨_, rfl, q H8 (Ex.refl _)⟩
end
abbrev sp_w_texts_right (K : PySem.W.Frag) : Sp := SpG (α := Thr × Thr × V × Rn) 10 (fun x => [x.2.2.1, .str (rs x.2.2.2)]) (fun _ x H => PreR K x H) (fun _ => Is (.bl true))
namespace D_w_texts_right
abbrev N : List Str := ["_law_source", "_law_pair_here", "_law_run", "_law_texts", "_law_turn", "_law_place", "_law_text", "_law_due"]
abbrev SC : Scope := defScope s_w_texts_right
theorem sc : FnScope N ["_law_source", "_law_pair_here", "_law_run"] SC := ⟨rfl, rfl, rfl, by decide +kernel, rfl, by decide +kernel, by decide +kernel⟩
theorem nd : N.Nodup := sc.nd
end D_w_texts_right
open D_w_texts_right in
theorem ok_w_texts_right {P : Program} {w : World} {K : PySem.W.Frag} {mg : Str → Option Value} {base : Heap} (T : Tx K mg) (O_w_draw : OK P w K mg base 1 "_law_draw" ["_law_source", "_law_limit"] (sp_w_draw K)) (O_w_turned : OK P w K mg base 1 "_law_turned" ["_law_run", "_law_place"] (sp_w_turned K)) (O_w_is_run : OK P w K mg base 3 "_law_is_run" ["_law_pair_here", "_law_letters"] (sp_w_is_run K)) (O_winners : OK P w K mg base 6 "winners" ["pair", "run"] (sp_winners K)) (O_w_winners : OK P w K mg base 3 "_law_winners" ["_law_pair_here", "_law_run"] (sp_w_winners K)) (O_is_run : OK P w K mg base 4 "is_run" ["pair", "value"] (sp_is_run K)) : OK P w K mg base 7 "_law_texts_right" ["_law_source", "_law_pair_here", "_law_run"] (sp_w_texts_right K) := by
  obtain ⟨fd, F⟩ := T.f_w_texts_right
  refine OK.of T.g__law_texts_right F (F.ok sc (fun vs H Q E h => ?len) (fun cdv A outer s H vs Q E hr h => ?body)) (F.bindsN fun _ _ _ _ _ _ us hl => match us, hl with | [_, _, _], _ => rfl)
  case len =>
    obtain ⟨x, rfl, _⟩ := h
    rfl
  case body =>
    have hu := hu_of hr
    refine ⟨_, PSs.nox (pss_cons (ps_if (pt_cmpR op_lt (pe_callB call_len_str (by rfl) T.b_len PySem.boot_len (pa_cons (pv 2) pa_nil)) pe_int (nomark _))
  (pss_one (ps_ret pe_bl))
  pss_nil)
  (pss_cons (ps_set (i := 3) nd rfl (Or.inl rfl) (pe_lst (pa_cons (pv 2) (pa_cons (pe_slice sl_str (pv 2) po_none (po_some (pe_un un_neg pe_int))) (pa_cons (pe_op op_add_str (pe_slice sl_str (pv 2) (po_some pe_int) po_none) (pe_slice sl_str (pv 2) po_none (po_some pe_int))) (pa_cons (pe_revS (pv 2)) pa_nil))))))
  (pss_cons (ps_for PassesOwn.never rfl (pi_range1 rfl T.b_range (pa_cons pe_int pa_nil)) (pg_name (i := 4) nd rfl (Or.inl rfl))
  (pss_cons (ps_set (i := 5) nd rfl (Or.inl rfl) (pcall O_w_draw hr (by decide) (pa_cons (pv 0) (pa_cons (pe_op op_sub (pe_callB call_len_str (by rfl) T.b_len PySem.boot_len (pa_cons (pv 2) pa_nil)) pe_int) pa_nil))))
  (pss_cons (ps_expr (pe_bm PySem.F.plainAttrs_list PySem.F.slot_list_append PySem.F.type_list_append mt_append (pv 3) (pa_cons (pcall O_w_turned hr (by decide) (pa_cons (pv 2) (pa_cons (pv 5) pa_nil))) pa_nil)))
  (pss_one (ps_expr (pe_bm PySem.F.plainAttrs_list PySem.F.slot_list_append PySem.F.type_list_append mt_append (pv 3) (pa_cons (pe_op op_add_str (pe_op op_add_str (pe_slice sl_str (pv 2) po_none (po_some (pv 5))) (pe_dget hu (pe_disp (pps_cons pe_str pe_str (pps_cons pe_str pe_str pps_nil)) (by rfl) (by rfl) (fun z => by cases z) (by decide)) (pe_ix ix_str (pv 2) (pv 5) (fun _ _ => rfl)) (fun _ _ => rfl))) (pe_slice sl_str (pv 2) (po_some (pe_op op_add (pv 5) pe_int)) po_none)) pa_nil)))))))
  (pss_cons (ps_for PassesOwn.never rfl (pi_listK K (pv 3)) (pg_name (i := 6) nd rfl (Or.inl rfl))
  (pss_cons (ps_set (i := 7) nd rfl (Or.inl rfl) (pcall O_w_is_run hr (by decide) (pa_cons (pv 1) (pa_cons (pv 6) pa_nil))))
  (pss_one (ps_if (PW.pt (pw_or (pt_cmpR op_ne (pe_callB call_reprB (by rfl) T.b_repr (by decide +kernel) (pa_cons (pcall O_is_run hr (by decide) (pa_cons (pv 1) (pa_cons (pv 6) pa_nil))) pa_nil)) (pe_callB call_reprB (by rfl) T.b_repr (by decide +kernel) (pa_cons (pv 7) pa_nil)) (nomark _)) (pw_or1 (PW.pt (pw_and (pt_val (pv 7) (fun _ => rfl)) (pw_and1 (pt_cmpR op_ne (pcall O_winners hr (by decide) (pa_cons (pv 1) (pa_cons (pv 6) pa_nil))) (pcall O_w_winners hr (by decide) (pa_cons (pv 1) (pa_cons (pv 6) pa_nil))) (nomark _))))))))
  (pss_one (ps_ret pe_bl))
  pss_nil))))
  (pss_one (ps_ret pe_bl)))))), ?_⟩
    obtain ⟨x, rfl, hp, hq⟩ := h

    obtain ⟨⟨A, B, v, r⟩, g, n⟩ := x
    obtain ⟨hg, hn, ⟨hpa, gA, gB, hr0, hrun⟩⟩ := hp
    replace hg : Src H g n := hg
    replace hn : n + 10 ≤ 100000 := hn
    replace hpa : PaR K A B v H := hpa
    replace gA : Gd A := gA
    replace gB : Gd B := gB
    replace hr0 : r.length ≤ 1000 := hr0
    replace hrun : isRunB A B r = true := hrun
    replace hq : ∀ v' H', ExM (Mg g) H H' → Src H' g (n + 10) → v' = .bl true → Q v' H' := hq
    refine q_when (b := decide (r.length < 2)) (et_is (et_test (ev_op (ev_lenR (r := r) (ev_var rfl) (by omega)) ev_c rv_I0)) (decide_eq_decide.mpr (by omega))) (fun _ H1 e1 => r_ret (Ev.r (ev_c (v := .bl true))) fun v' H8 e8 hv => hq v' H8 (ExM.ex (e1.trans e8)) ((hg.ex (e1.trans e8)).mono (by omega)) hv) fun hb H1 e1 => ?_
    have rl : 2 ≤ r.length := by have := of_decide_eq_false hb; omega
    have txt : ∀ l : List Rn, (l.map fun t => V.str (rs t)) = l.map fun t => V.str (rs t) := fun _ => rfl
    refine q_asgL (xs := [r, r.take (r.length - 1), r.drop 1 ++ r.take 1, r.reverse].map fun t => V.str (rs t)) (el_lst (ea_cons (ev_var rfl) (ea_cons ?_ (ea_cons (ev_cat (ev_lo (r := r) (p := 1) (ev_var rfl) ev_c (by omega)) (ev_hi (r := r) (p := 1) (ev_var rfl) ev_c (by omega)) (by simp; omega)) (ea_cons ?_ ea_nil)))) (Nat.le_of_ble_eq_true rfl)) fun l H2 hl0 e2 hl2 => ?_
    · show Ev _ _ H1 (.str (rs (r.take (r.length - 1))))
      rw [← cut_last]
      exact ev_sl (ev_var rfl) eo_none (eo_some (ev_un ev_c ru_neg)) (by rw [rs_len]; omega)
    · exact fun H8 e8 Q q => ev_var rfl H8 e8 _ fun H9 e9 => ⟨rs r, rfl, by rw [rs_len]; exact sz_of (by omega), by rw [rev_rs]; exact q H9 e9⟩
    have s2 := hg.ex (e1.trans e2)
    have hlH : H l = none := fresh_back e1 hl0
    have nlg : l ≠ g := fun z => by
      obtain ⟨x, y, w, h1, _⟩ := hg
      rw [z, h1] at hlH
      cases hlH
    have mt : MutA (fun a => a = g ∨ a = l) H2 := fun a h => by
      rcases h with rfl | rfl
      · exact s2.mut _ rfl
      · exact ⟨_, hl2, rfl⟩
    have hpa2 := keeps_pa _ _ _ (e1.trans e2) hpa
    refine c_forR (Pm := fun m H' => m = 5 ∧ Ex H2 H') (fun R' q => c_cons (c_ev (ev_c (v := .int (5 : Nat))) fun H3 e3 => c_nil (q 5 H3 ⟨rfl, e3⟩)))
      fun m H3 ⟨hm, e3⟩ => ⟨by omega, fun j σ' H' => (∃ a b, σ' = [some (.ref g), some v, some (.str (rs r)), some (.ref l), a, b, none, none]) ∧ ExM (fun a => a = g ∨ a = l) H2 H' ∧ Src H' g (n + j) ∧ ∃ ts : List Rn, H' l = some (.lst (ts.map fun t => V.str (rs t))) ∧ ts.length = 4 + 2 * j ∧ ∀ t ∈ ts, t.length ≤ 1000,
        ⟨⟨_, _, rfl⟩, ExM.ex e3, s2.ex e3, _, e3 _ _ hl2, rfl, fun t ht => ?_⟩, ?_, ?_⟩
    · simp at ht
      rcases ht with rfl | rfl | rfl | rfl <;> first | exact hr0 | (simp; omega)
    · rintro j σ' H4 hj ⟨⟨a, b, rfl⟩, x4, s4, ts, hts, tl, tm⟩
      refine c_asg (c_draw (L := (r.length : Nat) - 1) s4 (by omega) (ea_cons (ev_var rfl) (ea_cons (ev_op (ev_lenR (r := r) (ev_var rfl) (by omega)) ev_c rv_I0) ea_nil)) (by omega) (by omega) fun p H5 hp x5 s5 => ?_)
      have hp1 : p + 1 < r.length := by omega
      have hx : r[p]? = some r[p] := by simp
      generalize r[p] = x at hx
      have h5 := exm_at x5 nlg hts
      refine q_app h5 (ev_var rfl) (EvR.vv (z := .str (rs (swp r p))) (r_call (ea_cons (ev_var rfl) (ea_cons (ev_var rfl) ea_nil)) fun H8 e Q q => ⟨(r, p), rfl, ⟨hr0, hp1⟩, fun v' H' e' hv => q v' H' e' hv⟩)) (by rw [List.length_map]; omega) fun H6 e6 => ?_
      refine s_app upd_same (ev_var rfl) (ev_cat (ev_cat (ev_hi (r := r) (p := p) (ev_var rfl) (ev_var rfl) (by omega)) (ev_flip (x := x) fun H' _ => ev_ix (r := r) (p := p) (b := x) (ev_var rfl) (ev_var rfl) (by omega) hx) (by simp; omega)) (ev_lo (r := r) (p := p + 1) (ev_var rfl) (ev_is (ev_op (ev_var rfl) ev_c rv_I0) (by show V.int ((p : Int) + 1) = _; congr 1)) (by omega)) (by simp; omega)) (by simp; omega) fun H7 e7 => ?_
      have x6 : ExM (fun a => a = g ∨ a = l) H2 (upd H6 l (.lst ((ts.map fun t => V.str (rs t)) ++ [.str (rs (swp r p))]))) := ExM.set (M := fun a => a = g ∨ a = l) ((x4.trans fun a o na q => x5 a o (fun z => na (.inl z)) q).trans (ExM.ex e6)) (.inr rfl)
      refine ⟨⟨_, _, rfl⟩, ExM.set (M := fun a => a = g ∨ a = l) (x6.trans (ExM.ex e7)) (.inr rfl), ?_, ts ++ [swp r p] ++ [r.take p ++ [!x] ++ r.drop (p + 1)], ?_, by simp; omega, fun t ht => ?_⟩
      · obtain ⟨q1, q2, q3, h1, h2, h3, h4⟩ := s5
        refine ⟨q1, q2, q3, ?_, h2, h3, by omega⟩
        rw [upd_ne (Ne.symm nlg)]
        refine e7 _ _ ?_
        rw [upd_ne (Ne.symm nlg)]
        exact e6 _ _ h1
      · rw [upd_same]
        simp
      · rcases List.mem_append.mp ht with z | z
        · rcases List.mem_append.mp z with z | z
          · exact tm t z
          · rw [List.mem_singleton.mp z, swp_len r hp1]; exact hr0
        · rw [List.mem_singleton.mp z]; simp; omega
    · rintro σ' H4 ⟨⟨a, b, rfl⟩, x4, s4, ts, hts, tl, tm⟩
      have hpa4 : PaR K A B v H4 := ro_pa _ _ _ _ mt x4 hpa2
      have xg : ExM (Mg g) H H4 := fun a o na q => x4 a o (fun z => z.elim na fun z => by rw [z, hlH] at q; cases q) ((e1.trans e2) _ _ q)
      refine r_for (ei_listR (K := K) (R := fun t => Is (.str (rs t))) (xs := ts) (fun _ => keeps_is) ((Ev.r (z := .ref l) (ev_var rfl)).imp fun v' H5 e5 hv => ⟨l, _, hv, sq_of (e5 _ _ hts), by simp, fun i x y hx hy => by
          rw [List.getElem?_map, hx] at hy
          cases hy
          rfl⟩)) fun H5 e5 => Lp.by (fun i σ' H' => (∃ c d, σ' = [some (.ref g), some v, some (.str (rs r)), some (.ref l), a, b, c, d]) ∧ Ex H5 H') ⟨⟨_, _, rfl⟩, Ex.refl _⟩ (fun i σ' H' p => p.2) ?_ ?_
      · rintro i σ' H6 u H7 hi ⟨⟨c, d, rfl⟩, e6⟩ ⟨rfl, t, ht, hu⟩
        have hu : u = .str (rs t) := hu
        subst hu
        have tle := tm t (List.mem_of_getElem? ht)
        have e47 := e5.trans e6
        refine q_asg (v := .bl (isRunB A B t)) (EvR.vv (r_call (ea_cons (ev_var rfl) (ea_cons (ev_var rfl) ea_nil)) fun H8 e Q q => ⟨(A, B, v, t), rfl, ⟨keeps_pa _ _ _ (e47.trans e) hpa4, gA, gB, tle⟩, fun v' H' e' hv => q v' H' e' hv⟩)) fun H8 e8 => ?_
        have e48 := e47.trans e8
        refine s_when (b := false || (isRunB A B t && false)) (et_or (et_is (et_test (ev_op (ev_repr (EvR.vv (z := .bl (isRunB A B t)) (r_call (ea_cons (ev_var rfl) (ea_cons (ev_var rfl) ea_nil)) fun H9 e Q q => ⟨(A, B, v, t), rfl, ⟨keeps_pa _ _ _ (e48.trans e) hpa4, gA, gB, tle⟩, fun v' H' e' hv => q v' H' e' hv⟩))) (ev_repr (ev_var rfl)) (rv_ne rfl))) (by simp)) fun _ => et_and (et_B (ev_var rfl)) fun hd => et_is (et_test (ev_op
          (EvR.vv (z := .str (rs (winS t (srt A B)))) (r_call (ea_cons (ev_var rfl) (ea_cons (ev_var rfl) ea_nil)) fun H9 e Q q => ⟨(A, B, v, t), rfl, ⟨keeps_pa _ _ _ (e48.trans e) hpa4, gA, gB, tle, hd⟩, fun v' H' e' hv => q v' H' e' hv⟩))
          (EvR.vv (z := .str (rs (winS t (srt A B)))) (r_call (ea_cons (ev_var rfl) (ea_cons (ev_var rfl) ea_nil)) fun H9 e Q q => ⟨(A, B, v, t), rfl, ⟨keeps_pa _ _ _ (e48.trans e) hpa4, gA, gB, tle, hd⟩, fun v' H' e' hv => q v' H' e' hv⟩)) (rv_ne rfl))) (by simp)) (fun h => ?_) fun _ H9 e9 => ⟨⟨_, _, rfl⟩, (e6.trans e8).trans e9⟩
        simp at h
      · rintro σ' H6 ⟨⟨c, d, rfl⟩, e6⟩
        show tRet (tC (.bl true)) { nx := fun _ H' => Q .non H', rt := Q } [some (.ref g), some v, some (.str (rs r)), some (.ref l), a, b, c, d] H6
        exact r_ret (Ev.r (ev_c (v := .bl true))) fun v' H8 e8 hv => hq v' H8 (xg.trans (ExM.ex ((e5.trans e6).trans e8))) ((s4.ex ((e5.trans e6).trans e8)).mono (by omega)) hv

end HdX
end

section
set_option Elab.async false
set_option linter.all false
set_option maxRecDepth 100000
set_option maxHeartbeats 4000000
namespace HdX
open PySem PySem.Spec PyProof.Rows L2 Evl
open _root_.TT hiding Run
/-! ### the law -/
section
variable {K : PySem.W.Frag} {σ : L2.St} {H : Hp} {D : Ends} {tz tu : TS} {te : TE} {t u : TT} {Q : Bool → Hp → Prop}
theorem c_whenT (h : t σ H fun b H1 => if b = true then tu { D with nx := tz D } σ H1 else tz D σ H1) : tSeq (tIfS t tu tNext) tz D σ H := h
theorem c_whenT1 (h : t σ H fun b H1 => if b = true then tu D σ H1 else D.nx σ H1) : tIfS t tu tNext D σ H := h
theorem c_not (h : t σ H fun b H1 => Q (!b) H1) : tNot t σ H Q := h
theorem c_B (h : te σ H fun v H1 => ∃ b, v = .bl b ∧ Q b H1) : tB te σ H Q := h
/-- the first says false -/
theorem c_orF (h : t σ H fun b H1 => if b = true then Q true H1 else u σ H1 Q) : tOr t u σ H Q := h
theorem c_T {b : Bool} (h : EvT t σ H b) (k : ∀ H1, Ex H H1 → Q b H1) : t σ H Q := h H (Ex.refl H) Q k
end
theorem srt_nil {A B : Thr} (h : cons A B = []) : srt A B = [] := by
  unfold srt
  rw [h]
  simp
abbrev sp_law (K : PySem.W.Frag) : Sp := SpP (α := Addr × List Int) (fun x => [.ref x.1]) (fun x H => SqL K H x.1 (x.2.map V.int)) (fun _ => Is (.bl true))
namespace D_law
abbrev N : List Str := ["_law_script", "_law_k", "_law_source", "_law_pair_here", "_law_serial", "_law_run", "_law_other", "_law_letter"]
abbrev SC : Scope := defScope s_law
theorem sc : FnScope N ["_law_script"] SC := ⟨rfl, rfl, rfl, by decide +kernel, rfl, by decide +kernel, by decide +kernel⟩
theorem nd : N.Nodup := sc.nd
end D_law
open D_law in
theorem okF_law {P : Program} {w : World} {K : PySem.W.Frag} {mg : Str → Option Value} {base : Heap} (T : Tx K mg) (O_w_start : OK P w K mg base 1 "_law_start" ["_law_script", "_law_k"] (sp_w_start K)) (O_w_free_pair : OK P w K mg base 4 "_law_free_pair" ["_law_source"] (sp_w_free_pair K)) (O_serial_run : OK P w K mg base 1 "serial_run" ["pair", "letter"] (sp_serial_run K)) (O_distance : OK P w K mg base 9 "distance" ["pair", "run", "other"] (sp_distance K)) (O_winners : OK P w K mg base 6 "winners" ["pair", "run"] (sp_winners K)) (O_w_row_right : OK P w K mg base 10 "_law_row_right" ["_law_pair_here", "_law_one", "_law_other"] (sp_w_row_right K)) (O_w_walk : OK P w K mg base 3 "_law_walk" ["_law_source", "_law_pair_here"] (sp_w_walk K)) (O_w_pair : OK P w K mg base 4 "_law_pair" ["_law_source", "_law_most"] (sp_w_pair K)) (O_w_mixed : OK P w K mg base 4 "_law_mixed" ["_law_source", "_law_pair_here", "_law_run"] (sp_w_mixed K)) (O_w_texts_right : OK P w K mg base 7 "_law_texts_right" ["_law_source", "_law_pair_here", "_law_run"] (sp_w_texts_right K)) (O_w_places_right : OK P w K mg base 8 "_law_places_right" ["_law_source", "_law_pair_here", "_law_run"] (sp_w_places_right K)) {fd : FuncData} (F : FunD K "law" "law" (defArgs s_law) (defBody s_law) (defScope s_law) [] [] (He.ga K "law") fd) : FnOk P w K mg base CX0 11 (He.ga K "law") fd ["_law_script"] (sp_law K) := by
  refine F.ok sc (fun vs H Q E h => ?len) (fun cdv A outer s H vs Q E hr h => ?body)
  case len =>
    obtain ⟨x, rfl, _⟩ := h
    rfl
  case body =>
    have hu := hu_of hr
    refine ⟨_, PSs.nox (pss_cons (ps_for PassesOwn.never rfl (pi_range1 rfl T.b_range (pa_cons (pe_callB (call_max2 rfl) (by rfl) T.b_max (by decide +kernel) (pa_cons pe_int (pa_cons (pe_callB (call_min2 rfl) (by rfl) T.b_min (by decide +kernel) (pa_cons pe_int (pa_cons (pe_callB (call_lenK K) (by rfl) T.b_len PySem.boot_len (pa_cons (pv 0) pa_nil)) pa_nil))) pa_nil))) pa_nil)) (pg_name (i := 1) nd rfl (Or.inl rfl))
  (pss_cons (ps_set (i := 2) nd rfl (Or.inl rfl) (pcall O_w_start hr (by decide) (pa_cons (pv 0) (pa_cons (pv 1) pa_nil))))
  (pss_cons (ps_set (i := 3) nd rfl (Or.inr rfl) (pcall O_w_free_pair hr (by decide) (pa_cons (pv 2) pa_nil)))
  (pss_cons (ps_setLc (i := 4) (own := [("_law_letter", 7)]) (tt := tYes) rfl nd rfl rfl (sw_true rfl rfl rfl (by decide +kernel)) (pi_str pe_str) (blkOk_by (N := N) (sc := SC) (by decide +kernel)) (fun _ _ _ _ _ => (pg_name (i := 7) nd rfl (Or.inl rfl))) (fun _ _ _ _ _ => pts_nil) (fun _ _ _ _ _ => (pcall O_serial_run hr (by decide) (pa_cons (pv 3) (pa_cons (pv 7) pa_nil)))))
  (pss_cons (ps_if (pt_cmpR op_ne (pcall O_distance hr (by decide) (pa_cons (pv 3) (pa_cons (pe_ix (ix_listK K) (pv 4) pe_int (fun _ _ => rfl)) (pa_cons (pe_ix (ix_listK K) (pv 4) pe_int (fun _ _ => rfl)) pa_nil)))) (pe_op op_mul (pe_callB (call_lenK K) (by rfl) T.b_len PySem.boot_len (pa_cons (pe_ix (ix_tupK K) (pv 3) pe_int (fun _ _ => rfl)) pa_nil)) (pe_callB (call_lenK K) (by rfl) T.b_len PySem.boot_len (pa_cons (pe_ix (ix_tupK K) (pv 3) pe_int (fun _ _ => rfl)) pa_nil))) (nomark _))
  (pss_one (ps_ret pe_bl))
  pss_nil)
  (pss_cons (ps_if (PW.pt (pw_or (pt_not (pt_val (pcall O_w_row_right hr (by decide) (pa_cons (pv 3) (pa_cons (pe_ix (ix_listK K) (pv 4) pe_int (fun _ _ => rfl)) (pa_cons (pcall O_w_walk hr (by decide) (pa_cons (pv 2) (pa_cons (pv 3) pa_nil))) pa_nil)))) (fun _ => rfl))) (pw_or1 (pt_cmpR op_ne (pcall O_winners hr (by decide) (pa_cons (pv 3) (pa_cons (pe_ix (ix_listK K) (pv 4) pe_int (fun _ _ => rfl)) pa_nil))) pe_str (nomark _)))))
  (pss_one (ps_ret pe_bl))
  pss_nil)
  (pss_cons (ps_set (i := 3) nd rfl (Or.inr rfl) (pcall O_w_pair hr (by decide) (pa_cons (pv 2) (pa_cons pe_int pa_nil))))
  (pss_cons (ps_set (i := 5) nd rfl (Or.inl rfl) (pcall O_w_walk hr (by decide) (pa_cons (pv 2) (pa_cons (pv 3) pa_nil))))
  (pss_cons (ps_set (i := 6) nd rfl (Or.inl rfl) (pcall O_w_mixed hr (by decide) (pa_cons (pv 2) (pa_cons (pv 3) (pa_cons (pv 5) pa_nil)))))
  (pss_cons (ps_if (PW.pt (pw_or (pt_not (pt_val (pcall O_w_row_right hr (by decide) (pa_cons (pv 3) (pa_cons (pv 5) (pa_cons (pv 6) pa_nil)))) (fun _ => rfl))) (pw_or1 (pt_not (pt_val (pcall O_w_row_right hr (by decide) (pa_cons (pv 3) (pa_cons (pv 6) (pa_cons (pv 5) pa_nil)))) (fun _ => rfl))))))
  (pss_one (ps_ret pe_bl))
  pss_nil)
  (pss_cons (ps_if (PW.pt (pw_or (pt_not (pt_val (pcall O_w_texts_right hr (by decide) (pa_cons (pv 2) (pa_cons (pv 3) (pa_cons (pv 5) pa_nil)))) (fun _ => rfl))) (pw_or1 (pt_not (pt_val (pcall O_w_texts_right hr (by decide) (pa_cons (pv 2) (pa_cons (pv 3) (pa_cons (pv 6) pa_nil)))) (fun _ => rfl))))))
  (pss_one (ps_ret pe_bl))
  pss_nil)
  (pss_one (ps_if (pt_not (pt_val (pcall O_w_places_right hr (by decide) (pa_cons (pv 2) (pa_cons (pv 3) (pa_cons (pv 5) pa_nil)))) (fun _ => rfl)))
  (pss_one (ps_ret pe_bl))
  pss_nil)))))))))))))
  (pss_one (ps_ret pe_bl))), ?_⟩
    obtain ⟨x, rfl, hp, hq⟩ := h

    obtain ⟨a, ns⟩ := x
    replace hp : SqL K H a (ns.map V.int) := hp
    replace hq : ∀ v' H', Ex H H' → v' = .bl true → Q v' H' := hq
    refine c_forR (Pm := fun m H' => m ≤ 2 ∧ Ex H H') (fun R' q => c_cons (c_ev (v := .int ((if ns.length = 0 then 1 else if ns.length = 1 then 1 else 2 : Nat) : Int)) (ev_is (ev_max2 ev_c (ev_cb (z := .int (if ((ns.length : Nat) : Int) < 2 then ((ns.length : Nat) : Int) else 2)) (ea_cons ev_c (ea_cons (ev_is (ev_len (p := a) (xs := ns.map V.int) (ev_var rfl) hp) (by rw [List.length_map])) ea_nil)) fun H8 _ Q q => ⟨_, _, rfl, q H8 (Ex.refl _)⟩)) ?_) fun H1 e1 => c_nil (q _ H1 ⟨?_, e1⟩)))
      fun m H1 ⟨hm, e1⟩ => ⟨by omega, fun j σ' H' => (∃ b c d e f g, σ' = [some (.ref a), b, c, d, e, f, g, none]) ∧ Ex H H',
        ⟨⟨_, _, _, _, _, _, rfl⟩, e1⟩, ?_, ?_⟩
    · congr 1
      split <;> split <;> (try split) <;> (try split) <;> omega
    · split
      · omega
      · split <;> omega
    · rintro j σ' H2 hj ⟨⟨b, c, d, e, f, g', rfl⟩, e2⟩
      refine c_asg (c_call (vs := [.ref a, .int (j : Nat)]) (ea_cons (ev_var rfl) (ea_cons (ev_var rfl) ea_nil)) fun H3 e3 => ⟨(a, ns, j), rfl, ⟨ex_l (e2.trans e3) hp, by show j ≤ 10; omega⟩, ?_⟩)
      rintro v4 H4 e4 f4 ⟨g, rfl, s4⟩
      have hg0 : H2 g = none := fresh_back e3 (f4 g rfl)
      replace e4 : Ex H3 H4 := e4
      refine c_asg (c_call (vs := [.ref g]) (ea_cons (ev_var rfl) ea_nil) fun H5 e5 => ⟨((), g, 0), rfl, ⟨s4.ex e5, by show 0 + 10 ≤ 100000; decide, trivial⟩, ?_⟩)
      rintro v6 H6 x6 s6 ⟨A, B, hpa, gA, gB, hc, lA, lB⟩
      replace x6 : ExM (Mg g) H5 H6 := x6
      replace s6 : Src H6 g (0 + 10) := s6
      have x46 : ExM (Mg g) H4 H6 := (ExM.ex e5).trans x6
      have two : ∀ {j c : Nat}, (Str.ofString "ab").cps[j]? = some c → ∃ b, [true, false][j]? = some b ∧ c = lt b := fun {j c} h => by rw [lit_ab] at h; exact rs_at h
      refine r_asg (P := fun v H => ∃ p, v = .ref p ∧ H p = some (.lst [.str (rs (serR A B true)), .str (rs (serR A B false))])) ((r_lcO (n := 2) (Y := YS (Str.ofString "ab")) (fun j v _ => ∃ b, [true, false][j]? = some b ∧ v = .str (rs (serR A B b))) (fun _ => true) (fun _ _ _ _ _ h => h) ?_ (by decide) ?_).imp fun v' H7 _ ⟨p, ys, h1, h2, al⟩ => ⟨p, h1, ?_⟩) fun sv H7 e7 ⟨ps, hsv, hps⟩ => ?_
      · have : EvI (iStr (tC (.str "ab"))) [some (.ref a), some (.int (j : Nat)), some (.ref g), some v6, e, f, g', none] H6 (Str.ofString "ab").cps.size (YS (Str.ofString "ab")) := ei_str ev_c
        exact this
      · rintro i y H8 H9 hi e8 ⟨rfl, ch, hch, rfl⟩
        obtain ⟨x, hx, rfl⟩ := two hch
        refine ⟨Ex.refl _, _, fun Q q => q, rfl, et_yes, fun _ => EvR.gg ((r_call (P := Is (.str (rs (serR A B x)))) (ea_cons (ev_var rfl) (ea_cons (ev_var rfl) ea_nil)) fun H10 e Q q => ⟨(A, B, v6, x), rfl, ⟨keeps_pa _ _ _ (e8.trans e) hpa, gA.len, gB.len⟩, fun v' H' e' hv => q v' H' e' hv⟩).imp fun v H _ hv => ⟨x, hx, hv⟩) fun _ _ _ _ _ _ h => h⟩
      · have e : giv 2 (fun _ => true) = [0, 1] := by decide
        rw [e] at al
        obtain ⟨y0, y1, rfl⟩ : ∃ y0 y1, ys = [y0, y1] := by
          match ys, al.len with
          | [y0, y1], _ => exact ⟨y0, y1, rfl⟩
        obtain ⟨b0, h0, h0'⟩ := al.at_ 0 0 y0 rfl rfl
        obtain ⟨b1, h1', h1''⟩ := al.at_ 1 1 y1 rfl rfl
        cases h0
        cases h1'
        rw [h2, h0', h1'']
      subst hsv
      have s7 := s6.ex e7
      have x47 := x46.trans (ExM.ex e7)
      have hpa7 := keeps_pa _ _ _ e7 hpa
      have i0 : ∀ {σ2 : L2.St} {H' : Hp}, H' ps = some (.lst [.str (rs (serR A B true)), .str (rs (serR A B false))]) → σ2[4]? = some (some (.ref ps)) → Ev (tOp (rIxL K) (tVar 4) (tC (.int 0))) σ2 H' (.str (rs (serR A B true))) := fun h1 h2 => src_ix (i := 0) h1 (ev_var h2) ev_c rfl
      have i1 : ∀ {σ2 : L2.St} {H' : Hp}, H' ps = some (.lst [.str (rs (serR A B true)), .str (rs (serR A B false))]) → σ2[4]? = some (some (.ref ps)) → Ev (tOp (rIxL K) (tVar 4) (tC (.int 1))) σ2 H' (.str (rs (serR A B false))) := fun h1 h2 => src_ix (i := 1) h1 (ev_var h2) ev_c rfl
      have r0 : isRunB A B (serR A B true) = true := isRunB_iff.mpr (serial_ab gA.wf gB.wf)
      have r1 : isRunB A B (serR A B false) = true := isRunB_iff.mpr (serial_ba gA.wf gB.wf)
      have l0 : (serR A B true).length ≤ 1000 := by rw [run_len r0]; omega
      have l1 : (serR A B false).length ≤ 1000 := by rw [run_len r1]; omega
      have same : ∀ {x y : Rn}, SameW A B x y := fun c h => by rw [hc] at h; cases h
      refine q_when (b := false) (et_is (et_test (ev_op (EvR.vv (z := .int (unl (serR A B false) (serR A B true) : Nat)) (r_call (ea_cons (ev_var rfl) (ea_cons (i0 hps rfl) (ea_cons (i1 hps rfl) ea_nil))) fun H8 e Q q => ⟨(A, B, v6, serR A B true, serR A B false), rfl, ⟨keeps_pa _ _ _ e hpa7, gA, gB, ⟨l0, r0⟩, ⟨l1, r1⟩, same⟩, fun v' H' e' hv => q v' H' e' hv⟩)) (ev_op (v_lenT (fun _ => keeps_rc) (r_pa0 (r_var keeps_pa rfl hpa7) ev_c)) (v_lenT (fun _ => keeps_rc) (r_pa1 (r_var keeps_pa rfl hpa7) ev_c)) (rv_mul (.inl ⟨by omega, by omega⟩))) (rv_ne rfl))) ?_) (fun h => by cases h) fun _ H8 e8 => ?_
      · have eu : unl (serR A B false) (serR A B true) = A.length * B.length := unl_serial A.length B.length
        rw [eu]
        simp
      have hps8 := e8 _ _ hps
      have s8 := s7.ex e8
      have hpa8 := keeps_pa _ _ _ e8 hpa7
      have npg : ps ≠ g := fun z => by
        obtain ⟨x, y, w, h1, _⟩ := s7
        rw [z, h1] at hps
        cases hps
      refine c_whenT (c_orF (c_not (c_B (c_callA (c_cons (c_ev (ev_var rfl) fun H9 e9 => c_cons (c_ev (i0 (e9 _ _ hps8) rfl) fun H10 e10 => c_cons (c_call (vs := [.ref g, v6]) (ea_cons (ev_var rfl) (ea_cons (ev_var rfl) ea_nil)) fun H11 e11 => ⟨((A, B, v6), g, 10), rfl, ⟨s8.ex ((e9.trans e10).trans e11), by show 10 + 100 ≤ 100000; decide, keeps_pa _ _ _ ((e9.trans e10).trans e11) hpa8, gA, gB, lA, lB⟩, ?_⟩))))))))
      rintro v12 H12 x12 s12 ⟨w, rfl, hw⟩
      replace x12 : ExM (Mg g) H11 H12 := x12
      replace s12 : Src H12 g (10 + 100) := s12
      have x8_12 : ExM (Mg g) H8 H12 := (ExM.ex ((e9.trans e10).trans e11)).trans x12
      have hpa12 : PaR K A B v6 H12 := ro_pa _ _ _ _ s8.mut x8_12 hpa8
      have hps12 := exm_at x8_12 npg hps8
      replace hw : isRunB A B w = true := hw
      have lw : w.length ≤ 1000 := by rw [run_len hw]; omega
      refine c_nil ⟨(A, B, v6, serR A B true, w), rfl, ⟨hpa12, gA, gB, ⟨l0, r0⟩, ⟨lw, hw⟩, same⟩, fun v' H13 e13 hv => ⟨true, hv, iteF ?_⟩⟩
      have hps13 := e13 _ _ hps12
      refine c_T (b := false) (et_is (et_test (ev_op (EvR.vv (z := .str (rs (winS (serR A B false) (srt A B)))) (r_call (ea_cons (ev_var rfl) (ea_cons (i1 hps13 rfl) ea_nil)) fun H14 e Q q => ⟨(A, B, v6, serR A B false), rfl, ⟨keeps_pa _ _ _ (e13.trans e) hpa12, gA, gB, l1, r1⟩, fun v' H' e' hv => q v' H' e' hv⟩)) ev_c (rv_ne rfl))) ?_) fun H14 e14 => iteF ?_
      · rw [srt_nil hc]
        show (!decide (V.str (rs []) = V.str (Str.ofString ""))) = false
        rw [← lit_0]
        simp
      have s14 := s12.ex (e13.trans e14)
      have x4_14 : ExM (Mg g) H4 H14 := ((x47.trans (ExM.ex e8)).trans x8_12).trans (ExM.ex (e13.trans e14))
      refine c_asg (c_call (vs := [.ref g, .int (40 : Nat)]) (ea_cons (ev_var rfl) (ea_cons ev_c ea_nil)) fun H15 e15 => ⟨(40, g, 110), rfl, ⟨s14.ex e15, by show 110 + 700 ≤ 100000; decide, by show 40 ≤ 40; decide⟩, ?_⟩)
      rintro v16 H16 x16 s16 ⟨C, F', hce, gC, gF, lC, lF⟩
      replace x16 : ExM (Mg g) H15 H16 := x16
      replace s16 : Src H16 g 810 := s16
      have x4_16 := x4_14.trans ((ExM.ex e15).trans x16)
      refine c_asg (c_call (vs := [.ref g, v16]) (ea_cons (ev_var rfl) (ea_cons (ev_var rfl) ea_nil)) fun H17 e17 => ⟨((C, F', v16), g, 810), rfl, ⟨s16.ex e17, by show 810 + 100 ≤ 100000; decide, keeps_pa _ _ _ e17 hce, gC, gF, lC, lF⟩, ?_⟩)
      rintro v18 H18 x18 s18 ⟨r, rfl, hr1⟩
      replace x18 : ExM (Mg g) H17 H18 := x18
      replace s18 : Src H18 g 910 := s18
      replace hr1 : isRunB C F' r = true := hr1
      have lr : r.length ≤ 1000 := by rw [run_len hr1]; omega
      have hp18 : PaR K C F' v16 H18 := ro_pa _ _ _ _ (s16.ex e17).mut x18 (keeps_pa _ _ _ e17 hce)
      have x4_18 := x4_16.trans ((ExM.ex e17).trans x18)
      refine c_asg (c_call (vs := [.ref g, v16, .str (rs r)]) (ea_cons (ev_var rfl) (ea_cons (ev_var rfl) (ea_cons (ev_var rfl) ea_nil))) fun H19 e19 => ⟨((C, F', v16, r), g, 910), rfl, ⟨s18.ex e19, by show 910 + 60 ≤ 100000; decide, ⟨keeps_pa _ _ _ e19 hp18, gC, gF, lr, hr1⟩, lC, lF⟩, ?_⟩)
      rintro v20 H20 x20 s20 ⟨o, rfl, ho, hw2⟩
      replace x20 : ExM (Mg g) H19 H20 := x20
      replace s20 : Src H20 g 970 := s20
      replace ho : isRunB C F' o = true := ho
      replace hw2 : SameW C F' r o := hw2
      have lo : o.length ≤ 1000 := by rw [run_len ho]; omega
      have hp20 : PaR K C F' v16 H20 := ro_pa _ _ _ _ (s18.ex e19).mut x20 (keeps_pa _ _ _ e19 hp18)
      have x4_20 := x4_18.trans ((ExM.ex e19).trans x20)
      have row : ∀ {σ2 : L2.St} {x y : Rn} {tx ty : TE}, σ2[3]? = some (some v16) → Ev tx σ2 H20 (.str (rs x)) → Ev ty σ2 H20 (.str (rs y)) → x.length ≤ 1000 → y.length ≤ 1000 → isRunB C F' x = true → isRunB C F' y = true → SameW C F' x y → EvT (tNot (tB (tCall (sp_w_row_right K) [] E0 (tCons (tVar 3) (tCons tx (tCons ty tNil)))))) σ2 H20 false := fun {σ2 x y tx ty} h3 hx hy lx ly rx ry sw =>
        et_is (et_not (et_B (EvR.vv (z := .bl true) (r_call (ea_cons (ev_var h3) (ea_cons hx (ea_cons hy ea_nil))) fun H9 e Q q => ⟨(C, F', v16, x, y), rfl, ⟨keeps_pa _ _ _ e hp20, gC, gF, ⟨lx, rx⟩, ⟨ly, ry⟩, sw⟩, fun v' H' e' hv => q v' H' e' hv⟩)))) rfl
      refine q_when (b := false) (et_is (et_or (a := false) (b := false) (row rfl (ev_var rfl) (ev_var rfl) lr lo hr1 ho hw2) fun _ => row rfl (ev_var rfl) (ev_var rfl) lo lr ho hr1 fun c h => (hw2 c h).symm) rfl) (fun h => by cases h) fun _ H21 e21 => ?_
      have s21 := s20.ex e21
      have hp21 := keeps_pa _ _ _ e21 hp20
      refine c_whenT (c_orF (c_not (c_B (c_call (vs := [.ref g, v16, .str (rs r)]) (ea_cons (ev_var rfl) (ea_cons (ev_var rfl) (ea_cons (ev_var rfl) ea_nil))) fun H22 e22 => ⟨((C, F', v16, r), g, 970), rfl, ⟨s21.ex e22, by show 970 + 10 ≤ 100000; decide, ⟨keeps_pa _ _ _ e22 hp21, gC, gF, lr, hr1⟩⟩, fun v23 H23 x23 s23 hv23 => ⟨true, hv23, iteF ?_⟩⟩))))
      replace x23 : ExM (Mg g) H22 H23 := x23
      replace s23 : Src H23 g 980 := s23
      have hp23 : PaR K C F' v16 H23 := ro_pa _ _ _ _ (s21.ex e22).mut x23 (keeps_pa _ _ _ e22 hp21)
      refine c_not (c_B (c_call (vs := [.ref g, v16, .str (rs o)]) (ea_cons (ev_var rfl) (ea_cons (ev_var rfl) (ea_cons (ev_var rfl) ea_nil))) fun H24 e24 => ⟨((C, F', v16, o), g, 980), rfl, ⟨s23.ex e24, by show 980 + 10 ≤ 100000; decide, ⟨keeps_pa _ _ _ e24 hp23, gC, gF, lo, ho⟩⟩, fun v25 H25 x25 s25 hv25 => ⟨true, hv25, iteF ?_⟩⟩))
      replace x25 : ExM (Mg g) H24 H25 := x25
      replace s25 : Src H25 g 990 := s25
      have hp25 : PaR K C F' v16 H25 := ro_pa _ _ _ _ (s23.ex e24).mut x25 (keeps_pa _ _ _ e24 hp23)
      refine c_whenT1 (c_not (c_B (c_call (vs := [.ref g, v16, .str (rs r)]) (ea_cons (ev_var rfl) (ea_cons (ev_var rfl) (ea_cons (ev_var rfl) ea_nil))) fun H26 e26 => ⟨((C, F', v16, r), g, 990), rfl, ⟨s25.ex e26, by show 990 + 20 ≤ 100000; decide, ⟨keeps_pa _ _ _ e26 hp25, gC, gF, lr, hr1⟩⟩, fun v27 H27 x27 s27 hv27 => ⟨true, hv27, iteF ?_⟩⟩)))
      replace x27 : ExM (Mg g) H26 H27 := x27
      have xall : ExM (Mg g) H4 H27 := ((((((x4_20.trans (ExM.ex e21)).trans (ExM.ex e22)).trans x23).trans (ExM.ex e24)).trans x25).trans (ExM.ex e26)).trans x27
      exact ⟨⟨_, _, _, _, _, _, rfl⟩, e2.trans (ex_of (e3.trans e4) (fun a h => by have h : a = g := h; rw [h]; exact hg0) xall)⟩
    · rintro σ' H2 ⟨⟨b, c, d, e, f, g', rfl⟩, e2⟩
      exact r_ret (Ev.r (ev_c (v := .bl true))) fun v' H8 e8 hv => hq v' H8 (e2.trans e8) hv

end HdX
end

section
set_option Elab.async false
set_option linter.all false
set_option maxRecDepth 100000
set_option maxHeartbeats 4000000
namespace HdX
open PySem PySem.Spec PyProof.Rows L2 Evl
/-! ### the classes' facts, as one Bool of the written part -/
def clsB (K : PySem.W.Frag) (C : Addr) : Bool := match K.lookup C with
  | some ⟨.type c, _, .cls cd, sl⟩ => decide (c = "type") && (cd.hasDict && (!cd.hasDel && (match cd.mro, sl.toList with
    | .ref C' :: bm, [_, _, _, _, some (.builtin n), _] => decide (C' = C) && (decide (n = "ValueError.__new__") && PySem.HandSPX.refsVE bm)
    | _, _ => false)))
  | _ => false
theorem andB {a b : Bool} (h : (a && b) = true) : a = true ∧ b = true := Bool.and_eq_true_iff.mp h
theorem clsB_ok {K : PySem.W.Frag} {C : Addr} (h : clsB K C = true) : ∃ nm q N bs bm sn sub ab col dd k0 k1 k2 k3 k5, K.lookup C = some (excClassObj nm q C N bs bm true sn sub ab col dd k0 k1 k2 k3 k5 "ValueError.__new__") ∧ PySem.HandSPX.refsVE bm = true := by
  unfold clsB at h
  split at h
  · rename_i c dd cd sl ho
    obtain ⟨h1, h⟩ := andB h
    obtain ⟨h2, h⟩ := andB h
    obtain ⟨h3, h⟩ := andB h
    split at h
    · rename_i C' bm k0 k1 k2 k3 n k5 hm hs
      obtain ⟨h4, h⟩ := andB h
      obtain ⟨h5, h6⟩ := andB h
      have e1 := of_decide_eq_true h1
      have e4 := of_decide_eq_true h4
      have e5 := of_decide_eq_true h5
      subst e1 e4 e5
      obtain ⟨nm, bs, mro, ns, qn, hd, sn, sub, ab, col, del⟩ := cd
      have hm : mro = _ := hm
      have h2 : hd = true := h2
      have h3 : (!del) = true := h3
      have h3' : del = false := by cases del <;> simp_all
      have hs' : sl = #[k0, k1, k2, k3, some (.builtin "ValueError.__new__"), k5] := by
        rw [← Array.toArray_toList (xs := sl), hs]
      subst hm h2 h3' hs'
      exact ⟨nm, qn, ns, bs, bm, sn, sub, ab, col, dd, k0, k1, k2, k3, k5, ho, h6⟩
    · cases h
  · cases h
def mcOf : Value := .type "type"
def exB (K : PySem.W.Frag) : Bool :=
  clsB K (He.ga K "CannotExchange") && (decide (PySem.W.findIn K (.ref (He.ga K "CannotExchange")) "__setattr__" = some (some (.builtin "object.__setattr__"))) && (decide (PySem.W.subIn K (.ref (He.ga K "CannotExchange")) (.type "BaseException") = some true) && (decide (PySem.W.typeIn K (.ref (He.ga K "CannotExchange")) = some (.type "type")) && (PySem.W.keepIn K (.ref (He.ga K "CannotExchange")) &&
  (xfB K (He.ga K "CannotExchange") && (decide (PySem.W.findIn K (.ref (He.ga K "CannotExchange")) "__init__" = some (some (.ref (He.ma K (He.ga K "CannotExchange") "__init__")))) && (decide (PySem.W.typeIn K (.ref (He.ma K (He.ga K "CannotExchange") "__init__")) = some (.type "function")) && (decide (PySem.W.findIn K (.ref (He.ga K "CannotExchange")) "place" = some none) &&
  (PySem.W.readsIn K (He.ga K "ThreadError") mcOf && (decide (PySem.W.specialIn K (.ref (He.ga K "ThreadError")) "__getattribute__" = some (some (.builtin "type.__getattribute__"))) && ((match PySem.W.findCls K (.ref (He.ga K "ThreadError")) mcOf "__init__" with | some (.val (.builtin z)) => decide (z = "ValueError.__init__") | _ => false) &&
  decide (PySem.W.exmOne K (.ref (He.ga K "CannotExchange")) (.ref (He.ga K "ThreadError")) = some true))))))))))))
theorem exB_ok {K : PySem.W.Frag} (h : exB K = true) : Xt K := by
  obtain ⟨h1, h⟩ := andB h
  obtain ⟨h2, h⟩ := andB h
  obtain ⟨h3, h⟩ := andB h
  obtain ⟨h4, h⟩ := andB h
  obtain ⟨h5, h⟩ := andB h
  obtain ⟨h6, h⟩ := andB h
  obtain ⟨h7, h⟩ := andB h
  obtain ⟨h8, h⟩ := andB h
  obtain ⟨h9, h⟩ := andB h
  obtain ⟨h10, h⟩ := andB h
  obtain ⟨h11, h⟩ := andB h
  obtain ⟨h12, h13⟩ := andB h
  refine ⟨⟨clsB_ok h1, of_decide_eq_true h2, of_decide_eq_true h3, of_decide_eq_true h4, h5⟩, xfB_ok h6, of_decide_eq_true h7, of_decide_eq_true h8, of_decide_eq_true h9, ⟨mcOf, ⟨h10, of_decide_eq_true h11⟩, ?_⟩, of_decide_eq_true h13⟩
  split at h12
  · rename_i z hz
    rw [hz, of_decide_eq_true h12]
  · cases h12
/-! ### the Hook: facts, defs, and that Bool -/
def asY (g : Addr → Option Obj) : Nat → List Addr
  | 0 => [mainGlobals, cStatics]
  | n + 1 => He.growD g (asY g n)
abbrev AlY : Type := He.AlD × Bool
def obsY (n : Nat) (g : Addr → Option Obj) : AlY := (He.obsD fa fn (He.frG g (asY g n)), exB (He.frG g (asY g n)))
def hookY (n : Nat) : PySem.W.Hook where
  α := AlY
  obs := fun s => obsY n s.heap.get?
  val := fun _ => (He.valD fn, true)
  says := fun _ h => ∃ K : PySem.W.Frag, K.In h ∧ He.SaysD fa fn K ∧ exB K = true
  of := fun _ _ e => ⟨_, He.frG_in, congrArg (fun z : AlY => z.1) e, congrArg (fun z : AlY => z.2) e⟩
  keeps := fun _ _ _ ⟨K, hK, c⟩ k => ⟨K, PySem.W.Frag.In.keeps hK k, c⟩
theorem obsY_eq {n : Nat} {g : Addr → Option Obj} {s : Shared} (h : ∀ a, g a = s.heap.get? a) : obsY n g = (hookY n).obs s := by
  have e : g = s.heap.get? := funext h
  rw [e] <;> rfl
end HdX
end

section
set_option Elab.async false
set_option linter.all false
set_option maxRecDepth 100000
set_option maxHeartbeats 4000000
namespace HdX
open PySem PySem.Spec PyProof.Rows L2 Evl
/-! ### the top, run -/
abbrev R : PySem.W.OpenRow := PySem.W.OpenLaw.row PySem.Challenge.rw_twothreads_k24_whole_long_runs
abbrev hk : PySem.W.Hook := hookY 4
def ob (s : PySem.W.SharedT) : AlY := obsY 4 (HandSHeadRun.getT s)
theorem ob_eq (s : PySem.W.SharedT) : ob s = hk.obs s.abs := obsY_eq (HandSHeadRun.getT_eq s)
theorem run (w : World) : HandSHeadRun.RunEq R (PySem.W.view R.prog [62]) hk ob 6000 ls w := by
  intro os
  kernel_rfl
end HdX
end

section
set_option Elab.async false
set_option linter.all false
set_option maxRecDepth 100000
set_option maxHeartbeats 4000000
namespace HdX
open PySem PySem.Spec PyProof.Rows L2 Evl
/-! ### all promises, joined -/
theorem all_ok {P : Program} {w : World} {K : PySem.W.Frag} {mg : Str → Option Value} {base : Heap} (T : Tx K mg) (Y : Xt K) {fd : FuncData} (F : FunD K "law" "law" (defArgs s_law) (defBody s_law) (defScope s_law) [] [] (He.ga K "law") fd) : FnOk P w K mg base CX0 11 (He.ga K "law") fd ["_law_script"] (sp_law K) := by
  have O_is_integer := ok_is_integer (P := P) (w := w) (base := base) T
  have O_step_pair := ok_step_pair (P := P) (w := w) (base := base) T
  have O_swapped := ok_swapped (P := P) (w := w) (base := base) T
  have O_w_turned := ok_w_turned (P := P) (w := w) (base := base) T
  have O_places_of := ok_places_of (P := P) (w := w) (base := base) T
  have O_serial_run := ok_serial_run (P := P) (w := w) (base := base) T
  have O_accesses := ok_accesses (P := P) (w := w) (base := base) T
  have O_w_parts := ok_w_parts (P := P) (w := w) (base := base) T
  have O_sections := ok_sections (P := P) (w := w) (base := base) T
  have O_lock_contests := ok_lock_contests (P := P) (w := w) (base := base) T O_sections
  have O_data_contests := ok_data_contests (P := P) (w := w) (base := base) T O_accesses
  have O_contests := ok_contests (P := P) (w := w) (base := base) T O_lock_contests O_data_contests
  have O_w_contests := ok_w_contests (P := P) (w := w) (base := base) T O_w_parts
  have O_holdings := ok_holdings (P := P) (w := w) (base := base) T
  have O_w_kept := ok_w_kept (P := P) (w := w) (base := base) T
  have O_w_is_open := ok_w_is_open (P := P) (w := w) (base := base) T O_w_kept
  have O_Plane___init__ := ok_Plane___init__ (P := P) (w := w) (base := base) T O_holdings
  have O_Plane_is_open_at := ok_Plane_is_open_at (P := P) (w := w) (base := base) T
  have O_w_is_run := ok_w_is_run (P := P) (w := w) (base := base) T O_w_is_open
  have O_is_run := ok_is_run (P := P) (w := w) (base := base) T  O_Plane___init__ O_Plane_is_open_at
  have O_check_run := ok_check_run (P := P) (w := w) (base := base) T O_is_run
  have O_winners_of := ok_winners_of (P := P) (w := w) (base := base) T O_places_of
  have O_winners := ok_winners (P := P) (w := w) (base := base) T O_check_run O_winners_of O_contests
  have O_alike := ok_alike (P := P) (w := w) (base := base) T O_winners
  have O_concerned := ok_concerned (P := P) (w := w) (base := base) T O_contests
  have O_w_concerned := ok_w_concerned (P := P) (w := w) (base := base) T O_w_contests
  have O_w_winners := ok_w_winners (P := P) (w := w) (base := base) T O_w_contests
  have O_check_alike := ok_check_alike (P := P) (w := w) (base := base) T O_winners
  have O_exchanges := ok_exchanges (P := P) (w := w) (base := base) T O_check_alike O_places_of O_step_pair O_swapped
  have O_distance := ok_distance (P := P) (w := w) (base := base) T O_exchanges
  have O_w_unlike := ok_w_unlike (P := P) (w := w) (base := base) T
  have O_w_row_right := ok_w_row_right (P := P) (w := w) (base := base) T O_exchanges O_w_concerned O_distance O_w_unlike O_w_turned O_alike
  have O_CannotExchange___init__ := ok_CannotExchange___init__ (P := P) (w := w) (base := base) T  Y
  have O_exchanged := ok_exchanged (P := P) (w := w) (base := base) T O_check_run O_is_integer O_step_pair O_concerned O_swapped Y O_CannotExchange___init__
  have O_w_told := ok_w_told (P := P) (w := w) (base := base) T  Y O_exchanged
  have O_w_start := ok_w_start (P := P) (w := w) (base := base) T
  have O_w_draw := ok_w_draw (P := P) (w := w) (base := base) T
  have O_w_choice := ok_w_choice (P := P) (w := w) (base := base) T O_w_draw
  have O_w_names := ok_w_names (P := P) (w := w) (base := base) T O_w_draw O_w_choice
  have O_w_thread := ok_w_thread (P := P) (w := w) (base := base) T O_w_draw O_w_choice
  have O_w_pair := ok_w_pair (P := P) (w := w) (base := base) T O_w_names O_w_draw O_w_thread O_w_contests
  have O_w_free_pair := ok_w_free_pair (P := P) (w := w) (base := base) T O_w_draw O_w_names
  have O_w_walk := ok_w_walk (P := P) (w := w) (base := base) T O_w_is_open O_w_choice
  have O_w_mixed := ok_w_mixed (P := P) (w := w) (base := base) T O_w_concerned O_w_draw O_w_turned
  have O_w_places_right := ok_w_places_right (P := P) (w := w) (base := base) T O_w_concerned O_w_draw O_w_turned O_w_told
  have O_w_texts_right := ok_w_texts_right (P := P) (w := w) (base := base) T O_w_draw O_w_turned O_w_is_run O_winners O_w_winners O_is_run
  exact okF_law (P := P) (w := w) (base := base) T O_w_start O_w_free_pair O_serial_run O_distance O_winners O_w_row_right O_w_walk O_w_pair O_w_mixed O_w_texts_right O_w_places_right F
end HdX
end

section
set_option Elab.async false
set_option linter.all false
set_option maxRecDepth 100000
set_option maxHeartbeats 4000000
namespace HdX
open PySem PySem.Spec PyProof.Rows L2 Evl
theorem facts {P : Program} {w : World} {K : PySem.W.Frag} {h : Heap} {mg : Str → Option Value} {f : Addr} (X : K.In h) (G : h.Ns mainGlobals mg) (hfa : mg ("law" : Str) = some (.ref f)) (c : He.SaysD fa fn K) (y : exB K = true) :
    ∃ fd : FuncData, (∀ (s : Shared) (v : Value), BindsTo s fd ⟨[v], []⟩ [("_law_script", v)]) ∧ ∀ base : Heap, K.In base → base.Ns mainGlobals mg → FnOk P w K mg base CX0 11 f fd ["_law_script"] (sp_law K) := by
  have T : Tx K mg := ⟨⟨h, X, G⟩, c⟩
  have e := hfa.symm.trans T.g_law
  cases e
  obtain ⟨fd, F⟩ := T.f_law
  have b := FunD.bindsA (ps := ["_law_script"]) F fun _ _ _ _ _ _ us hl => match us, hl with | [_], _ => rfl
  exact ⟨fd, fun s v => b s [v] rfl, fun base _ _ => all_ok T (exB_ok y) F⟩
end HdX
open PySem PySem.W PySem.Calls PyProof.Rows
theorem PySem.Challenge.cw_twothreads_k24_whole_long_runs_holds : PySem.Challenge.rw_twothreads_k24_whole_long_runs.Holds := by
  w_on; o_law
  refine HandSHeadRun.head_any (r := OpenLaw.row PySem.Challenge.rw_twothreads_k24_whole_long_runs) (q := view (OpenLaw.row PySem.Challenge.rw_twothreads_k24_whole_long_runs).prog [62]) (H := HdX.hk) (ob := HdX.ob) (M := 6000) (loose := HdX.ls) (d := HandSHeadRun.topDef (OpenLaw.row PySem.Challenge.rw_twothreads_k24_whole_long_runs).prog 62) (kwd := []) HdX.ob_eq
    (by kernel_rfl) (fun s => by kernel_rfl) HdX.run (by kernel_rfl) (by kernel_rfl) (by kernel_rfl) (by rfl) (by first | assumption | decide +kernel) (by decide +kernel) ⟨rfl, rfl, rfl, rfl, rfl, by decide +kernel⟩ ?hw ?hc
  case hw => w_witness2
  case hc =>
    refine L2.walk_ofE (l := PySem.Challenge.rw_twothreads_k24_whole_long_runs) (n := 63) (k := 11) (x := "_law_script") (CX := L2.CX0) rfl (by decide) (by kernel_rfl) ⟨rfl, by decide, by decide⟩ ?F (fun _ _ _ _ z => z)
    intro w mg fa h Y G hmg0
    obtain ⟨K, KX, c, y⟩ := Y
    have hmg : mg ("law" : PySem.Str) = some (.ref fa) := by
      have e : (HandSHeadRun.topDef (OpenLaw.row PySem.Challenge.rw_twothreads_k24_whole_long_runs).prog 62).name = ("law" : PySem.Str) := by kernel_rfl
      rw [← e]
      exact hmg0
    obtain ⟨fd, hb, hF⟩ := HdX.facts (P := (PySem.Challenge.rw_twothreads_k24_whole_long_runs).prog) (w := w) KX G hmg c y
    exact ⟨K, fd, HdX.sp_law K, KX, hb, fun H a ns hl _ hS => ⟨(a, ns), rfl, hS, fun v H' e hv => hv⟩, hF⟩
end
